import PyProof.Rows.All
import HandS.ForMost
import HandS.ForExc
import HandS.Codes
import HandS.Lambda
import HandS.TupAny
import HandS.TupMul
import HandS.Deep
import HandS.IsInst
import HandS.SortRule
import PyProof.Rows.SortStr
import HandS.StrMore
import PyProof.Rows.StrCut
import HandS.Replace
import HandS.RaiseMore
import HandS.Flow
import HandS.Star
import HandS.More
import HandS.Exc
import HandS.ExcCtx
import HandS.Defaults
import HandS.Iter
import HandS.Comp
import HandS.TryOnly
import HandS.Style
import HandS.Property
import HandS.ClsMeth
import HandS.HeadNt
import HandS.FStr
import OpenK.KOps
import KE.KExcSuper
import HandS.ExcInit
import HandS.ExcSuper
import HandS.ExcInitHot
import HandS.TryMany
import KE.KDflt
import HandS.ExcField
import HandS.HotCalls
import HandS.Ends
import HandS.EndTab
import HandS.HeadHook1
import HandS.HeadHook2
import KE.KNestM
import PyProof.InstStoreFacts
import PyProof.ExcBaseAll.ValueError
import PyProof.ExcBaseAll.LookupError
import PyProof.ExcBaseAll.IndexError
import KE.KExcInit
import HandS.Head0
import HandS.Head1
import HandS.Head2
import Open.Row
import PySem.Challenge.RW_rivalkeys_k05_works_changed
set_option Elab.async false
set_option linter.all false
set_option maxRecDepth 100000
/-! Rk.A: plain data, a small language, its evaluator. -/
namespace Rk
open PySem
/-- plain data -/
inductive D where
  | non | bl (b : Bool) | int (i : Int) | str (s : List Nat)
  | tup (l : List D) | lst (l : List D) | dct (l : List (D × D)) | set (l : List D)
  | ref (n : Nat) | ins (c : Nat) (fs : List (Nat × D)) | exc (c : Nat) (fs : List (Nat × D)) | scr (l : List Int)
  deriving Inhabited
inductive Cell where
  | no | lst (l : List D) | dct (l : List (D × D)) | ins (c : Nat) (fs : List (Nat × D))
  deriving Inhabited
structure AH where
  nx : Nat
  cell : Nat → Cell
def AH.put (h : AH) (n : Nat) (c : Cell) : AH := ⟨h.nx, fun k => if k = n then c else h.cell k⟩
def AH.new (h : AH) (c : Cell) : AH := ⟨h.nx + 1, fun k => if k = h.nx then c else h.cell k⟩
/-- a slot: empty, a value, the exception that is handled, a list of lambdas -/
inductive Sl where
  | no | v (d : D) | exc (c : Nat) (fs : List (Nat × D)) | lams (ks : List Nat) | me
  deriving Inhabited
abbrev Env := List Sl
def putN (i : Nat) (d : D) : List (Nat × D) → List (Nat × D)
  | [] => [(i, d)]
  | (j, e) :: r => if j = i then (j, d) :: r else (j, e) :: putN i d r
def lkN (i : Nat) : List (Nat × D) → Option D
  | [] => none
  | (j, e) :: r => if j = i then some e else lkN i r
inductive Res (α : Type) where
  | ok (a : α) (h : AH) | exc (x : D) (h : AH) | stuck
def Res.bind {α β : Type} (r : Res α) (f : α → AH → Res β) : Res β := match r with
  | .ok a h => f a h
  | .exc x h => .exc x h
  | .stuck => .stuck
@[simp] theorem bind_ok {α β : Type} (a : α) (h : AH) (f : α → AH → Res β) : (Res.ok a h).bind f = f a h := rfl
@[simp] theorem bind_exc {α β : Type} (x : D) (h : AH) (f : α → AH → Res β) : (Res.exc x h : Res α).bind f = .exc x h := rfl
@[simp] theorem bind_stuck {α β : Type} (f : α → AH → Res β) : (Res.stuck : Res α).bind f = .stuck := rfl

inductive Bi where
  | len | all | any | tuple | list | int | str | abs | sorted
  deriving DecidableEq
inductive Mt where
  | join | split | index | rstrip
  deriving DecidableEq
/-- methods of texts and of lists in the heap -/
inductive Mm where
  | append | insert | zfill
  deriving DecidableEq
/-- kinds asked by isinstance -/
inductive IK where
  | int | str | bool | tuple | list | seq | cls (c : Nat)
  deriving DecidableEq
/-- what special methods are asked by -/
inductive Du where
  | len | repr | eq | ne | bool | has | call
  deriving DecidableEq
mutual
inductive E where
  | var (i : Nat) | cst (d : D) | glb (g : Nat)
  | bin (o : Operator) (a b : E) | neg (a : E) | not (a : E) | and (es : Es) | or (es : Es) | ife (c a b : E)
  | cmp (o : CmpOp) (a b : E) | cmp2 (o1 o2 : CmpOp) (a b c : E) | isn (a : E) | isnn (a : E)
  | tup (es : Es) | lst (es : Es) | hls (es : Es) | tupf (es : Es) (fl : List Bool) | lstf (es : Es) (fl : List Bool)
  | idx (a i : E) | slc (a : E) (lo hi : Op)
  | cal (f : Nat) (args kws : Es) (sel : List Nat)
  | bi (b : Bi) (a : E) | isi (a : E) (k : IK) | mt (m : Mt) (o a : E) | mm (m : Mm) (o : E) (args : Es) | same (i j : Nat)
  | cmpr (elt : E) (tg : List Nat) (it : It) (ifs : Es)
  | xfld (i f : Nat) | xcal (f i : Nat) | why (k : Nat) | whysl (ks : List Nat) | whysv (i : Nat)
  | cav (f k : Nat) (args : Es) (fl : List Bool) | fld (a : E) (f : Nat) | con (k f : Nat)
  | mk (k : Nat) (args kws : Es) (sel : List Nat) | mkv (k : Nat) (args : Es) (fl : List Bool)
  | mth (o : E) (m : Nat) (args kws : Es) (sel : List Nat) | stt (k m : Nat) (args kws : Es) (sel : List Nat)
  | isc (a : E) (k : Nat) | dun (d : Du) (o : E) (args : Es) | fst (es : Es) | cao (o : E) (args kws : Es) (sel : List Nat)
  | hlst (a : E) | frz (a : E) | clr (o : E)
inductive Es where
  | nil | cons (e : E) (r : Es)
inductive Op where
  | no | so (e : E)
inductive It where
  | seq (e : E) | rng (a : E) | rng2 (a b : E) | enum (e : E) | zip (a b : E)
end
/-- an except suite -/
inductive Hd where
  | ret (e : E) | rsn (c : Nat) (args : Es) | asg (j : Nat) (e : E)
mutual
inductive S where
  | expr (e : E) | asg (i : Nat) (e : E) | asgt (is : List Nat) (e : E) | aug (i : Nat) (o : Operator) (e : E)
  | ret (e : E) | retn | ifs (c : E) (a b : Ss) | for (tg : List Nat) (it : It) (b : Ss) | whl (c : E) (b : Ss)
  | brk | cnt | pass | never | seti (o i e : E)
  | rse (c : Nat) (args : Es) | try1 (b : Ss) (cs : List Nat) (i : Option Nat) (hd : Hd) | lasg (i : Nat) (ks : List Nat) | ladd (i : Nat) (ks : List Nat)
inductive Ss where
  | nil | cons (s : S) (r : Ss)
end
structure FnD where
  np : Nat
  nb : Nat
  body : Ss
/-- a part of an __init__: any statement, a store at self -/
inductive BI where
  | reg (s : S) | sto (f : Nat) (e : E)
/-- an __init__: np parameters behind self, nb slots, self among them -/
structure CtD where
  np : Nat
  nb : Nat
  items : List BI
/-- an attribute of a class's instances: the instance's own, a constant of the class, a property -/
inductive At where
  | no | fld | con (d : D) | prp (f : Nat)
structure G where
  fn : Nat → Option FnD
  glb : Nat → D
  dfl : Nat → List D
  lam : Nat → E
  lamw : Nat → List Nat
  fld : Nat
  cod : Nat
  xcl : Nat → Option (List Nat × Option Nat)
  sub : Nat → Nat → Bool
  atr : Nat → Nat → At
  mtd : Nat → Nat → Option Nat
  dmt : Nat → Du → Option Nat
  sta : Nat → Nat → Option Nat
  ctr : Nat → Option CtD
  cdf : Nat → List D
  isa : Nat → Nat → Bool
  clc : Nat → Nat → D

/-! ### operations -/
mutual
def deq : D → D → Bool
  | .non, .non => true
  | .bl a, .bl b => a == b
  | .bl a, .int j => (if a then 1 else 0) == j
  | .int i, .bl b => i == (if b then 1 else 0)
  | .int i, .int j => i == j
  | .str x, .str y => x == y
  | .tup l, .tup m => deqs l m
  | .lst l, .lst m => deqs l m
  | _, _ => false
def deqs : List D → List D → Bool
  | [], [] => true
  | x :: l, y :: m => deq x y && deqs l m
  | _, _ => false
end
mutual
/-- the very same data -/
def dsame : D → D → Bool
  | .non, .non => true
  | .bl a, .bl b => a == b
  | .int i, .int j => i == j
  | .str x, .str y => x == y
  | .tup l, .tup m => dsames l m
  | .lst l, .lst m => dsames l m
  | _, _ => false
def dsames : List D → List D → Bool
  | [], [] => true
  | x :: l, y :: m => dsame x y && dsames l m
  | _, _ => false
end
mutual
/-- the weight of data: none where it is no plain data -/
def wt : D → Option Nat
  | .non => some 1
  | .bl _ => some 1
  | .int i => if i.natAbs < 1000000000000 then some 1 else none
  | .str s => some (s.length + 1)
  | .tup l => (wts l).map (· + 1)
  | .lst l => (wts l).map (· + 1)
  | _ => none
def wts : List D → Option Nat
  | [] => some 0
  | x :: l => match wt x, wts l with
    | some a, some b => some (a + b)
    | _, _ => none
end
mutual
/-- plain data of a depth of at most so many; ints of any size -/
def dpt : Nat → D → Bool
  | _, .non => true
  | _, .bl _ => true
  | _, .int _ => true
  | _, .str _ => true
  | 0, .tup _ => false
  | 0, .lst _ => false
  | n + 1, .tup l => dpts n l
  | n + 1, .lst l => dpts n l
  | _, _ => false
def dpts : Nat → List D → Bool
  | _, [] => true
  | n, x :: l => dpt n x && dpts n l
end
def line : Nat := 16777216
def binop (o : Operator) (x y : D) (h : AH) : Res D := match o, x, y with
  | .Add, .int i, .int j => .ok (.int (i + j)) h
  | .Add, .str a, .str b => if a.length + b.length ≤ line then .ok (.str (a ++ b)) h else .stuck
  | .Add, .lst a, .lst b => if a.length + b.length ≤ line then .ok (.lst (a ++ b)) h else .stuck
  | .Add, .tup a, .tup b => if a.length + b.length ≤ line then .ok (.tup (a ++ b)) h else .stuck
  | .Sub, .int i, .int j => .ok (.int (i - j)) h
  | .Mult, .int i, .int j => if (-(2 ^ 64) < i ∧ i < 2 ^ 64) ∨ (-(2 ^ 64) < j ∧ j < 2 ^ 64) then .ok (.int (i * j)) h else .stuck
  | .Mult, .str s, .int k => if -1000 ≤ k ∧ k ≤ 1000 ∧ s.length ≤ 1000 then .ok (.str (List.replicate k.toNat s).flatten) h else .stuck
  | .Mult, .tup l, .int k => if l.isEmpty = false ∧ 2 ≤ k ∧ k ≤ 1000 ∧ l.length ≤ 1000 then .ok (.tup (List.replicate k.toNat l).flatten) h else .stuck
  | .Mult, .lst l, .int k => if -1000 ≤ k ∧ k ≤ 1000 ∧ l.length ≤ 1000 then .ok (.lst (List.replicate k.toNat l).flatten) h else .stuck
  | .Mod, .int i, .int j => if 0 < j then .ok (.int (i % j)) h else .stuck
  | .FloorDiv, .int i, .int j => if 0 < j ∧ j < 1073741824 then .ok (.int (i / j)) h else .stuck
  | .Pow, .int i, .int j => if 0 ≤ j ∧ j ≤ 1000000 ∧ i.natAbs < 2 ^ 64 then .ok (.int (i ^ j.toNat)) h else .stuck
  | _, _, _ => .stuck
def leL : List Nat → List Nat → Bool
  | [], _ => true
  | _ :: _, [] => false
  | a :: l, b :: m => if a < b then true else if b < a then false else leL l m
def ltL (a b : List Nat) : Bool := !leL b a
def hasSub (s : List Nat) : List Nat → Bool
  | [] => s.isEmpty
  | c :: r => s.isPrefixOf (c :: r) || hasSub s r
def cmpop (o : CmpOp) (x y : D) : Option Bool := match o with
  | .Eq => if dpt 60 x && dpt 60 y then some (deq x y) else none
  | .NotEq => if dpt 60 x && dpt 60 y then some (!deq x y) else none
  | .Lt => match x, y with
    | .int i, .int j => some (decide (i < j))
    | _, _ => none
  | .LtE => match x, y with
    | .int i, .int j => some (decide (i ≤ j))
    | _, _ => none
  | .Gt => match x, y with
    | .int i, .int j => some (decide (j < i))
    | _, _ => none
  | .GtE => match x, y with
    | .int i, .int j => some (decide (j ≤ i))
    | _, _ => none
  | .In => match x, y with
    | .str [c], .str s => some (decide (c ∈ s))
    | x, .tup l => if dpt 60 x && dpts 60 l then some (l.any fun z => deq z x) else none
    | x, .lst l => if dpt 60 x && dpts 60 l then some (l.any fun z => deq z x) else none
    | _, _ => none
  | .NotIn => match x, y with
    | .str [c], .str s => some (!decide (c ∈ s))
    | x, .tup l => if dpt 60 x && dpts 60 l then some (!l.any fun z => deq z x) else none
    | x, .lst l => if dpt 60 x && dpts 60 l then some (!l.any fun z => deq z x) else none
    | _, _ => none
  | _ => none
def truth : D → Option Bool
  | .non => some false
  | .bl b => some b
  | .int i => some (i != 0)
  | .str s => if s.length ≤ line then some (!s.isEmpty) else none
  | .tup l => some (!l.isEmpty)
  | .lst l => some (!l.isEmpty)
  | _ => none
def isN : D → Bool
  | .non => true
  | _ => false
def lift {α : Type} (o : Option α) (h : AH) : Res α := match o with
  | some a => .ok a h
  | none => .stuck
def idxop (x i : D) (h : AH) : Res D := match x, i with
  | .lst l, .int i => lift (L2.atI l i) h
  | .tup l, .int i => lift (L2.atI l i) h
  | .str s, .int i => if s.length ≤ line then lift ((L2.atI s i).map fun c => .str [c]) h else .stuck
  | .ref n, .int i => match h.cell n with
    | .lst l => lift (L2.atI l i) h
    | _ => .stuck
  | _, _ => .stuck
def cut {α : Type} (l : List α) (lo hi : Option Int) : List α := (l.drop (HT.sIx l.length 0 lo)).take (HT.sIx l.length l.length hi - HT.sIx l.length 0 lo)
def slcop (x : D) (a b : Option Int) (h : AH) : Res D := match x with
  | .str s => if s.length ≤ line then .ok (.str (cut s a b)) h else .stuck
  | .lst l => .ok (.lst (cut l a b)) h
  | .tup l => .ok (.tup (cut l a b)) h
  | .scr l => .ok (.lst ((cut l a b).map .int)) h
  | .ref n => match h.cell n with
    | .lst l => .ok (.lst (cut l a b)) h
    | _ => .stuck
  | _ => .stuck
def isk : D → IK → Option Bool
  | .ref _, _ => none
  | .ins _ _, _ => none
  | .exc _ _, _ => none
  | .scr _, _ => none
  | .dct _, _ => none
  | .set _, _ => none
  | _, .cls _ => none
  | .bl _, .int => some true
  | .bl _, .bool => some true
  | .int _, .int => some true
  | .str _, .str => some true
  | .tup _, .tuple => some true
  | .tup _, .seq => some true
  | .lst _, .list => some true
  | .lst _, .seq => some true
  | _, _ => some false
def bls : List D → Option (List Bool)
  | [] => some []
  | .bl b :: r => (bls r).map (b :: ·)
  | _ => none
def strL : List D → Option (List (List Nat))
  | [] => some []
  | .str s :: r => (strL r).map (s :: ·)
  | _ => none
/-- what a loop walks: values that stay, a list in the heap as it stands at each turn, that with its places -/
inductive Src where
  | fix (l : List D) | cell (n : Nat) | ecell (n : Nat)
def Src.get (s : Src) (i : Nat) (h : AH) : Option (Option D) := match s with
  | .fix l => some l[i]?
  | .cell n => match h.cell n with
    | .lst l => some l[i]?
    | _ => none
  | .ecell n => match h.cell n with
    | .lst l => some (l[i]?.map fun d => .tup [.int i, d])
    | _ => none
def Src.len (s : Src) (h : AH) : Nat := match s with
  | .fix l => l.length
  | .cell n => match h.cell n with
    | .lst l => l.length
    | _ => 0
  | .ecell n => match h.cell n with
    | .lst l => l.length
    | _ => 0
def srcOf (x : D) (h : AH) : Option Src := match x with
  | .lst l => some (.fix l)
  | .tup l => some (.fix l)
  | .str s => some (.fix (s.map fun c => .str [c]))
  | .ref n => match h.cell n with
    | .lst _ => some (.cell n)
    | _ => none
  | _ => none
def pairs : Nat → List D → List D
  | _, [] => []
  | i, x :: l => .tup [.int i, x] :: pairs (i + 1) l
def zips : List D → List D → List D
  | x :: l, y :: m => .tup [x, y] :: zips l m
  | _, _ => []
def enumOf (x : D) (h : AH) : Option Src := match x with
  | .lst l => some (.fix (pairs 0 l))
  | .ref n => match h.cell n with
    | .lst _ => some (.ecell n)
    | _ => none
  | _ => none
def zipOf (x y : D) : Option Src := match x, y with
  | .lst l, .lst m => some (.fix (zips l m))
  | _, _ => none
def sumN : List (List Nat) → Nat
  | [] => 0
  | x :: r => x.length + sumN r
/-- strings by their first difference -/
def ltS (a b : Str) : Bool := decide (a.cps.toList < b.cps.toList)
def insS (x : Str) : List Str → List Str
  | [] => [x]
  | y :: r => if ltS y x then y :: insS x r else x :: y :: r
def sortS : List Str → List Str
  | [] => []
  | x :: r => insS x (sortS r)
def biop (b : Bi) (x : D) (h : AH) : Res D := match b with
  | .len => match x with
    | .str s => if s.length ≤ line then .ok (.int s.length) h else .stuck
    | .lst l => .ok (.int l.length) h
    | .tup l => .ok (.int l.length) h
    | .ref n => match h.cell n with
      | .lst l => .ok (.int l.length) h
      | _ => .stuck
    | _ => .stuck
  | .all => match x with
    | .lst l => lift ((bls l).map fun b => .bl (b.all id)) h
    | _ => .stuck
  | .any => match x with
    | .lst l => lift ((bls l).map fun b => .bl (b.any id)) h
    | _ => .stuck
  | .tuple => match x with
    | .lst l => .ok (.tup l) h
    | .tup l => .ok (.tup l) h
    | _ => .stuck
  | .list => match x with
    | .lst l => .ok (.lst l) h
    | .tup l => .ok (.lst l) h
    | .ref n => match h.cell n with
      | .lst l => .ok (.lst l) h
      | _ => .stuck
    | _ => .stuck
  | .int => match x with
    | .int i => .ok (.int i) h
    | .bl b => .ok (.int (if b then 1 else 0)) h
    | .str s => if s.all (fun c => decide (48 ≤ c) && decide (c ≤ 57)) = true ∧ s.isEmpty = false ∧ s.length ≤ 640 then .ok (.int (NumText.digitsVal s : Nat)) h else .stuck
    | _ => .stuck
  | .str => match x with
    | .str s => .ok (.str s) h
    | .int i => if 0 ≤ i ∧ i < 1000000000000 then .ok (.str (TL.numL i.toNat)) h else .stuck
    | _ => .stuck
  | .abs => .stuck
  | .sorted => match x with
    | .lst l => (match strL l with
      | some ys => .ok (.lst ((sortS (ys.map fun s => (⟨s.toArray⟩ : Str))).map fun s => .str s.cps.toList)) h
      | none => .stuck)
    | _ => .stuck
def mtop (m : Mt) (o a : D) (h : AH) : Res D := match m with
  | .join => match o, a with
    | .str s, .lst l => match strL l with
      | some ys => if sumN ys + ys.length * s.length ≤ line then .ok (.str (TL.joinL s ys)) h else .stuck
      | none => .stuck
    | .str s, .tup l => match strL l with
      | some ys => if sumN ys + ys.length * s.length ≤ line then .ok (.str (TL.joinL s ys)) h else .stuck
      | none => .stuck
    | _, _ => .stuck
  | .split => match o, a with
    | .str s, .str b => if b.isEmpty = false ∧ b.all (· < 256) = true ∧ s.length + 2 ≤ line then .ok (.lst ((TL.spl b 0 [] s).map .str)) h else .stuck
    | _, _ => .stuck
  | .index => match o, a with
    | .str s, .str b => (match Builtin.Str.occurrences ⟨s.toArray⟩ ⟨b.toArray⟩ 0 s.length 1 with
      | i :: _ => .ok (.int (i : Nat)) h
      | [] => .stuck)
    | _, _ => .stuck
  | .rstrip => match o, a with
    | .str s, .str b => if s.length ≤ line then .ok (.str (s.take (PySem.stripHi (⟨b.toArray⟩ : Str).cps.contains true ⟨s.toArray⟩ 0))) h else .stuck
    | _, _ => .stuck
/-- the receiver's kind -/
def mmok (m : Mm) (x : D) (h : AH) : Bool := match m with
  | .zfill => (match x with
    | .str _ => true
    | _ => false)
  | _ => (match x with
    | .ref n => (match h.cell n with
      | .lst _ => true
      | _ => false)
    | _ => false)
def mmop (m : Mm) (x : D) (l : List D) (h : AH) : Res D := match m with
  | .append => match x, l with
    | .ref n, [y] => (match h.cell n with
      | .lst xs => if xs.length < line then .ok .non (h.put n (.lst (xs ++ [y]))) else .stuck
      | _ => .stuck)
    | _, _ => .stuck
  | .insert => match x, l with
    | .ref n, [.int i, y] => (match h.cell n with
      | .lst xs => if xs.length < line ∧ 0 ≤ i ∧ i < 2 ^ 63 then .ok .non (h.put n (.lst (xs.take i.toNat ++ [y] ++ xs.drop i.toNat))) else .stuck
      | _ => .stuck)
    | _, _ => .stuck
  | .zfill => match x, l with
    | .str (c :: s), [.int i] => if (48 ≤ c ∧ c ≤ 57) ∧ 0 ≤ i ∧ i ≤ 1000 then .ok (.str (List.replicate (i.toNat - (s.length + 1)) 48 ++ c :: s)) h else .stuck
    | _, _ => .stuck
/-- list(x), as a cell of the heap -/
def hlstop (x : D) (h : AH) : Res D := match x with
  | .lst l => .ok (.ref h.nx) (h.new (.lst l))
  | .tup l => .ok (.ref h.nx) (h.new (.lst l))
  | _ => .stuck
/-- a cell that nobody changes from here on -/
def frzop (x : D) (h : AH) : Res D := match x with
  | .ref n => (match h.cell n with
    | .lst l => .ok (.lst l) (h.put n .no)
    | _ => .stuck)
  | _ => .stuck
/-- x.clear() -/
def clrop (x : D) (h : AH) : Res D := match x with
  | .ref n => (match h.cell n with
    | .lst _ => .ok .non (h.put n (.lst []))
    | _ => .stuck)
  | _ => .stuck
def sameop (x y : D) (h : AH) : Res D :=
  if dsame x y then match wt x with
    | some w => if w ≤ 60000 ∧ dpt 60 x then .ok (.bl true) h else .stuck
    | none => .stuck
  else .stuck
/-- what is stored at names: one name, or a tuple's items -/
def bindT (tg : List Nat) (v : D) (env : Env) : Option Env := match tg with
  | [i] => some (env.set i (.v v))
  | _ => match v with
    | .tup l => if l.length = tg.length then some ((tg.zip l).foldl (fun e p => e.set p.1 (.v p.2)) env) else none
    | .lst l => if l.length = tg.length then some ((tg.zip l).foldl (fun e p => e.set p.1 (.v p.2)) env) else none
    | _ => none
def range (a b : Int) : List D := (List.range (b - a).toNat).map fun k => .int (a + (k : Nat))
inductive Fl where
  | nx (e : Env) | rt (d : D) | bk (e : Env) | ct (e : Env) | xc (x : D) (e : Env)
def Res.bindX {α : Type} (r : Res α) (env : Env) (f : α → AH → Res Fl) : Res Fl := match r with
  | .ok a h => f a h
  | .exc x h => .ok (.xc x env) h
  | .stuck => .stuck
@[simp] theorem bindX_ok {α : Type} (a : α) (h : AH) (env : Env) (f : α → AH → Res Fl) : (Res.ok a h).bindX env f = f a h := rfl
@[simp] theorem bindX_exc {α : Type} (x : D) (h : AH) (env : Env) (f : α → AH → Res Fl) : (Res.exc x h : Res α).bindX env f = .ok (.xc x env) h := rfl
@[simp] theorem bindX_stuck {α : Type} (env : Env) (f : α → AH → Res Fl) : (Res.stuck : Res α).bindX env f = .stuck := rfl
/-- a loop's turns -/
def forI (s : Src) (f : D → Env → AH → Res Fl) : Nat → Nat → Env → AH → Res Fl
  | 0, _, _, _ => .stuck
  | k + 1, i, env, h => match s.get i h with
    | none => .stuck
    | some none => .ok (.nx env) h
    | some (some x) => (f x env h).bind fun r h' => match r with
      | .nx e => forI s f k (i + 1) e h'
      | .ct e => forI s f k (i + 1) e h'
      | .bk e => .ok (.nx e) h'
      | r => .ok r h'
/-- .. over values that stay -/
def forL (f : D → Env → AH → Res Fl) : List D → Env → AH → Res Fl
  | [], env, h => .ok (.nx env) h
  | x :: l, env, h => (f x env h).bind fun r h' => match r with
    | .nx e => forL f l e h'
    | .ct e => forL f l e h'
    | .bk e => .ok (.nx e) h'
    | r => .ok r h'
theorem forI_fix (l : List D) (f : D → Env → AH → Res Fl) : ∀ (k i : Nat) (env : Env) (h : AH), k + i = l.length → forI (.fix l) f (k + 1) i env h = forL f (l.drop i) env h
  | k, i, env, h, e => by
    by_cases hi : i < l.length
    · obtain ⟨j, rfl⟩ : ∃ j, k = j + 1 := ⟨k - 1, by omega⟩
      rw [List.drop_eq_getElem_cons hi]
      unfold forI forL
      simp only [Src.get, List.getElem?_eq_getElem hi]
      congr 1
      funext r h'
      cases r <;> first
        | rfl
        | exact forI_fix l f j (i + 1) _ h' (by omega)
    · have : l.length ≤ i := by omega
      rw [List.drop_eq_nil_of_le this]
      unfold forI forL
      simp only [Src.get, List.getElem?_eq_none this]
def whileN (t : Env → AH → Res Bool) (f : Env → AH → Res Fl) : Nat → Env → AH → Res Fl
  | 0, _, _ => .stuck
  | k + 1, env, h => (t env h).bindX env fun b h' => if b then (f env h').bind fun r h'' => match r with
      | .nx e => whileN t f k e h''
      | .ct e => whileN t f k e h''
      | .bk e => .ok (.nx e) h''
      | r => .ok r h''
    else .ok (.nx env) h'
def push (o : Option D) (r : List D) : List D := match o with
  | some y => y :: r
  | none => r
/-- a comprehension's turns -/
def mapI (s : Src) (f : D → AH → Res (Option D)) : Nat → Nat → AH → Res (List D)
  | 0, _, _ => .stuck
  | k + 1, i, h => match s.get i h with
    | none => .stuck
    | some none => .ok [] h
    | some (some x) => (f x h).bind fun o h' => (mapI s f k (i + 1) h').bind fun r h'' => .ok (push o r) h''
def mapL (f : D → AH → Res (Option D)) : List D → AH → Res (List D)
  | [], h => .ok [] h
  | x :: l, h => (f x h).bind fun o h' => (mapL f l h').bind fun r h'' => .ok (push o r) h''
theorem mapI_fix (l : List D) (f : D → AH → Res (Option D)) : ∀ (k i : Nat) (h : AH), k + i = l.length → mapI (.fix l) f (k + 1) i h = mapL f (l.drop i) h
  | k, i, h, e => by
    by_cases hi : i < l.length
    · obtain ⟨j, rfl⟩ : ∃ j, k = j + 1 := ⟨k - 1, by omega⟩
      rw [List.drop_eq_getElem_cons hi]
      unfold mapI mapL
      simp only [Src.get, List.getElem?_eq_getElem hi]
      congr 1
      funext r h'
      rw [mapI_fix l f j (i + 1) h' (by omega)]
    · have : l.length ≤ i := by omega
      rw [List.drop_eq_nil_of_le this]
      unfold mapI mapL
      simp only [Src.get, List.getElem?_eq_none this]
def noexc {α : Type} (r : Res α) : Res α := match r with
  | .exc _ _ => .stuck
  | r => r
def ldV (env : Env) (i : Nat) (h : AH) : Res D := match env[i]? with
  | some (.v d) => .ok d h
  | _ => .stuck
def lamsOf (env : Env) (i : Nat) : Option (List Nat) := match env[i]? with
  | some (.lams ks) => some ks
  | _ => none
/-- what a call, a handler's call, a lambda asked for its answer or error gives -/
structure Cl where
  f : Bool → Nat → List D → AH → Res D
  x : Nat → Nat → List (Nat × D) → AH → Res D
  why : Nat → Env → AH → Res D
  make : Nat → List D → AH → Res D
  ini : Nat → List D → AH → Res D
  pr : Nat → List D → AH → Res D
def whysR (why : Nat → Env → AH → Res D) : List Nat → Env → AH → Res (List D)
  | [], _, h => .ok [] h
  | k :: ks, env, h => (why k env h).bind fun x h => (whysR why ks env h).bind fun l h => .ok (x :: l) h
def mkX (g : G) (c : Nat) (l : List D) : Option D := match g.xcl c, l with
  | some (cd, none), [] => some (.exc c [(g.cod, .str cd)])
  | some (cd, some f), [v] => some (.exc c [(g.cod, .str cd), (f, v)])
  | _, _ => none
/-- what a special method's answer becomes -/
def dunR (d : Du) (v : D) (h : AH) : Res D := match d, v with
  | .len, .int i => if 0 ≤ i ∧ i < 1000000000000 then .ok (.int i) h else .stuck
  | .repr, .str s => .ok (.str s) h
  | .eq, .bl b => .ok (.bl b) h
  | .ne, .bl b => .ok (.bl !b) h
  | .bool, .bl b => .ok (.bl b) h
  | .has, .bl b => .ok (.bl b) h
  | _, _ => .stuck
/-- a part of an f-string -/
def fmtD : D → Option (List Nat)
  | .str s => some s
  | .int i => if 0 ≤ i ∧ i < 1000000000000 then some (TL.numL i.toNat) else none
  | _ => none
/-- data that is no instance -/
def nins : D → Bool
  | .non => true
  | .bl _ => true
  | .int _ => true
  | .str _ => true
  | .tup _ => true
  | .lst _ => true
  | _ => false
/-- what may stand at an own == -/
def duArg (d : Du) (l : List D) : Bool := match d, l with
  | .len, [] => true
  | .repr, [] => true
  | .bool, [] => true
  | .eq, [.ins _ _] => true
  | .ne, [.ins _ _] => true
  | .eq, [x] => nins x
  | .ne, [x] => nins x
  | .has, [_] => true
  | _, _ => false
def told : List Nat := [116, 111, 108, 100]
def pick {α : Type} (sel : List Nat) (l : List α) : Option (List α) := match sel with
  | [] => some []
  | i :: r => match l[i]?, pick r l with
    | some d, some s => some (d :: s)
    | _, _ => none

section
variable (g : G) (call : Cl) (c : Bool)
mutual
def evE : E → Env → AH → Res D
  | .var i, env, h => ldV env i h
  | .cst d, _, h => .ok d h
  | .glb n, _, h => .ok (g.glb n) h
  | .bin o a b, env, h => (evE a env h).bind fun x h => (evE b env h).bind fun y h => binop o x y h
  | .neg a, env, h => (evE a env h).bind fun x h => match x with
    | .int i => .ok (.int (-i)) h
    | _ => .stuck
  | .not a, env, h => (evE a env h).bind fun x h => lift ((truth x).map fun b => .bl !b) h
  | .and es, env, h => evAnd es env h
  | .or es, env, h => evOr es env h
  | .ife t a b, env, h => (evE t env h).bind fun x h => match truth x with
    | some true => evE a env h
    | some false => evE b env h
    | none => .stuck
  | .cmp o a b, env, h => (evE a env h).bind fun x h => (evE b env h).bind fun y h => lift ((cmpop o x y).map .bl) h
  | .cmp2 o1 o2 a b d, env, h => (evE a env h).bind fun x h => (evE b env h).bind fun y h => match cmpop o1 x y with
    | some true => (evE d env h).bind fun z h => lift ((cmpop o2 y z).map .bl) h
    | some false => .ok (.bl false) h
    | none => .stuck
  | .isn a, env, h => (evE a env h).bind fun x h => .ok (.bl (isN x)) h
  | .isnn a, env, h => (evE a env h).bind fun x h => .ok (.bl (!isN x)) h
  | .tup es, env, h => (evEs es env h).bind fun l h => if l.length ≤ line then .ok (.tup l) h else .stuck
  | .lst es, env, h => (evEs es env h).bind fun l h => if l.length ≤ line then .ok (.lst l) h else .stuck
  | .hls es, env, h => (evEs es env h).bind fun l h => if l.length ≤ line then .ok (.ref h.nx) (h.new (.lst l)) else .stuck
  | .tupf es fl, env, h => (evDs es fl env h).bind fun l h => if l.length ≤ line then .ok (.tup l) h else .stuck
  | .lstf es fl, env, h => (evDs es fl env h).bind fun l h => if l.length ≤ line then .ok (.lst l) h else .stuck
  | .idx a i, env, h => (evE a env h).bind fun x h => (evE i env h).bind fun y h => idxop x y h
  | .slc a lo hi, env, h => (evE a env h).bind fun x h => (evOp lo env h).bind fun l h => (evOp hi env h).bind fun u h => slcop x l u h
  | .cal f args kws sel, env, h => (evEs args env h).bind fun l h => (evEs kws env h).bind fun m h => match pick sel (l ++ m ++ g.dfl f) with
    | some vs => call.f c f vs h
    | none => .stuck
  | .bi b a, env, h => (evE a env h).bind fun x h => biop b x h
  | .isi a k, env, h => (evE a env h).bind fun x h => lift ((isk x k).map .bl) h
  | .mt m o a, env, h => (evE o env h).bind fun x h => match x with
    | .str s => (evE a env h).bind fun y h => mtop m (.str s) y h
    | _ => .stuck
  | .mm m o args, env, h => (evE o env h).bind fun x h => if mmok m x h then (evEs args env h).bind fun l h => mmop m x l h else .stuck
  | .same i j, env, h => (ldV env i h).bind fun x h => (ldV env j h).bind fun y h => sameop x y h
  | .cmpr elt tg it ifs, env, h => (evIt it env h).bind fun s h => if s.len h ≤ line then
      (noexc (mapI s (fun x h => match bindT tg x env with
        | some e => (evIfs ifs e h).bind fun b h => if b then (evE elt e h).bind fun y h => .ok (some y) h else .ok none h
        | none => .stuck) (s.len h + 1) 0 h)).bind fun r h => .ok (.lst r) h
    else .stuck
  | .xfld i f, env, h => match env[i]? with
    | some (.exc _ fs) => lift (lkN f fs) h
    | _ => .stuck
  | .xcal f i, env, h => match env[i]? with
    | some (.exc c fs) => call.x f c fs h
    | _ => .stuck
  | .why k, env, h => call.why k env h
  | .whysl ks, env, h => (whysR call.why ks env h).bind fun l h => .ok (.lst l) h
  | .whysv i, env, h => match lamsOf env i with
    | some (k :: ks) => (whysR call.why (k :: ks) env h).bind fun l h => .ok (.lst l) h
    | _ => .stuck
  | .cav f k args fl, env, h => (evDs args fl env h).bind fun l h => if k ≤ l.length ∧ l.length ≤ line then call.f c f (l.take k ++ [.tup (l.drop k)]) h else .stuck
  | .fld a f, env, h => (evE a env h).bind fun x h => match x with
    | .ins k fs => (match g.atr k f with
      | .fld => lift (lkN f fs) h
      | .con d => (match lkN f fs with
        | none => .ok d h
        | some _ => .stuck)
      | .prp p => noexc (call.pr p [.ins k fs] h)
      | .no => .stuck)
    | _ => .stuck
  | .con k f, _, h => .ok (g.clc k f) h
  | .mk k args kws sel, env, h => (evEs args env h).bind fun l h => (evEs kws env h).bind fun m h => match pick sel (l ++ m ++ g.cdf k) with
    | some vs => call.make k vs h
    | none => .stuck
  | .mkv k args fl, env, h => (evDs args fl env h).bind fun l h => if l.length ≤ line then call.make k [.tup l] h else .stuck
  | .mth o m args kws sel, env, h => (evE o env h).bind fun x h => match x with
    | .ins k fs => (match g.mtd k m with
      | some f => (evEs args env h).bind fun l h => (evEs kws env h).bind fun r h => (match pick sel (.ins k fs :: l ++ r ++ g.dfl f) with
        | some vs => call.f c f vs h
        | none => .stuck)
      | none => .stuck)
    | _ => .stuck
  | .stt k m args kws sel, env, h => match g.sta k m with
    | some f => (evEs args env h).bind fun l h => (evEs kws env h).bind fun r h => (match pick sel (l ++ r ++ g.dfl f) with
      | some vs => call.f c f vs h
      | none => .stuck)
    | none => .stuck
  | .isc a k, env, h => (evE a env h).bind fun x h => match x with
    | .ins j _ => .ok (.bl (g.isa j k)) h
    | x => if nins x then .ok (.bl false) h else .stuck
  | .dun d o args, env, h => (evE o env h).bind fun x h => match x with
    | .ins k fs => (match g.dmt k d with
      | some f => (evEs args env h).bind fun l h => if duArg d l then (noexc (call.pr f (.ins k fs :: l) h)).bind fun v h => dunR d v h else .stuck
      | none => .stuck)
    | _ => .stuck
  | .cao o args kws sel, env, h => (evE o env h).bind fun x h => match x with
    | .ins k fs => (match g.dmt k .call with
      | some f => (evEs args env h).bind fun l h => (evEs kws env h).bind fun r h => (match pick sel (.ins k fs :: l ++ r ++ g.dfl f) with
        | some vs => call.f c f vs h
        | none => .stuck)
      | none => .stuck)
    | _ => .stuck
  | .fst es, env, h => evFs es [] env h
  | .hlst a, env, h => (evE a env h).bind fun x h => hlstop x h
  | .frz a, env, h => (evE a env h).bind fun x h => frzop x h
  | .clr a, env, h => (evE a env h).bind fun x h => clrop x h
def evFs : Es → List Nat → Env → AH → Res D
  | .nil, acc, _, h => .ok (.str acc) h
  | .cons e r, acc, env, h => (evE e env h).bind fun x h => match fmtD x with
    | some s => if (acc ++ s).length ≤ line then evFs r (acc ++ s) env h else .stuck
    | none => .stuck
def evEs : Es → Env → AH → Res (List D)
  | .nil, _, h => .ok [] h
  | .cons e r, env, h => (evE e env h).bind fun x h => (evEs r env h).bind fun l h => .ok (x :: l) h
def evDs : Es → List Bool → Env → AH → Res (List D)
  | .nil, _, _, h => .ok [] h
  | .cons e r, fl, env, h => (evE e env h).bind fun x h => match fl with
    | false :: fl => (evDs r fl env h).bind fun l h => .ok (x :: l) h
    | true :: fl => (match x with
      | .lst a => (evDs r fl env h).bind fun l h => .ok (a ++ l) h
      | .tup a => (evDs r fl env h).bind fun l h => .ok (a ++ l) h
      | _ => .stuck)
    | [] => .stuck
def evAnd : Es → Env → AH → Res D
  | .nil, _, _ => .stuck
  | .cons e r, env, h => match r with
    | .nil => evE e env h
    | .cons _ _ => (evE e env h).bind fun x h => match truth x with
      | some true => evAnd r env h
      | some false => .ok x h
      | none => .stuck
def evOr : Es → Env → AH → Res D
  | .nil, _, _ => .stuck
  | .cons e r, env, h => match r with
    | .nil => evE e env h
    | .cons _ _ => (evE e env h).bind fun x h => match truth x with
      | some true => .ok x h
      | some false => evOr r env h
      | none => .stuck
def evOp : Op → Env → AH → Res (Option Int)
  | .no, _, h => .ok none h
  | .so e, env, h => (evE e env h).bind fun x h => match x with
    | .int i => .ok (some i) h
    | _ => .stuck
def evIfs : Es → Env → AH → Res Bool
  | .nil, _, h => .ok true h
  | .cons e _, env, h => (evE e env h).bind fun x h => lift (truth x) h
def evIt : It → Env → AH → Res Src
  | .seq e, env, h => (evE e env h).bind fun x h => lift (srcOf x h) h
  | .rng a, env, h => (evE a env h).bind fun x h => match x with
    | .int i => if -(2 ^ 62) ≤ i ∧ i < 2 ^ 62 then .ok (.fix (range 0 i)) h else .stuck
    | _ => .stuck
  | .rng2 a b, env, h => (evE a env h).bind fun x h => (evE b env h).bind fun y h => match x, y with
    | .int i, .int j => if (-(2 ^ 62) ≤ i ∧ i < 2 ^ 62) ∧ -(2 ^ 62) ≤ j ∧ j < 2 ^ 62 then .ok (.fix (range i j)) h else .stuck
    | _, _ => .stuck
  | .enum e, env, h => (evE e env h).bind fun x h => lift (enumOf x h) h
  | .zip a b, env, h => (evE a env h).bind fun x h => (evE b env h).bind fun y h => lift (zipOf x y) h
end
/-- an except suite: env with the exception's name, without it -/
def evH (hd : Hd) (ex e : Env) (h : AH) : Res Fl := match hd with
  | .ret t => (noexc (evE g call false t ex h)).bind fun x h => .ok (.rt x) h
  | .asg j t => (noexc (evE g call false t ex h)).bind fun x h => .ok (.nx (e.set j (.v x))) h
  | .rsn _ _ => .stuck
def evT (e : E) (env : Env) (h : AH) : Res Bool := (evE g call c e env h).bind fun x h => lift (truth x) h
mutual
def evS : S → Env → AH → Res Fl
  | .expr e, env, h => (evE g call c e env h).bindX env fun _ h => .ok (.nx env) h
  | .asg i e, env, h => (evE g call c e env h).bindX env fun x h => .ok (.nx (env.set i (.v x))) h
  | .asgt is e, env, h => (evE g call c e env h).bindX env fun x h => lift ((bindT is x env).map .nx) h
  | .aug i o e, env, h => (ldV env i h).bindX env fun x h => (evE g call c e env h).bindX env fun y h => (match x, y with
      | .int _, .int _ => binop o x y h
      | _, _ => .stuck).bindX env fun z h => .ok (.nx (env.set i (.v z))) h
  | .ret e, env, h => (evE g call c e env h).bindX env fun x h => .ok (.rt x) h
  | .retn, _, h => .ok (.rt .non) h
  | .ifs t a b, env, h => (evT g call c t env h).bindX env fun k h => if k then evSs a env h else evSs b env h
  | .for tg it b, env, h => (evIt g call c it env h).bindX env fun s h => forI s (fun x env h => match bindT tg x env with
      | some e => evSs b e h
      | none => .stuck) (s.len h + 1) 0 env h
  | .whl t b, env, h => whileN (evT g call c t) (evSs b) 4096 env h
  | .brk, env, h => .ok (.bk env) h
  | .cnt, env, h => .ok (.ct env) h
  | .pass, env, h => .ok (.nx env) h
  | .never, _, _ => .stuck
  | .seti o i e, env, h => (evE g call c e env h).bindX env fun x h => (evE g call c o env h).bindX env fun y h => (evE g call c i env h).bindX env fun z h => match y, z with
    | .ref n, .int k => match h.cell n with
      | .lst l => match L2.ixN l.length k with
        | some j => .ok (.nx env) (h.put n (.lst (l.set j x)))
        | none => .stuck
      | _ => .stuck
    | _, _ => .stuck
  | .rse k args, env, h => (evEs g call c args env h).bindX env fun l h => lift ((mkX g k l).map fun x => .xc x env) h
  | .try1 b cs i hd, env, h => (evSs b env h).bind fun f h => match f with
    | .xc (.exc c fs) e => if cs.any (fun d => g.sub c d) then evH g call hd (match i with
        | some i => e.set i (.exc c fs)
        | none => e) e h else .ok (.xc (.exc c fs) e) h
    | .xc _ _ => .stuck
    | f => .ok f h
  | .lasg i ks, env, h => .ok (.nx (env.set i (.lams ks))) h
  | .ladd i ks, env, h => match lamsOf env i with
    | some js => if js.length ≤ 1000 then .ok (.nx (env.set i (.lams (js ++ ks)))) h else .stuck
    | none => .stuck
def evSs : Ss → Env → AH → Res Fl
  | .nil, env, h => .ok (.nx env) h
  | .cons s r, env, h => (evS s env h).bind fun f h => match f with
    | .nx e => evSs r e h
    | f => .ok f h
end
end
/-- a def's end -/
def fin (r : Res Fl) : Res D := (noexc r).bind fun f h => match f with
  | .nx _ => .ok .non h
  | .rt d => .ok d h
  | .xc x _ => .exc x h
  | _ => .stuck
def whyR (g : G) (call : Cl) (k : Nat) (env : Env) (h : AH) : Res D := match evE g call true (g.lam k) ((g.lamw k).foldl (fun e i => e.set i .no) env) h with
  | .ok v h => .ok (.tup [.str told, v]) h
  | .exc (.exc c fs) h => match lkN g.cod fs with
    | some cd => (noexc (call.x g.fld c fs h)).bind fun v h => .ok (.tup [cd, v]) h
    | none => .stuck
  | _ => .stuck
def isMe : Env → Bool
  | .me :: _ => true
  | _ => false
/-- an __init__'s run: the fields of the new instance -/
def evB (g : G) (call : Cl) (c : Bool) : List BI → Env → List (Nat × D) → AH → Res (List (Nat × D))
  | [], _, fs, h => .ok fs h
  | .reg s :: r, env, fs, h => (noexc (evS g call c s env h)).bind fun f h => match f with
    | .nx e => if isMe e then evB g call c r e fs h else .stuck
    | .xc x _ => .exc x h
    | _ => .stuck
  | .sto f e :: r, env, fs, h => (evE g call c e env h).bind fun d h => if fs.length < 900 then evB g call c r env (putN f d fs) h else .stuck
def mkR (g : G) (call : Cl) (k : Nat) (vs : List D) (h : AH) : Res D := match g.ctr k with
  | some ct => if vs.length = ct.np then (evB g call true ct.items (.me :: (vs.map .v ++ List.replicate (ct.nb - (ct.np + 1)) .no)) [] h).bind fun fs h => .ok (.ins k fs) h else .stuck
  | none => .stuck
def cN (g : G) : Nat → Cl
  | 0 => ⟨fun _ _ _ _ => .stuck, fun _ _ _ _ => .stuck, fun _ _ _ => .stuck, fun _ _ _ => .stuck, fun _ _ _ => .stuck, fun _ _ _ => .stuck⟩
  | n + 1 => ⟨fun c f vs h => match g.fn f with
      | some fd => if vs.length = fd.np then fin (evSs g (cN g n) c fd.body (vs.map .v ++ List.replicate (fd.nb - fd.np) .no) h) else .stuck
      | none => .stuck,
    fun f c fs h => match g.fn f with
      | some fd => if fd.np = 1 then fin (evSs g (cN g n) false fd.body (.exc c fs :: List.replicate (fd.nb - 1) .no) h) else .stuck
      | none => .stuck,
    fun k env h => whyR g (cN g n) k env h,
    fun k vs h => (cN g n).ini k vs h,
    fun k vs h => mkR g (cN g n) k vs h,
    fun f vs h => (cN g n).f true f vs h⟩
abbrev callN (g : G) (n : Nat) : Bool → Nat → List D → AH → Res D := (cN g n).f
end Rk

set_option maxHeartbeats 1000000
/-! Rk.B: plain data in the layer's heaps. -/
namespace Rk
open PySem PySem.Spec PyProof.Rows L2
/-- a lambda's text -/
structure LamI where
  params : Arguments
  body : Expr
  scope : Scope
/-- what is fixed: the written part, the classes, the attributes' names; pn: the exceptions that are handled; tabs: the code objects' tables; cells, qual: the frame's; lamOk: the texts of its lambdas -/
structure Gi where
  K : PySem.W.Frag
  ca : Nat → Addr
  an : Nat → Str
  nn : Nat
  fa : Nat → Addr
  fd : Nat → FuncData
  fps : Nat → List Str
  fdv : Nat → List V
  pn : List (Addr × Obj)
  tabs : List (Addr × Str)
  cells : List (Str × Addr)
  qual : Str
  lamOk : Nat → LamI → Prop
  xk : Nat → Prop
  cb : Nat → Addr
  nc : Nat
  cdv : Nat → List V
  me : Option Addr
/-- where the heap's cells stand; what never changes -/
structure Wd where
  m : Nat → Addr
  F : Hp
  Z : Hp
abbrev stt (s : List Nat) : Str := ⟨s.toArray⟩
def okS (s : List Nat) : Bool := s.all fun c => decide (c < 1114112)
mutual
def RV (g : Gi) (w : Wd) (n : Nat) : D → V → Prop
  | .non, v => v = .non
  | .bl b, v => v = .bl b
  | .int i, v => v = .int i
  | .str s, v => v = .str (stt s) ∧ okS s = true
  | .tup l, v => ∃ a xs, v = .ref a ∧ SqT g.K w.F a xs ∧ RVs g w n l xs
  | .lst l, v => ∃ a xs, v = .ref a ∧ w.F a = some (.lst xs) ∧ RVs g w n l xs
  | .scr l, v => ∃ a, v = .ref a ∧ SqL g.K w.F a (l.map V.int)
  | .ref k, v => v = .ref (w.m k) ∧ k < n
  | .ins c fs, v => c < g.nc ∧ ∃ a dx gs, v = .ref a ∧ w.F a = some (.ins (g.cb c) dx gs) ∧ w.F dx = some (.own a) ∧ RVf g w n fs gs
  | _, _ => False
def RVs (g : Gi) (w : Wd) (n : Nat) : List D → List V → Prop
  | [], xs => xs = []
  | d :: l, xs => ∃ x r, xs = x :: r ∧ RV g w n d x ∧ RVs g w n l r
def RVf (g : Gi) (w : Wd) (n : Nat) : List (Nat × D) → List (Str × V) → Prop
  | [], xs => xs = []
  | p :: l, xs => ∃ x r, xs = (g.an p.1, x) :: r ∧ p.1 < g.nn ∧ RV g w n p.2 x ∧ RVf g w n l r
end
structure Ext (w : Wd) (n : Nat) (w' : Wd) (n' : Nat) : Prop where
  le : n ≤ n'
  m : ∀ k, k < n → w'.m k = w.m k
  F : ∀ a o, w.F a = some o → w'.F a = some o
  Z : ∀ a o, w.Z a = some o → w'.Z a = some o
/-- what values lean on -/
structure ExtF (w : Wd) (n : Nat) (w' : Wd) (n' : Nat) : Prop where
  le : n ≤ n'
  m : ∀ k, k < n → w'.m k = w.m k
  F : ∀ a o, w.F a = some o → w'.F a = some o
theorem Ext.f {w w' : Wd} {n n' : Nat} (x : Ext w n w' n') : ExtF w n w' n' := ⟨x.le, x.m, x.F⟩
theorem Ext.refl (w : Wd) (n : Nat) : Ext w n w n := ⟨Nat.le_refl _, fun _ _ => rfl, fun _ _ e => e, fun _ _ e => e⟩
theorem Ext.trans {w w1 w2 : Wd} {n n1 n2 : Nat} (a : Ext w n w1 n1) (b : Ext w1 n1 w2 n2) : Ext w n w2 n2 :=
  ⟨Nat.le_trans a.le b.le, fun k hk => (b.m k (Nat.lt_of_lt_of_le hk a.le)).trans (a.m k hk), fun c o e => b.F c o (a.F c o e), fun c o e => b.Z c o (a.Z c o e)⟩
theorem SqT.ext {K : PySem.W.Frag} {F F' : Hp} (e : ∀ a o, F a = some o → F' a = some o) {a : Addr} {xs : List V} (h : SqT K F a xs) : SqT K F' a xs := by
  rcases h with (h | ⟨o, h⟩) | h
  · exact .inl (.inl (e _ _ h))
  · exact .inl (.inr ⟨o, e _ _ h⟩)
  · exact .inr h
theorem SqL.ext {K : PySem.W.Frag} {F F' : Hp} (e : ∀ a o, F a = some o → F' a = some o) {a : Addr} {xs : List V} (h : SqL K F a xs) : SqL K F' a xs := by
  rcases h with (h | ⟨o, h⟩) | h
  · exact .inl (.inl (e _ _ h))
  · exact .inl (.inr ⟨o, e _ _ h⟩)
  · exact .inr h
section
variable {g : Gi} {w w' : Wd} {n n' : Nat}
mutual
theorem RV.extF (x : ExtF w n w' n') : ∀ (d : D) (v : V), RV g w n d v → RV g w' n' d v
  | .non, v, h => by unfold RV at *; exact h
  | .bl b, v, h => by unfold RV at *; exact h
  | .int i, v, h => by unfold RV at *; exact h
  | .str s, v, h => by unfold RV at *; exact h
  | .tup l, v, h => by
    unfold RV at *
    obtain ⟨a, xs, e, q, r⟩ := h
    exact ⟨a, xs, e, SqT.ext x.F q, RVs.extF x l xs r⟩
  | .lst l, v, h => by
    unfold RV at *
    obtain ⟨a, xs, e, q, r⟩ := h
    exact ⟨a, xs, e, x.F _ _ q, RVs.extF x l xs r⟩
  | .ref k, v, h => by
    unfold RV at *
    exact ⟨by rw [x.m k h.2]; exact h.1, Nat.lt_of_lt_of_le h.2 x.le⟩
  | .ins c fs, v, h => by
    unfold RV at *
    obtain ⟨hc, a, dx, gs, e, q, q2, r⟩ := h
    exact ⟨hc, a, dx, gs, e, x.F _ _ q, x.F _ _ q2, RVf.extF x fs gs r⟩
  | .dct l, v, h => by unfold RV at h; exact h.elim
  | .set l, v, h => by unfold RV at h; exact h.elim
  | .exc c l, v, h => by unfold RV at h; exact h.elim
  | .scr l, v, h => by
    unfold RV at *
    obtain ⟨a, e, q⟩ := h
    exact ⟨a, e, SqL.ext x.F q⟩
theorem RVs.extF (x : ExtF w n w' n') : ∀ (l : List D) (xs : List V), RVs g w n l xs → RVs g w' n' l xs
  | [], xs, h => by unfold RVs at *; exact h
  | d :: l, xs, h => by
    unfold RVs at *
    obtain ⟨y, r, e, h1, h2⟩ := h
    exact ⟨y, r, e, RV.extF x d y h1, RVs.extF x l r h2⟩
theorem RVf.extF (x : ExtF w n w' n') : ∀ (l : List (Nat × D)) (xs : List (Str × V)), RVf g w n l xs → RVf g w' n' l xs
  | [], xs, h => by unfold RVf at *; exact h
  | (k, d) :: l, xs, h => by
    unfold RVf at *
    obtain ⟨y, r, e, h0, h1, h2⟩ := h
    exact ⟨y, r, e, h0, RV.extF x d y h1, RVf.extF x l r h2⟩
end
theorem RV.ext (x : Ext w n w' n') (d : D) (v : V) (h : RV g w n d v) : RV g w' n' d v := RV.extF x.f d v h
theorem RVs.ext (x : Ext w n w' n') (d : List D) (v : List V) (h : RVs g w n d v) : RVs g w' n' d v := RVs.extF x.f d v h
theorem RVf.ext (x : Ext w n w' n') (d : List (Nat × D)) (v : List (Str × V)) (h : RVf g w n d v) : RVf g w' n' d v := RVf.extF x.f d v h
theorem RVs.noZ {w : Wd} {Z' : Hp} {l : List D} {xs : List V} (h : RVs g w n l xs) : RVs g ⟨w.m, w.F, Z'⟩ n l xs := RVs.extF (show ExtF w n ⟨w.m, w.F, Z'⟩ n from ⟨Nat.le_refl _, fun _ _ => rfl, fun _ _ e => e⟩) l xs h
theorem RVf.noZ {w : Wd} {Z' : Hp} {l : List (Nat × D)} {xs : List (Str × V)} (h : RVf g w n l xs) : RVf g ⟨w.m, w.F, Z'⟩ n l xs := RVf.extF (show ExtF w n ⟨w.m, w.F, Z'⟩ n from ⟨Nat.le_refl _, fun _ _ => rfl, fun _ _ e => e⟩) l xs h
theorem RVs.moreF {w : Wd} {F' Z' : Hp} (k : ∀ a o, w.F a = some o → F' a = some o) {l : List D} {xs : List V} (h : RVs g w n l xs) : RVs g ⟨w.m, F', Z'⟩ n l xs := RVs.extF (show ExtF w n ⟨w.m, F', Z'⟩ n from ⟨Nat.le_refl _, fun _ _ => rfl, k⟩) l xs h
theorem RVf.moreF {w : Wd} {F' Z' : Hp} (k : ∀ a o, w.F a = some o → F' a = some o) {l : List (Nat × D)} {xs : List (Str × V)} (h : RVf g w n l xs) : RVf g ⟨w.m, F', Z'⟩ n l xs := RVf.extF (show ExtF w n ⟨w.m, F', Z'⟩ n from ⟨Nat.le_refl _, fun _ _ => rfl, k⟩) l xs h
theorem rvs_nil {xs : List V} : RVs g w n [] xs ↔ xs = [] := by unfold RVs; exact Iff.rfl
theorem rvs_cons {d : D} {l : List D} {xs : List V} : RVs g w n (d :: l) xs ↔ ∃ x r, xs = x :: r ∧ RV g w n d x ∧ RVs g w n l r := by
  conv => lhs; unfold RVs
theorem RVs.mk {d : D} {l : List D} {x : V} {xs : List V} (a : RV g w n d x) (b : RVs g w n l xs) : RVs g w n (d :: l) (x :: xs) := rvs_cons.mpr ⟨x, xs, rfl, a, b⟩
theorem RVs.nil : RVs g w n [] [] := rvs_nil.mpr rfl
theorem RVs.length : ∀ {l : List D} {xs : List V}, RVs g w n l xs → xs.length = l.length
  | [], xs, h => by rw [rvs_nil.mp h]; rfl
  | d :: l, xs, h => by
    obtain ⟨x, r, rfl, _, h2⟩ := rvs_cons.mp h
    rw [List.length_cons, List.length_cons, RVs.length h2]
theorem RVs.get : ∀ {l : List D} {xs : List V} {i : Nat} {d : D}, RVs g w n l xs → l[i]? = some d → ∃ x, xs[i]? = some x ∧ RV g w n d x
  | [], _, _, _, _, e => by simp at e
  | d :: l, xs, 0, d', h, e => by
    obtain ⟨x, r, rfl, h1, _⟩ := rvs_cons.mp h
    have e : d = d' := by simpa using e
    exact ⟨x, rfl, e ▸ h1⟩
  | d :: l, xs, i + 1, _, h, e => by
    obtain ⟨x, r, rfl, _, h2⟩ := rvs_cons.mp h
    obtain ⟨y, h3, h4⟩ := RVs.get h2 (show l[i]? = some _ by simpa using e)
    exact ⟨y, by simpa using h3, h4⟩
theorem RVs.append : ∀ {l m : List D} {xs ys : List V}, RVs g w n l xs → RVs g w n m ys → RVs g w n (l ++ m) (xs ++ ys)
  | [], _, xs, _, h, k => by rw [rvs_nil.mp h]; exact k
  | d :: l, m, xs, ys, h, k => by
    obtain ⟨x, r, rfl, h1, h2⟩ := rvs_cons.mp h
    exact RVs.mk h1 (RVs.append h2 k)
theorem RVs.drop : ∀ {l : List D} {xs : List V} (k : Nat), RVs g w n l xs → RVs g w n (l.drop k) (xs.drop k)
  | _, _, 0, h => h
  | [], xs, k + 1, h => by rw [rvs_nil.mp h]; exact RVs.nil
  | d :: l, xs, k + 1, h => by
    obtain ⟨x, r, rfl, _, h2⟩ := rvs_cons.mp h
    exact RVs.drop k h2
theorem RVs.take : ∀ {l : List D} {xs : List V} (k : Nat), RVs g w n l xs → RVs g w n (l.take k) (xs.take k)
  | l, xs, 0, h => by rw [List.take_zero, List.take_zero]; exact RVs.nil
  | [], xs, k + 1, h => by rw [rvs_nil.mp h]; exact RVs.nil
  | d :: l, xs, k + 1, h => by
    obtain ⟨x, r, rfl, h1, h2⟩ := rvs_cons.mp h
    exact RVs.mk h1 (RVs.take k h2)
theorem RVs.set : ∀ {l : List D} {xs : List V} (k : Nat) {d : D} {x : V}, RVs g w n l xs → RV g w n d x → RVs g w n (l.set k d) (xs.set k x)
  | [], xs, k, _, _, h, _ => by rw [rvs_nil.mp h]; exact RVs.nil
  | d :: l, xs, 0, _, _, h, q => by
    obtain ⟨x, r, rfl, _, h2⟩ := rvs_cons.mp h
    exact RVs.mk q h2
  | d :: l, xs, k + 1, _, _, h, q => by
    obtain ⟨x, r, rfl, h1, h2⟩ := rvs_cons.mp h
    exact RVs.mk h1 (RVs.set k h2 q)
theorem RVs.cut {l : List D} {xs : List V} (h : RVs g w n l xs) (lo hi : Option Int) : RVs g w n (cut l lo hi) (cutV xs lo hi) := by
  unfold Rk.cut cutV
  rw [h.length]
  exact (h.drop _).take _
end
/-- the heap's cells -/
def RC (g : Gi) (w : Wd) (n : Nat) (H : Hp) (a : Addr) : Cell → Prop
  | .no => True
  | .lst l => (w.F a = none ∧ w.Z a = none) ∧ ∃ xs, H a = some (.lst xs) ∧ RVs g w n l xs
  | .ins c fs => (w.F a = none ∧ w.Z a = none) ∧ ∃ dx gs, (w.F dx = none ∧ w.Z dx = none) ∧ H a = some (.ins (g.cb c) dx gs) ∧ H dx = some (.own a) ∧ RVf g w n fs gs
  | .dct _ => False
/-- a table of code objects -/
structure TabI (w : Wd) (H : Hp) (p : Addr × Str) : Prop where
  nF : w.F p.1 = none
  nZ : w.Z p.1 = none
  tab : ∃ ps : Array Value, H p.1 = some (.tbl ps) ∧ TriplesOk ps.toList ∧ ∀ (pos : Pos) (cv : Value), codeAmong pos ps.toList = some cv → ∃ c, cv = .ref c ∧ w.F c = some (LamX.CodeO c p.2)
theorem TabI.to {w w' : Wd} {H H' : Hp} {p : Addr × Str} (t : TabI w H p) (eF : ∀ a o, w.F a = some o → w'.F a = some o) (nF : w'.F p.1 = none) (nZ : w'.Z p.1 = none) (eH : H' p.1 = H p.1) : TabI w' H' p := by
  obtain ⟨ps, h1, h2, h3⟩ := t.tab
  refine ⟨nF, nZ, ps, eH.trans h1, h2, fun pos cv hc => ?_⟩
  obtain ⟨c, e1, e2⟩ := h3 pos cv hc
  exact ⟨c, e1, eF _ _ e2⟩
theorem TabI.ne {w : Wd} {H : Hp} {p : Addr × Str} (t : TabI w H p) {a : Addr} (h : H a = none) : p.1 ≠ a := fun z => by
  obtain ⟨ps, h1, _⟩ := t.tab
  rw [z, h] at h1; cases h1
theorem TabI.ne2 {w : Wd} {H : Hp} {p : Addr × Str} (t : TabI w H p) {a : Addr} {o : HO} (h : H a = some o) (n : ∀ ps, o ≠ .tbl ps) : p.1 ≠ a := fun z => by
  obtain ⟨ps, h1, _⟩ := t.tab
  rw [z, h] at h1
  exact n ps (Option.some.inj h1)
structure RR (g : Gi) (w : Wd) (h : AH) (H : Hp) : Prop where
  sub : ∀ a o, w.F a = some o → H a = some o
  subz : ∀ a o, w.Z a = some o → H a = some o ∧ w.F a = none
  cell : ∀ k, k < h.nx → RC g w h.nx H (w.m k) (h.cell k)
  inj : ∀ j k, j < h.nx → k < h.nx → w.m j = w.m k → j = k
  oc : ∀ k, k < h.nx → H (w.m k) ≠ none
  tabs : ∀ p ∈ g.tabs, TabI w H p
/-- a lambda's parameters: none; one with a number as its default -/
def lamP : Arguments → Option (Option (Str × Int))
  | ⟨[], [], none, [], [], none, []⟩ => some none
  | ⟨[], [⟨y, none, _⟩], none, [], [], none, [.Constant (.int i) _ _]⟩ => some (some (y, i))
  | _ => none
/-- at f: a lambda of the frame -/
def LamO (f : Addr) (q : Str) (L : LamI) (cells : List (Str × Addr)) (c' : Addr) (dV : Value) : HO := .ext fun h => ∃ (doc pm ctv : Value), h.get? f = some (PySem.W.kdv_obj "<lambda>" q L.params (.expr L.body) L.scope (cloFrom cells L.scope.names []) dV doc pm c' ctv)
/-- its defaults -/
def LamD (F : Hp) (L : LamI) (dV : Value) : Prop := lamP L.params = some none ∧ dV = .none ∨ ∃ (y : Str) (i : Int) (T : Addr), lamP L.params = some (some (y, i)) ∧ dV = .ref T ∧ F T = some (.tup [.int i])
def LamV (g : Gi) (w : Wd) (k : Nat) (v : V) : Prop := ∃ (f c' : Addr) (L : LamI) (dV : Value), v = .ref f ∧ g.lamOk k L ∧ w.F f = some (LamO f (g.qual ++ "<lambda>") L g.cells c' dV) ∧ w.F c' = some (LamX.CodeO c' (g.qual ++ "<lambda>")) ∧ LamD w.F L dV
def LamVs (g : Gi) (w : Wd) : List Nat → List V → Prop
  | [], xs => xs = []
  | k :: ks, xs => ∃ x r, xs = x :: r ∧ LamV g w k x ∧ LamVs g w ks r
/-- what a slot holds: a value, the exception that is handled, a list of lambdas -/
def RS (g : Gi) (w : Wd) (n : Nat) : Sl → Option V → Prop
  | .no, _ => True
  | .v d, o => ∃ v, o = some v ∧ RV g w n d v
  | .exc c fs, o => ∃ (a dd : Addr) (oe : Obj) (gs : List (Str × V)), o = some (.ref a) ∧ (a, oe) ∈ g.pn ∧ Zc (.ref (g.ca c)) (some dd) oe ∧ (∃ vs, oe.data = .fields vs) ∧ w.F dd = some (.xd gs) ∧ RVf g w n fs gs ∧ g.xk c
  | .lams ks, o => ∃ (a : Addr) (xs : List V), o = some (.ref a) ∧ w.F a = some (.lst xs) ∧ LamVs g w ks xs
  | .me, o => ∃ x, g.me = some x ∧ o = some (.ref x)
structure RE (g : Gi) (w : Wd) (n : Nat) (env : Env) (σ : L2.St) : Prop where
  len : env.length = σ.length
  at' : ∀ (i : Nat) (d : Sl) (o : Option V), env[i]? = some d → σ[i]? = some o → RS g w n d o
theorem RE.at_ {g : Gi} {w : Wd} {n : Nat} {env : Env} {σ : L2.St} (r : RE g w n env σ) (i : Nat) (d : D) (e : env[i]? = some (.v d)) : ∃ v, σ[i]? = some (some v) ∧ RV g w n d v := by
  have hi : i < σ.length := by rw [← r.len]; exact (List.getElem?_eq_some_iff.mp e).1
  obtain ⟨v, hv, rv⟩ := r.at' i _ _ e (List.getElem?_eq_getElem hi)
  exact ⟨v, by rw [List.getElem?_eq_getElem hi, hv], rv⟩
theorem LamV.ext {g : Gi} {w w' : Wd} (e : ∀ a o, w.F a = some o → w'.F a = some o) {k : Nat} {v : V} (h : LamV g w k v) : LamV g w' k v := by
  obtain ⟨f, c', L, dV, h1, h2, h3, h4, h5⟩ := h
  refine ⟨f, c', L, dV, h1, h2, e _ _ h3, e _ _ h4, ?_⟩
  rcases h5 with h5 | ⟨y, i, T, a1, a2, a3⟩
  · exact .inl h5
  · exact .inr ⟨y, i, T, a1, a2, e _ _ a3⟩
theorem LamVs.ext {g : Gi} {w w' : Wd} (e : ∀ a o, w.F a = some o → w'.F a = some o) : ∀ {ks : List Nat} {xs : List V}, LamVs g w ks xs → LamVs g w' ks xs
  | [], xs, h => h
  | k :: ks, xs, h => by
    obtain ⟨x, r, h1, h2, h3⟩ := h
    exact ⟨x, r, h1, h2.ext e, LamVs.ext e h3⟩
theorem RS.extF {g : Gi} {w w' : Wd} {n n' : Nat} (x : ExtF w n w' n') {d : Sl} {o : Option V} (h : RS g w n d o) : RS g w' n' d o := by
  cases d with
  | no => trivial
  | me => exact h
  | exc c fs =>
    obtain ⟨a, dd, oe, gs, h1, h2, h3, h4, h5, h6, h7⟩ := h
    exact ⟨a, dd, oe, gs, h1, h2, h3, h4, x.F _ _ h5, RVf.extF x _ _ h6, h7⟩
  | lams ks =>
    obtain ⟨a, xs, h1, h2, h3⟩ := h
    exact ⟨a, xs, h1, x.F _ _ h2, h3.ext x.F⟩
  | v d =>
    obtain ⟨v, h1, h2⟩ := h
    exact ⟨v, h1, RV.extF x _ _ h2⟩
section
variable {g : Gi} {w w' : Wd} {h h' : AH} {H H' : Hp} {n n' : Nat} {env : Env} {σ : L2.St}
theorem RE.ext (r : RE g w n env σ) (x : Ext w n w' n') : RE g w' n' env σ := ⟨r.len, fun i d o e1 e2 => (r.at' i d o e1 e2).extF x.f⟩
theorem RE.setS (r : RE g w n env σ) (i : Nat) {d : Sl} {o : Option V} (q : RS g w n d o) : RE g w n (env.set i d) (σ.set i o) := by
  refine ⟨by simp [r.len], fun j e u h1 h2 => ?_⟩
  by_cases hj : i = j
  · subst hj
    by_cases hi : i < env.length
    · rw [List.getElem?_set_self hi] at h1
      rw [List.getElem?_set_self (r.len ▸ hi)] at h2
      cases h1; cases h2
      exact q
    · rw [List.getElem?_eq_none (by simpa using hi)] at h1
      cases h1
  · rw [List.getElem?_set_ne hj] at h1 h2
    exact r.at' j e u h1 h2
theorem RE.set (r : RE g w n env σ) (i : Nat) {d : D} {v : V} (q : RV g w n d v) : RE g w n (env.set i (.v d)) (σ.set i (some v)) := r.setS i ⟨v, rfl, q⟩
/-- a slot emptied -/
theorem RE.gone (r : RE g w n env σ) (i : Nat) {o : Option V} : RE g w n (env.set i .no) (σ.set i o) := r.setS i trivial
/-- a slot forgotten -/
theorem RE.forget (r : RE g w n env σ) (i : Nat) : RE g w n (env.set i .no) σ := by
  refine ⟨by simp [r.len], fun j e u h1 h2 => ?_⟩
  by_cases hj : i = j
  · subst hj
    by_cases hi : i < env.length
    · rw [List.getElem?_set_self hi] at h1
      cases h1
      trivial
    · rw [List.getElem?_eq_none (by simpa using hi)] at h1
      cases h1
  · rw [List.getElem?_set_ne hj] at h1
    exact r.at' j e u h1 h2
/-- a cell's word in another world -/
theorem RC.to {a : Addr} {c : Cell} (q : RC g w n H a c) (x : Ext w n w' n') (hF : ∀ b, H b ≠ none → w.F b = none → w.Z b = none → w'.F b = none ∧ w'.Z b = none) (keep : ∀ b o, H b = some o → w.F b = none → w.Z b = none → H' b = some o) : RC g w' n' H' a c := by
  cases c with
  | no => trivial
  | lst l =>
    obtain ⟨q1, xs, q2, q3⟩ := q
    exact ⟨hF _ (by rw [q2]; exact fun z => nomatch z) q1.1 q1.2, xs, keep _ _ q2 q1.1 q1.2, RVs.ext x l xs q3⟩
  | ins c fs =>
    obtain ⟨q1, dx, gs, q4, q2, q5, q3⟩ := q
    exact ⟨hF _ (by rw [q2]; exact fun z => nomatch z) q1.1 q1.2, dx, gs, hF _ (by rw [q5]; exact fun z => nomatch z) q4.1 q4.2, keep _ _ q2 q1.1 q1.2, keep _ _ q5 q4.1 q4.2, RVf.ext x fs gs q3⟩
  | dct l => exact q
theorem RR.noF (r : RR g w h H) {p : Addr} (hp : H p = none) : w.F p = none := by
  cases e : w.F p with
  | none => rfl
  | some u => rw [r.sub p u e] at hp; cases hp
theorem RR.noZ (r : RR g w h H) {p : Addr} (hp : H p = none) : w.Z p = none := by
  cases e : w.Z p with
  | none => rfl
  | some u => rw [(r.subz p u e).1] at hp; cases hp
/-- a new thing that never changes -/
theorem RR.freeze (r : RR g w h H) {p : Addr} {o : HO} (hp : H p = none) : RR g ⟨w.m, upd w.F p o, w.Z⟩ h (upd H p o) ∧ Ext w h.nx ⟨w.m, upd w.F p o, w.Z⟩ h.nx := by
  have fp := r.noF hp
  have zp := r.noZ hp
  have x : Ext w h.nx ⟨w.m, upd w.F p o, w.Z⟩ h.nx := ⟨Nat.le_refl _, fun _ _ => rfl, fun a u e => by
    show upd w.F p o a = some u
    rw [upd_ne (ne_of_none e fp)]; exact e, fun _ _ e => e⟩
  have nm : ∀ k, k < h.nx → w.m k ≠ p := fun k hk e => r.oc k hk (by rw [e]; exact hp)
  refine ⟨⟨fun a u e => ?_, fun a u e => ?_, fun k hk => ?_, r.inj, fun k hk e => ?_, fun q hq => (r.tabs q hq).to x.F (by show upd w.F p o q.1 = none; rw [upd_ne ((r.tabs q hq).ne hp)]; exact (r.tabs q hq).nF) (r.tabs q hq).nZ (upd_ne ((r.tabs q hq).ne hp))⟩, x⟩
  · by_cases ha : a = p
    · subst ha
      have e : upd w.F a o a = some u := e
      rw [upd_same] at e ⊢
      exact e
    · have e : upd w.F p o a = some u := e
      rw [upd_ne ha] at e ⊢
      exact r.sub a u e
  · have ha : a ≠ p := ne_of_none e zp
    obtain ⟨e1, e2⟩ := r.subz a u e
    exact ⟨by rw [upd_ne ha]; exact e1, by show upd w.F p o a = none; rw [upd_ne ha]; exact e2⟩
  · refine (r.cell k hk).to x (fun b hb e1 e2 => ?_) (fun b u e e1 e2 => by rw [upd_ne (ne_of_none e hp)]; exact e)
    have hbp : b ≠ p := fun z => hb (by rw [z]; exact hp)
    exact ⟨by show upd w.F p o b = none; rw [upd_ne hbp]; exact e1, e2⟩
  · have e : upd H p o (w.m k) = none := e
    rw [upd_ne (nm k hk)] at e
    exact r.oc k hk e
/-- a new cell -/
theorem RR.alloc (r : RR g w h H) {p : Addr} {l : List D} {xs : List V} (hp : H p = none) (q : RVs g w h.nx l xs) :
    RR g ⟨fun k => if k = h.nx then p else w.m k, w.F, w.Z⟩ (h.new (.lst l)) (upd H p (.lst xs)) ∧ Ext w h.nx ⟨fun k => if k = h.nx then p else w.m k, w.F, w.Z⟩ (h.nx + 1) := by
  have fp := r.noF hp
  have zp := r.noZ hp
  have x : Ext w h.nx ⟨fun k => if k = h.nx then p else w.m k, w.F, w.Z⟩ (h.nx + 1) := ⟨Nat.le_succ _, fun k hk => if_neg (Nat.ne_of_lt hk), fun _ _ e => e, fun _ _ e => e⟩
  have nm : ∀ k, k < h.nx → w.m k ≠ p := fun k hk e => r.oc k hk (by rw [e]; exact hp)
  have keep : ∀ a u, H a = some u → upd H p (.lst xs) a = some u := fun a u e => by rw [upd_ne (ne_of_none e hp)]; exact e
  refine ⟨⟨fun a u e => keep _ _ (r.sub a u e), fun a u e => ⟨keep _ _ (r.subz a u e).1, (r.subz a u e).2⟩, fun k hk => ?_, fun j k hj hk e => ?_, fun k hk => ?_, fun q hq => (r.tabs q hq).to (fun _ _ e => e) (r.tabs q hq).nF (r.tabs q hq).nZ (upd_ne ((r.tabs q hq).ne hp))⟩, x⟩
  · show RC g _ (h.nx + 1) _ (if k = h.nx then p else w.m k) (if k = h.nx then Cell.lst l else h.cell k)
    by_cases e : k = h.nx
    · rw [if_pos e, if_pos e]
      exact ⟨⟨fp, zp⟩, xs, upd_same, RVs.ext x l xs q⟩
    · rw [if_neg e, if_neg e]
      have hk' : k < h.nx := by have : k < h.nx + 1 := hk; omega
      exact (r.cell k hk').to x (fun b _ e1 e2 => ⟨e1, e2⟩) fun b u e _ _ => keep b u e
  · have hj : j < h.nx + 1 := hj
    have hk : k < h.nx + 1 := hk
    have e : (if j = h.nx then p else w.m j) = (if k = h.nx then p else w.m k) := e
    by_cases e1 : j = h.nx <;> by_cases e2 : k = h.nx
    · rw [e1, e2]
    · rw [if_pos e1, if_neg e2] at e
      exact absurd e.symm (nm k (by omega))
    · rw [if_neg e1, if_pos e2] at e
      exact absurd e (nm j (by omega))
    · rw [if_neg e1, if_neg e2] at e
      exact r.inj j k (by omega) (by omega) e
  · show upd H p (.lst xs) (if k = h.nx then p else w.m k) ≠ none
    have hk : k < h.nx + 1 := hk
    by_cases e : k = h.nx
    · rw [if_pos e, upd_same]; exact fun z => nomatch z
    · rw [if_neg e, upd_ne (nm k (by omega))]
      exact r.oc k (by omega)
/-- a list cell is stored -/
theorem RR.store (r : RR g w h H) {k : Nat} {l l' : List D} {xs : List V} (hk : k < h.nx) (e : h.cell k = .lst l) (q : RVs g w h.nx l' xs) :
    RR g w (h.put k (.lst l')) (upd H (w.m k) (.lst xs)) := by
  have c := r.cell k hk
  rw [e] at c
  obtain ⟨c1, ys, c2, c3⟩ := c
  have nF : ∀ a u, w.F a = some u → a ≠ w.m k := fun a u e z => by rw [z, c1.1] at e; cases e
  have nZ : ∀ a u, w.Z a = some u → a ≠ w.m k := fun a u e z => by rw [z, c1.2] at e; cases e
  refine ⟨fun a u e => by rw [upd_ne (nF a u e)]; exact r.sub a u e, fun a u e => by rw [upd_ne (nZ a u e)]; exact r.subz a u e, fun j hj => ?_, r.inj, fun j hj => ?_, fun q hq => (r.tabs q hq).to (fun _ _ e => e) (r.tabs q hq).nF (r.tabs q hq).nZ (upd_ne ((r.tabs q hq).ne2 c2 fun _ z => nomatch z))⟩
  · show RC g w h.nx _ (w.m j) (if j = k then Cell.lst l' else h.cell j)
    by_cases e2 : j = k
    · subst e2
      rw [if_pos rfl]
      exact ⟨c1, xs, upd_same, q⟩
    · rw [if_neg e2]
      have nj : w.m j ≠ w.m k := fun z => e2 (r.inj j k hj hk z)
      have q := r.cell j hj
      cases ec : h.cell j with
      | no => trivial
      | lst m =>
        rw [ec] at q
        obtain ⟨q1, zs, q2, q3⟩ := q
        exact ⟨q1, zs, by rw [upd_ne nj]; exact q2, q3⟩
      | ins c fs =>
        rw [ec] at q
        obtain ⟨q1, dx, gs, q4, q2, q5, q3⟩ := q
        have nd : dx ≠ w.m k := fun z => by rw [z, c2] at q5; cases q5
        exact ⟨q1, dx, gs, q4, by rw [upd_ne nj]; exact q2, by rw [upd_ne nd]; exact q5, q3⟩
      | dct l => rw [ec] at q; exact q
  · by_cases e2 : j = k
    · subst e2
      rw [upd_same]; exact fun z => nomatch z
    · rw [upd_ne fun z => e2 (r.inj j k hj hk z)]
      exact r.oc j hj
/-- a list cell is given up: what it holds stays -/
theorem RR.still (r : RR g w h H) {k : Nat} {l : List D} {xs : List V} (hk : k < h.nx) (e : h.cell k = .lst l) (q1 : H (w.m k) = some (.lst xs)) :
    RR g ⟨w.m, upd w.F (w.m k) (.lst xs), w.Z⟩ (h.put k .no) H ∧ Ext w h.nx ⟨w.m, upd w.F (w.m k) (.lst xs), w.Z⟩ (h.put k .no).nx := by
  have c := r.cell k hk
  rw [e] at c
  obtain ⟨c1, ys, c2, c3⟩ := c
  have eF : ∀ a u, w.F a = some u → upd w.F (w.m k) (.lst xs) a = some u := fun a u e => by rw [upd_ne fun z => by rw [z, c1.1] at e; cases e]; exact e
  have x : Ext w h.nx ⟨w.m, upd w.F (w.m k) (.lst xs), w.Z⟩ h.nx := ⟨Nat.le_refl _, fun _ _ => rfl, eF, fun _ _ e => e⟩
  have tn : ∀ q ∈ g.tabs, q.1 ≠ w.m k := fun q hq z => by
    obtain ⟨ps, h1, _⟩ := (r.tabs q hq).tab
    rw [z, q1] at h1
    cases h1
  refine ⟨⟨fun a u e => ?_, fun a u e => ?_, fun j hj => ?_, r.inj, r.oc, fun q hq => (r.tabs q hq).to eF (by show upd w.F (w.m k) _ q.1 = none; rw [upd_ne (tn q hq)]; exact (r.tabs q hq).nF) (r.tabs q hq).nZ rfl⟩, x⟩
  · by_cases ha : a = w.m k
    · subst ha
      have e : upd w.F (w.m k) (.lst xs) (w.m k) = some u := e
      rw [upd_same] at e
      cases e
      exact q1
    · have e : upd w.F (w.m k) (.lst xs) a = some u := e
      rw [upd_ne ha] at e
      exact r.sub a u e
  · refine ⟨(r.subz a u e).1, ?_⟩
    show upd w.F (w.m k) (.lst xs) a = none
    rw [upd_ne fun z => by rw [z, c1.2] at e; cases e]
    exact (r.subz a u e).2
  · show RC g _ h.nx H (w.m j) (if j = k then Cell.no else h.cell j)
    by_cases e2 : j = k
    · rw [if_pos e2]; trivial
    · rw [if_neg e2]
      have nj : w.m j ≠ w.m k := fun z => e2 (r.inj j k hj hk z)
      have q := r.cell j hj
      cases ec : h.cell j with
      | no => trivial
      | lst m =>
        rw [ec] at q
        obtain ⟨q1, zs, q2, q3⟩ := q
        exact ⟨⟨by show upd w.F (w.m k) _ (w.m j) = none; rw [upd_ne nj]; exact q1.1, q1.2⟩, zs, q2, RVs.ext x m zs q3⟩
      | ins c fs =>
        rw [ec] at q
        obtain ⟨q0, dx, gs, q4, q2, q5, q3⟩ := q
        have nd : dx ≠ w.m k := fun z => by rw [z, q1] at q5; cases q5
        exact ⟨⟨by show upd w.F (w.m k) _ (w.m j) = none; rw [upd_ne nj]; exact q0.1, q0.2⟩, dx, gs, ⟨by show upd w.F (w.m k) _ dx = none; rw [upd_ne nd]; exact q4.1, q4.2⟩, q2, q5, RVf.ext x fs gs q3⟩
      | dct l => rw [ec] at q; exact q
/-- a thing at the side: new, changed, then frozen -/
theorem RR.side (r : RR g w h H) {p : Addr} {o : HO} (hp : H p = none) : RR g ⟨w.m, w.F, upd w.Z p o⟩ h (upd H p o) ∧ Ext w h.nx ⟨w.m, w.F, upd w.Z p o⟩ h.nx := by
  have fp := r.noF hp
  have zp := r.noZ hp
  have x : Ext w h.nx ⟨w.m, w.F, upd w.Z p o⟩ h.nx := ⟨Nat.le_refl _, fun _ _ => rfl, fun _ _ e => e, fun a u e => by
    show upd w.Z p o a = some u
    rw [upd_ne (ne_of_none e zp)]; exact e⟩
  refine ⟨⟨fun a u e => by rw [upd_ne (ne_of_none e fp)]; exact r.sub a u e, fun a u e => ?_, fun k hk => ?_, r.inj, fun k hk => ?_, fun q hq => (r.tabs q hq).to (fun _ _ e => e) (r.tabs q hq).nF (by show upd w.Z p o q.1 = none; rw [upd_ne ((r.tabs q hq).ne hp)]; exact (r.tabs q hq).nZ) (upd_ne ((r.tabs q hq).ne hp))⟩, x⟩
  · by_cases ha : a = p
    · subst ha
      have e : upd w.Z a o a = some u := e
      rw [upd_same] at e ⊢
      exact ⟨e, fp⟩
    · have e : upd w.Z p o a = some u := e
      rw [upd_ne ha] at e ⊢
      exact r.subz a u e
  · refine (r.cell k hk).to x (fun b hb e1 e2 => ?_) (fun b u e e1 e2 => by rw [upd_ne (ne_of_none e hp)]; exact e)
    have hbp : b ≠ p := fun z => hb (by rw [z]; exact hp)
    exact ⟨e1, by show upd w.Z p o b = none; rw [upd_ne hbp]; exact e2⟩
  · rw [upd_ne fun e => r.oc k hk (by rw [e]; exact hp)]
    exact r.oc k hk
theorem RR.side2 (r : RR g w h H) {p : Addr} {o o' : HO} (hp : w.Z p = some o) : RR g ⟨w.m, w.F, upd w.Z p o'⟩ h (upd H p o') := by
  have fp := (r.subz p o hp).2
  have tz : ∀ q ∈ g.tabs, q.1 ≠ p := fun q hq z => by
    have := (r.tabs q hq).nZ
    rw [z, hp] at this; cases this
  refine ⟨fun a u e => by rw [upd_ne (ne_of_none e fp)]; exact r.sub a u e, fun a u e => ?_, fun k hk => ?_, r.inj, fun k hk => ?_, fun q hq => (r.tabs q hq).to (fun _ _ e => e) (r.tabs q hq).nF (by show upd w.Z p o' q.1 = none; rw [upd_ne (tz q hq)]; exact (r.tabs q hq).nZ) (upd_ne (tz q hq))⟩
  · by_cases ha : a = p
    · subst ha
      have e : upd w.Z a o' a = some u := e
      rw [upd_same] at e ⊢
      exact ⟨e, fp⟩
    · have e : upd w.Z p o' a = some u := e
      rw [upd_ne ha] at e ⊢
      exact r.subz a u e
  · have q := r.cell k hk
    have nz : ∀ b, w.Z b = none → b ≠ p := fun b e z => by rw [z, hp] at e; cases e
    show RC g _ h.nx _ (w.m k) (h.cell k)
    cases ec : h.cell k with
    | no => trivial
    | lst m =>
      rw [ec] at q
      obtain ⟨q1, zs, q2, q3⟩ := q
      exact ⟨⟨q1.1, by show upd w.Z p o' _ = none; rw [upd_ne (nz _ q1.2)]; exact q1.2⟩, zs, by rw [upd_ne (nz _ q1.2)]; exact q2, RVs.noZ q3⟩
    | ins c fs =>
      rw [ec] at q
      obtain ⟨q1, dx, gs, q4, q2, q5, q3⟩ := q
      exact ⟨⟨q1.1, by show upd w.Z p o' _ = none; rw [upd_ne (nz _ q1.2)]; exact q1.2⟩, dx, gs, ⟨q4.1, by show upd w.Z p o' _ = none; rw [upd_ne (nz _ q4.2)]; exact q4.2⟩, by rw [upd_ne (nz _ q1.2)]; exact q2, by rw [upd_ne (nz _ q4.2)]; exact q5, RVf.noZ q3⟩
    | dct l => rw [ec] at q; exact q
  · by_cases e2 : w.m k = p
    · rw [e2, upd_same]; exact fun z => nomatch z
    · rw [upd_ne e2]
      exact r.oc k hk
/-- what stood at the side never changes from now on -/
theorem RR.sideF (r : RR g w h H) {p : Addr} {o : HO} (hp : w.Z p = some o) : RR g ⟨w.m, upd w.F p o, fun a => if a = p then none else w.Z a⟩ h H := by
  have fp := (r.subz p o hp).2
  have hH := (r.subz p o hp).1
  have eF : ∀ a u, w.F a = some u → upd w.F p o a = some u := fun a u e => by rw [upd_ne (ne_of_none e fp)]; exact e
  have nz : ∀ b, w.Z b = none → b ≠ p := fun b e z => by rw [z, hp] at e; cases e
  have tz : ∀ q ∈ g.tabs, q.1 ≠ p := fun q hq z => by
    have := (r.tabs q hq).nZ
    rw [z, hp] at this; cases this
  refine ⟨fun a u e => ?_, fun a u e => ?_, fun k hk => ?_, r.inj, r.oc, fun q hq => (r.tabs q hq).to eF (by show upd w.F p o q.1 = none; rw [upd_ne (tz q hq)]; exact (r.tabs q hq).nF) (by show (if q.1 = p then none else w.Z q.1) = none; rw [if_neg (tz q hq)]; exact (r.tabs q hq).nZ) rfl⟩
  · by_cases ha : a = p
    · subst ha
      have e : upd w.F a o a = some u := e
      rw [upd_same] at e
      cases e
      exact hH
    · have e : upd w.F p o a = some u := e
      rw [upd_ne ha] at e
      exact r.sub a u e
  · have e : (if a = p then none else w.Z a) = some u := e
    by_cases ha : a = p
    · rw [if_pos ha] at e; cases e
    · rw [if_neg ha] at e
      obtain ⟨e1, e2⟩ := r.subz a u e
      exact ⟨e1, by show upd w.F p o a = none; rw [upd_ne ha]; exact e2⟩
  · have q := r.cell k hk
    have g2 : ∀ b, w.F b = none ∧ w.Z b = none → upd w.F p o b = none ∧ (if b = p then none else w.Z b) = none := fun b hb => ⟨by rw [upd_ne (nz _ hb.2)]; exact hb.1, by rw [if_neg (nz _ hb.2)]; exact hb.2⟩
    show RC g _ h.nx _ (w.m k) (h.cell k)
    cases ec : h.cell k with
    | no => trivial
    | lst m =>
      rw [ec] at q
      obtain ⟨q1, zs, q2, q3⟩ := q
      exact ⟨g2 _ q1, zs, q2, RVs.moreF eF q3⟩
    | ins c fs =>
      rw [ec] at q
      obtain ⟨q1, dx, gs, q4, q2, q5, q3⟩ := q
      exact ⟨g2 _ q1, dx, gs, g2 _ q4, q2, q5, RVf.moreF eF q3⟩
    | dct l => rw [ec] at q; exact q
end

/-! ### what is wanted of a result -/
/-- an exception's data -/
def RX (g : Gi) (w : Wd) (n : Nat) (x : D) (cls : Value) (d : Option Addr) (H : Hp) : Prop := ∃ (c : Nat) (fs : List (Nat × D)) (dd : Addr) (gs : List (Str × V)), x = .exc c fs ∧ cls = .ref (g.ca c) ∧ d = some dd ∧ w.F dd = some (.xd gs) ∧ RVf g w n fs gs ∧ g.xk c
def Post {α : Type} (g : Gi) (w : Wd) (n : Nat) (r : Res α) (X : XK) (P : Wd → AH → Hp → α → Prop) : Prop := match r with
  | .ok a h' => ∀ w' H', Ext w n w' h'.nx → RR g w' h' H' → P w' h' H' a
  | .exc x h' => ∀ w' H' cls d, Ext w n w' h'.nx → RR g w' h' H' → RX g w' h'.nx x cls d H' → X cls d H'
  | .stuck => False
theorem Post.mono {α : Type} {g : Gi} {w : Wd} {n : Nat} {r : Res α} {X : XK} {P P' : Wd → AH → Hp → α → Prop} (h : Post g w n r X P) (k : ∀ w' h' H' a, Ext w n w' h'.nx → RR g w' h' H' → P w' h' H' a → P' w' h' H' a) : Post g w n r X P' := by
  cases r with
  | ok a h' => exact fun w' H' e rr => k w' h' H' a e rr (h w' H' e rr)
  | exc x h' => exact h
  | stuck => exact h
theorem Post.bind {α β : Type} {g : Gi} {w : Wd} {n : Nat} {r : Res α} {f : α → AH → Res β} {X : XK} {P : Wd → AH → Hp → β → Prop} (q : Post g w n (r.bind f) X P) :
    Post g w n r X (fun w1 h1 H1 a => Post g w1 h1.nx (f a h1) X P) := by
  cases r with
  | ok a h1 =>
    intro w1 H1 e1 rr1
    have q : Post g w n (f a h1) X P := q
    cases e : f a h1 with
    | ok b h2 =>
      rw [e] at q
      exact fun w2 H2 e2 rr2 => q w2 H2 (e1.trans e2) rr2
    | exc x h2 =>
      rw [e] at q
      exact fun w2 H2 cls d e2 rr2 rx => q w2 H2 cls d (e1.trans e2) rr2 rx
    | stuck => rw [e] at q; exact q
  | exc x h1 => exact q
  | stuck => exact q
/-- a result at hand -/
theorem Post.now {α : Type} {g : Gi} {w : Wd} {h : AH} {H : Hp} {a : α} {X : XK} {P : Wd → AH → Hp → α → Prop} (q : Post g w h.nx (.ok a h) X P) (rr : RR g w h H) : P w h H a := q w H (Ext.refl _ _) rr
theorem Post.noexc {α : Type} {g : Gi} {w : Wd} {n : Nat} {r : Res α} {X X' : XK} {P : Wd → AH → Hp → α → Prop} (q : Post g w n (noexc r) X P) : Post g w n r X' P := by
  cases r with
  | ok a h => exact q
  | exc x h => exact q.elim
  | stuck => exact q
abbrev PV (g : Gi) (Q : VK) : Wd → AH → Hp → D → Prop := fun w h H d => ∀ x, RV g w h.nx d x → Q x H
abbrev PVs (g : Gi) (Q : List V → Hp → Prop) : Wd → AH → Hp → List D → Prop := fun w h H l => ∀ xs, RVs g w h.nx l xs → Q xs H
abbrev PB (Q : Bool → Hp → Prop) : Wd → AH → Hp → Bool → Prop := fun _ _ H b => Q b H
abbrev PF (g : Gi) (W : L2.WX) (D : Ends) : Wd → AH → Hp → Fl → Prop := fun w h H f => match f with
  | .nx e => ∀ σ, RE g w h.nx e σ → D.nx σ H
  | .bk e => ∀ σ, RE g w h.nx e σ → D.bk σ H
  | .ct e => ∀ σ, RE g w h.nx e σ → D.ct σ H
  | .rt d => ∀ x, RV g w h.nx d x → D.rt x H
  | .xc x e => ∀ σ cls d, RE g w h.nx e σ → RX g w h.nx x cls d H → W cls d σ H
def tE (g : Gi) (X : L2.St → XK) (run : Env → AH → Res D) : TE := fun σ H Q => ∃ w env h, RR g w h H ∧ RE g w h.nx env σ ∧ Post g w h.nx (run env h) (X σ) (PV g Q)
def tEs (g : Gi) (X : L2.St → XK) (run : Env → AH → Res (List D)) : TA := fun σ H Q => ∃ w env h, RR g w h H ∧ RE g w h.nx env σ ∧ Post g w h.nx (run env h) (X σ) (PVs g Q)
def tB' (g : Gi) (X : L2.St → XK) (run : Env → AH → Res Bool) : TT := fun σ H Q => ∃ w env h, RR g w h H ∧ RE g w h.nx env σ ∧ Post g w h.nx (run env h) (X σ) (PB Q)
def tS (g : Gi) (W : L2.WX) (run : Env → AH → Res Fl) : TS := fun D σ H => ∃ w env h, RR g w h H ∧ RE g w h.nx env σ ∧ Post g w h.nx (run env h) (fun _ _ _ => False) (PF g W D)
/-- a promise by what the evaluator yields -/
def spF (g : Gi) (call : Cl) (c : Bool) (f : Nat) : Sp := fun vs H Q E => ∃ w ds h, RR g w h H ∧ RVs g w h.nx ds vs ∧ Post g w h.nx (call.f c f ds h) E (PV g Q)
end Rk

set_option maxHeartbeats 1000000
/-! Rk.C: operators. -/
namespace Rk
open PySem PySem.Spec PyProof.Rows L2
/-! ### data as the library's -/
mutual
def py : D → PyData
  | .bl b => .bool b
  | .int i => .int i
  | .str s => .str (stt s)
  | .tup l => .tuple (pys l)
  | .lst l => .list (pys l)
  | _ => .none
def pys : List D → List PyData
  | [] => []
  | x :: l => py x :: pys l
end
theorem stt_len (s : List Nat) : (stt s).length = s.length := by simp [Str.length]
theorem stt_inj {a b : List Nat} (h : stt a = stt b) : a = b := congrArg (fun x : Str => x.cps.toList) h
theorem stt_eq (a b : List Nat) : (stt a == stt b) = (a == b) := by
  by_cases h : a = b
  · subst h; rw [beq_self_eq_true, beq_self_eq_true]
  · have : ¬ stt a = stt b := fun e => h (stt_inj e)
    rw [beq_eq_false_iff_ne.mpr this, beq_eq_false_iff_ne.mpr h]
section
variable {g : Gi} {w : Wd} {n : Nat} {H : Hp}
mutual
theorem dp_of (sub : ∀ a o, w.F a = some o → H a = some o) : ∀ (k : Nat) (d : D) (v : V), dpt k d = true → RV g w n d v → Dp g.K H v (py d)
  | k, .non, v, _, h => by unfold RV at h; subst h; unfold py; exact .non
  | k, .bl b, v, _, h => by unfold RV at h; subst h; unfold py; exact .bl b
  | k, .int i, v, _, h => by unfold RV at h; subst h; unfold py; exact .int i
  | k, .str s, v, _, h => by unfold RV at h; obtain ⟨rfl, _⟩ := h; unfold py; exact .str _
  | 0, .tup l, v, h, _ => by unfold dpt at h; cases h
  | 0, .lst l, v, h, _ => by unfold dpt at h; cases h
  | k + 1, .tup l, v, h, r => by
    unfold dpt at h; unfold RV at r; unfold py
    obtain ⟨a, xs, rfl, q, r⟩ := r
    exact .tup (SqT.ext sub q) (dps_of sub k l xs h r)
  | k + 1, .lst l, v, h, r => by
    unfold dpt at h; unfold RV at r; unfold py
    obtain ⟨a, xs, rfl, q, r⟩ := r
    exact .lst (SqL.of (sub _ _ q)) (dps_of sub k l xs h r)
  | k, .ref _, _, h, _ => by cases k <;> (unfold dpt at h; cases h)
  | k, .ins _ _, _, h, _ => by cases k <;> (unfold dpt at h; cases h)
  | k, .exc _ _, _, h, _ => by cases k <;> (unfold dpt at h; cases h)
  | k, .scr _, _, h, _ => by cases k <;> (unfold dpt at h; cases h)
  | k, .dct _, _, h, _ => by cases k <;> (unfold dpt at h; cases h)
  | k, .set _, _, h, _ => by cases k <;> (unfold dpt at h; cases h)
theorem dps_of (sub : ∀ a o, w.F a = some o → H a = some o) : ∀ (k : Nat) (l : List D) (xs : List V), dpts k l = true → RVs g w n l xs → DpAll g.K H xs (pys l)
  | k, [], xs, _, h => by rw [rvs_nil.mp h]; unfold pys; exact .nil
  | k, d :: l, xs, h, r => by
    unfold dpts at h
    rw [Bool.and_eq_true] at h
    obtain ⟨x, ys, rfl, h1, h2⟩ := rvs_cons.mp r
    unfold pys
    exact .cons (dp_of sub k d x h.1 h1) (dps_of sub k l ys h.2 h2)
end
mutual
theorem lay_of : ∀ (k : Nat) (d : D) (v : V), dpt k d = true → RV g w n d v → (py d).canLay0 = true ∧ (py d).depth ≤ k
  | k, .non, v, _, h => by unfold py; exact ⟨by simp only [PyData.canLay0], by simp only [PyData.depth]; omega⟩
  | k, .bl b, v, _, h => by unfold py; exact ⟨by simp only [PyData.canLay0], by simp only [PyData.depth]; omega⟩
  | k, .int i, v, _, h => by unfold py; exact ⟨by simp only [PyData.canLay0], by simp only [PyData.depth]; omega⟩
  | k, .str s, v, _, h => by
    unfold RV at h
    obtain ⟨_, h⟩ := h
    unfold py
    refine ⟨?_, by simp only [PyData.depth]; omega⟩
    simp only [PyData.canLay0, PyData.strOk]
    unfold okS at h
    simpa using h
  | 0, .tup l, v, h, _ => by unfold dpt at h; cases h
  | 0, .lst l, v, h, _ => by unfold dpt at h; cases h
  | k + 1, .tup l, v, h, r => by
    unfold dpt at h; unfold RV at r; unfold py
    obtain ⟨a, xs, rfl, q, r⟩ := r
    obtain ⟨h1, h2⟩ := lays_of k l xs h r
    exact ⟨by simp only [PyData.canLay0]; exact h1, by simp only [PyData.depth]; omega⟩
  | k + 1, .lst l, v, h, r => by
    unfold dpt at h; unfold RV at r; unfold py
    obtain ⟨a, xs, rfl, q, r⟩ := r
    obtain ⟨h1, h2⟩ := lays_of k l xs h r
    exact ⟨by simp only [PyData.canLay0]; exact h1, by simp only [PyData.depth]; omega⟩
  | k, .ref _, _, h, _ => by cases k <;> (unfold dpt at h; cases h)
  | k, .ins _ _, _, h, _ => by cases k <;> (unfold dpt at h; cases h)
  | k, .exc _ _, _, h, _ => by cases k <;> (unfold dpt at h; cases h)
  | k, .scr _, _, h, _ => by cases k <;> (unfold dpt at h; cases h)
  | k, .dct _, _, h, _ => by cases k <;> (unfold dpt at h; cases h)
  | k, .set _, _, h, _ => by cases k <;> (unfold dpt at h; cases h)
theorem lays_of : ∀ (k : Nat) (l : List D) (xs : List V), dpts k l = true → RVs g w n l xs → PyData.canLayAll0 (pys l) = true ∧ PyData.depthAll (pys l) ≤ k
  | k, [], xs, _, h => by unfold pys; exact ⟨by simp only [PyData.canLayAll0], by simp only [PyData.depthAll]; omega⟩
  | k, d :: l, xs, h, r => by
    unfold dpts at h
    rw [Bool.and_eq_true] at h
    obtain ⟨x, ys, rfl, h1, h2⟩ := rvs_cons.mp r
    unfold pys
    obtain ⟨a1, a2⟩ := lay_of k d x h.1 h1
    obtain ⟨b1, b2⟩ := lays_of k l ys h.2 h2
    exact ⟨by simp only [PyData.canLayAll0, a1, b1, Bool.and_self], by simp only [PyData.depthAll]; omega⟩
end
theorem shaped_of {d : D} {v : V} (h : dpt 60 d = true) (r : RV g w n d v) : SeqAt.shaped (py d) = true := by
  obtain ⟨h1, h2⟩ := lay_of 60 d v h r
  unfold SeqAt.shaped
  rw [h1, decide_eq_true (show (py d).depth ≤ 64 by omega)]
  rfl
mutual
theorem deq_py : ∀ (k : Nat) (d e : D), dpt k d = true → (∃ j, dpt j e = true) → deq d e = PyData.eqv (py d) (py e)
  | k, .non, e, _, he => by
    obtain ⟨j, he⟩ := he
    cases e <;> first | (unfold deq py PyData.eqv; rfl) | (cases j <;> (unfold dpt at he; cases he))
  | k, .bl b, e, _, he => by
    obtain ⟨j, he⟩ := he
    cases e <;> first | (unfold deq py PyData.eqv; rfl) | (cases j <;> (unfold dpt at he; cases he))
  | k, .int b, e, _, he => by
    obtain ⟨j, he⟩ := he
    cases e <;> first | (unfold deq py PyData.eqv; rfl) | (cases j <;> (unfold dpt at he; cases he))
  | k, .str b, e, _, he => by
    obtain ⟨j, he⟩ := he
    cases e <;> first | (unfold deq py PyData.eqv; first | rfl | exact (stt_eq _ _).symm) | (cases j <;> (unfold dpt at he; cases he))
  | 0, .tup l, v, h, _ => by unfold dpt at h; cases h
  | 0, .lst l, v, h, _ => by unfold dpt at h; cases h
  | k + 1, .tup l, e, h, he => by
    obtain ⟨j, he⟩ := he
    unfold dpt at h
    cases e with
    | tup m =>
      cases j with
      | zero => unfold dpt at he; cases he
      | succ j => unfold dpt at he; unfold deq py PyData.eqv; exact deqs_py k l m h ⟨j, he⟩
    | _ => first | (unfold deq py PyData.eqv; rfl) | (cases j <;> (unfold dpt at he; cases he))
  | k + 1, .lst l, e, h, he => by
    obtain ⟨j, he⟩ := he
    unfold dpt at h
    cases e with
    | lst m =>
      cases j with
      | zero => unfold dpt at he; cases he
      | succ j => unfold dpt at he; unfold deq py PyData.eqv; exact deqs_py k l m h ⟨j, he⟩
    | _ => first | (unfold deq py PyData.eqv; rfl) | (cases j <;> (unfold dpt at he; cases he))
  | k, .ref _, _, h, _ => by cases k <;> (unfold dpt at h; cases h)
  | k, .ins _ _, _, h, _ => by cases k <;> (unfold dpt at h; cases h)
  | k, .exc _ _, _, h, _ => by cases k <;> (unfold dpt at h; cases h)
  | k, .scr _, _, h, _ => by cases k <;> (unfold dpt at h; cases h)
  | k, .dct _, _, h, _ => by cases k <;> (unfold dpt at h; cases h)
  | k, .set _, _, h, _ => by cases k <;> (unfold dpt at h; cases h)
theorem deqs_py : ∀ (k : Nat) (l m : List D), dpts k l = true → (∃ j, dpts j m = true) → deqs l m = PyData.eqvAll (pys l) (pys m)
  | k, [], [], _, _ => by unfold deqs pys PyData.eqvAll; rfl
  | k, [], _ :: _, _, _ => by unfold deqs pys PyData.eqvAll; rfl
  | k, _ :: _, [], _, _ => by unfold deqs pys PyData.eqvAll; rfl
  | k, d :: l, e :: m, h, hm => by
    obtain ⟨j, hm⟩ := hm
    unfold dpts at h hm
    rw [Bool.and_eq_true] at h hm
    unfold deqs pys PyData.eqvAll
    rw [deq_py k d e h.1 ⟨j, hm.1⟩, deqs_py k l m h.2 ⟨j, hm.2⟩]
end
theorem pys_any {d : D} (hd : ∃ j, dpt j d = true) : ∀ {k : Nat} {l : List D}, dpts k l = true → ((pys l).any fun z => PyData.eqv z (py d)) = l.any fun z => deq z d
  | k, [], _ => by unfold pys; rfl
  | k, e :: l, h => by
    unfold dpts at h
    rw [Bool.and_eq_true] at h
    unfold pys
    rw [List.any_cons, List.any_cons, pys_any hd h.2, deq_py k e d h.1 hd]
end

/-! ### contexts -/
structure GX (g : Gi) (c : Bool) (k : Nat) (X : Cx) : Prop where
  K : X.K = g.K
  calm : c = true → X.calm = true
  dp : X.A.depth + 3 * k + 5 < recursionLimit
  un : X.A.units + 16 * k + 200 < cLine
  gd : X.A.guards = some []
  nd : X.N.Nodup
/-- an operation of two values by the evaluator's -/
def rO (g : Gi) (E : XK) (f : D → D → AH → Res D) : R2 := fun x y H Q => ∃ w h d e, RR g w h H ∧ RV g w h.nx d x ∧ RV g w h.nx e y ∧ Post g w h.nx (f d e h) E (PV g Q)
theorem _root_.L2.PE.imp {X : Cx} {e : Expr} {t t' : TE} (h : PE X e t) (k : ∀ σ H Q, t' σ H Q → t σ H Q) : PE X e t' := ⟨fun pins s σ H Q I q => h.run pins s σ H Q I (k _ _ _ q)⟩
theorem _root_.L2.PT.imp {X : Cx} {e : Expr} {t t' : TT} (h : PT X e t) (k : ∀ σ H Q, t' σ H Q → t σ H Q) : PT X e t' := ⟨fun pins s σ H Q I q => h.run pins s σ H Q I (k _ _ _ q)⟩
theorem _root_.L2.PS.imp {X : Cx} {e : Stmt} {t t' : TS} (h : PS X e t) (k : ∀ D σ H, t' D σ H → t D σ H) : PS X e t' := ⟨fun pins s σ H D I q => h.run pins s σ H D I (k _ _ _ q)⟩
theorem _root_.L2.PSs.imp {X : Cx} {e : List Stmt} {t t' : TS} (h : PSs X e t) (k : ∀ D σ H, t' D σ H → t D σ H) : PSs X e t' := ⟨fun pins s σ H D I q => h.run pins s σ H D I (k _ _ _ q)⟩
theorem _root_.L2.PA.imp {X : Cx} {es : List Expr} {t t' : TA} (h : PA X es t) (k : ∀ σ H Q, t' σ H Q → t σ H Q) : PA X es t' := ⟨fun pos pins s σ H Q I q => h.run pos pins s σ H Q I (k _ _ _ q)⟩
theorem _root_.L2.OpR.imp {X : Cx} {f : Value → Value → Sem Value} {r r' : R2} (h : OpR X f r) (k : ∀ x y H Q, r' x y H Q → r x y H Q) : OpR X f r' := fun pins s σ H x y v u Q I rx ry q => h pins s σ H x y v u Q I rx ry (k _ _ _ _ q)

section
variable {g : Gi} {w : Wd} {h : AH} {H : Hp} {n : Nat} {x y : V} {Q : VK} {E : XK}
theorem rv_int {i : Int} : RV g w n (.int i) x ↔ x = .int i := by unfold RV; exact Iff.rfl
theorem rv_bl {b : Bool} : RV g w n (.bl b) x ↔ x = .bl b := by unfold RV; exact Iff.rfl
theorem rv_non : RV g w n .non x ↔ x = .non := by unfold RV; exact Iff.rfl
theorem rv_str {s : List Nat} : RV g w n (.str s) x ↔ x = .str (stt s) ∧ okS s = true := by unfold RV; exact Iff.rfl
theorem rv_tup {l : List D} : RV g w n (.tup l) x ↔ ∃ a xs, x = .ref a ∧ SqT g.K w.F a xs ∧ RVs g w n l xs := by unfold RV; exact Iff.rfl
theorem rv_lst {l : List D} : RV g w n (.lst l) x ↔ ∃ a xs, x = .ref a ∧ w.F a = some (.lst xs) ∧ RVs g w n l xs := by unfold RV; exact Iff.rfl
theorem rv_ref {k : Nat} : RV g w n (.ref k) x ↔ x = .ref (w.m k) ∧ k < n := by unfold RV; exact Iff.rfl
theorem rv_scr {l : List Int} : RV g w n (.scr l) x ↔ ∃ a, x = .ref a ∧ SqL g.K w.F a (l.map V.int) := by unfold RV; exact Iff.rfl
/-- a value without a heap's help is handed on -/
theorem pv_now {d : D} (q : Post g w h.nx (.ok d h) E (PV g Q)) (rr : RR g w h H) (rv : RV g w h.nx d x) : Q x H := q.now rr x rv
/-- a new frozen thing is handed on -/
theorem pv_frz {d : D} {o : HO} {p : Addr} (q : Post g w h.nx (.ok d h) E (PV g Q)) (rr : RR g w h H) (hp : H p = none)
    (rv : RV g ⟨w.m, upd w.F p o, w.Z⟩ h.nx d (.ref p)) : Q (.ref p) (upd H p o) := by
  obtain ⟨r2, x⟩ := rr.freeze (o := o) hp
  exact q _ _ x r2 _ rv
theorem okS_app {a b : List Nat} (ha : okS a = true) (hb : okS b = true) : okS (a ++ b) = true := by
  unfold okS at *
  rw [List.all_append, ha, hb]
  rfl
theorem sizeL : sizeLine = line := by rw [sizeLine_eq]; rfl
theorem stt_app (a b : List Nat) : stt a ++ stt b = stt (a ++ b) := by
  show Str.append _ _ = _
  unfold Str.append stt
  simp
theorem rvs_ne {l : List D} {xs : List V} (r : RVs g w n l xs) : xs = [] ↔ l = [] := by
  cases l with
  | nil => rw [rvs_nil.mp r]; simp
  | cons d l =>
    obtain ⟨x, ys, rfl, _, _⟩ := rvs_cons.mp r
    simp
end
theorem if_ok {c : Prop} [Decidable c] {α : Type} {g : Gi} {w : Wd} {n : Nat} {r : Res α} {E : XK} {P : Wd → AH → Hp → α → Prop} (q : Post g w n (if c then r else .stuck) E P) : c ∧ Post g w n r E P := by
  by_cases hc : c
  · rw [if_pos hc] at q; exact ⟨hc, q⟩
  · rw [if_neg hc] at q; exact q.elim
end Rk

set_option maxHeartbeats 1000000
/-! Rk.D: the operations' rules. -/
namespace Rk
open PySem PySem.Spec PyProof.Rows L2
theorem OpR.cas {X : Cx} {f : Value → Value → Sem Value} {r : R2} (h : ∀ x y H Q, r x y H Q → ∃ r', OpR X f r' ∧ r' x y H Q) : OpR X f r := fun pins s σ H x y v u Q I rx ry q => by
  obtain ⟨r', o, q'⟩ := h x y H Q q
  exact o pins s σ H x y v u Q I rx ry q'
theorem rvs_rep {g : Gi} {w : Wd} {n : Nat} {l : List D} {xs : List V} (r : RVs g w n l xs) : ∀ k : Nat, RVs g w n (List.replicate k l).flatten (List.replicate k xs).flatten
  | 0 => RVs.nil
  | k + 1 => by
    rw [List.replicate_succ, List.replicate_succ, List.flatten_cons, List.flatten_cons]
    exact r.append (rvs_rep r k)
section
variable {X : Cx} {g : Gi} {c : Bool} {k : Nat} {E : XK}
theorem stuckE {α : Type} {w : Wd} {n : Nat} {P : Wd → AH → Hp → α → Prop} {p : Prop} (q : Post g w n (.stuck : Res α) E P) : p := q.elim
/-- + - * // % ** by the evaluator -/
theorem mulOk {s : List Nat} {k : Int} (h1 : -1000 ≤ k) (h2 : k ≤ 1000) (h3 : s.length ≤ 1000) : MulOk (stt s) k := by
  have hm : (s.length : Int) * k ≤ 1000 * 1000 ∨ k < 1 := by
    by_cases q : k < 1
    · exact .inr q
    · exact .inl (Int.mul_le_mul (by omega) h2 (by omega) (by omega))
  refine ⟨?_, fun n _ z => ?_, fun n _ => ?_⟩
  · rw [decide_eq_false (by omega), decide_eq_false (by omega)]
    rfl
  · have e : (s.length : Int) ≤ (2 ^ 63 - 1) / k := (Int.le_ediv_iff_mul_le (by omega)).mpr (by rcases hm with q | q <;> omega)
    have z : ((stt s).length : Int) > (2 ^ 63 - 1) / k := z
    rw [stt_len] at z
    omega
  · rw [stt_len]
    have e : s.length * k.toNat ≤ 1000 * 1000 := Nat.mul_le_mul h3 (by omega)
    unfold Builtin.Str.tooLong
    refine decide_eq_false ?_
    have : (1000 * 1000 : Nat) ≤ sizeLine := by decide
    omega
theorem fold_rep (a : List Nat) : ∀ (n : Nat) (b : Array Nat), (List.replicate n a.toArray).foldl (· ++ ·) b = b ++ (List.replicate n a).flatten.toArray
  | 0, b => by simp
  | n + 1, b => by
    rw [List.replicate_succ, List.foldl_cons, fold_rep a n, List.replicate_succ, List.flatten_cons]
    simp
theorem mul_stt {s : List Nat} {k : Int} : Txt.mul (stt s) k = stt (List.replicate k.toNat s).flatten := by
  unfold Txt.mul
  by_cases h1 : k < 1
  · rw [if_pos h1, show k.toNat = 0 by omega]
    rfl
  · rw [if_neg h1]
    by_cases h2 : (k == 1 || (stt s).length == 0) = true
    · rw [if_pos h2]
      rw [Bool.or_eq_true, beq_iff_eq, beq_iff_eq, stt_len] at h2
      rcases h2 with rfl | h2
      · show stt s = stt (List.replicate 1 s).flatten
        simp
      · have e := List.eq_nil_of_length_eq_zero h2
        subst e
        simp
    · rw [if_neg h2]
      show (⟨_⟩ : Str) = ⟨_⟩
      rw [fold_rep]
      simp
theorem op_mul_str : OpR X (binaryOp .Mult) (fun x y H Q => ∃ i k, x = .str i ∧ y = .int k ∧ MulOk i k ∧ Q (.str (Txt.mul i k)) H) := by
  intro pins s σ H x y v u Q I rx ry h
  obtain ⟨i, k, rfl, rfl, hok, q⟩ := h
  obtain ⟨t, rfl⟩ := rx
  obtain ⟨t', rfl⟩ := ry
  exact SB.mul hok fun t' tk => ⟨.str (Txt.mul i k), H, I.tok _, ⟨_, rfl⟩, q⟩
theorem okS_rep {s : List Nat} (h : okS s = true) (n : Nat) : okS (List.replicate n s).flatten = true := by
  unfold okS at h ⊢
  rw [List.all_eq_true] at h ⊢
  intro c hc
  obtain ⟨l, hl, hcl⟩ := List.mem_flatten.mp hc
  rw [(List.mem_replicate.mp hl).2] at hcl
  exact h c hcl
theorem op_bin (G : GX g c k X) (o : Operator) : OpR X (binaryOp o) (rO g E (binop o)) := by
  refine OpR.cas fun x y H Q ⟨w, h, d, e, rr, rd, re, q⟩ => ?_
  have hK := G.K
  unfold binop at q
  split at q
  · rw [rv_int] at rd re; subst rd re
    exact ⟨_, op_add, _, _, rfl, rfl, pv_now q rr (rv_int.mpr rfl)⟩
  · rw [rv_str] at rd re
    obtain ⟨rfl, k1⟩ := rd
    obtain ⟨rfl, k2⟩ := re
    obtain ⟨hl, q⟩ := if_ok q
    refine ⟨_, op_add_str, _, _, rfl, rfl, by rw [stt_len, stt_len, sizeL]; exact hl, ?_⟩
    rw [stt_app]
    exact pv_now q rr (rv_str.mpr ⟨rfl, okS_app k1 k2⟩)
  · rw [rv_lst] at rd re
    obtain ⟨a, xs, rfl, q1, r1⟩ := rd
    obtain ⟨b, ys, rfl, q2, r2⟩ := re
    obtain ⟨hl, q⟩ := if_ok q
    refine ⟨_, op_cat, _, _, _, _, rfl, rfl, rr.sub _ _ q1, rr.sub _ _ q2, by rw [r1.length, r2.length, sizeL]; exact hl, fun p hp => ?_⟩
    exact pv_frz q rr hp (rv_lst.mpr ⟨p, _, rfl, upd_same, (r1.append r2).ext (rr.freeze hp).2⟩)
  · rw [rv_tup] at rd re
    obtain ⟨a, xs, rfl, q1, r1⟩ := rd
    obtain ⟨b, ys, rfl, q2, r2⟩ := re
    obtain ⟨hl, q⟩ := if_ok q
    refine ⟨_, op_catA, _, _, _, _, rfl, rfl, by rw [hK]; exact SqT.ext rr.sub q1, by rw [hK]; exact SqT.ext rr.sub q2, by rw [r1.length, r2.length, sizeL]; exact hl, fun e => ?_, fun _ e => ?_, fun _ _ p hp => ?_⟩
    · rw [(rvs_ne r1).mp e, List.nil_append] at q
      exact pv_now q rr (rv_tup.mpr ⟨_, _, rfl, q2, r2⟩)
    · rw [(rvs_ne r2).mp e, List.append_nil] at q
      exact pv_now q rr (rv_tup.mpr ⟨_, _, rfl, q1, r1⟩)
    · exact pv_frz q rr hp (rv_tup.mpr ⟨p, _, rfl, .inl (.inl upd_same), (r1.append r2).ext (rr.freeze hp).2⟩)
  · rw [rv_int] at rd re; subst rd re
    exact ⟨_, op_sub, _, _, rfl, rfl, pv_now q rr (rv_int.mpr rfl)⟩
  · rw [rv_int] at rd re; subst rd re
    obtain ⟨hl, q⟩ := if_ok q
    exact ⟨_, op_mul, _, _, rfl, rfl, hl, pv_now q rr (rv_int.mpr rfl)⟩
  · rw [rv_str] at rd; rw [rv_int] at re; subst re
    obtain ⟨rfl, k1⟩ := rd
    obtain ⟨⟨h1, h2, h3⟩, q⟩ := if_ok q
    refine ⟨_, op_mul_str, _, _, rfl, rfl, mulOk h1 h2 h3, ?_⟩
    rw [mul_stt]
    exact pv_now q rr (rv_str.mpr ⟨rfl, okS_rep k1 _⟩)
  · rw [rv_tup] at rd; rw [rv_int] at re; subst re
    obtain ⟨a, xs, rfl, q1, r1⟩ := rd
    obtain ⟨⟨h0, h1, h2, h3⟩, q⟩ := if_ok q
    refine ⟨_, op_repT, a, _, xs, rfl, rfl, by rw [hK]; exact SqT.ext rr.sub q1, fun z => ?_, h1, h2, by rw [r1.length]; exact h3, fun p hp => ?_⟩
    · rw [(rvs_ne r1).mp z] at h0; cases h0
    · exact pv_frz q rr hp (rv_tup.mpr ⟨p, _, rfl, .inl (.inl upd_same), (rvs_rep r1 _).ext (rr.freeze hp).2⟩)
  · rw [rv_lst] at rd; rw [rv_int] at re; subst re
    obtain ⟨a, xs, rfl, q1, r1⟩ := rd
    obtain ⟨⟨h1, h2, h3⟩, q⟩ := if_ok q
    refine ⟨_, op_rep, a, _, xs, rfl, rfl, rr.sub _ _ q1, by omega, by omega, ?_, fun p hp => ?_⟩
    · rw [r1.length, sizeL]
      refine Nat.le_trans (Nat.mul_le_mul h3 (show _ ≤ 1000 by omega)) (by decide)
    · exact pv_frz q rr hp (rv_lst.mpr ⟨p, _, rfl, upd_same, (rvs_rep r1 _).ext (rr.freeze hp).2⟩)
  · rw [rv_int] at rd re; subst rd re
    obtain ⟨hl, q⟩ := if_ok q
    exact ⟨_, op_mod, _, _, rfl, rfl, hl, pv_now q rr (rv_int.mpr rfl)⟩
  · rw [rv_int] at rd re; subst rd re
    obtain ⟨hl, q⟩ := if_ok q
    exact ⟨_, op_fdiv, _, _, rfl, rfl, hl, pv_now q rr (rv_int.mpr rfl)⟩
  · rw [rv_int] at rd re; subst rd re
    obtain ⟨hl, q⟩ := if_ok q
    exact ⟨_, op_pow, _, _, rfl, rfl, hl, pv_now q rr (rv_int.mpr rfl)⟩
  · exact q.elim
theorem lift_ok {α : Type} {o : Option α} {w : Wd} {h : AH} {P : Wd → AH → Hp → α → Prop} (q : Post g w h.nx (lift o h) E P) : ∃ a, o = some a ∧ Post g w h.nx (.ok a h) E P := by
  cases o with
  | none => exact q.elim
  | some a => exact ⟨a, rfl, q⟩
theorem lift_map {α β : Type} {o : Option α} {f : α → β} {w : Wd} {h : AH} {P : Wd → AH → Hp → β → Prop} (q : Post g w h.nx (lift (o.map f) h) E P) : ∃ a, o = some a ∧ Post g w h.nx (.ok (f a) h) E P := by
  obtain ⟨b, e, q⟩ := lift_ok q
  cases o with
  | none => cases e
  | some a => cases e; exact ⟨a, rfl, q⟩
theorem opt_if {c : Prop} [Decidable c] {α : Type} {a b : α} (h : (if c then some a else none) = some b) : c ∧ a = b := by
  by_cases hc : c
  · rw [if_pos hc] at h; exact ⟨hc, Option.some.inj h⟩
  · rw [if_neg hc] at h; cases h
theorem notin_tuple (hu : X.A.units + 65 < cLine) : OpR X (compareOp .NotIn) (fun x y H Q => ∃ d ds, Dp X.K H x d ∧ Dp X.K H y (.tuple ds) ∧ SeqAt.shaped d = true ∧ SeqAt.shaped (.tuple ds) = true ∧ Q (.bl (!ds.any fun z => PyData.eqv z d)) H) := by
  intro pins s σ H x y v u Q I rx ry h
  obtain ⟨d, ds, hd, he, sd, se, q⟩ := h
  obtain ⟨as, r1⟩ := Dp.reads I d x v hd rx
  obtain ⟨bs, r2⟩ := Dp.reads I (.tuple ds) y u he ry
  exact SeqAt.notIn_tuple_reads r2 r1 (SeqAt.canLay_of_shaped se) (SeqAt.canLay_of_shaped sd) (room_in_shaped sd hu) ⟨.bl _, H, I, rfl, q⟩
theorem in_tuple (hu : X.A.units + 65 < cLine) : OpR X (compareOp .In) (fun x y H Q => ∃ d ds, Dp X.K H x d ∧ Dp X.K H y (.tuple ds) ∧ SeqAt.shaped d = true ∧ SeqAt.shaped (.tuple ds) = true ∧ Q (.bl (ds.any fun z => PyData.eqv z d)) H) := by
  intro pins s σ H x y v u Q I rx ry h
  obtain ⟨d, ds, hd, he, sd, se, q⟩ := h
  obtain ⟨as, r1⟩ := Dp.reads I d x v hd rx
  obtain ⟨bs, r2⟩ := Dp.reads I (.tuple ds) y u he ry
  exact SeqAt.in_tuple_reads r2 r1 (SeqAt.canLay_of_shaped se) (SeqAt.canLay_of_shaped sd) (room_in_shaped sd hu) ⟨.bl _, H, I, rfl, q⟩
theorem dpt_tup {n : Nat} {l : List D} (h : dpts n l = true) : dpt (n + 1) (.tup l) = true := by unfold dpt; exact h
theorem dpt_lst {n : Nat} {l : List D} (h : dpts n l = true) : dpt (n + 1) (.lst l) = true := by unfold dpt; exact h
theorem shaped_of61 {w : Wd} {n : Nat} {d : D} {v : V} (h : dpt 61 d = true) (r : RV g w n d v) : SeqAt.shaped (py d) = true := by
  obtain ⟨h1, h2⟩ := lay_of 61 d v h r
  unfold SeqAt.shaped
  rw [h1, decide_eq_true (show (py d).depth ≤ 64 by omega)]
  rfl
theorem dp_tup {w : Wd} {n : Nat} {H : Hp} {l : List D} {v : V} (sub : ∀ a o, w.F a = some o → H a = some o) (hc : dpts 60 l = true) (r : RV g w n (.tup l) v) : Dp g.K H v (.tuple (pys l)) ∧ SeqAt.shaped (.tuple (pys l)) = true := by
  have ht := dpt_tup hc
  have z := dp_of sub 61 _ v ht r
  have z2 := shaped_of61 ht r
  unfold py at z z2
  exact ⟨z, z2⟩
theorem dp_lst {w : Wd} {n : Nat} {H : Hp} {l : List D} {v : V} (sub : ∀ a o, w.F a = some o → H a = some o) (hc : dpts 60 l = true) (r : RV g w n (.lst l) v) : Dp g.K H v (.list (pys l)) ∧ SeqAt.shaped (.list (pys l)) = true := by
  have ht := dpt_lst hc
  have z := dp_of sub 61 _ v ht r
  have z2 := shaped_of61 ht r
  unfold py at z z2
  exact ⟨z, z2⟩
/-- what a comparison by the evaluator asks -/
def rC (g : Gi) (o : CmpOp) : R2 := fun x y H Q => ∃ w h d e b, RR g w h H ∧ RV g w h.nx d x ∧ RV g w h.nx e y ∧ cmpop o d e = some b ∧ Q (.bl b) H
theorem op_cmp (G : GX g c k X) (o : CmpOp) : OpR X (compareOp o) (rC g o) := by
  refine OpR.cas fun x y H Q ⟨w, h, d, e, b, rr, rd, re, hb, q⟩ => ?_
  have hK := G.K
  have hu : X.A.units + 65 < cLine := by have := G.un; omega
  unfold cmpop at hb
  split at hb
  · obtain ⟨hc, rfl⟩ := opt_if hb
    rw [Bool.and_eq_true] at hc
    rw [deq_py 60 d e hc.1 ⟨_, hc.2⟩] at q
    exact ⟨_, op_eqD (by omega), _, _, by rw [hK]; exact dp_of rr.sub 60 d x hc.1 rd, by rw [hK]; exact dp_of rr.sub 60 e y hc.2 re, shaped_of hc.1 rd, shaped_of hc.2 re, q⟩
  · obtain ⟨hc, rfl⟩ := opt_if hb
    rw [Bool.and_eq_true] at hc
    rw [deq_py 60 d e hc.1 ⟨_, hc.2⟩] at q
    exact ⟨_, op_neD (by omega), _, _, by rw [hK]; exact dp_of rr.sub 60 d x hc.1 rd, by rw [hK]; exact dp_of rr.sub 60 e y hc.2 re, shaped_of hc.1 rd, shaped_of hc.2 re, q⟩
  · split at hb
    · rw [rv_int] at rd re; subst rd re; cases hb
      exact ⟨_, op_lt, _, _, rfl, rfl, q⟩
    · cases hb
  · split at hb
    · rw [rv_int] at rd re; subst rd re; cases hb
      exact ⟨_, op_le, _, _, rfl, rfl, q⟩
    · cases hb
  · split at hb
    · rw [rv_int] at rd re; subst rd re; cases hb
      exact ⟨_, op_gt, _, _, rfl, rfl, q⟩
    · cases hb
  · split at hb
    · rw [rv_int] at rd re; subst rd re; cases hb
      exact ⟨_, op_ge, _, _, rfl, rfl, q⟩
    · cases hb
  · split at hb
    · rw [rv_str] at rd re
      obtain ⟨rfl, _⟩ := rd
      obtain ⟨rfl, _⟩ := re
      cases hb
      exact ⟨_, op_in_sign, _, _, rfl, rfl, q⟩
    · skip
      obtain ⟨hc, rfl⟩ := opt_if hb
      rw [Bool.and_eq_true] at hc
      obtain ⟨hp, hs⟩ := dp_tup rr.sub hc.2 re
      rw [← hK] at hp
      exact ⟨_, in_tuple hu, _, _, by rw [hK]; exact dp_of rr.sub 60 d x hc.1 rd, hp, shaped_of hc.1 rd, hs, by rw [pys_any ⟨_, hc.1⟩ hc.2]; exact q⟩
    · skip
      obtain ⟨hc, rfl⟩ := opt_if hb
      rw [Bool.and_eq_true] at hc
      obtain ⟨hp, hs⟩ := dp_lst rr.sub hc.2 re
      rw [← hK] at hp
      exact ⟨_, op_inD hu, _, _, by rw [hK]; exact dp_of rr.sub 60 d x hc.1 rd, hp, shaped_of hc.1 rd, hs, by rw [pys_any ⟨_, hc.1⟩ hc.2]; exact q⟩
    · cases hb
  · split at hb
    · rw [rv_str] at rd re
      obtain ⟨rfl, _⟩ := rd
      obtain ⟨rfl, _⟩ := re
      cases hb
      exact ⟨_, op_notIn_sign, _, _, rfl, rfl, q⟩
    · skip
      obtain ⟨hc, rfl⟩ := opt_if hb
      rw [Bool.and_eq_true] at hc
      obtain ⟨hp, hs⟩ := dp_tup rr.sub hc.2 re
      rw [← hK] at hp
      exact ⟨_, notin_tuple hu, _, _, by rw [hK]; exact dp_of rr.sub 60 d x hc.1 rd, hp, shaped_of hc.1 rd, hs, by rw [pys_any ⟨_, hc.1⟩ hc.2]; exact q⟩
    · skip
      obtain ⟨hc, rfl⟩ := opt_if hb
      rw [Bool.and_eq_true] at hc
      obtain ⟨hp, hs⟩ := dp_lst rr.sub hc.2 re
      rw [← hK] at hp
      exact ⟨_, op_notInD hu, _, _, by rw [hK]; exact dp_of rr.sub 60 d x hc.1 rd, hp, shaped_of hc.1 rd, hs, by rw [pys_any ⟨_, hc.1⟩ hc.2]; exact q⟩
    · cases hb
  · cases hb
/-! ### subscripts -/
theorem atI_rv {w : Wd} {n : Nat} {l : List D} {xs : List V} {i : Int} {d : D} (r : RVs g w n l xs) (h : atI l i = some d) : ∃ v, atI xs i = some v ∧ RV g w n d v := by
  unfold atI at *
  rw [r.length]
  cases e : ixN l.length i with
  | none => rw [e] at h; cases h
  | some j =>
    rw [e] at h
    exact r.get h
theorem IxR.cas {r : R2} (h : ∀ x y H Q, r x y H Q → ∃ r', IxR X r' ∧ r' x y H Q) : IxR X r := fun value slice pins s σ H x y v u Q I rx ry q hs => by
  obtain ⟨r', o, q'⟩ := h x y H Q q
  exact o value slice pins s σ H x y v u Q I rx ry q' hs
theorem cell_lst {w : Wd} {h : AH} {H : Hp} {m : Nat} {l : List D} (rr : RR g w h H) (hm : m < h.nx) (e : h.cell m = .lst l) : ∃ xs, H (w.m m) = some (.lst xs) ∧ RVs g w h.nx l xs := by
  have q := rr.cell m hm
  rw [e] at q
  exact q.2
theorem okS_get {s : List Nat} {i : Nat} {c : Nat} (h : okS s = true) (e : s[i]? = some c) : okS [c] = true := by
  unfold okS at *
  have := List.all_eq_true.mp h c (List.mem_of_getElem? e)
  simpa using this
theorem ix_ev (G : GX g c k X) : IxR X (rO g E idxop) := by
  refine IxR.cas fun x y H Q ⟨w, h, d, e, rr, rd, re, q⟩ => ?_
  have hK := G.K
  unfold idxop at q
  split at q
  · rw [rv_lst] at rd; rw [rv_int] at re; subst re
    obtain ⟨a, xs, rfl, q1, r1⟩ := rd
    obtain ⟨z, hz, q⟩ := lift_ok q
    obtain ⟨v, hv, rv⟩ := atI_rv r1 hz
    exact ⟨_, ix_list, _, _, _, _, rfl, rfl, SqL.of (rr.sub _ _ q1), hv, pv_now q rr rv⟩
  · rw [rv_tup] at rd; rw [rv_int] at re; subst re
    obtain ⟨a, xs, rfl, q1, r1⟩ := rd
    obtain ⟨z, hz, q⟩ := lift_ok q
    obtain ⟨v, hv, rv⟩ := atI_rv r1 hz
    exact ⟨_, ix_tup, _, _, _, _, rfl, rfl, by rw [hK]; exact SqT.ext rr.sub q1, hv, pv_now q rr rv⟩
  · rw [rv_str] at rd; rw [rv_int] at re; subst re
    obtain ⟨rfl, ks⟩ := rd
    obtain ⟨hl, q⟩ := if_ok q
    obtain ⟨z, hz, q⟩ := lift_map q
    refine ⟨_, ix_str, _, _, z, rfl, rfl, by rw [stt_len, sizeL]; exact hl, hz, pv_now q rr (rv_str.mpr ⟨rfl, ?_⟩)⟩
    unfold atI at hz
    obtain ⟨j, _, hj⟩ := Option.bind_eq_some_iff.mp hz
    exact okS_get ks hj
  · rename_i m i
    rw [rv_ref] at rd; rw [rv_int] at re; subst re
    obtain ⟨rfl, hm⟩ := rd
    cases ec : h.cell m with
    | lst l =>
      rw [ec] at q
      obtain ⟨xs, q1, r1⟩ := cell_lst rr hm ec
      obtain ⟨z, hz, q⟩ := lift_ok q
      obtain ⟨v, hv, rv⟩ := atI_rv r1 hz
      exact ⟨_, ix_list, _, _, _, _, rfl, rfl, SqL.of q1, hv, pv_now q rr rv⟩
    | _ => rw [ec] at q; exact q.elim
  · exact q.elim
/-! ### slices -/
def rS (g : Gi) (E : XK) : V → Option Int → Option Int → Hp → VK → Prop := fun x lo hi H Q => ∃ w h d, RR g w h H ∧ RV g w h.nx d x ∧ Post g w h.nx (slcop d lo hi h) E (PV g Q)
theorem SlR.cas {r : V → Option Int → Option Int → Hp → VK → Prop} (h : ∀ x lo hi H Q, r x lo hi H Q → ∃ r', SlR X r' ∧ r' x lo hi H Q) : SlR X r := fun pins s σ H x v vl vu lo hi sl Q I rx a b cc q => by
  obtain ⟨r', o, q'⟩ := h x lo hi H Q q
  exact o pins s σ H x v vl vu lo hi sl Q I rx a b cc q'
theorem cut_stt (s : List Nat) (lo hi : Option Int) : cutS (stt s) lo hi = stt (cut s lo hi) := by
  unfold cutS cut
  rw [stt_len]
theorem okS_cut {s : List Nat} (h : okS s = true) (lo hi : Option Int) : okS (cut s lo hi) = true := by
  unfold okS at *
  rw [List.all_eq_true] at *
  exact fun x hx => h x (List.mem_of_mem_drop (List.mem_of_mem_take hx))
theorem rvs_ints (w : Wd) (n : Nat) : ∀ l : List Int, RVs g w n (l.map D.int) (l.map V.int)
  | [] => RVs.nil
  | i :: l => RVs.mk (rv_int.mpr rfl) (rvs_ints w n l)
theorem cut_map {α β : Type} (f : α → β) (l : List α) (lo hi : Option Int) : cut (l.map f) lo hi = (cut l lo hi).map f := by
  unfold cut
  rw [List.length_map, List.map_take, List.map_drop]
theorem cutV_cut (xs : List V) (lo hi : Option Int) : cutV xs lo hi = cut xs lo hi := rfl
theorem cut_whole {α : Type} {l : List α} {lo hi : Option Int} (h : HT.sIx l.length 0 lo = 0 ∧ HT.sIx l.length l.length hi = l.length) : cut l lo hi = l := by
  unfold cut
  rw [h.1, h.2, List.drop_zero, Nat.sub_zero, List.take_length]
theorem sl_ev (G : GX g c k X) : SlR X (rS g E) := by
  refine SlR.cas fun x lo hi H Q ⟨w, h, d, rr, rd, q⟩ => ?_
  have hK := G.K
  unfold slcop at q
  split at q
  · rw [rv_str] at rd
    obtain ⟨rfl, ks⟩ := rd
    obtain ⟨hl, q⟩ := if_ok q
    exact ⟨_, sl_str, _, rfl, by rw [stt_len, sizeL]; exact hl, by rw [cut_stt]; exact pv_now q rr (rv_str.mpr ⟨rfl, okS_cut ks _ _⟩)⟩
  · rw [rv_lst] at rd
    obtain ⟨a, xs, rfl, q1, r1⟩ := rd
    exact ⟨_, sl_list, _, _, rfl, SqL.of (rr.sub _ _ q1), fun p hp => pv_frz q rr hp (rv_lst.mpr ⟨p, _, rfl, upd_same, (r1.cut lo hi).ext (rr.freeze hp).2⟩)⟩
  · rw [rv_tup] at rd
    obtain ⟨a, xs, rfl, q1, r1⟩ := rd
    refine ⟨_, sl_tupA, _, _, rfl, by rw [hK]; exact SqT.ext rr.sub q1, fun e => ?_, fun _ p hp => ?_⟩
    · rw [r1.length] at e
      rw [cut_whole e] at q
      exact pv_now q rr (rv_tup.mpr ⟨_, _, rfl, q1, r1⟩)
    · exact pv_frz q rr hp (rv_tup.mpr ⟨p, _, rfl, .inl (.inl upd_same), (r1.cut lo hi).ext (rr.freeze hp).2⟩)
  · rename_i l
    rw [rv_scr] at rd
    obtain ⟨a, rfl, q1⟩ := rd
    refine ⟨_, sl_list, _, _, rfl, by rw [hK]; exact SqL.ext rr.sub q1, fun p hp => pv_frz q rr hp (rv_lst.mpr ⟨p, _, rfl, upd_same, ?_⟩)⟩
    rw [cutV_cut, cut_map]
    exact rvs_ints _ _ _
  · rename_i m
    rw [rv_ref] at rd
    obtain ⟨rfl, hm⟩ := rd
    cases ec : h.cell m with
    | lst l =>
      rw [ec] at q
      obtain ⟨xs, q1, r1⟩ := cell_lst rr hm ec
      exact ⟨_, sl_list, _, _, rfl, SqL.of q1, fun p hp => pv_frz q rr hp (rv_lst.mpr ⟨p, _, rfl, upd_same, (r1.cut lo hi).ext (rr.freeze hp).2⟩)⟩
    | _ => rw [ec] at q; exact q.elim
  · exact q.elim
end
end Rk

set_option maxHeartbeats 1000000
/-! Rk.So: strings sorted. -/
namespace Rk
open PySem PySem.Spec PyProof.Rows L2 SrtO
theorem ltS_swo : Swo ltS := by
  refine ⟨fun x y h => ?_, fun x y z h1 h2 => ?_⟩
  · unfold ltS at h ⊢
    exact decide_eq_false (fun z => List.lt_asymm (of_decide_eq_true h) z)
  · unfold ltS at h1 h2 ⊢
    have a := of_decide_eq_false h1
    have b := of_decide_eq_false h2
    exact decide_eq_false (List.not_lt.mpr (List.le_trans (List.not_lt.mp a) (List.not_lt.mp b)))
section
variable {prog : Program} {w : World} {A : Around} {E : Value → Shared → Prop} {s : Shared}
theorem str_cmp {vs : List Value} (hp : ∀ v ∈ vs, ∃ x t, v = .str x t) : Cmp prog w A s oneType' (fun p => p.1 ∈ vs) (lt2 fun v u => ltS (strOf v) (strOf u)) := by
  intro p q hm hm'
  obtain ⟨x, t, e1⟩ := hp _ hm
  obtain ⟨y, u, e2⟩ := hp _ hm'
  show wpAny (model prog w) A (keyLt' oneType' p.1 q.1) (fun r s' => s' = s ∧ r = ltS (strOf p.1) (strOf q.1)) (fun _ _ => False) s
  rw [e1, e2, keyLt'_oneType]
  exact oneLt_str ⟨rfl, rfl⟩
theorem str_sortable {a : Addr} {vs : List Value} (h0 : 2 ≤ vs.length) (hp : ∀ v ∈ vs, ∃ x t, v = .str x t) : SortableO prog w A s a vs fun v u => ltS (strOf v) (strOf u) := by
  intro h' keep
  refine ⟨oneType', fun Q E hq => ?_, str_cmp hp⟩
  match vs, h0, hp with
  | v1 :: v2 :: r, _, hp =>
    rw [keyKind_strs (strsAre_map _ hp)]
    exact wpAny_pure hq
theorem swo_of {α β : Type} {lt : β → β → Bool} (O : Swo lt) (f : α → β) : Swo fun x y => lt (f x) (f y) := ⟨fun x y h => O.1 _ _ h, fun x y z h1 h2 => O.2 _ _ _ h1 h2⟩
theorem sorted_strs {l : Addr} {vs : List Value} {Q : Value → Shared → Prop} (hl : s.heap.IsList l vs.toArray) (hz : vs.length ≤ sizeLine) (hp : ∀ v ∈ vs, ∃ x t, v = .str x t)
    (h : ∀ (h' : Heap) (d : Addr) (out : List Value), Srtd (fun v u => ltS (strOf v) (strOf u)) out → Stb (fun v u => ltS (strOf v) (strOf u)) out vs → (∀ b o, s.heap.get? b = some o → h'.get? b = some o) → s.heap.objs.size ≤ d → (∃ n, h'.get? d = some (seqObj "list" out.toArray n)) → Q (.ref d) { s with heap := h' }) :
    wpAny (model prog w) A (call (.builtin "sorted") [.ref l]) Q E s :=
  sorted_ord (swo_of ltS_swo strOf) hl hz (fun h2 h₁ a ha kk => str_sortable (s := { s with heap := h₁ }) h2 hp) fun out hs hb => h _ _ out hs hb (fun b o e => sortedAll_old e) (Nat.le_succ _) (sortedAll_at s.heap vs out.toArray)
end
/-- sorted(xs), xs a list of strings: a new list -/
def rSortedS (K : PySem.W.Frag) : List V → Hp → VK → Prop := fun vs H Q => ∃ (a : Addr) (ss : List Str), vs = [V.ref a] ∧ SqL K H a (ss.map V.str) ∧ ∀ ys p, Srtd ltS ys → Stb ltS ys ss → H p = none → Q (.ref p) (upd H p (.lst (ys.map V.str)))
theorem vals_strs : ∀ {ss : List Str} {us : List Value}, Vals (ss.map V.str) us → (∀ u ∈ us, ∃ x t, u = Value.str x t) ∧ us.map strOf = ss
  | [], us, h => by cases h; exact ⟨fun _ z => absurd z (by simp), rfl⟩
  | x :: ss, us, h => by
    cases h with
    | cons r rs =>
      obtain ⟨t, rfl⟩ := r
      obtain ⟨h1, h2⟩ := vals_strs rs
      refine ⟨fun u hu => ?_, by rw [List.map_cons, h2]; rfl⟩
      rcases List.mem_cons.mp hu with rfl | hu
      · exact ⟨x, t, rfl⟩
      · exact h1 u hu
theorem strs_vals : ∀ {us : List Value}, (∀ u ∈ us, ∃ x t, u = Value.str x t) → Vals ((us.map strOf).map V.str) us
  | [], _ => .nil
  | u :: us, h => by
    obtain ⟨x, t, rfl⟩ := h u List.mem_cons_self
    exact .cons ⟨t, rfl⟩ (strs_vals fun v hv => h v (List.mem_cons_of_mem _ hv))
theorem cr_sortedS {X : Cx} : CallR X (.builtin "sorted") (rSortedS X.K) := by
  intro pins s σ H vs us Q I r h
  obtain ⟨a, ss, rfl, hs, q⟩ := h
  obtain ⟨its, rv, hl, hz⟩ := I.list hs
  obtain ⟨u, rfl, ru⟩ := vals1 r
  obtain rfl : u = Value.ref a := ru
  obtain ⟨e2, e1⟩ := vals_strs rv
  refine sorted_strs hl.isList (by rw [← rv.length]; exact hz) e2 fun h' d out h1 h2 kp hd hn => ?_
  have h3 : ∀ u ∈ out, ∃ x t, u = Value.str x t := fun u hu => e2 u (h2.perm.mem_iff.mp hu)
  obtain ⟨n, hn⟩ := hn
  have hb : Stb ltS (out.map strOf) ss := by
    rw [← e1]
    exact Stb.map ltS_swo strOf h2
  refine ⟨.ref d, upd H d (.lst ((out.map strOf).map V.str)), I.laid (t' := s.toks) kp hd ⟨?_, out, n, strs_vals h3, hn⟩, rfl, q _ d (srtd_map h1) hb (I.hok.fresh hd)⟩
  rw [List.length_map, hb.len]
  have := rv.length
  rw [List.length_map] at this
  rw [← List.length_map (f := V.str)]
  exact hz
/-! ### .. by insertion -/
theorem ins_perm {x : Str} : ∀ {l : List Str}, (insS x l).Perm (x :: l)
  | [] => .refl _
  | y :: r => by
    unfold insS
    split
    · exact ((ins_perm (l := r)).cons y).trans (List.Perm.swap x y r)
    · exact .refl _
theorem ins_cls {x z : Str} : ∀ {l : List Str}, (insS x l).filter (eqv ltS z) = (x :: l).filter (eqv ltS z)
  | [] => rfl
  | y :: r => by
    unfold insS
    split
    · rename_i hlt
      rw [List.filter_cons, ins_cls (l := r), List.filter_cons, List.filter_cons, List.filter_cons]
      by_cases hx : eqv ltS z x = true
      · by_cases hy : eqv ltS z y = true
        · have a := eqv_iff.mp hx
          have b := eqv_iff.mp hy
          have c := ltS_swo.2 x z y a.1 b.2
          rw [hlt] at c; cases c
        · simp [hx, hy]
      · simp [hx]
    · rfl
theorem ins_srtd {x : Str} : ∀ {l : List Str}, Srtd ltS l → Srtd ltS (insS x l)
  | [], _ => List.pairwise_singleton _ _
  | y :: r, h => by
    obtain ⟨h1, h2⟩ := List.pairwise_cons.mp h
    unfold insS
    split
    · rename_i hlt
      refine List.pairwise_cons.mpr ⟨fun z hz => ?_, ins_srtd h2⟩
      rcases List.mem_cons.mp (ins_perm.mem_iff.mp hz) with rfl | hz
      · exact ltS_swo.1 _ _ hlt
      · exact h1 z hz
    · rename_i hnl
      have hyx : ltS y x = false := by simpa using hnl
      refine List.pairwise_cons.mpr ⟨fun z hz => ?_, h⟩
      rcases List.mem_cons.mp hz with rfl | hz
      · exact hyx
      · exact ltS_swo.2 _ _ _ hyx (h1 z hz)
theorem sortS_srtd : ∀ l : List Str, Srtd ltS (sortS l)
  | [] => List.Pairwise.nil
  | x :: r => ins_srtd (sortS_srtd r)
theorem sortS_stb : ∀ l : List Str, Stb ltS (sortS l) l
  | [] => Stb.refl _
  | x :: r => by
    have ih := sortS_stb r
    refine ⟨ins_perm.trans (ih.perm.cons x), fun z => ?_⟩
    show (insS x (sortS r)).filter _ = _
    rw [ins_cls, List.filter_cons, List.filter_cons, ih.cls]
theorem sortS_eq {out l : List Str} (h1 : Srtd ltS out) (h2 : Stb ltS out l) : out = sortS l :=
  stb_uniq ltS_swo h1 (sortS_srtd l) (h2.trans ⟨(sortS_stb l).perm.symm, fun z => ((sortS_stb l).cls z).symm⟩)
end Rk

set_option maxHeartbeats 1000000
/-! Rk.E: built-ins, truth, repr. -/
namespace Rk
open PySem PySem.Spec PyProof.Rows L2
section
variable {X : Cx} {g : Gi} {c : Bool} {k : Nat} {E : XK}
theorem CallR.cas {f : Value} {r : List V → Hp → VK → Prop} (h : ∀ xs H Q, r xs H Q → ∃ r', CallR X f r' ∧ r' xs H Q) : CallR X f r := fun pins s σ H xs us Q I rx q => by
  obtain ⟨r', o, q'⟩ := h xs H Q q
  exact o pins s σ H xs us Q I rx q'
theorem MtR.cas {id : String} {r : V → List V → Hp → VK → Prop} (h : ∀ x xs H Q, r x xs H Q → ∃ r', MtR X id r' ∧ r' x xs H Q) : MtR X id r := fun pins s σ H x xs v us Q I rx rs q => by
  obtain ⟨r', o, q'⟩ := h x xs H Q q
  exact o pins s σ H x xs v us Q I rx rs q'
/-- a built-in of one value by the evaluator -/
def rB (g : Gi) (E : XK) (b : Bi) : List V → Hp → VK → Prop := fun xs H Q => ∃ w h d x, RR g w h H ∧ RV g w h.nx d x ∧ xs = [x] ∧ Post g w h.nx (biop b d h) E (PV g Q)
def bname : Bi → Str
  | .len => "len" | .all => "all" | .any => "any" | .tuple => "tuple" | .list => "list" | .int => "int" | .str => "str" | .abs => "abs" | .sorted => "sorted"
def bval : Bi → Value
  | .len => .builtin "len" | .all => .builtin "all" | .any => .builtin "any" | .tuple => .type "tuple" | .list => .type "list" | .int => .type "int" | .str => .type "str" | .abs => .builtin "abs" | .sorted => .builtin "sorted"
theorem bls_rv {w : Wd} {n : Nat} : ∀ {l : List D} {bs : List Bool} {xs : List V}, bls l = some bs → RVs g w n l xs → xs = bs.map V.bl
  | [], bs, xs, h, r => by cases h; exact rvs_nil.mp r
  | d :: l, bs, xs, h, r => by
    obtain ⟨x, ys, rfl, h1, h2⟩ := rvs_cons.mp r
    cases d with
    | bl b =>
      have h : (bls l).map (b :: ·) = some bs := h
      obtain ⟨cs, e, rfl⟩ := Option.map_eq_some_iff.mp h
      rw [rv_bl.mp h1, bls_rv e h2]
      rfl
    | _ => cases h
theorem strL_rv {w : Wd} {n : Nat} : ∀ {l : List D} {ys : List (List Nat)} {xs : List V}, strL l = some ys → RVs g w n l xs → xs = (ys.map stt).map V.str ∧ ∀ y ∈ ys, okS y = true
  | [], ys, xs, h, r => by cases h; exact ⟨rvs_nil.mp r, fun _ h => nomatch h⟩
  | d :: l, ys, xs, h, r => by
    obtain ⟨x, zs, rfl, h1, h2⟩ := rvs_cons.mp r
    cases d with
    | str s =>
      have h : (strL l).map (s :: ·) = some ys := h
      obtain ⟨cs, e, rfl⟩ := Option.map_eq_some_iff.mp h
      obtain ⟨e1, o1⟩ := rv_str.mp h1
      obtain ⟨e2, o2⟩ := strL_rv e h2
      rw [e1, e2]
      exact ⟨rfl, fun y hy => by
        rcases List.mem_cons.mp hy with rfl | hy
        · exact o1
        · exact o2 y hy⟩
    | _ => cases h
theorem SqR.tl {w : Wd} {h : AH} {H : Hp} {a : Addr} {xs : List V} (rr : RR g w h H) (e : w.F a = some (.lst xs)) : SqL X.K H a xs := SqL.of (rr.sub _ _ e)
theorem numL_ok (n : Nat) : okS (TL.numL n) = true := by
  unfold TL.numL okS
  rw [List.all_map, List.all_eq_true]
  intro c hc
  have hd := Nat.isDigit_of_mem_toDigits (b := 10) (by decide) (by decide) hc
  unfold Char.isDigit at hd
  simp only [Bool.and_eq_true, decide_eq_true_eq] at hd
  refine decide_eq_true ?_
  have h2 : c.val ≤ 57 := hd.2
  have : c.toNat ≤ 57 := h2
  show c.toNat < 1114112
  omega
theorem rvs_sts {w : Wd} {n : Nat} : ∀ {l : List Str}, (∀ s ∈ l, okS s.cps.toList = true) → RVs g w n (l.map fun s => D.str s.cps.toList) (l.map V.str)
  | [], _ => RVs.nil
  | s :: l, h => RVs.mk (rv_str.mpr ⟨by show V.str s = V.str ⟨s.cps.toList.toArray⟩; rw [Array.toArray_toList], h s List.mem_cons_self⟩) (rvs_sts fun t ht => h t (List.mem_cons_of_mem _ ht))
theorem call_bi (G : GX g c k X) (hc : c = true) (b : Bi) : CallR X (bval b) (rB g E b) := by
  cases b with
  | len =>
    refine CallR.cas fun xs H Q ⟨w, h, d, x, rr, rd, ex, q⟩ => ?_
    subst ex
    have hK := G.K
    simp only [biop] at q
    cases d with
    | str s =>
      obtain ⟨rfl, ks⟩ := rv_str.mp rd
      obtain ⟨hl, q⟩ := if_ok q
      refine ⟨_, call_len_str, _, rfl, by rw [stt_len, sizeL]; exact hl, ?_⟩
      rw [stt_len]
      exact pv_now q rr (rv_int.mpr rfl)
    | lst l =>
      obtain ⟨a, xs, rfl, q1, r1⟩ := rv_lst.mp rd
      refine ⟨_, call_len_seq, _, _, rfl, .inl (SqL.of (rr.sub _ _ q1)), ?_⟩
      rw [r1.length]
      exact pv_now q rr (rv_int.mpr rfl)
    | tup l =>
      obtain ⟨a, xs, rfl, q1, r1⟩ := rv_tup.mp rd
      refine ⟨_, call_len_seq, _, _, rfl, .inr (by rw [hK]; exact SqT.ext rr.sub q1), ?_⟩
      rw [r1.length]
      exact pv_now q rr (rv_int.mpr rfl)
    | ref m =>
      obtain ⟨rfl, hm⟩ := rv_ref.mp rd
      cases ec : h.cell m with
      | lst l =>
        simp only [ec] at q
        obtain ⟨xs, q1, r1⟩ := cell_lst rr hm ec
        refine ⟨_, call_len_seq, _, _, rfl, .inl (SqL.of q1), ?_⟩
        rw [r1.length]
        exact pv_now q rr (rv_int.mpr rfl)
      | _ => simp only [ec] at q; exact q.elim
    | _ => exact q.elim
  | all =>
    refine CallR.cas fun xs H Q ⟨w, h, d, x, rr, rd, ex, q⟩ => ?_
    subst ex
    simp only [biop] at q
    cases d with
    | lst l =>
      obtain ⟨a, xs, rfl, q1, r1⟩ := rv_lst.mp rd
      obtain ⟨bs, e, q⟩ := lift_map q
      have ex := bls_rv e r1
      subst ex
      exact ⟨_, cr_all (G.calm hc), _, _, rfl, SqL.of (rr.sub _ _ q1), pv_now q rr (rv_bl.mpr rfl)⟩
    | _ => exact q.elim
  | any =>
    refine CallR.cas fun xs H Q ⟨w, h, d, x, rr, rd, ex, q⟩ => ?_
    subst ex
    simp only [biop] at q
    cases d with
    | lst l =>
      obtain ⟨a, xs, rfl, q1, r1⟩ := rv_lst.mp rd
      obtain ⟨bs, e, q⟩ := lift_map q
      have ex := bls_rv e r1
      subst ex
      exact ⟨_, cr_any (G.calm hc), _, _, rfl, SqL.of (rr.sub _ _ q1), pv_now q rr (rv_bl.mpr rfl)⟩
    | _ => exact q.elim
  | tuple =>
    refine CallR.cas fun xs H Q ⟨w, h, d, x, rr, rd, ex, q⟩ => ?_
    subst ex
    have hK := G.K
    simp only [biop] at q
    cases d with
    | lst l =>
      obtain ⟨a, xs, rfl, q1, r1⟩ := rv_lst.mp rd
      exact ⟨_, call_tuple_of, _, _, rfl, .inl ⟨SqL.of (rr.sub _ _ q1), fun p hp => pv_frz q rr hp (rv_tup.mpr ⟨p, _, rfl, .inl (.inl upd_same), r1.ext (rr.freeze hp).2⟩)⟩⟩
    | tup l =>
      obtain ⟨a, xs, rfl, q1, r1⟩ := rv_tup.mp rd
      exact ⟨_, call_tupleT, _, _, rfl, by rw [hK]; exact SqT.ext rr.sub q1, pv_now q rr rd⟩
    | _ => exact q.elim
  | list =>
    refine CallR.cas fun xs H Q ⟨w, h, d, x, rr, rd, ex, q⟩ => ?_
    subst ex
    have hK := G.K
    simp only [biop] at q
    cases d with
    | lst l =>
      obtain ⟨a, xs, rfl, q1, r1⟩ := rv_lst.mp rd
      exact ⟨_, call_list_of, _, _, rfl, .inl (SqL.of (rr.sub _ _ q1)), fun p hp => pv_frz q rr hp (rv_lst.mpr ⟨p, _, rfl, upd_same, r1.ext (rr.freeze hp).2⟩)⟩
    | tup l =>
      obtain ⟨a, xs, rfl, q1, r1⟩ := rv_tup.mp rd
      exact ⟨_, call_list_of, _, _, rfl, .inr (by rw [hK]; exact SqT.ext rr.sub q1), fun p hp => pv_frz q rr hp (rv_lst.mpr ⟨p, _, rfl, upd_same, r1.ext (rr.freeze hp).2⟩)⟩
    | ref m =>
      obtain ⟨rfl, hm⟩ := rv_ref.mp rd
      cases ec : h.cell m with
      | lst l =>
        simp only [ec] at q
        obtain ⟨xs, q1, r1⟩ := cell_lst rr hm ec
        exact ⟨_, call_list_of, _, _, rfl, .inl (SqL.of q1), fun p hp => pv_frz q rr hp (rv_lst.mpr ⟨p, _, rfl, upd_same, r1.ext (rr.freeze hp).2⟩)⟩
      | _ => simp only [ec] at q; exact q.elim
    | _ => exact q.elim
  | int =>
    refine CallR.cas fun xs H Q ⟨w, h, d, x, rr, rd, ex, q⟩ => ?_
    subst ex
    simp only [biop] at q
    cases d with
    | int i =>
      rw [rv_int.mp rd]
      exact ⟨_, call_int1, .inl ⟨_, rfl, pv_now q rr (rv_int.mpr rfl)⟩⟩
    | bl b =>
      rw [rv_bl.mp rd]
      exact ⟨_, call_int1, .inr ⟨_, rfl, pv_now q rr (rv_int.mpr rfl)⟩⟩
    | str s =>
      obtain ⟨rfl, _⟩ := rv_str.mp rd
      obtain ⟨⟨h1, h2, h3⟩, q⟩ := if_ok q
      refine ⟨_, call_int_str, stt s, _, rfl, SX.int_S h1 (fun z => by rw [z] at h2; cases h2) (by omega), by rw [stt_len]; exact h3, pv_now q rr (rv_int.mpr rfl)⟩
    | _ => exact q.elim
  | str =>
    refine CallR.cas fun xs H Q ⟨w, h, d, x, rr, rd, ex, q⟩ => ?_
    subst ex
    simp only [biop] at q
    cases d with
    | str s =>
      obtain ⟨rfl, ho⟩ := rv_str.mp rd
      exact ⟨_, SkE.call_str_str, _, rfl, pv_now q rr (rv_str.mpr ⟨rfl, ho⟩)⟩
    | int i =>
      rw [rv_int.mp rd]
      obtain ⟨⟨h1, h2⟩, q⟩ := if_ok q
      refine ⟨_, call_str_int, i, rfl, ?_, ?_⟩
      · by_cases h0 : i.natAbs = 0
        · rw [h0]; decide
        · refine (Nat.log2_lt h0).mpr (Nat.lt_of_lt_of_le (show i.natAbs < 1000000000000 by omega) ?_)
          exact Nat.le_trans (show 1000000000000 ≤ 2 ^ 40 by decide) (Nat.pow_le_pow_right (by decide) (by decide))
      · have e1 : (toString i : String) = toString ((i.toNat : Nat) : Int) := by rw [Int.toNat_of_nonneg h1]
        have e2 : Str.ofString (toString i) = stt (TL.numL i.toNat) := by rw [e1]; exact SX.num_S _
        show Q (.str (Str.ofString (toString i))) H
        rw [e2]
        exact pv_now q rr (rv_str.mpr ⟨rfl, numL_ok _⟩)
    | _ => exact q.elim
  | sorted =>
    refine CallR.cas fun xs H Q ⟨w, h, d, x, rr, rd, ex, q⟩ => ?_
    subst ex
    simp only [biop] at q
    cases d with
    | lst l =>
      obtain ⟨a, xs, rfl, q1, r1⟩ := rv_lst.mp rd
      cases es : strL l with
      | none => simp only [es] at q; exact q.elim
      | some ys =>
        simp only [es] at q
        obtain ⟨e2, oy⟩ := strL_rv es r1
        subst e2
        refine ⟨_, cr_sortedS, a, ys.map stt, rfl, SqL.of (rr.sub _ _ q1), fun zs p h1 h2 hp => ?_⟩
        have ez := sortS_eq h1 h2
        subst ez
        refine pv_frz q rr hp (rv_lst.mpr ⟨p, _, rfl, upd_same, rvs_sts fun s hs => ?_⟩)
        obtain ⟨y, hy, rfl⟩ := List.mem_map.mp (h2.perm.mem_iff.mp hs)
        exact oy y hy
    | _ => exact q.elim
  | abs =>
    refine CallR.cas fun xs H Q ⟨w, h, d, x, rr, rd, ex, q⟩ => ?_
    exact q.elim
/-! ### isinstance -/
def kname : IK → String
  | .int => "int" | .str => "str" | .bool => "bool" | .tuple => "tuple" | .list => "list" | _ => ""
/-- a kind that is one built-in type -/
def ksimple : IK → Bool
  | .int | .str | .bool | .tuple | .list => true
  | _ => false
def tyn : D → String
  | .non => "NoneType" | .bl _ => "bool" | .int _ => "int" | .str _ => "str" | .tup _ => "tuple" | .lst _ => "list" | _ => ""
theorem tyx_of {w : Wd} {h : AH} {H : Hp} {d : D} {x : V} {K : PySem.W.Frag} (hK : K = g.K) (rr : RR g w h H) (rv : RV g w h.nx d x) {kk : IK} {b : Bool} (hi : isk d kk = some b) : TyX K H x (.type (tyn d)) := by
  cases d with
  | non => rw [rv_non.mp rv]; exact .base .non
  | bl b => rw [rv_bl.mp rv]; exact .base (.bl _)
  | int b => rw [rv_int.mp rv]; exact .base (.int _)
  | str b => rw [(rv_str.mp rv).1]; exact .base (.str _)
  | tup l =>
    obtain ⟨a, xs, rfl, q1, r1⟩ := rv_tup.mp rv
    rcases q1 with (q1 | ⟨o, q1⟩) | ⟨o, its, n, q1, q2, _⟩
    · exact .base (.tup (rr.sub _ _ q1))
    · exact .fTuple (rr.sub _ _ q1)
    · exact .kTuple (by rw [hK]; exact q1) q2
  | lst l =>
    obtain ⟨a, xs, rfl, q1, r1⟩ := rv_lst.mp rv
    exact .base (.lst (rr.sub _ _ q1))
  | _ => cases kk <;> cases hi
theorem kit_tyn {d : D} {kk : IK} {b : Bool} {K : PySem.W.Frag} (hs : ksimple kk = true) (hi : isk d kk = some b) : PySem.W.kitOne K (.type (tyn d)) (.type (kname kk)) = some b := by
  have e : ∀ {a z : String} {r : Bool}, kitB a z = some r → r = b → PySem.W.kitOne K (.type a) (.type z) = some b := fun h e => e ▸ kit_ty h
  cases kk <;> first
    | exact absurd hs (by decide)
    | (cases d <;> first
        | (cases hi; simp only [tyn, kname]; exact kit_ty (by decide +kernel))
        | exact absurd hi (by unfold isk; exact fun z => nomatch z))
/-! ### truth -/
theorem tru_of {w : Wd} {h : AH} {H : Hp} {d : D} {x : V} {b : Bool} {K : PySem.W.Frag} (hK : K = g.K) (rr : RR g w h H) (rv : RV g w h.nx d x) (ht : truth d = some b) : TruV K x H b := by
  cases d with
  | non => rw [rv_non.mp rv]; cases ht; exact rfl
  | bl b => rw [rv_bl.mp rv]; cases ht; exact rfl
  | int b => rw [rv_int.mp rv]; cases ht; exact rfl
  | str s =>
    obtain ⟨rfl, _⟩ := rv_str.mp rv
    obtain ⟨hl, rfl⟩ := opt_if ht
    refine ⟨by rw [stt_len, sizeL]; exact hl, ?_⟩
    rw [stt_len]
    cases s <;> rfl
  | tup l =>
    obtain ⟨a, xs, rfl, q1, r1⟩ := rv_tup.mp rv
    cases ht
    refine .inr (.inl ⟨xs, by rw [hK]; exact SqT.ext rr.sub q1, ?_⟩)
    cases l with
    | nil => rw [rvs_nil.mp r1]; rfl
    | cons d l => obtain ⟨y, ys, rfl, _, _⟩ := rvs_cons.mp r1; rfl
  | lst l =>
    obtain ⟨a, xs, rfl, q1, r1⟩ := rv_lst.mp rv
    cases ht
    refine .inl ⟨xs, SqL.of (rr.sub _ _ q1), ?_⟩
    cases l with
    | nil => rw [rvs_nil.mp r1]; rfl
    | cons d l => obtain ⟨y, ys, rfl, _, _⟩ := rvs_cons.mp r1; rfl
  | _ => cases ht
/-! ### join -/
theorem sumN_eq (ys : List (List Nat)) : ((ys.map stt).map (·.length)).sum = sumN ys := by
  induction ys with
  | nil => rfl
  | cons y ys ih =>
    rw [List.map_cons, List.map_cons, List.sum_cons, ih, stt_len]
    rfl
theorem okS_join {s : List Nat} (hs : okS s = true) : ∀ {ys : List (List Nat)}, (∀ y ∈ ys, okS y = true) → okS (TL.joinL s ys) = true
  | [], _ => rfl
  | [y], h => h y List.mem_cons_self
  | y :: z :: r, h => by
    show okS (y ++ (s ++ TL.joinL s (z :: r))) = true
    exact okS_app (h y List.mem_cons_self) (okS_app hs (okS_join hs fun x hx => h x (List.mem_cons_of_mem _ hx)))
/-- a method of one argument by the evaluator -/
def rM (g : Gi) (E : XK) (m : Mt) : V → List V → Hp → VK → Prop := fun x xs H Q => ∃ w h d e y, RR g w h H ∧ RV g w h.nx d x ∧ RV g w h.nx e y ∧ xs = [y] ∧ Post g w h.nx (mtop m d e h) E (PV g Q)
theorem mt_joinE (G : GX g c k X) : MtR X "str.join" (rM g E .join) := by
  refine MtR.cas fun x xs H Q ⟨w, h, d, e, y, rr, rd, re, exs, q⟩ => ?_
  subst exs
  have hK := G.K
  simp only [mtop] at q
  cases d with
  | str s =>
    obtain ⟨rfl, ks⟩ := rv_str.mp rd
    cases e with
    | lst l =>
      obtain ⟨a, xs, rfl, q1, r1⟩ := rv_lst.mp re
      cases es : strL l with
      | none => simp only [es] at q; exact q.elim
      | some ys =>
        simp only [es] at q
        obtain ⟨hl, q⟩ := if_ok q
        obtain ⟨e2, oy⟩ := strL_rv es r1
        subst e2
        refine ⟨_, mt_join, stt s, a, ys.map stt, rfl, rfl, .inl (SqL.of (rr.sub _ _ q1)), ?_, ?_⟩
        · rw [sumN_eq, List.length_map, stt_len]; exact hl
        · have ej : Txt.join (stt s) (ys.map stt) = stt (TL.joinL s ys) := SX.join_S s ys
          rw [ej]
          exact pv_now q rr (rv_str.mpr ⟨rfl, okS_join ks oy⟩)
    | tup l =>
      obtain ⟨a, xs, rfl, q1, r1⟩ := rv_tup.mp re
      cases es : strL l with
      | none => simp only [es] at q; exact q.elim
      | some ys =>
        simp only [es] at q
        obtain ⟨hl, q⟩ := if_ok q
        obtain ⟨e2, oy⟩ := strL_rv es r1
        subst e2
        refine ⟨_, mt_join, stt s, a, ys.map stt, rfl, rfl, .inr (by rw [hK]; exact SqT.ext rr.sub q1), ?_, ?_⟩
        · rw [sumN_eq, List.length_map, stt_len]; exact hl
        · have ej : Txt.join (stt s) (ys.map stt) = stt (TL.joinL s ys) := SX.join_S s ys
          rw [ej]
          exact pv_now q rr (rv_str.mpr ⟨rfl, okS_join ks oy⟩)
    | _ => exact q.elim
  | _ => exact q.elim
theorem spl_okS {b : List Nat} : ∀ (a : List Nat) (k : Nat) (acc : List Nat), okS acc = true → okS a = true → ∀ y ∈ TL.spl b k acc a, okS y = true
  | [], k, acc, h1, _, y, hy => by
    rw [TL.spl_nil] at hy
    rw [List.mem_singleton.mp hy]
    exact h1
  | c :: r, 0, acc, h1, h2, y, hy => by
    have hc : okS [c] = true ∧ okS r = true := by
      unfold okS at h2 ⊢
      rw [List.all_cons, Bool.and_eq_true] at h2
      exact ⟨by rw [List.all_cons, h2.1]; rfl, h2.2⟩
    unfold TL.spl at hy
    split at hy
    · rcases List.mem_cons.mp hy with rfl | hy
      · exact h1
      · exact spl_okS r _ [] rfl hc.2 y hy
    · exact spl_okS r 0 _ (okS_app h1 hc.1) hc.2 y hy
  | c :: r, k + 1, acc, h1, h2, y, hy => by
    have hc : okS r = true := by
      unfold okS at h2 ⊢
      rw [List.all_cons, Bool.and_eq_true] at h2
      exact h2.2
    unfold TL.spl at hy
    exact spl_okS r k acc h1 hc y hy
theorem rvs_strs {w : Wd} {n : Nat} : ∀ ys : List (List Nat), (∀ y ∈ ys, okS y = true) → RVs g w n (ys.map D.str) ((ys.map stt).map V.str)
  | [], _ => RVs.nil
  | y :: ys, h => RVs.mk (rv_str.mpr ⟨rfl, h y List.mem_cons_self⟩) (rvs_strs ys fun z hz => h z (List.mem_cons_of_mem _ hz))
theorem mt_splitE (G : GX g c k X) : MtR X "str.split" (rM g E .split) := by
  refine MtR.cas fun x xs H Q ⟨w, h, d, e, y, rr, rd, re, exs, q⟩ => ?_
  subst exs
  simp only [mtop] at q
  cases d with
  | str s =>
    obtain ⟨rfl, ks⟩ := rv_str.mp rd
    cases e with
    | str b =>
      obtain ⟨rfl, kb⟩ := rv_str.mp re
      obtain ⟨⟨h1, h2, h3⟩, q⟩ := if_ok q
      have hb : b ≠ [] := fun z => by rw [z] at h1; cases h1
      refine ⟨_, mt_split, stt s, stt b, rfl, rfl, ?_, by rw [stt_len, sizeL]; exact h3, fun p hp => ?_⟩
      · rw [stt_len, beq_eq_false_iff_ne]
        exact fun z => hb (List.eq_nil_of_length_eq_zero z)
      · have es : Txt.split (stt s) (stt b) = (TL.spl b 0 [] s).map stt := SX.split_S hb h2
        rw [es]
        exact pv_frz q rr hp (rv_lst.mpr ⟨p, _, rfl, upd_same, rvs_strs _ (spl_okS s 0 [] rfl ks)⟩)
    | _ => exact q.elim
  | _ => exact q.elim
theorem rstrip_stt (s b : List Nat) : Txt.rstripChars (stt s) (stt b) = stt (s.take (PySem.stripHi (stt b).cps.contains true (stt s) 0)) := by
  unfold Txt.rstripChars
  rw [stripBy_eq]
  show PySem.Builtin.Str.strSub (stt s) 0 (PySem.stripHi (stt b).cps.contains true (stt s) 0) = _
  generalize PySem.stripHi (stt b).cps.contains true (stt s) 0 = j
  show (⟨s.toArray.extract 0 j⟩ : Str) = ⟨(s.take j).toArray⟩
  rw [List.extract_toArray]
  simp [List.extract]
theorem okS_take {s : List Nat} (j : Nat) (h : okS s = true) : okS (s.take j) = true := by
  unfold okS at h ⊢
  rw [List.all_eq_true] at h ⊢
  exact fun c hc => h c (List.mem_of_mem_take hc)
theorem mt_rstripE (G : GX g c k X) : MtR X "str.rstrip" (rM g E .rstrip) := by
  refine MtR.cas fun x xs H Q ⟨w, h, d, e, y, rr, rd, re, exs, q⟩ => ?_
  subst exs
  simp only [mtop] at q
  cases d with
  | str s =>
    obtain ⟨rfl, ks⟩ := rv_str.mp rd
    cases e with
    | str b =>
      obtain ⟨rfl, kb⟩ := rv_str.mp re
      obtain ⟨hl, q⟩ := if_ok q
      refine ⟨_, mt_rstripChars, stt s, stt b, rfl, rfl, by rw [stt_len, sizeL]; exact hl, ?_⟩
      rw [rstrip_stt]
      exact pv_now q rr (rv_str.mpr ⟨rfl, okS_take _ ks⟩)
    | _ => exact q.elim
  | _ => exact q.elim
theorem mt_indexE (G : GX g c k X) : MtR X "str.index" (rM g E .index) := by
  refine MtR.cas fun x xs H Q ⟨w, h, d, e, y, rr, rd, re, exs, q⟩ => ?_
  subst exs
  simp only [mtop] at q
  cases d with
  | str s =>
    obtain ⟨rfl, ks⟩ := rv_str.mp rd
    cases e with
    | str b =>
      obtain ⟨rfl, kb⟩ := rv_str.mp re
      dsimp only at q
      split at q
      · rename_i i rest ho
        exact ⟨_, mt_sindex, stt s, stt b, i, rest, rfl, rfl, by rw [stt_len]; exact ho, pv_now q rr (rv_int.mpr rfl)⟩
      · exact q.elim
    | _ => exact q.elim
  | _ => exact q.elim
/-! ### repr -/
mutual
def okD : D → Bool
  | .str s => okS s
  | .tup l => okDs l
  | .lst l => okDs l
  | _ => true
def okDs : List D → Bool
  | [] => true
  | d :: l => okD d && okDs l
end
mutual
theorem okD_of {w : Wd} {n : Nat} : ∀ (d : D) (v : V), RV g w n d v → okD d = true
  | .str s, v, h => by unfold okD; exact (rv_str.mp h).2
  | .tup l, v, h => by
    obtain ⟨a, xs, _, _, r⟩ := rv_tup.mp h
    unfold okD
    exact okDs_of l xs r
  | .lst l, v, h => by
    obtain ⟨a, xs, _, _, r⟩ := rv_lst.mp h
    unfold okD
    exact okDs_of l xs r
  | .non, _, _ => by unfold okD; rfl
  | .bl _, _, _ => by unfold okD; rfl
  | .int _, _, _ => by unfold okD; rfl
  | .ref _, _, _ => by unfold okD; rfl
  | .ins _ _, _, _ => by unfold okD; rfl
  | .exc _ _, _, _ => by unfold okD; rfl
  | .scr _, _, _ => by unfold okD; rfl
  | .dct _, _, _ => by unfold okD; rfl
  | .set _, _, _ => by unfold okD; rfl
theorem okDs_of {w : Wd} {n : Nat} : ∀ (l : List D) (xs : List V), RVs g w n l xs → okDs l = true
  | [], _, _ => by unfold okDs; rfl
  | d :: l, xs, h => by
    obtain ⟨x, ys, rfl, h1, h2⟩ := rvs_cons.mp h
    unfold okDs
    rw [okD_of d x h1, okDs_of l ys h2]
    rfl
end
mutual
theorem dsame_py : ∀ (d e : D), dsame d e = true → py d = py e
  | .non, e, h => by cases e <;> (unfold dsame at h; first | rfl | cases h)
  | .bl b, e, h => by cases e <;> (unfold dsame at h; first | (rw [beq_iff_eq] at h; rw [h]) | cases h)
  | .int b, e, h => by cases e <;> (unfold dsame at h; first | (rw [beq_iff_eq] at h; rw [h]) | cases h)
  | .str b, e, h => by cases e <;> (unfold dsame at h; first | (rw [beq_iff_eq] at h; rw [h]) | cases h)
  | .tup l, e, h => by
    cases e with
    | tup m => unfold dsame at h; unfold py; rw [dsames_py l m h]
    | _ => unfold dsame at h; cases h
  | .lst l, e, h => by
    cases e with
    | lst m => unfold dsame at h; unfold py; rw [dsames_py l m h]
    | _ => unfold dsame at h; cases h
  | .ref _, e, h => by cases e <;> (unfold dsame at h; cases h)
  | .ins _ _, e, h => by cases e <;> (unfold dsame at h; cases h)
  | .exc _ _, e, h => by cases e <;> (unfold dsame at h; cases h)
  | .scr _, e, h => by cases e <;> (unfold dsame at h; cases h)
  | .dct _, e, h => by cases e <;> (unfold dsame at h; cases h)
  | .set _, e, h => by cases e <;> (unfold dsame at h; cases h)
theorem dsames_py : ∀ (l m : List D), dsames l m = true → pys l = pys m
  | [], [], _ => rfl
  | [], _ :: _, h => by unfold dsames at h; cases h
  | _ :: _, [], h => by unfold dsames at h; cases h
  | d :: l, e :: m, h => by
    unfold dsames at h
    rw [Bool.and_eq_true] at h
    unfold pys
    rw [dsame_py d e h.1, dsames_py l m h.2]
end
mutual
theorem eqv_refl' : ∀ (k : Nat) (d : D), dpt k d = true → PyData.eqv (py d) (py d) = true
  | k, .non, _ => by unfold py PyData.eqv; rfl
  | k, .bl b, _ => by unfold py PyData.eqv; exact beq_self_eq_true b
  | k, .int b, _ => by unfold py PyData.eqv; exact beq_self_eq_true b
  | k, .str b, _ => by unfold py PyData.eqv; exact beq_self_eq_true _
  | 0, .tup l, h => by unfold dpt at h; cases h
  | 0, .lst l, h => by unfold dpt at h; cases h
  | k + 1, .tup l, h => by unfold dpt at h; unfold py PyData.eqv; exact eqvs_refl' k l h
  | k + 1, .lst l, h => by unfold dpt at h; unfold py PyData.eqv; exact eqvs_refl' k l h
  | k, .ref _, h => by cases k <;> (unfold dpt at h; cases h)
  | k, .ins _ _, h => by cases k <;> (unfold dpt at h; cases h)
  | k, .exc _ _, h => by cases k <;> (unfold dpt at h; cases h)
  | k, .scr _, h => by cases k <;> (unfold dpt at h; cases h)
  | k, .dct _, h => by cases k <;> (unfold dpt at h; cases h)
  | k, .set _, h => by cases k <;> (unfold dpt at h; cases h)
theorem eqvs_refl' : ∀ (k : Nat) (l : List D), dpts k l = true → PyData.eqvAll (pys l) (pys l) = true
  | k, [], _ => by unfold pys PyData.eqvAll; rfl
  | k, d :: l, h => by
    unfold dpts at h
    rw [Bool.and_eq_true] at h
    unfold pys PyData.eqvAll
    rw [eqv_refl' k d h.1, eqvs_refl' k l h.2]
    rfl
end
mutual
theorem short_of : ∀ (d : D) (m : Nat), wt d = some m → okD d = true → (py d).leavesShort 13 = true ∧ (py d).showable = true ∧ (py d).hasDict = false ∧ (py d).bulk + 1 ≤ 2 * m
  | .non, m, h, _ => by
    unfold wt at h
    have h : 1 = m := Option.some.inj h
    unfold py; simp [PyData.leavesShort, PyData.showable, PyData.hasDict, PyData.bulk]; omega
  | .bl b, m, h, _ => by
    unfold wt at h
    have h : 1 = m := Option.some.inj h
    unfold py; simp [PyData.leavesShort, PyData.showable, PyData.hasDict, PyData.bulk]; omega
  | .int i, m, h, _ => by
    unfold wt at h
    obtain ⟨hi, hm⟩ := opt_if h
    have hl : (toString i).length ≤ 13 := int_text_length_le10 (k := 12) (by decide) (by rw [show (10 : Nat) ^ 12 = 1000000000000 by decide]; exact hi)
    unfold py
    refine ⟨?_, ?_, by simp [PyData.hasDict], by simp only [PyData.bulk]; omega⟩
    · simp only [PyData.leavesShort]
      refine decide_eq_true ?_
      rw [PyData.shown_int]
      have e : (Str.ofString (toString i)).length = (toString i).length := by
        rw [Str.ofString_eq_toList]
        show ((toString i).toList.map Char.toNat).toArray.size = _
        rw [List.size_toArray, List.length_map]
        rfl
      exact e ▸ hl
    · simp only [PyData.showable]
      refine decide_eq_true ?_
      by_cases h0 : i.natAbs = 0
      · rw [h0]; decide
      · refine (Nat.log2_lt h0).mpr (Nat.lt_of_lt_of_le hi ?_)
        exact Nat.le_trans (show 1000000000000 ≤ 2 ^ 40 by decide) (Nat.pow_le_pow_right (by decide) (by decide))
  | .str s, m, h, ho => by
    unfold wt at h
    have h : s.length + 1 = m := Option.some.inj h
    unfold okD at ho
    unfold py
    refine ⟨?_, by simp [PyData.showable], by simp [PyData.hasDict], ?_⟩
    · simp only [PyData.leavesShort, List.all_eq_true, decide_eq_true_eq]
      intro x hx
      unfold okS at ho
      have := List.all_eq_true.mp ho x (by simpa using hx)
      have h1 : x < 1114112 := of_decide_eq_true this
      have e : (16:Nat) ^ 8 = 4294967296 := by decide
      omega
    · simp only [PyData.bulk]
      simp
      omega
  | .tup l, m, h, ho => by
    unfold wt at h
    obtain ⟨j, e, rfl⟩ := Option.map_eq_some_iff.mp h
    unfold okD at ho
    obtain ⟨h1, h2, h3, h4⟩ := shorts_of l j e ho
    unfold py
    simp only [PyData.leavesShort, PyData.showable, PyData.hasDict, PyData.bulk]
    exact ⟨h1, h2, h3, by omega⟩
  | .lst l, m, h, ho => by
    unfold wt at h
    obtain ⟨j, e, rfl⟩ := Option.map_eq_some_iff.mp h
    unfold okD at ho
    obtain ⟨h1, h2, h3, h4⟩ := shorts_of l j e ho
    unfold py
    simp only [PyData.leavesShort, PyData.showable, PyData.hasDict, PyData.bulk]
    exact ⟨h1, h2, h3, by omega⟩
  | .ref _, _, h, _ => by unfold wt at h; cases h
  | .ins _ _, _, h, _ => by unfold wt at h; cases h
  | .exc _ _, _, h, _ => by unfold wt at h; cases h
  | .scr _, _, h, _ => by unfold wt at h; cases h
  | .dct _, _, h, _ => by unfold wt at h; cases h
  | .set _, _, h, _ => by unfold wt at h; cases h
theorem shorts_of : ∀ (l : List D) (m : Nat), wts l = some m → okDs l = true → PyData.leavesShortAll 13 (pys l) = true ∧ PyData.showableAll (pys l) = true ∧ PyData.hasDictAll (pys l) = false ∧ PyData.bulkAll (pys l) ≤ 2 * m
  | [], m, h, _ => by unfold pys; simp [PyData.leavesShortAll, PyData.showableAll, PyData.hasDictAll, PyData.bulkAll]
  | d :: l, m, h, ho => by
    unfold wts at h
    unfold okDs at ho
    rw [Bool.and_eq_true] at ho
    cases e1 : wt d with
    | none => rw [e1] at h; cases h
    | some a =>
      cases e2 : wts l with
      | none => rw [e1, e2] at h; cases h
      | some b =>
        rw [e1, e2] at h
        have h : a + b = m := Option.some.inj h
        obtain ⟨h1, h2, h3, h4⟩ := short_of d a e1 ho.1
        obtain ⟨k1, k2, k3, k4⟩ := shorts_of l b e2 ho.2
        unfold pys
        simp only [PyData.leavesShortAll, PyData.showableAll, PyData.hasDictAll, PyData.bulkAll, h1, h2, h3, k1, k2, k3, Bool.and_self, Bool.or_self]
        exact ⟨trivial, trivial, trivial, by omega⟩
end
end
end Rk

set_option maxHeartbeats 1000000
/-! Rk.F: expressions by the evaluator. -/
namespace Rk
open PySem PySem.Spec PyProof.Rows L2
abbrev Run (α : Type) := Env → AH → Res α
abbrev SX' := L2.St → XK
/-- the truth of what is reckoned -/
def runT (run : Run D) : Run Bool := fun env h => (run env h).bind fun x h => lift (truth x) h
structure EV (X : Cx) (g : Gi) (E : SX') (e : Expr) (run : Run D) : Prop where
  pe : PE X e (tE g E run)
  pt : PT X e (tB' g E (runT run))
section
variable {X : Cx} {g : Gi} {c : Bool} {k : Nat} {E : SX'} {e a b d : Expr} {pos : Pos} {run ra rb rd : Run D}
/-- from an expression's reading to that of a part, which goes on -/
theorem tE.step {α : Type} {ra : Run D} {f : D → AH → Res α} {P : Wd → AH → Hp → α → Prop} {w : Wd} {env : Env} {h : AH} {σ : L2.St} {H : Hp} {XE : XK}
    (q : Post g w h.nx ((ra env h).bind f) XE P) (rr : RR g w h H) (re : RE g w h.nx env σ) (hE : E σ = XE)
    {R : V → Hp → Prop} (hR : ∀ w1 h1 H1 x v, Ext w h.nx w1 h1.nx → RR g w1 h1 H1 → RE g w1 h1.nx env σ → RV g w1 h1.nx x v → Post g w1 h1.nx (f x h1) XE P → R v H1) : tE g E ra σ H R := by
  subst hE
  exact ⟨w, env, h, rr, re, q.bind.mono fun w1 h1 H1 x ext rr1 q1 v rv => hR w1 h1 H1 x v ext rr1 (re.ext ext) rv q1⟩
theorem EV.of (G : GX g c k X) (h : PE X e (tE g E run)) (he : ∀ whole, isTrue e X.env whole = (do let v ← whole; standAt e.pos; holding [v] (truthy v))) : EV X g E e run := by
  refine ⟨h, (pt_truth h he).imp fun σ H Q ⟨w, env, h, rr, re, q⟩ => ?_⟩
  exact tE.step q rr re rfl fun w1 h1 H1 x v ext rr1 re1 rv q1 => by
    obtain ⟨b, hb, q1⟩ := lift_ok q1
    exact ⟨b, tru_of G.K rr1 rv hb, q1.now rr1⟩
theorem EV.stuck : EV X g E e (fun _ _ => .stuck) := ⟨⟨fun pins s σ H Q I ⟨w, env, h, rr, re, q⟩ => q.elim⟩, ⟨fun pins s σ H Q I ⟨w, env, h, rr, re, q⟩ => q.elim⟩⟩
theorem ev_var (G : GX g c k X) {i : Nat} {x : Str} (hN : X.N[i]? = some x) (hv : Vis X.env.scope x) (hd : (x == ("__debug__" : Str)) = false) (hcd : (x == ("__classdict__" : Str)) = false) : EV X g E (.Name x pos) (fun env h => ldV env i h) := by
  refine EV.of G ((pe_var hN hv hd hcd).imp fun σ H Q ⟨w, env, h, rr, re, q⟩ => ?_) fun _ => rfl
  unfold ldV at q
  dsimp only at q
  split at q
  · rename_i dd he
    obtain ⟨v, h1, h2⟩ := re.at_ _ _ he
    exact ⟨v, h1, pv_now q rr h2⟩
  · exact q.elim
/-- a constant of the text -/
def cstOf : Const → Option D
  | .none => some .non
  | .bool b => some (.bl b)
  | .int i => some (.int i)
  | .str s => if okS s.cps.toList then some (.str s.cps.toList) else none
  | _ => none
theorem ev_cst (G : GX g c k X) {j : Nat} {cc : Const} {dd : D} (hc : cstOf cc = some dd) : EV X g E (.Constant cc j pos) (fun _ h => .ok dd h) := by
  cases cc with
  | none => cases hc; exact EV.of G (pe_non.imp fun σ H Q ⟨w, env, h, rr, re, q⟩ => pv_now q rr (rv_non.mpr rfl)) fun _ => rfl
  | bool b => cases hc; exact EV.of G (pe_bl.imp fun σ H Q ⟨w, env, h, rr, re, q⟩ => pv_now q rr (rv_bl.mpr rfl)) fun _ => rfl
  | int b => cases hc; exact EV.of G (pe_int.imp fun σ H Q ⟨w, env, h, rr, re, q⟩ => pv_now q rr (rv_int.mpr rfl)) fun _ => rfl
  | str s =>
    obtain ⟨ho, rfl⟩ := opt_if hc
    exact EV.of G (pe_str.imp fun σ H Q ⟨w, env, h, rr, re, q⟩ => pv_now q rr (rv_str.mpr ⟨rfl, ho⟩)) fun _ => rfl
  | _ => cases hc
theorem ev_glb (G : GX g c k X) {x : Str} {dd : D} {v : V} {u : Value} (hg : Gl X x) (hm : X.mg x = some u) (r : RelV v u) (hv : ∀ w n, RV g w n dd v) (hd : (x == ("__debug__" : Str)) = false) : EV X g E (.Name x pos) (fun _ h => .ok dd h) :=
  EV.of G ((pe_glob hg hm r hd).imp fun σ H Q ⟨w, env, h, rr, re, q⟩ => pv_now q rr (hv _ _)) fun _ => rfl
theorem ev_bin (G : GX g c k X) {o : Operator} (ha : EV X g E a ra) (hb : EV X g E b rb) : EV X g E (.BinOp a o b pos) (fun env h => (ra env h).bind fun x h => (rb env h).bind fun y h => binop o x y h) := by
  refine EV.of G (PE.mk fun pins s σ H Q I ⟨w, env, h, rr, re, q⟩ => ?_) fun _ => rfl
  refine (pe_op (op_bin (E := E σ) G o) ha.pe hb.pe).run pins s σ H Q I ?_
  refine tE.step q rr re rfl fun w1 h1 H1 x v ext rr1 re1 rv q1 => ?_
  refine tE.step q1 rr1 re1 rfl fun w2 h2 H2 y u ext2 rr2 re2 rv2 q2 => ?_
  exact ⟨w2, h2, x, y, rr2, rv.ext ext2 _ _, rv2, q2⟩
theorem ev_neg (G : GX g c k X) (ha : EV X g E a ra) : EV X g E (.UnaryOp .USub a pos) (fun env h => (ra env h).bind fun x h => match x with
    | .int i => .ok (.int (-i)) h
    | _ => .stuck) := by
  refine EV.of G ((pe_un un_neg ha.pe).imp fun σ H Q ⟨w, env, h, rr, re, q⟩ => ?_) fun _ => rfl
  refine tE.step q rr re rfl fun w1 h1 H1 x v ext rr1 re1 rv q1 => ?_
  cases x with
  | int i => exact ⟨i, rv_int.mp rv, pv_now q1 rr1 (rv_int.mpr rfl)⟩
  | _ => exact q1.elim
/-- a test's reading by steps -/
theorem tB'.step {α : Type} {ra : Run D} {f : Bool → AH → Res α} {P : Wd → AH → Hp → α → Prop} {w : Wd} {env : Env} {h : AH} {σ : L2.St} {H : Hp} {XE : XK}
    (q : Post g w h.nx ((runT ra env h).bind f) XE P) (rr : RR g w h H) (re : RE g w h.nx env σ) (hE : E σ = XE)
    {R : Bool → Hp → Prop} (hR : ∀ w1 h1 H1 x, Ext w h.nx w1 h1.nx → RR g w1 h1 H1 → RE g w1 h1.nx env σ → Post g w1 h1.nx (f x h1) XE P → R x H1) : tB' g E (runT ra) σ H R := by
  subst hE
  exact ⟨w, env, h, rr, re, q.bind.mono fun w1 h1 H1 x ext rr1 q1 => hR w1 h1 H1 x ext rr1 (re.ext ext) q1⟩
theorem bind_assoc {α β γ : Type} (r : Res α) (f : α → AH → Res β) (k : β → AH → Res γ) : (r.bind f).bind k = r.bind fun a h => (f a h).bind k := by
  cases r <;> rfl
theorem bind_congr {α β : Type} {r : Res α} {f k : α → AH → Res β} (h : ∀ a h, f a h = k a h) : r.bind f = r.bind k := by
  cases r with
  | ok a h' => exact h a h'
  | _ => rfl
theorem ev_not (G : GX g c k X) (ha : EV X g E a ra) : EV X g E (.UnaryOp .Not a pos) (fun env h => (ra env h).bind fun x h => lift ((truth x).map fun b => .bl !b) h) := by
  refine ⟨(pe_notT ha.pe).imp fun σ H Q ⟨w, env, h, rr, re, q⟩ => ?_, (pt_not ha.pt).imp fun σ H Q ⟨w, env, h, rr, re, q⟩ => ?_⟩
  · refine tE.step q rr re rfl fun w1 h1 H1 x v ext rr1 re1 rv q1 => ?_
    obtain ⟨b, hb, q1⟩ := lift_map q1
    exact ⟨b, tru_of G.K rr1 rv hb, pv_now q1 rr1 (rv_bl.mpr rfl)⟩
  · have e : runT (fun env h => (ra env h).bind fun x h => lift ((truth x).map fun b => D.bl !b) h) env h = (runT ra env h).bind fun b h => .ok (!b) h := by
      unfold runT
      rw [bind_assoc, bind_assoc]
      refine bind_congr fun x h => ?_
      cases truth x <;> rfl
    rw [e] at q
    exact tB'.step q rr re rfl fun w1 h1 H1 x ext rr1 re1 q1 => q1.now rr1
/-! ### and, or: lists of values -/
structure BV (X : Cx) (g : Gi) (E : SX') (o : BoolOp) (l : List Expr) (run : Run D) : Prop where
  pe : ∀ pos, PE X (.BoolOp o l pos) (tE g E run)
  pw : ∀ pos, PW X (.BoolOp o l pos) (tB' g E (runT run))
theorem PW.imp' {X : Cx} {e : Expr} {t t' : TT} (h : PW X e t) (k : ∀ σ H Q, t' σ H Q → t σ H Q) : PW X e t' := ⟨fun wh pins s σ H Q I q => h.run wh pins s σ H Q I (k _ _ _ q)⟩
theorem bv_one (ha : EV X g E a ra) (o : BoolOp) : BV X g E o [a] ra := by
  cases o with
  | And => exact ⟨fun _ => pe_one ha.pe, fun _ => pw_and1 ha.pt⟩
  | Or => exact ⟨fun _ => pe_one ha.pe, fun _ => pw_or1 ha.pt⟩
def andR (ra rb : Run D) : Run D := fun env h => (ra env h).bind fun x h => match truth x with
    | some true => rb env h
    | some false => .ok x h
    | none => .stuck
def orR (ra rb : Run D) : Run D := fun env h => (ra env h).bind fun x h => match truth x with
    | some true => .ok x h
    | some false => rb env h
    | none => .stuck
theorem bv_and (G : GX g c k X) {l : List Expr} (ha : EV X g E a ra) (hb : BV X g E .And (b :: l) rb) : BV X g E .And (a :: b :: l) (andR ra rb) := by
  refine ⟨fun pos => (pe_andT ha.pe (hb.pe pos)).imp fun σ H Q ⟨w, env, h, rr, re, q⟩ => ?_, fun pos => PW.imp' (pw_and ha.pt (hb.pw pos)) fun σ H Q ⟨w, env, h, rr, re, q⟩ => ?_⟩
  · refine tE.step q rr re rfl fun w1 h1 H1 x v ext rr1 re1 rv q1 => ?_
    cases ht : truth x with
    | none => simp only [ht] at q1; exact q1.elim
    | some t =>
      refine ⟨t, tru_of G.K rr1 rv ht, ?_⟩
      cases t with
      | true => simp only [ht] at q1; exact iteT ⟨w1, env, h1, rr1, re1, q1⟩
      | false => simp only [ht] at q1; exact iteF (pv_now q1 rr1 rv)
  · have e : runT (andR ra rb) env h = (runT ra env h).bind fun t h => if t then runT rb env h else .ok false h := by
      unfold runT andR
      rw [bind_assoc, bind_assoc]
      refine bind_congr fun x h => ?_
      cases ht : truth x with
      | none => rfl
      | some t => cases t with
        | true => rfl
        | false => show (Res.ok x h).bind _ = _; rw [bind_ok, ht]; rfl
    rw [e] at q
    refine tB'.step q rr re rfl fun w1 h1 H1 x ext rr1 re1 q1 => ?_
    cases x with
    | true => exact iteT ⟨w1, env, h1, rr1, re1, q1⟩
    | false => exact iteF (q1.now rr1)
theorem bv_or (G : GX g c k X) {l : List Expr} (ha : EV X g E a ra) (hb : BV X g E .Or (b :: l) rb) : BV X g E .Or (a :: b :: l) (orR ra rb) := by
  refine ⟨fun pos => (pe_orT ha.pe (hb.pe pos)).imp fun σ H Q ⟨w, env, h, rr, re, q⟩ => ?_, fun pos => PW.imp' (pw_or ha.pt (hb.pw pos)) fun σ H Q ⟨w, env, h, rr, re, q⟩ => ?_⟩
  · refine tE.step q rr re rfl fun w1 h1 H1 x v ext rr1 re1 rv q1 => ?_
    cases ht : truth x with
    | none => simp only [ht] at q1; exact q1.elim
    | some t =>
      refine ⟨t, tru_of G.K rr1 rv ht, ?_⟩
      cases t with
      | false => simp only [ht] at q1; exact iteF ⟨w1, env, h1, rr1, re1, q1⟩
      | true => simp only [ht] at q1; exact iteT (pv_now q1 rr1 rv)
  · have e : runT (orR ra rb) env h = (runT ra env h).bind fun t h => if t then .ok true h else runT rb env h := by
      unfold runT orR
      rw [bind_assoc, bind_assoc]
      refine bind_congr fun x h => ?_
      cases ht : truth x with
      | none => rfl
      | some t => cases t with
        | false => rfl
        | true => show (Res.ok x h).bind _ = _; rw [bind_ok, ht]; rfl
    rw [e] at q
    refine tB'.step q rr re rfl fun w1 h1 H1 x ext rr1 re1 q1 => ?_
    cases x with
    | false => exact iteF ⟨w1, env, h1, rr1, re1, q1⟩
    | true => exact iteT (q1.now rr1)
theorem BV.ev {o : BoolOp} {l : List Expr} (h : BV X g E o l run) : EV X g E (.BoolOp o l pos) run := ⟨h.pe pos, (h.pw pos).pt⟩
def ifeR (rt ra rb : Run D) : Run D := fun env h => (rt env h).bind fun x h => match truth x with
    | some true => ra env h
    | some false => rb env h
    | none => .stuck
theorem pt_ifExp {cnd : Expr} {tc ta tb : TT} (hc : PT X cnd tc) (ha : PT X a ta) (hb : PT X b tb) : PT X (.IfExp cnd a b pos) (fun σ H Q => tc σ H fun c H1 => if c = true then ta σ H1 Q else tb σ H1 Q) := by
  refine ⟨fun pins s σ H Q I h => ?_⟩
  refine isTrue_IfExp (thn (hc.run pins s σ H _ I h) fun d s1 ⟨H1, I1, q1⟩ => ?_)
  cases d with
  | true => exact ha.run pins s1 σ H1 Q I1 q1
  | false => exact hb.run pins s1 σ H1 Q I1 q1
theorem ev_ife (G : GX g c k X) {cnd : Expr} {rt : Run D} (ht : EV X g E cnd rt) (ha : EV X g E a ra) (hb : EV X g E b rb) : EV X g E (.IfExp cnd a b pos) (ifeR rt ra rb) := by
  have e0 : ∀ (env : Env) (h : AH), ifeR rt ra rb env h = (runT rt env h).bind fun t h => if t then ra env h else rb env h := fun env h => by
    unfold runT ifeR
    rw [bind_assoc]
    refine bind_congr fun x h => ?_
    cases hx : truth x with
    | none => rfl
    | some t => cases t <;> rfl
  refine ⟨(pe_ifExp ht.pt ha.pe hb.pe).imp fun σ H Q ⟨w, env, h, rr, re, q⟩ => ?_, (pt_ifExp ht.pt ha.pt hb.pt).imp fun σ H Q ⟨w, env, h, rr, re, q⟩ => ?_⟩
  · rw [e0] at q
    refine tB'.step q rr re rfl fun w1 h1 H1 x ext rr1 re1 q1 => ?_
    cases x with
    | true => exact iteT ⟨w1, env, h1, rr1, re1, q1⟩
    | false => exact iteF ⟨w1, env, h1, rr1, re1, q1⟩
  · have e1 : runT (ifeR rt ra rb) env h = (runT rt env h).bind fun t h => if t then runT ra env h else runT rb env h := by
      unfold runT
      rw [e0]
      unfold runT
      rw [bind_assoc]
      refine bind_congr fun x h => ?_
      cases x <;> rfl
    rw [e1] at q
    refine tB'.step q rr re rfl fun w1 h1 H1 x ext rr1 re1 q1 => ?_
    cases x with
    | true => exact iteT ⟨w1, env, h1, rr1, re1, q1⟩
    | false => exact iteF ⟨w1, env, h1, rr1, re1, q1⟩
/-! ### comparisons -/
theorem ev_cmp (G : GX g c k X) {o : CmpOp} (ha : EV X g E a ra) (hb : EV X g E b rb) (hm : behindInMarks o b = false) : EV X g E (.Compare a [o] [b] pos) (fun env h => (ra env h).bind fun x h => (rb env h).bind fun y h => lift ((cmpop o x y).map .bl) h) := by
  refine ⟨(pe_cmpR (op_cmp G o) ha.pe hb.pe hm).imp fun σ H Q ⟨w, env, h, rr, re, q⟩ => ?_, (pt_cmpR (op_cmp G o) ha.pe hb.pe hm).imp fun σ H Q ⟨w, env, h, rr, re, q⟩ => ?_⟩
  · refine tE.step q rr re rfl fun w1 h1 H1 x v ext rr1 re1 rv q1 => ?_
    refine tE.step q1 rr1 re1 rfl fun w2 h2 H2 y u ext2 rr2 re2 rv2 q2 => ?_
    obtain ⟨bb, hb, q2⟩ := lift_map q2
    exact ⟨w2, h2, x, y, bb, rr2, rv.ext ext2 _ _, rv2, hb, pv_now q2 rr2 (rv_bl.mpr rfl)⟩
  · have e : runT (fun env h => (ra env h).bind fun x h => (rb env h).bind fun y h => lift ((cmpop o x y).map .bl) h) env h = (ra env h).bind fun x h => (rb env h).bind fun y h => lift (cmpop o x y) h := by
      unfold runT
      rw [bind_assoc]
      refine bind_congr fun x h => ?_
      rw [bind_assoc]
      refine bind_congr fun y h => ?_
      cases cmpop o x y <;> rfl
    rw [e] at q
    refine tE.step q rr re rfl fun w1 h1 H1 x v ext rr1 re1 rv q1 => ?_
    refine tE.step q1 rr1 re1 rfl fun w2 h2 H2 y u ext2 rr2 re2 rv2 q2 => ?_
    obtain ⟨bb, hb, q2⟩ := lift_ok q2
    exact ⟨w2, h2, x, y, bb, rr2, rv.ext ext2 _ _, rv2, hb, bb, rfl, q2.now rr2⟩
def cmp2R (o1 o2 : CmpOp) (ra rb rd : Run D) : Run D := fun env h => (ra env h).bind fun x h => (rb env h).bind fun y h => match cmpop o1 x y with
    | some true => (rd env h).bind fun z h => lift ((cmpop o2 y z).map .bl) h
    | some false => .ok (.bl false) h
    | none => .stuck
theorem ev_cmp2 (G : GX g c k X) {o1 o2 : CmpOp} (ha : EV X g E a ra) (hb : EV X g E b rb) (hd : EV X g E d rd) (hm : lastMarks [o1, o2] [b, d] = false) : EV X g E (.Compare a [o1, o2] [b, d] pos) (cmp2R o1 o2 ra rb rd) := by
  refine ⟨(pe_chain (op_cmp G o1) (op_cmp G o2) ha.pe hb.pe hd.pe hm).imp fun σ H Q ⟨w, env, h, rr, re, q⟩ => ?_, (pt_chain (op_cmp G o1) (op_cmp G o2) ha.pe hb.pe hd.pe hm).imp fun σ H Q ⟨w, env, h, rr, re, q⟩ => ?_⟩
  · unfold cmp2R at q
    refine tE.step q rr re rfl fun w1 h1 H1 x v ext rr1 re1 rv q1 => ?_
    refine tE.step q1 rr1 re1 rfl fun w2 h2 H2 y u ext2 rr2 re2 rv2 q2 => ?_
    cases hc : cmpop o1 x y with
    | none => simp only [hc] at q2; exact q2.elim
    | some t =>
      simp only [hc] at q2
      refine ⟨w2, h2, x, y, t, rr2, rv.ext ext2 _ _, rv2, hc, t, rfl, ?_⟩
      cases t with
      | false => exact iteF (pv_now q2 rr2 (rv_bl.mpr rfl))
      | true =>
        refine iteT (tE.step q2 rr2 re2 rfl fun w3 h3 H3 z u3 ext3 rr3 re3 rv3 q3 => ?_)
        obtain ⟨bb, hb, q3⟩ := lift_map q3
        exact ⟨w3, h3, y, z, bb, rr3, rv2.ext ext3 _ _, rv3, hb, pv_now q3 rr3 (rv_bl.mpr rfl)⟩
  · have e : runT (cmp2R o1 o2 ra rb rd) env h = (ra env h).bind fun x h => (rb env h).bind fun y h => match cmpop o1 x y with
        | some true => (rd env h).bind fun z h => lift (cmpop o2 y z) h
        | some false => .ok false h
        | none => .stuck := by
      unfold runT cmp2R
      rw [bind_assoc]
      refine bind_congr fun x h => ?_
      rw [bind_assoc]
      refine bind_congr fun y h => ?_
      cases cmpop o1 x y with
      | none => rfl
      | some t => cases t with
        | false => rfl
        | true =>
          show ((rd env h).bind _).bind _ = _
          rw [bind_assoc]
          refine bind_congr fun z h => ?_
          cases cmpop o2 y z <;> rfl
    rw [e] at q
    refine tE.step q rr re rfl fun w1 h1 H1 x v ext rr1 re1 rv q1 => ?_
    refine tE.step q1 rr1 re1 rfl fun w2 h2 H2 y u ext2 rr2 re2 rv2 q2 => ?_
    cases hc : cmpop o1 x y with
    | none => simp only [hc] at q2; exact q2.elim
    | some t =>
      simp only [hc] at q2
      refine ⟨w2, h2, x, y, t, rr2, rv.ext ext2 _ _, rv2, hc, t, rfl, ?_⟩
      cases t with
      | false => exact iteF ⟨false, rfl, q2.now rr2⟩
      | true =>
        refine iteT (tE.step q2 rr2 re2 rfl fun w3 h3 H3 z u3 ext3 rr3 re3 rv3 q3 => ?_)
        obtain ⟨bb, hb, q3⟩ := lift_ok q3
        exact ⟨w3, h3, y, z, bb, rr3, rv2.ext ext3 _ _, rv3, hb, bb, rfl, q3.now rr3⟩
theorem none_dec {w : Wd} {n : Nat} {x : D} {v : V} (rv : RV g w n x v) : decide (v = .non) = isN x := by
  cases x with
  | non => rw [rv_non.mp rv]; rfl
  | bl b => rw [rv_bl.mp rv]; rfl
  | int b => rw [rv_int.mp rv]; rfl
  | str b => rw [(rv_str.mp rv).1]; rfl
  | tup l => obtain ⟨a, xs, rfl, _⟩ := rv_tup.mp rv; rfl
  | lst l => obtain ⟨a, xs, rfl, _⟩ := rv_lst.mp rv; rfl
  | ref l => obtain ⟨rfl, _⟩ := rv_ref.mp rv; rfl
  | scr l => obtain ⟨a, rfl, _⟩ := rv_scr.mp rv; rfl
  | ins c fs => unfold RV at rv; obtain ⟨_, a, dx, gs, rfl, _⟩ := rv; rfl
  | _ => unfold RV at rv; exact rv.elim
theorem ev_isn (G : GX g c k X) {j : Nat} {p2 : Pos} (ha : EV X g E a ra) : EV X g E (.Compare a [.Is] [.Constant .none j p2] pos) (fun env h => (ra env h).bind fun x h => .ok (.bl (isN x)) h) := by
  refine ⟨(pe_cmp (pc_isN ha.pe) rfl).imp fun σ H Q ⟨w, env, h, rr, re, q⟩ => ?_, (pt_cmp (pc_isN ha.pe) rfl).imp fun σ H Q ⟨w, env, h, rr, re, q⟩ => ?_⟩
  · refine tE.step q rr re rfl fun w1 h1 H1 x v ext rr1 re1 rv q1 => ?_
    exact pv_now q1 rr1 (rv_bl.mpr (by rw [none_dec rv]))
  · unfold runT at q
    rw [bind_assoc] at q
    refine tE.step q rr re rfl fun w1 h1 H1 x v ext rr1 re1 rv q1 => ?_
    exact ⟨_, rfl, by rw [none_dec rv]; exact q1.now rr1⟩
theorem ev_isnn (G : GX g c k X) {j : Nat} {p2 : Pos} (ha : EV X g E a ra) : EV X g E (.Compare a [.IsNot] [.Constant .none j p2] pos) (fun env h => (ra env h).bind fun x h => .ok (.bl (!isN x)) h) := by
  refine ⟨(pe_cmp (pc_notN ha.pe) rfl).imp fun σ H Q ⟨w, env, h, rr, re, q⟩ => ?_, (pt_cmp (pc_notN ha.pe) rfl).imp fun σ H Q ⟨w, env, h, rr, re, q⟩ => ?_⟩
  · refine tE.step q rr re rfl fun w1 h1 H1 x v ext rr1 re1 rv q1 => ?_
    exact pv_now q1 rr1 (rv_bl.mpr (by rw [none_dec rv]))
  · unfold runT at q
    rw [bind_assoc] at q
    refine tE.step q rr re rfl fun w1 h1 H1 x v ext rr1 re1 rv q1 => ?_
    exact ⟨_, rfl, by rw [none_dec rv]; exact q1.now rr1⟩
end
end Rk

set_option maxHeartbeats 1000000
/-! Rk.G: arguments, displays, subscripts, built-ins, calls. -/
namespace Rk
open PySem PySem.Spec PyProof.Rows L2
/-! ### syntactic facts -/
def nst : Expr → Bool
  | .Starred _ _ => false
  | _ => true
theorem nst_ok {e : Expr} (h : nst e = true) (es : List Expr) (env : PySem.Env) : starEach (e :: es) env = (false, eval e env) :: starEach es env := by
  cases e <;> first
    | rfl
    | exact absurd h (by unfold nst; exact Bool.false_ne_true)
def nsts (l : List Expr) : Bool := l.all nst
theorem nsts_any {l : List Expr} (h : nsts l = true) (pos : Pos) (env : PySem.Env) : (backTo pos (starEach l env)).any (·.1) = false := by
  induction l with
  | nil => rfl
  | cons e l ih =>
    unfold nsts at h
    rw [List.all_cons, Bool.and_eq_true] at h
    rw [nst_ok h.1]
    show (false || (backTo pos (starEach l env)).any (·.1)) = false
    rw [ih h.2]
    rfl
def nsl : Expr → Bool
  | .Slice .. => false
  | _ => true
theorem nsl_ok {e : Expr} (h : nsl e = true) : PlainIx e := by
  intro o i
  cases e <;> first
    | rfl
    | exact absurd h (by unfold nsl; exact Bool.false_ne_true)
/-- an expression whose test is its value's truth -/
def plainT : Expr → Bool
  | .UnaryOp .Not _ _ | .BoolOp .. | .IfExp .. | .Compare .. => false
  | _ => true
def nsuper : Expr → Bool
  | .Call (.Name _ _) [] [] _ => false
  | _ => true
theorem nsuper_ok {e : Expr} (h : nsuper e = true) (a : Str) (env : PySem.Env) : attributeBase e a env (eval e env) = eval e env := by
  unfold nsuper at h
  split at h
  · cases h
  · rename_i hn
    unfold attributeBase
    split
    · rename_i id p pos
      exact absurd rfl (hn id p pos)
    · rfl
/-- keywords, all with names -/
def kwn (kws : List Keyword) : Option (List Str) := match kws with
  | [] => some []
  | ⟨some n, _, _⟩ :: r => (kwn r).map (n :: ·)
  | _ => none
theorem kwn_ok {pos : Pos} {env : PySem.Env} : ∀ {kws : List Keyword} {ks : List Str}, kwn kws = some ks → (backToKw pos (keywordEach kws env)).all (·.1.isSome) = true ∧ (backToKw pos (keywordEach kws env)).filterMap (·.1) = ks ∧ (backToKw pos (keywordEach kws env)).any (·.1.isNone) = false
  | [], ks, h => by cases h; exact ⟨rfl, rfl, rfl⟩
  | ⟨none, _, _⟩ :: r, ks, h => by cases h
  | ⟨some n, e, p⟩ :: r, ks, h => by
    obtain ⟨js, h1, rfl⟩ := Option.map_eq_some_iff.mp (show (kwn r).map (n :: ·) = some ks from h)
    obtain ⟨a, b, c⟩ := kwn_ok (pos := pos) (env := env) h1
    refine ⟨?_, ?_, ?_⟩
    · show (true && (backToKw pos (keywordEach r env)).all (·.1.isSome)) = true
      rw [a]; rfl
    · show n :: (backToKw pos (keywordEach r env)).filterMap (·.1) = n :: js
      rw [b]
    · show (false || (backToKw pos (keywordEach r env)).any (·.1.isNone)) = false
      rw [c]; rfl
section
variable {X : Cx} {g : Gi} {c : Bool} {k : Nat} {E : SX'} {e a b d : Expr} {pos p1 p2 : Pos} {run ra rb rd : Run D} {es : List Expr} {rs : Run (List D)}
/-! ### argument lists -/
def consR (ra : Run D) (rs : Run (List D)) : Run (List D) := fun env h => (ra env h).bind fun x h => (rs env h).bind fun l h => .ok (x :: l) h
theorem tEs.step {α : Type} {rs : Run (List D)} {f : List D → AH → Res α} {P : Wd → AH → Hp → α → Prop} {w : Wd} {env : Env} {h : AH} {σ : L2.St} {H : Hp} {XE : XK}
    (q : Post g w h.nx ((rs env h).bind f) XE P) (rr : RR g w h H) (re : RE g w h.nx env σ) (hE : E σ = XE)
    {R : List V → Hp → Prop} (hR : ∀ w1 h1 H1 l xs, Ext w h.nx w1 h1.nx → RR g w1 h1 H1 → RE g w1 h1.nx env σ → RVs g w1 h1.nx l xs → Post g w1 h1.nx (f l h1) XE P → R xs H1) : tEs g E rs σ H R := by
  subst hE
  exact ⟨w, env, h, rr, re, q.bind.mono fun w1 h1 H1 l ext rr1 q1 xs rv => hR w1 h1 H1 l xs ext rr1 (re.ext ext) rv q1⟩
theorem av_nil : PA X [] (tEs g E (fun _ h => .ok [] h)) := pa_nil.imp fun σ H Q ⟨w, env, h, rr, re, q⟩ => q.now rr [] RVs.nil
theorem av_cons (hn : nst e = true) (ha : PE X e (tE g E ra)) (hs : PA X es (tEs g E rs)) : PA X (e :: es) (tEs g E (consR ra rs)) := by
  refine (pa_cons ha hs (nst_ok hn es X.env)).imp fun σ H Q ⟨w, env, h, rr, re, q⟩ => ?_
  refine tE.step q rr re rfl fun w1 h1 H1 x v ext rr1 re1 rv q1 => ?_
  exact tEs.step q1 rr1 re1 rfl fun w2 h2 H2 l xs ext2 rr2 re2 rvs q2 => q2.now rr2 _ (RVs.mk (rv.ext ext2 _ _) rvs)
theorem av_star {sp : Pos} {rs : Run (List D)} (G : GX g c k X) (ha : PE X e (tE g E ra)) (hs : PA X es (tEs g E rs)) : PA X (.Starred e sp :: es) (tEs g E fun env h => (ra env h).bind fun x h => match x with
      | .lst a => (rs env h).bind fun l h => .ok (a ++ l) h
      | .tup a => (rs env h).bind fun l h => .ok (a ++ l) h
      | _ => .stuck) := by
  have hK := G.K
  refine (StX.pa_star ha hs).imp fun σ H Q ⟨w, env, h, rr, re, q⟩ => ?_
  refine tE.step q rr re rfl fun w1 h1 H1 x v ext rr1 re1 rv q1 => ?_
  cases x with
  | lst l =>
    obtain ⟨a, xs, rfl, f1, r1⟩ := rv_lst.mp rv
    exact ⟨a, xs, rfl, .inr (SqL.of (rr1.sub _ _ f1)), tEs.step q1 rr1 re1 rfl fun w2 h2 H2 m ys ext2 rr2 re2 rvs q2 => q2.now rr2 _ ((r1.ext ext2).append rvs)⟩
  | tup l =>
    obtain ⟨a, xs, rfl, f1, r1⟩ := rv_tup.mp rv
    exact ⟨a, xs, rfl, .inl (by rw [hK]; exact SqT.ext rr1.sub f1), tEs.step q1 rr1 re1 rfl fun w2 h2 H2 m ys ext2 rr2 re2 rvs q2 => q2.now rr2 _ ((r1.ext ext2).append rvs)⟩
  | _ => exact q1.elim
theorem kv_nil : PK X [] (tEs g E (fun _ h => .ok [] h)) := ⟨fun pos pins s σ H Q I ⟨w, env, h, rr, re, q⟩ => pk_nil.run pos pins s σ H Q I (q.now rr [] RVs.nil)⟩
theorem kv_cons {nm : Option Str} {kp : Pos} {kws : List Keyword} (ha : PE X e (tE g E ra)) (hs : PK X kws (tEs g E rs)) : PK X (⟨nm, e, kp⟩ :: kws) (tEs g E (consR ra rs)) := by
  refine ⟨fun pos pins s σ H Q I ⟨w, env, h, rr, re, q⟩ => (pk_cons ha hs).run pos pins s σ H Q I ?_⟩
  refine tE.step q rr re rfl fun w1 h1 H1 x v ext rr1 re1 rv q1 => ?_
  exact tEs.step q1 rr1 re1 rfl fun w2 h2 H2 l xs ext2 rr2 re2 rvs q2 => q2.now rr2 _ (RVs.mk (rv.ext ext2 _ _) rvs)
/-! ### displays -/
theorem ev_tup (G : GX g c k X) {j : Nat} (hs : PA X es (tEs g E rs)) : EV X g E (.Tuple es j pos) (fun env h => (rs env h).bind fun l h => if l.length ≤ line then .ok (.tup l) h else .stuck) := by
  refine EV.of G ((pe_tup hs).imp fun σ H Q ⟨w, env, h, rr, re, q⟩ => ?_) fun _ => rfl
  refine tEs.step q rr re rfl fun w1 h1 H1 l xs ext rr1 re1 rvs q1 => ?_
  obtain ⟨hl, q1⟩ := if_ok q1
  exact ⟨by rw [rvs.length, sizeL]; exact hl, fun p hp => pv_frz q1 rr1 hp (rv_tup.mpr ⟨p, _, rfl, .inl (.inl upd_same), rvs.ext (rr1.freeze hp).2⟩)⟩
theorem ev_lst (G : GX g c k X) (hs : PA X es (tEs g E rs)) : EV X g E (.List es pos) (fun env h => (rs env h).bind fun l h => if l.length ≤ line then .ok (.lst l) h else .stuck) := by
  refine EV.of G ((pe_lst hs).imp fun σ H Q ⟨w, env, h, rr, re, q⟩ => ?_) fun _ => rfl
  refine tEs.step q rr re rfl fun w1 h1 H1 l xs ext rr1 re1 rvs q1 => ?_
  obtain ⟨hl, q1⟩ := if_ok q1
  exact ⟨by rw [rvs.length, sizeL]; exact hl, fun p hp => pv_frz q1 rr1 hp (rv_lst.mpr ⟨p, _, rfl, upd_same, rvs.ext (rr1.freeze hp).2⟩)⟩
theorem ev_hls (G : GX g c k X) (hs : PA X es (tEs g E rs)) : EV X g E (.List es pos) (fun env h => (rs env h).bind fun l h => if l.length ≤ line then .ok (.ref h.nx) (h.new (.lst l)) else .stuck) := by
  refine EV.of G ((pe_lst hs).imp fun σ H Q ⟨w, env, h, rr, re, q⟩ => ?_) fun _ => rfl
  refine tEs.step q rr re rfl fun w1 h1 H1 l xs ext rr1 re1 rvs q1 => ?_
  obtain ⟨hl, q1⟩ := if_ok q1
  refine ⟨by rw [rvs.length, sizeL]; exact hl, fun p hp => ?_⟩
  obtain ⟨r2, x2⟩ := rr1.alloc hp rvs
  exact q1 _ _ x2 r2 _ (rv_ref.mpr ⟨by show _ = V.ref (if h1.nx = h1.nx then p else _); rw [if_pos rfl], Nat.lt_succ_self _⟩)
/-! ### subscripts -/
theorem ev_idx (G : GX g c k X) (ha : EV X g E a ra) (hb : EV X g E b rb) (hn : nsl b = true) : EV X g E (.Subscript a b pos) (fun env h => (ra env h).bind fun x h => (rb env h).bind fun y h => idxop x y h) := by
  refine EV.of G (PE.mk fun pins s σ H Q I ⟨w, env, h, rr, re, q⟩ => ?_) fun _ => rfl
  refine (pe_ix (ix_ev (E := E σ) G) ha.pe hb.pe (nsl_ok hn)).run pins s σ H Q I ?_
  refine tE.step q rr re rfl fun w1 h1 H1 x v ext rr1 re1 rv q1 => ?_
  refine tE.step q1 rr1 re1 rfl fun w2 h2 H2 y u ext2 rr2 re2 rv2 q2 => ?_
  exact ⟨w2, h2, x, y, rr2, rv.ext ext2 _ _, rv2, q2⟩
/-- an optional part of a slice -/
def tO' (g : Gi) (E : SX') (run : Run (Option Int)) : TO := fun σ H Q => ∃ w env h, RR g w h H ∧ RE g w h.nx env σ ∧ Post g w h.nx (run env h) (E σ) (fun _ _ H' o => Q o H')
def opR (ra : Run D) : Run (Option Int) := fun env h => (ra env h).bind fun x h => match x with
    | .int i => .ok (some i) h
    | _ => .stuck
theorem ov_no : PO X none (tO' g E (fun _ h => .ok none h)) := ⟨fun pins s σ H Q I ⟨w, env, h, rr, re, q⟩ => po_none.run pins s σ H Q I (q.now rr)⟩
theorem ov_so (ha : EV X g E a ra) : PO X (some a) (tO' g E (opR ra)) := by
  refine ⟨fun pins s σ H Q I ⟨w, env, h, rr, re, q⟩ => (po_some ha.pe).run pins s σ H Q I ?_⟩
  refine tE.step q rr re rfl fun w1 h1 H1 x v ext rr1 re1 rv q1 => ?_
  cases x with
  | int i => exact ⟨i, rv_int.mp rv, q1.now rr1⟩
  | _ => exact q1.elim
theorem tO'.step {α : Type} {ro : Run (Option Int)} {f : Option Int → AH → Res α} {P : Wd → AH → Hp → α → Prop} {w : Wd} {env : Env} {h : AH} {σ : L2.St} {H : Hp} {XE : XK}
    (q : Post g w h.nx ((ro env h).bind f) XE P) (rr : RR g w h H) (re : RE g w h.nx env σ) (hE : E σ = XE)
    {R : Option Int → Hp → Prop} (hR : ∀ w1 h1 H1 o, Ext w h.nx w1 h1.nx → RR g w1 h1 H1 → RE g w1 h1.nx env σ → Post g w1 h1.nx (f o h1) XE P → R o H1) : tO' g E ro σ H R := by
  subst hE
  exact ⟨w, env, h, rr, re, q.bind.mono fun w1 h1 H1 l ext rr1 q1 => hR w1 h1 H1 l ext rr1 (re.ext ext) q1⟩
theorem ev_slc (G : GX g c k X) {lo hi : Option Expr} {rl rh : Run (Option Int)} (ha : EV X g E a ra) (hl : PO X lo (tO' g E rl)) (hh : PO X hi (tO' g E rh)) :
    EV X g E (.Subscript a (.Slice lo hi none p2) pos) (fun env h => (ra env h).bind fun x h => (rl env h).bind fun l h => (rh env h).bind fun u h => slcop x l u h) := by
  refine EV.of G (PE.mk fun pins s σ H Q I ⟨w, env, h, rr, re, q⟩ => ?_) fun _ => rfl
  refine (pe_slice (sl_ev (E := E σ) G) ha.pe hl hh).run pins s σ H Q I ?_
  refine tE.step q rr re rfl fun w1 h1 H1 x v ext rr1 re1 rv q1 => ?_
  refine tO'.step q1 rr1 re1 rfl fun w2 h2 H2 l ext2 rr2 re2 q2 => ?_
  refine tO'.step q2 rr2 re2 rfl fun w3 h3 H3 u ext3 rr3 re3 q3 => ?_
  exact ⟨w3, h3, x, rr3, (rv.ext ext2 _ _).ext ext3 _ _, q3⟩
/-! ### built-ins -/
theorem bboot (b : Bi) : bootBuiltins (bname b) = some (bval b) := by cases b <;> decide +kernel
theorem bname_ok (b : Bi) : bname b ≠ "__name__" ∧ (bname b == ("__debug__" : Str)) = false := by cases b <;> decide +kernel
theorem ev_bi (G : GX g c k X) (hc : c = true) (bb : Bi) (hg : Gl X (bname bb)) (hm : X.mg (bname bb) = none) (hn : nst a = true) (ha : EV X g E a ra) : EV X g E (.Call (.Name (bname bb) p1) [a] [] pos) (fun env h => (ra env h).bind fun x h => biop bb x h) := by
  have hv := bboot bb
  obtain ⟨k1, k2⟩ := bname_ok bb
  refine EV.of G (PE.mk fun pins s σ H Q I ⟨w, env, h, rr, re, q⟩ => ?_) fun _ => rfl
  have hA : PA X [a] (tCons (tE g E ra) tNil) := pa_cons ha.pe pa_nil (nst_ok hn [] X.env)
  have hR : tCB (rB g (E σ) bb) (tCons (tE g E ra) tNil) σ H Q := by
    refine tE.step q rr re rfl fun w1 h1 H1 x v ext rr1 re1 rv q1 => ?_
    exact ⟨w1, h1, x, v, rr1, rv, rfl, q1⟩
  have hC := call_bi (E := E σ) G hc bb
  cases bb with
  | len => exact (pe_callB hC hg hm hv hA k1 k2 (nst_ok hn [] X.env)).run pins s σ H Q I hR
  | all => exact (pe_callB hC hg hm hv hA k1 k2 (nst_ok hn [] X.env)).run pins s σ H Q I hR
  | any => exact (pe_callB hC hg hm hv hA k1 k2 (nst_ok hn [] X.env)).run pins s σ H Q I hR
  | sorted => exact (pe_callB hC hg hm hv hA k1 k2 (nst_ok hn [] X.env)).run pins s σ H Q I hR
  | abs => exact (pe_callB hC hg hm hv hA k1 k2 (nst_ok hn [] X.env)).run pins s σ H Q I hR
  | tuple => exact (pe_callTy hC hg hm hv hA k1 k2 (nst_ok hn [] X.env)).run pins s σ H Q I hR
  | list => exact (pe_callTy hC hg hm hv hA k1 k2 (nst_ok hn [] X.env)).run pins s σ H Q I hR
  | int => exact (pe_callTy hC hg hm hv hA k1 k2 (nst_ok hn [] X.env)).run pins s σ H Q I hR
  | str => exact (pe_callTy hC hg hm hv hA k1 k2 (nst_ok hn [] X.env)).run pins s σ H Q I hR
/-- isinstance(x, T), T one built-in type -/
theorem ev_isi (G : GX g c k X) {kk : IK} (hs : ksimple kk = true) (hg : Gl X "isinstance") (hm : X.mg "isinstance" = none) (hg2 : Gl X (Str.ofString (kname kk))) (hm2 : X.mg (Str.ofString (kname kk)) = none) (hn : nst a = true) (ha : EV X g E a ra) :
    EV X g E (.Call (.Name "isinstance" p1) [a, .Name (Str.ofString (kname kk)) p2] [] pos) (fun env h => (ra env h).bind fun x h => lift ((isk x kk).map .bl) h) := by
  have hv2 : bootBuiltins (Str.ofString (kname kk)) = some (.type (kname kk)) ∧ Str.ofString (kname kk) ≠ "__name__" ∧ (Str.ofString (kname kk) == ("__debug__" : Str)) = false := by
    cases kk <;> first
      | exact absurd hs (by unfold ksimple; exact Bool.false_ne_true)
      | (simp only [kname]; decide +kernel)
  have hB : PE X (.Name (Str.ofString (kname kk)) p2) (tC (.ty (kname kk))) := pe_bltn hg2 hm2 hv2.1 rfl hv2.2.1 hv2.2.2
  have hA : PA X [a, .Name (Str.ofString (kname kk)) p2] (tCons (tE g E ra) (tCons (tC (.ty (kname kk))) tNil)) := pa_cons ha.pe (pa_cons hB pa_nil) (nst_ok hn _ X.env)
  refine EV.of G ((pe_callB call_isi hg hm (by decide +kernel) hA (by decide +kernel) (by decide +kernel) (nst_ok hn _ X.env)).imp fun σ H Q ⟨w, env, h, rr, re, q⟩ => ?_) fun _ => rfl
  refine tE.step q rr re rfl fun w1 h1 H1 x v ext rr1 re1 rv q1 => ?_
  obtain ⟨bb, hb, q1⟩ := lift_map q1
  exact ⟨v, .ty (kname kk), .type (tyn x), .type (kname kk), bb, rfl, .ty _, tyx_of G.K rr1 rv hb, kit_tyn hs hb, pv_now q1 rr1 (rv_bl.mpr rfl)⟩
/-- isinstance(x, (list, tuple)) -/
theorem ev_isiT (G : GX g c k X) {j : Nat} {p3 p4 : Pos} (hg : Gl X "isinstance") (hm : X.mg "isinstance" = none) (hgl : Gl X "list") (hml : X.mg "list" = none) (hgt : Gl X "tuple") (hmt : X.mg "tuple" = none) (hn : nst a = true) (ha : EV X g E a ra) :
    EV X g E (.Call (.Name "isinstance" p1) [a, .Tuple [.Name "list" p3, .Name "tuple" p4] j p2] [] pos) (fun env h => (ra env h).bind fun x h => lift ((isk x .seq).map .bl) h) := by
  have hB : PE X (.Tuple [.Name "list" p3, .Name "tuple" p4] j p2) (tTup (tCons (tC (.ty "list")) (tCons (tC (.ty "tuple")) tNil))) :=
    pe_tup (pa_cons (pe_bltn hgl hml (by decide +kernel) rfl (by decide +kernel) (by decide +kernel)) (pa_cons (pe_bltn hgt hmt (by decide +kernel) rfl (by decide +kernel) (by decide +kernel)) pa_nil))
  have hA : PA X [a, .Tuple [.Name "list" p3, .Name "tuple" p4] j p2] (tCons (tE g E ra) (tCons (tTup (tCons (tC (.ty "list")) (tCons (tC (.ty "tuple")) tNil))) tNil)) := pa_cons ha.pe (pa_cons hB pa_nil) (nst_ok hn _ X.env)
  refine EV.of G ((pe_callB call_isiT hg hm (by decide +kernel) hA (by decide +kernel) (by decide +kernel) (nst_ok hn _ X.env)).imp fun σ H Q ⟨w, env, h, rr, re, q⟩ => ?_) fun _ => rfl
  refine tE.step q rr re rfl fun w1 h1 H1 x v ext rr1 re1 rv q1 => ?_
  obtain ⟨bb, hb, q1⟩ := lift_map q1
  refine ⟨by show 2 ≤ sizeLine; rw [sizeLine_eq]; decide, fun p hp => ?_⟩
  obtain ⟨r2, x2⟩ := rr1.freeze (o := .tup [.ty "list", .ty "tuple"]) hp
  have kt : PySem.W.kitAny X.K (.type (tyn x)) [.type "list", .type "tuple"] = some bb := by
    obtain ⟨b1, e1⟩ : ∃ b1, isk x .list = some b1 := by
      cases x <;> first
        | exact ⟨_, rfl⟩
        | exact absurd hb (by unfold isk; exact fun z => nomatch z)
    obtain ⟨b2, e2⟩ : ∃ b2, isk x .tuple = some b2 := by
      cases x <;> first
        | exact ⟨_, rfl⟩
        | exact absurd hb (by unfold isk; exact fun z => nomatch z)
    have k1 := kit_tyn (K := X.K) (kk := .list) rfl e1
    have k2 := kit_tyn (K := X.K) (kk := .tuple) rfl e2
    have eb : bb = (b1 || b2) := by
      cases x <;> first
        | (cases hb; cases e1; cases e2; rfl)
        | exact absurd hb (by unfold isk; exact fun z => nomatch z)
    refine kitAny_cons k1 (fun z => kitAny_cons k2 (fun z2 => ?_) (fun z2 => ?_)) (fun z => ?_)
    · rw [eb, z, z2]; rfl
    · rw [eb, z2, Bool.or_true]
    · rw [eb, z, Bool.true_or]
  exact ⟨v, p, _, .type (tyn x), _, bb, rfl, upd_same, .cons (.ty _) (.cons (.ty _) .nil), tyx_of (kk := .seq) (b := bb) G.K r2 (rv.ext x2 _ _) hb, kt, q1 _ _ x2 r2 _ (rv_bl.mpr rfl)⟩
def mtR (m : Mt) (ra rb : Run D) : Run D := fun env h => (ra env h).bind fun x h => match x with
    | .str s => (rb env h).bind fun y h => mtop m (.str s) y h
    | _ => .stuck
/-- sep.join(xs) -/
theorem ev_join (G : GX g c k X) {p3 : Pos} (ha : EV X g E a ra) (hb : EV X g E b rb) (hn : nst b = true) (hsup : nsuper a = true) (hline : (p3.endLine == pos.line) = true) : EV X g E (.Call (.Attribute a "join" p3) [b] [] pos) (mtR .join ra rb) := by
  refine EV.of G (PE.mk fun pins s σ H Q I ⟨w, env, h, rr, re, q⟩ => ?_) fun _ => rfl
  refine (pe_m1 F.slot_str_join F.type_str_join (mt_joinE (E := E σ) G) ha.pe hb.pe (nst_ok hn [] X.env) (nsuper_ok hsup _ _) hline).run pins s σ H Q I ?_
  unfold mtR at q
  refine tE.step q rr re rfl fun w1 h1 H1 x v ext rr1 re1 rv q1 => ?_
  cases x with
  | str s =>
    obtain ⟨rfl, _⟩ := rv_str.mp rv
    refine ⟨⟨_, rfl⟩, tE.step q1 rr1 re1 rfl fun w2 h2 H2 y u ext2 rr2 re2 rv2 q2 => ?_⟩
    exact ⟨w2, h2, .str s, y, u, rr2, rv.ext ext2 _ _, rv2, rfl, q2⟩
  | _ => exact q1.elim
/-- text.split(sep) -/
theorem ev_split (G : GX g c k X) {p3 : Pos} (ha : EV X g E a ra) (hb : EV X g E b rb) (hn : nst b = true) (hsup : nsuper a = true) (hline : (p3.endLine == pos.line) = true) : EV X g E (.Call (.Attribute a "split" p3) [b] [] pos) (mtR .split ra rb) := by
  refine EV.of G (PE.mk fun pins s σ H Q I ⟨w, env, h, rr, re, q⟩ => ?_) fun _ => rfl
  refine (pe_m1 F.slot_str_split F.type_str_split (mt_splitE (E := E σ) G) ha.pe hb.pe (nst_ok hn [] X.env) (nsuper_ok hsup _ _) hline).run pins s σ H Q I ?_
  unfold mtR at q
  refine tE.step q rr re rfl fun w1 h1 H1 x v ext rr1 re1 rv q1 => ?_
  cases x with
  | str s =>
    obtain ⟨rfl, _⟩ := rv_str.mp rv
    refine ⟨⟨_, rfl⟩, tE.step q1 rr1 re1 rfl fun w2 h2 H2 y u ext2 rr2 re2 rv2 q2 => ?_⟩
    exact ⟨w2, h2, .str s, y, u, rr2, rv.ext ext2 _ _, rv2, rfl, q2⟩
  | _ => exact q1.elim
/-- text.index(sign) -/
theorem ev_index (G : GX g c k X) {p3 : Pos} (ha : EV X g E a ra) (hb : EV X g E b rb) (hn : nst b = true) (hsup : nsuper a = true) (hline : (p3.endLine == pos.line) = true) : EV X g E (.Call (.Attribute a "index" p3) [b] [] pos) (mtR .index ra rb) := by
  refine EV.of G (PE.mk fun pins s σ H Q I ⟨w, env, h, rr, re, q⟩ => ?_) fun _ => rfl
  refine (pe_m1 F.slot_str_index F.type_str_index (mt_indexE (E := E σ) G) ha.pe hb.pe (nst_ok hn [] X.env) (nsuper_ok hsup _ _) hline).run pins s σ H Q I ?_
  unfold mtR at q
  refine tE.step q rr re rfl fun w1 h1 H1 x v ext rr1 re1 rv q1 => ?_
  cases x with
  | str s =>
    obtain ⟨rfl, _⟩ := rv_str.mp rv
    refine ⟨⟨_, rfl⟩, tE.step q1 rr1 re1 rfl fun w2 h2 H2 y u ext2 rr2 re2 rv2 q2 => ?_⟩
    exact ⟨w2, h2, .str s, y, u, rr2, rv.ext ext2 _ _, rv2, rfl, q2⟩
  | _ => exact q1.elim
/-- text.rstrip(signs) -/
theorem ev_rstrip (G : GX g c k X) {p3 : Pos} (ha : EV X g E a ra) (hb : EV X g E b rb) (hn : nst b = true) (hsup : nsuper a = true) (hline : (p3.endLine == pos.line) = true) : EV X g E (.Call (.Attribute a "rstrip" p3) [b] [] pos) (mtR .rstrip ra rb) := by
  refine EV.of G (PE.mk fun pins s σ H Q I ⟨w, env, h, rr, re, q⟩ => ?_) fun _ => rfl
  refine (pe_m1 F.slot_str_rstrip F.type_str_rstrip (mt_rstripE (E := E σ) G) ha.pe hb.pe (nst_ok hn [] X.env) (nsuper_ok hsup _ _) hline).run pins s σ H Q I ?_
  unfold mtR at q
  refine tE.step q rr re rfl fun w1 h1 H1 x v ext rr1 re1 rv q1 => ?_
  cases x with
  | str s =>
    obtain ⟨rfl, _⟩ := rv_str.mp rv
    refine ⟨⟨_, rfl⟩, tE.step q1 rr1 re1 rfl fun w2 h2 H2 y u ext2 rr2 re2 rv2 q2 => ?_⟩
    exact ⟨w2, h2, .str s, y, u, rr2, rv.ext ext2 _ _, rv2, rfl, q2⟩
  | _ => exact q1.elim
def mname : Mt → Str
  | .join => "join" | .split => "split" | .index => "index" | .rstrip => "rstrip"
/-! ### methods of several values -/
theorem nsts_all {l : List Expr} (h : nsts l = true) {pos : Pos} {env : PySem.Env} : (backTo pos (starEach l env)).all (fun x => !x.1) = true := by
  induction l with
  | nil => rfl
  | cons e l ih =>
    unfold nsts at h
    rw [List.all_cons, Bool.and_eq_true] at h
    rw [nst_ok h.1]
    show (true && (backTo pos (starEach l env)).all (fun x => !x.1)) = true
    rw [ih h.2]
    rfl
def mmT : Mm → String
  | .append => "list" | .insert => "list" | .zfill => "str"
def mmN : Mm → Str
  | .append => "append" | .insert => "insert" | .zfill => "zfill"
def mmI : Mm → String
  | .append => "list.append" | .insert => "list.insert" | .zfill => "str.zfill"
theorem mm_pa (m : Mm) : PlainAttrs (mmT m) := by cases m <;> first | exact F.plainAttrs_list | exact F.plainAttrs_str
theorem mm_slot (m : Mm) : Slot (mmT m) (mmN m) (mmI m) := by
  cases m
  · exact F.slot_list_append
  · exact F.slot_list_insert
  · exact F.slot_str_zfill
theorem mm_ty (m : Mm) : typeOf (.builtin (mmI m)) = pure (.type "method_descriptor") := by
  cases m
  · exact F.type_list_append
  · exact F.type_list_insert
  · exact F.type_str_zfill
def rMM (g : Gi) (E : XK) (m : Mm) : V → List V → Hp → VK → Prop := fun x xs H Q => ∃ w h d l, RR g w h H ∧ RV g w h.nx d x ∧ RVs g w h.nx l xs ∧ Post g w h.nx (mmop m d l h) E (PV g Q)
theorem zf_S {c : Nat} {s : List Nat} {i : Int} (hc : 48 ≤ c ∧ c ≤ 57) (h0 : 0 ≤ i) : Txt.zfill (stt (c :: s)) i = stt (List.replicate (i.toNat - (s.length + 1)) 48 ++ c :: s) := by
  have hl : (stt (c :: s)).length = s.length + 1 := by rw [stt_len]; rfl
  unfold Txt.zfill
  rw [hl]
  by_cases h : i ≤ ((s.length + 1 : Nat) : Int)
  · rw [if_pos h, show i.toNat - (s.length + 1) = 0 by omega]
    rfl
  · rw [if_neg h]
    refine TL.ext_tl ?_
    unfold zfilled
    have e0 : (stt (c :: s)).cps[0]? = some c := by simp [stt]
    rw [e0]
    split
    · rename_i z; cases z; omega
    · rename_i z; cases z; omega
    · unfold PySem.Builtin.Str.padded TL.tl stt
      simp
theorem mm_rule (G : GX g c k X) (m : Mm) {EE : XK} : MtR X (mmI m) (rMM g EE m) := by
  cases m with
  | append =>
    refine MtR.cas fun x xs H Q ⟨w, h, d, l, rr, rd, rl, q⟩ => ?_
    unfold mmop at q
    dsimp only at q
    split at q
    · rename_i n y
      obtain ⟨rfl, hm⟩ := rv_ref.mp rd
      cases ec : h.cell n with
      | lst zs =>
        rw [ec] at q
        obtain ⟨hl, q⟩ := if_ok q
        obtain ⟨ys, q1, r1⟩ := cell_lst rr hm ec
        obtain ⟨v, vs, rfl, rv, rn⟩ := rvs_cons.mp rl
        rw [rvs_nil.mp rn]
        refine ⟨_, mt_append, _, ys, v, rfl, rfl, q1, by rw [r1.length, sizeL]; exact hl, ?_⟩
        exact q w _ (Ext.refl _ _) (rr.store hm ec (r1.append (RVs.mk rv RVs.nil))) _ (rv_non.mpr rfl)
      | _ => rw [ec] at q; exact q.elim
    · exact q.elim
  | insert =>
    refine MtR.cas fun x xs H Q ⟨w, h, d, l, rr, rd, rl, q⟩ => ?_
    unfold mmop at q
    dsimp only at q
    split at q
    · rename_i n i y
      obtain ⟨rfl, hm⟩ := rv_ref.mp rd
      cases ec : h.cell n with
      | lst zs =>
        rw [ec] at q
        obtain ⟨⟨hl, h0, h1⟩, q⟩ := if_ok q
        obtain ⟨ys, q1, r1⟩ := cell_lst rr hm ec
        obtain ⟨v, vs, rfl, rv, rn⟩ := rvs_cons.mp rl
        obtain ⟨v2, vs2, rfl, rv2, rn2⟩ := rvs_cons.mp rn
        rw [rvs_nil.mp rn2, rv_int.mp rv]
        refine ⟨_, mt_insert, _, ys, i, v2, rfl, rfl, q1, by rw [r1.length, sizeL]; exact hl, h0, h1, ?_⟩
        exact q w _ (Ext.refl _ _) (rr.store hm ec (((r1.take _).append (RVs.mk rv2 RVs.nil)).append (r1.drop _))) _ (rv_non.mpr rfl)
      | _ => rw [ec] at q; exact q.elim
    · exact q.elim
  | zfill =>
    refine MtR.cas fun x xs H Q ⟨w, h, d, l, rr, rd, rl, q⟩ => ?_
    unfold mmop at q
    dsimp only at q
    split at q
    · rename_i c' s i
      obtain ⟨rfl, ho⟩ := rv_str.mp rd
      obtain ⟨⟨hc, h0, h1⟩, q⟩ := if_ok q
      obtain ⟨v, vs, rfl, rv, rn⟩ := rvs_cons.mp rl
      rw [rvs_nil.mp rn, rv_int.mp rv]
      refine ⟨_, mt_zfill, stt (c' :: s), i, rfl, rfl, ?_, ?_⟩
      · have hp : ∀ j : Nat, j ≤ 1000 → PadOk (j : Int) = true := fun j hj => by
          unfold PadOk fitsSsize PySem.Builtin.Str.tooLong
          simp
          refine ⟨by omega, ?_⟩
          first
            | omega
            | (have : (1000 : Nat) ≤ sizeLine := by decide
               omega)
        have z := hp i.toNat (by omega)
        rwa [Int.toNat_of_nonneg h0] at z
      · rw [zf_S hc h0]
        refine pv_now q rr (rv_str.mpr ⟨rfl, okS_app ?_ ho⟩)
        unfold okS
        rw [List.all_eq_true]
        intro x hx
        rw [List.eq_of_mem_replicate hx]
        rfl
    · exact q.elim
theorem ev_mm (G : GX g c k X) (m : Mm) {p3 : Pos} {rs : Run (List D)} (ha : EV X g E a ra) {e0 : Expr} {es0 : List Expr} (hb : PA X (e0 :: es0) (tEs g E rs)) (hn : nsts (e0 :: es0) = true) (hfew : (e0 :: es0).length < 30) (hsup : nsuper a = true) (hline : (p3.endLine == pos.line) = true) :
    EV X g E (.Call (.Attribute a (mmN m) p3) (e0 :: es0) [] pos) (fun env h => (ra env h).bind fun x h => if mmok m x h then (rs env h).bind fun l h => mmop m x l h else .stuck) := by
  have hn1 : nst e0 = true ∧ nsts es0 = true := by
    unfold nsts at hn
    rw [List.all_cons, Bool.and_eq_true] at hn
    exact hn
  refine EV.of G (PE.mk fun pins s σ H Q I ⟨w, env, h, rr, re, q⟩ => ?_) fun _ => rfl
  refine (pe_bm (mm_pa m) (mm_slot m) (mm_ty m) (mm_rule (EE := E σ) G m) ha.pe hb (nsuper_ok hsup _ _) ?_ hline (nst_ok hn1.1 _ _) (nsts_any hn1.2 _ _)).run pins s σ H Q I ?_
  · rw [nsts_all hn]
    show (true && true && decide ((e0 :: es0).length + 0 + 0 < 30)) = true
    rw [decide_eq_true (show (e0 :: es0).length + 0 + 0 < 30 by omega)]
    rfl
  · refine tE.step q rr re rfl fun w1 h1 H1 x v ext rr1 re1 rv q1 => ?_
    cases hm : mmok m x h1 with
    | false => rw [hm] at q1; exact q1.elim
    | true =>
      rw [hm] at q1
      simp only [if_true] at q1
      refine ⟨?_, tEs.step q1 rr1 re1 rfl fun w2 h2 H2 l vs ext2 rr2 re2 rv2 q2 => ⟨w2, h2, x, l, rr2, rv.ext ext2 _ _, rv2, q2⟩⟩
      have lst : mmok .append x h1 = true → tyV X.K "list" v H1 := fun hm => by
        clear q1
        cases x with
        | ref n =>
          obtain ⟨rfl, hn⟩ := rv_ref.mp rv
          unfold mmok at hm
          dsimp only at hm
          cases ec : h1.cell n with
          | lst zs =>
            obtain ⟨ys, q3, _⟩ := cell_lst rr1 hn ec
            exact .inl ⟨rfl, ys, SqL.of q3⟩
          | _ => rw [ec] at hm; cases hm
        | _ => cases hm
      cases m with
      | append => exact lst hm
      | insert => exact lst hm
      | zfill =>
        cases x with
        | str z => rw [(rv_str.mp rv).1]; exact (rfl : mmT .zfill = "str")
        | _ => cases hm
end
end Rk

set_option maxHeartbeats 1000000
/-! Rk.H: calls of the text's defs. -/
namespace Rk
open PySem PySem.Spec PyProof.Rows L2
structure RoomG (k : Nat) (A : Around) : Prop where
  dp : A.depth + 3 * k + 5 < recursionLimit
  un : A.units + 16 * k + 200 < cLine
  gd : A.guards = some []
theorem RoomG.deeper {k : Nat} {A : Around} (r : RoomG (k + 1) A) (env : PySem.Env) : RoomG k (A.deeper env) :=
  ⟨by have := r.dp; show A.depth + 1 + 3 * k + 5 < _; omega, by have := r.un; show A.units + 3 + 16 * k + 200 < _; omega, r.gd⟩
theorem RoomG.mono {j k : Nat} {A : Around} (r : RoomG k A) (h : j ≤ k) : RoomG j A := ⟨by have := r.dp; omega, by have := r.un; omega, r.gd⟩
theorem GX.room {g : Gi} {c : Bool} {k : Nat} {X : Cx} (G : GX g c k X) : RoomG k X.A := ⟨G.dp, G.un, G.gd⟩
/-- what exceptions a context takes: those whose context is None, or all -/
def TakesZ (z : Bool) (X : Cx) (W : L2.WX) : Prop := match z with
  | true => L2N.Takes X W
  | false => L2.Takes X W
/-- what a def lets out -/
def CXZ (z : Bool) (P : Program) (w : World) : CXT := match z with
  | true => L2N.CX P w
  | false => L2.CX P w
/-- a def keeps its promise -/
structure FnG (z : Bool) (P : Program) (w : World) (K : PySem.W.Frag) (mg : Str → Option Value) (base : Heap) (k : Nat) (c : Bool) (f : Addr) (fd : FuncData) (ps : List Str) (sp : Sp) : Prop where
  runB : ∀ (A : Around) (outer : List PySem.Env) (s : Shared) (H : Hp) (args : Args) (Q : VK) (E : XK) (G : List V → Hp → Prop), RoomG k A → (c = true → A.handled = none) → Env0 P w K mg base A outer s H →
    StX.Bnd (CXZ z P w) P w K mg base fd args ps A outer s H E G → (∀ vs H2, G vs H2 → sp vs H2 Q E) → codeAny (model P w) A (.call (.ref f) args) (CR (CXZ z P w) outer P w H s Q E) s
theorem FnG.run {z : Bool} {P : Program} {w : World} {K : PySem.W.Frag} {mg : Str → Option Value} {base : Heap} {k : Nat} {c : Bool} {f : Addr} {fd : FuncData} {ps : List Str} {sp : Sp} (F : FnG z P w K mg base k c f fd ps sp) :
    ∀ (A : Around) (outer : List PySem.Env) (s : Shared) (H : Hp) (args : Args) (us : List Value) (vs : List V) (Q : VK) (E : XK), RoomG k A → (c = true → A.handled = none) → Env0 P w K mg base A outer s H → vs.length = ps.length → BindsTo s fd args (ps.zip us) → Vals vs us → sp vs H Q E →
    codeAny (model P w) A (.call (.ref f) args) (CR (CXZ z P w) outer P w H s Q E) s := fun A outer s H args us vs Q E room calm e0 hl hb rel hsp =>
  F.runB A outer s H args Q E (fun xs H2 => xs = vs ∧ H2 = H) room calm e0 (fun A' Ex Q' h => hb _ _ _ _ (h s H vs us e0 Un.refl rfl (fun _ _ z => z) rel hl ⟨rfl, rfl⟩)) fun xs H2 ⟨e1, e2⟩ => by subst e1; subst e2; exact hsp
theorem pick_paired {α β : Type} {R : α → β → Prop} : ∀ {sel : List Nat} {xs : List α} {us : List β} {vs : List α}, Paired R xs us → pick sel xs = some vs → ∃ ws, pick sel us = some ws ∧ Paired R vs ws
  | [], xs, us, vs, r, h => by cases h; exact ⟨[], rfl, .nil⟩
  | i :: sel, xs, us, vs, r, h => by
    unfold pick at h
    split at h
    · rename_i d s h1 h2
      cases h
      obtain ⟨ws, e, rw'⟩ := pick_paired r h2
      have hu : ∃ u, us[i]? = some u ∧ R d u := by
        clear h2 e rw'
        induction r generalizing i with
        | nil => simp at h1
        | cons r1 r2 ih =>
          cases i with
          | zero => simp at h1; subst h1; exact ⟨_, rfl, r1⟩
          | succ i => simpa using ih i (by simpa using h1)
      obtain ⟨u, hu, ru⟩ := hu
      refine ⟨u :: ws, ?_, .cons ru rw'⟩
      unfold pick
      rw [hu, e]
    · cases h
theorem pick_rvs {g : Gi} {w : Wd} {n : Nat} : ∀ {sel : List Nat} {l : List D} {xs : List V} {m : List D}, RVs g w n l xs → pick sel l = some m → ∃ ys, pick sel xs = some ys ∧ RVs g w n m ys
  | [], l, xs, m, r, h => by cases h; exact ⟨[], rfl, RVs.nil⟩
  | i :: sel, l, xs, m, r, h => by
    unfold pick at h
    split at h
    · rename_i d s h1 h2
      cases h
      obtain ⟨ys, e, rw'⟩ := pick_rvs r h2
      obtain ⟨y, hy, ry⟩ := r.get h1
      refine ⟨y :: ys, ?_, RVs.mk ry rw'⟩
      unfold pick
      rw [hy, e]
    · cases h
theorem vals_app {xs ys : List V} {us ws : List Value} (a : Vals xs us) (b : Vals ys ws) : Vals (xs ++ ys) (us ++ ws) := Vals.append a b
/-- how a call's values come to the parameters: n by place, those of the names ks, then the defaults, by sel -/
structure KB (g : Gi) (f n : Nat) (ks : List Str) (sel : List Nat) : Prop where
  bind : ∃ ds : List Value, Vals (g.fdv f) ds ∧ ∀ (s : Shared) (us ws vs : List Value), g.K.In s.heap → us.length = n → ws.length = ks.length → pick sel (us ++ ws ++ ds) = some vs → BindsTo s (g.fd f) ⟨us, ks.zip ws⟩ ((g.fps f).zip vs)
section
variable {X : Cx} {g : Gi} {z c : Bool} {k : Nat} {E : SX'} {e a b d : Expr} {pos p1 p2 : Pos} {es : List Expr} {rs rk : Run (List D)}
/-- the callee runs -/
theorem run_fnG {fa : Addr} {fd : FuncData} {ps : List Str} {sp : Sp} {pins : List (Addr × Obj)} {σ : L2.St} {H : Hp} {s : Shared} {Q : VK} {us ws zs : List Value} {vs : List V} {ks : List Str} (G : GX g c k X) (F : FnG z X.prog X.w X.K X.mg X.base k c fa fd ps sp)
    (tk : TakesZ z X (fun cls d σ H => E σ cls d H)) (I : Inv X pins σ H s) (hl : vs.length = ps.length) (hb : BindsTo s fd ⟨us, ks.zip ws⟩ (ps.zip zs)) (r : Vals vs zs) (h : sp vs H Q (E σ)) :
    wpAny (model X.prog X.w) X.A (call (.ref fa) us (ks.zip ws)) (EP X pins σ Q) X.xe s := by
  refine wpAny_call (codeAny_mono (F.run X.A X.stack s H ⟨us, ks.zip ws⟩ zs vs Q (E σ) G.room (fun hc => I.ok.hd (G.calm hc)) I.env0 hl hb r h) fun r s' hq => ?_)
  cases r with
  | error e =>
    cases z with
    | true => exact tk e s' (L2N.XE.of_call I (fun cls d H' h => h) hq)
    | false => exact tk e s' (L2.XE.of_call I (fun cls d H' h => h) hq)
  | ok fl =>
    cases fl with
    | ret u => exact I.after hq
    | next => exact False.elim hq
    | brk => exact False.elim hq
    | cont => exact False.elim hq
def calR (call : Cl) (dfl : List D) (c : Bool) (f : Nat) (sel : List Nat) (rs rk : Run (List D)) : Run D := fun env h => (rs env h).bind fun l h => (rk env h).bind fun m h => match pick sel (l ++ m ++ dfl) with
    | some vs => call.f c f vs h
    | none => .stuck
/-- a call's values reach the callee -/
theorem cal_core {pins : List (Addr × Obj)} {σ : L2.St} {H : Hp} {s : Shared} {Q : VK} {call' : Cl} {f n : Nat} {dfl : List D} {ks : List Str} {sel : List Nat} {w : Wd} {h : AH} {l m : List D} {xs ys : List V} {us ws : List Value}
    (G : GX g c k X) (F : FnG z X.prog X.w X.K X.mg X.base k c (g.fa f) (g.fd f) (g.fps f) (spF g call' c f)) (hb : KB g f n ks sel) (hps : (g.fps f).length = sel.length) (hd : ∀ w n, RVs g w n dfl (g.fdv f)) (tk : TakesZ z X (fun cls d σ H => E σ cls d H))
    (I : Inv X pins σ H s) (rr : RR g w h H) (r1 : RVs g w h.nx l xs) (r2 : RVs g w h.nx m ys) (v1 : Vals xs us) (v2 : Vals ys ws) (hn : us.length = n) (hk : ws.length = ks.length)
    (q : Post g w h.nx (match pick sel (l ++ m ++ dfl) with
      | some vs => call'.f c f vs h
      | none => .stuck) (E σ) (PV g Q)) :
    wpAny (model X.prog X.w) X.A (PySem.call (.ref (g.fa f)) us (ks.zip ws)) (EP X pins σ Q) X.xe s := by
  cases hp : pick sel (l ++ m ++ dfl) with
  | none => rw [hp] at q; exact q.elim
  | some vs =>
    rw [hp] at q
    obtain ⟨ds, vd, hbind⟩ := hb.bind
    obtain ⟨zs, hz, rz⟩ := pick_rvs ((r1.append r2).append (hd w h.nx)) hp
    obtain ⟨bs, hbs, rb⟩ := pick_paired (vals_app (vals_app v1 v2) vd) hz
    have hlen : ∀ {α : Type} {sel : List Nat} {l : List α} {r : List α}, pick sel l = some r → r.length = sel.length := by
      intro α sel
      induction sel with
      | nil => intro l r h; cases h; rfl
      | cons i sel ih =>
        intro l r h
        unfold pick at h
        split at h
        · rename_i d s h1 h2
          cases h
          rw [List.length_cons, List.length_cons, ih h2]
        · cases h
    exact run_fnG G F tk I (by rw [hlen hz, hps]) (hbind s us ws bs (G.K ▸ I.kIn) hn hk hbs) rb ⟨w, vs, h, rr, rz, q⟩
theorem starEach_len : ∀ {l : List Expr} {env : PySem.Env}, (starEach l env).length = l.length
  | [], _ => rfl
  | e :: l, env => by
    cases e <;> (show (starEach l env).length + 1 = l.length + 1; rw [starEach_len])
/-- f(a, .., k = b, ..) -/
theorem ev_cal (G : GX g c k X) {x : Str} {call' : Cl} {f : Nat} {dfl : List D} {ks : List Str} {sel : List Nat} {kws : List Keyword}
    (F : FnG z X.prog X.w X.K X.mg X.base k c (g.fa f) (g.fd f) (g.fps f) (spF g call' c f)) (hg : Gl X x) (hm : X.mg x = some (.ref (g.fa f))) (hkp : PySem.W.keepIn X.K (.ref (g.fa f)) = true) (hdb : (x == ("__debug__" : Str)) = false)
    (hb : KB g f es.length ks sel) (hps : (g.fps f).length = sel.length) (hd : ∀ w n, RVs g w n dfl (g.fdv f)) (tk : TakesZ z X (fun cls d σ H => E σ cls d H))
    (hn : nsts es = true) (hk : kwn kws = some ks) (ha : PA X es (tEs g E rs)) (hkw : PK X kws (tEs g E rk)) (h0 : es = [] → ∀ env h, rs env h = .ok [] h) (hl1 : ∀ env h l h', rs env h = .ok l h' → l.length = es.length) (hl2 : ∀ env h l h', rk env h = .ok l h' → l.length = ks.length) :
    EV X g E (.Call (.Name x p1) es kws pos) (calR call' dfl c f sel rs rk) := by
  obtain ⟨k1, k2, k3⟩ := kwn_ok (pos := pos) (env := X.env) hk
  refine EV.of G (PE.mk fun pins s σ H Q I ⟨w, env, h, rr, re, q⟩ => ?_) fun _ => rfl
  refine wpAny_Call_Name_kw (ld_glob I hg hm ?_ hdb)
  unfold calR at q
  have hpl : ((backTo pos (starEach es X.env)).any (·.1) || (backToKw pos (keywordEach kws X.env)).any (·.1.isNone)) = false := by rw [nsts_any hn, k3]; rfl
  have tail : ∀ (us : List Value) (s1 : Shared) (xs : List V) (H1 : Hp), Inv X pins σ H1 s1 → Vals xs us → us.length = es.length → (∃ w1 h1 l, RR g w1 h1 H1 ∧ RE g w1 h1.nx env σ ∧ RVs g w1 h1.nx l xs ∧ Post g w1 h1.nx ((rk env h1).bind fun m h => match pick sel (l ++ m ++ dfl) with
      | some vs => call'.f c f vs h
      | none => .stuck) (E σ) (PV g Q)) →
      wpAny (model X.prog X.w) X.A (evalAll ((backToKw pos (keywordEach kws X.env)).map (·.2))) (fun ws s₂ => X.K.In s₂.heap ∧ wpAny (model X.prog X.w) X.A (PySem.call (.ref (g.fa f)) ([] ++ us) (((backToKw pos (keywordEach kws X.env)).filterMap (·.1)).zip ws)) (EP X pins σ Q) X.xe s₂) X.xe s1 := by
    rintro us s1 xs H1 I1 v1 hlu ⟨w1, h1, l, rr1, re1, rvs, q1⟩
    cases hrk : rk env h1 with
    | stuck => rw [hrk] at q1; exact q1.elim
    | _ =>
      refine thn (hkw.run pos pins s1 σ H1 (fun ys H2 => ys.length = ks.length ∧ ∃ w2 h2 m, RR g w2 h2 H2 ∧ RVs g w2 h2.nx l xs ∧ RVs g w2 h2.nx m ys ∧ Post g w2 h2.nx (match pick sel (l ++ m ++ dfl) with
        | some vs => call'.f c f vs h2
        | none => .stuck) (E σ) (PV g Q)) I1 ?_) fun ws s2 ⟨ys, H2, I2, v2, e2, w2, h2, m, rr2, r1, r2, q2⟩ => ⟨I2.kIn, ?_⟩
      · refine ⟨w1, env, h1, rr1, re1, ?_⟩
        have q1 := q1.bind
        cases hrk : rk env h1 with
        | ok m h2 =>
          rw [hrk] at q1
          exact fun w2 H2 ext rr2 ys rv => ⟨by rw [rv.length]; exact hl2 _ _ _ _ hrk, w2, h2, m, rr2, rvs.ext ext, rv, q1 w2 H2 ext rr2⟩
        | exc x h2 => rw [hrk] at q1; exact q1
        | stuck => rw [hrk] at q1; exact q1
      · rw [k2, List.nil_append]
        exact cal_core G F hb hps hd tk I2 rr2 r1 r2 v1 v2 hlu (by rw [← v2.length]; exact e2) q2
  cases es with
  | nil =>
    refine PySem.W.callWith_KW0 (h₀ := X.base) I.ok.mod.kin hkp k1 ?_ hpl
    rw [h0 rfl, bind_ok] at q
    exact tail [] s [] H I .nil rfl ⟨w, h, [], rr, re, RVs.nil, q⟩
  | cons e es =>
    have hn1 : nst e = true := by unfold nsts at hn; rw [List.all_cons, Bool.and_eq_true] at hn; exact hn.1
    refine PySem.W.callWith_KW (h₀ := X.base) I.ok.mod.kin hkp k1 (thn (ha.run pos pins s σ H (fun xs H1 => xs.length = (e :: es).length ∧ ∃ w1 h1 l, RR g w1 h1 H1 ∧ RE g w1 h1.nx env σ ∧ RVs g w1 h1.nx l xs ∧ Post g w1 h1.nx ((rk env h1).bind fun m h => match pick sel (l ++ m ++ dfl) with
      | some vs => call'.f c f vs h
      | none => .stuck) (E σ) (PV g Q)) I ⟨w, env, h, rr, re, ?_⟩) fun us s1 ⟨xs, H1, I1, v1, e1, q1⟩ => tail us s1 xs H1 I1 v1 (by rw [← v1.length]; exact e1) q1) hpl (nst_ok hn1 _ _)
    have q0 := q.bind
    cases hr : rs env h with
    | ok l h1 =>
      rw [hr] at q0
      exact fun w1 H1 ext rr1 xs rv => ⟨by rw [rv.length]; exact hl1 _ _ _ _ hr, w1, h1, l, rr1, re.ext ext, rv, q0 w1 H1 ext rr1⟩
    | exc x h1 => rw [hr] at q0; exact q0
    | stuck => rw [hr] at q0; exact q0
end
end Rk

set_option maxHeartbeats 1000000
/-! Rk.V: instances in the heap. -/
namespace Rk
open PySem PySem.Spec PyProof.Rows L2
/-- the attributes' names are unlike -/
def NmOk (g : Gi) : Prop := ∀ i j, i < g.nn → j < g.nn → g.an i = g.an j → i = j
section
variable {g : Gi} {w : Wd} {n : Nat}
theorem rvf_cons {i : Nat} {d : D} {l : List (Nat × D)} {xs : List (Str × V)} : RVf g w n ((i, d) :: l) xs ↔ ∃ x r, xs = (g.an i, x) :: r ∧ i < g.nn ∧ RV g w n d x ∧ RVf g w n l r := by
  conv => lhs; unfold RVf
theorem rvf_nil {xs : List (Str × V)} : RVf g w n [] xs ↔ xs = [] := by unfold RVf; exact Iff.rfl
theorem RVf.look (ok : NmOk g) {i : Nat} (hi : i < g.nn) {d : D} : ∀ {fs : List (Nat × D)} {gs : List (Str × V)}, RVf g w n fs gs → lkN i fs = some d → ∃ v, gs.lookup (g.an i) = some v ∧ RV g w n d v
  | [], gs, _, h => by cases h
  | (j, e) :: r, gs, q, h => by
    obtain ⟨x, t, rfl, hj, rx, rt⟩ := rvf_cons.mp q
    unfold lkN at h
    rw [List.lookup_cons]
    by_cases e1 : j = i
    · rw [if_pos e1] at h
      cases h
      subst e1
      rw [beq_self_eq_true]
      exact ⟨x, rfl, rx⟩
    · rw [if_neg e1] at h
      have : (g.an i == g.an j) = false := by
        rw [beq_eq_false_iff_ne]
        exact fun z => e1 (ok j i hj hi z.symm)
      rw [this]
      exact RVf.look ok hi rt h
theorem RVf.put (ok : NmOk g) {i : Nat} (hi : i < g.nn) {d : D} {v : V} (rv : RV g w n d v) : ∀ {fs : List (Nat × D)} {gs : List (Str × V)}, RVf g w n fs gs → RVf g w n (putN i d fs) (putF (g.an i) v gs)
  | [], gs, q => by
    rw [rvf_nil.mp q]
    exact rvf_cons.mpr ⟨v, [], rfl, hi, rv, rvf_nil.mpr rfl⟩
  | (j, e) :: r, gs, q => by
    obtain ⟨x, t, rfl, hj, rx, rt⟩ := rvf_cons.mp q
    unfold putN putF
    by_cases e1 : j = i
    · subst e1
      rw [if_pos rfl, if_pos rfl]
      exact rvf_cons.mpr ⟨v, t, rfl, hj, rv, rt⟩
    · rw [if_neg e1, if_neg fun z => e1 (ok j i hj hi z)]
      exact rvf_cons.mpr ⟨x, _, rfl, hj, rx, RVf.put ok hi rv rt⟩
theorem RVf.len : ∀ {fs : List (Nat × D)} {gs : List (Str × V)}, RVf g w n fs gs → gs.length = fs.length
  | [], gs, q => by rw [rvf_nil.mp q]; rfl
  | (j, e) :: r, gs, q => by
    obtain ⟨x, t, rfl, hj, rx, rt⟩ := rvf_cons.mp q
    rw [List.length_cons, List.length_cons, RVf.len rt]
/-- a name that no field bears -/
theorem RVf.no {m : Str} (hm : ∀ i, i < g.nn → g.an i ≠ m) : ∀ {fs : List (Nat × D)} {gs : List (Str × V)}, RVf g w n fs gs → gs.lookup m = none
  | [], gs, q => by rw [rvf_nil.mp q]; rfl
  | (j, e) :: r, gs, q => by
    obtain ⟨x, t, rfl, hj, rx, rt⟩ := rvf_cons.mp q
    rw [List.lookup_cons]
    have : (m == g.an j) = false := by
      rw [beq_eq_false_iff_ne]
      exact fun z => hm j hj z.symm
    rw [this]
    exact RVf.no hm rt
end
section
variable {g : Gi} {w : Wd} {h : AH} {H : Hp}
theorem cell_ins {m c : Nat} {fs : List (Nat × D)} (rr : RR g w h H) (hm : m < h.nx) (e : h.cell m = .ins c fs) : ∃ dx gs, H (w.m m) = some (.ins (g.cb c) dx gs) ∧ RVf g w h.nx fs gs := by
  have q := rr.cell m hm
  rw [e] at q
  obtain ⟨_, dx, gs, _, q2, _, q3⟩ := q
  exact ⟨dx, gs, q2, q3⟩
/-- an instance's attributes are stored -/
theorem RR.storeI (r : RR g w h H) {k c : Nat} {fs fs' : List (Nat × D)} {dx : Addr} {gs gs' : List (Str × V)} (hk : k < h.nx) (e : h.cell k = .ins c fs) (eH : H (w.m k) = some (.ins (g.cb c) dx gs)) (q : RVf g w h.nx fs' gs') :
    RR g w (h.put k (.ins c fs')) (upd H (w.m k) (.ins (g.cb c) dx gs')) := by
  have cc := r.cell k hk
  rw [e] at cc
  obtain ⟨c1, dx', gs0, c4, c2, c5, c3⟩ := cc
  rw [eH] at c2
  cases c2
  have nF : ∀ a u, w.F a = some u → a ≠ w.m k := fun a u e z => by rw [z, c1.1] at e; cases e
  have nZ : ∀ a u, w.Z a = some u → a ≠ w.m k := fun a u e z => by rw [z, c1.2] at e; cases e
  have ndx : dx ≠ w.m k := fun z => by rw [z, eH] at c5; cases c5
  refine ⟨fun a u e => by rw [upd_ne (nF a u e)]; exact r.sub a u e, fun a u e => by rw [upd_ne (nZ a u e)]; exact r.subz a u e, fun j hj => ?_, r.inj, fun j hj => ?_, fun q hq => (r.tabs q hq).to (fun _ _ e => e) (r.tabs q hq).nF (r.tabs q hq).nZ (upd_ne ((r.tabs q hq).ne2 eH fun _ z => nomatch z))⟩
  · show RC g w h.nx _ (w.m j) (if j = k then Cell.ins c fs' else h.cell j)
    by_cases e2 : j = k
    · subst e2
      rw [if_pos rfl]
      exact ⟨c1, dx, gs', c4, upd_same, by rw [upd_ne ndx]; exact c5, q⟩
    · rw [if_neg e2]
      have nj : w.m j ≠ w.m k := fun z => e2 (r.inj j k hj hk z)
      have q := r.cell j hj
      cases ec : h.cell j with
      | no => trivial
      | lst m =>
        rw [ec] at q
        obtain ⟨q1, zs, q2, q3⟩ := q
        exact ⟨q1, zs, by rw [upd_ne nj]; exact q2, q3⟩
      | ins c' fs0 =>
        rw [ec] at q
        obtain ⟨q1, dx0, gs1, q4, q2, q5, q3⟩ := q
        have nd : dx0 ≠ w.m k := fun z => by rw [z, eH] at q5; cases q5
        exact ⟨q1, dx0, gs1, q4, by rw [upd_ne nj]; exact q2, by rw [upd_ne nd]; exact q5, q3⟩
      | dct l => rw [ec] at q; exact q
  · by_cases e2 : j = k
    · subst e2
      rw [upd_same]; exact fun z => nomatch z
    · rw [upd_ne fun z => e2 (r.inj j k hj hk z)]
      exact r.oc j hj
/-- a new instance -/
theorem RR.allocI (r : RR g w h H) {x dx : Addr} (c : Nat) (hx : H x = none) (hdx : H dx = none) (ne : dx ≠ x) :
    RR g ⟨fun k => if k = h.nx then x else w.m k, w.F, w.Z⟩ (h.new (.ins c [])) (upd (upd H dx (.own x)) x (.ins (g.cb c) dx [])) ∧ Ext w h.nx ⟨fun k => if k = h.nx then x else w.m k, w.F, w.Z⟩ (h.nx + 1) := by
  have ext : Ext w h.nx ⟨fun k => if k = h.nx then x else w.m k, w.F, w.Z⟩ (h.nx + 1) := ⟨Nat.le_succ _, fun k hk => if_neg (Nat.ne_of_lt hk), fun _ _ e => e, fun _ _ e => e⟩
  have nm : ∀ k, k < h.nx → w.m k ≠ x := fun k hk e => r.oc k hk (by rw [e]; exact hx)
  have keep : ∀ a u, H a = some u → upd (upd H dx (.own x)) x (.ins (g.cb c) dx []) a = some u := fun a u e => by
    rw [upd_ne (ne_of_none e hx), upd_ne (ne_of_none e hdx)]; exact e
  refine ⟨⟨fun a u e => keep _ _ (r.sub a u e), fun a u e => ⟨keep _ _ (r.subz a u e).1, (r.subz a u e).2⟩, fun k hk => ?_, fun j k hj hk e => ?_, fun k hk => ?_, fun q hq => (r.tabs q hq).to (fun _ _ e => e) (r.tabs q hq).nF (r.tabs q hq).nZ (by rw [upd_ne ((r.tabs q hq).ne hx), upd_ne ((r.tabs q hq).ne hdx)])⟩, ext⟩
  · show RC g _ (h.nx + 1) _ (if k = h.nx then x else w.m k) (if k = h.nx then Cell.ins c [] else h.cell k)
    by_cases e : k = h.nx
    · rw [if_pos e, if_pos e]
      exact ⟨⟨r.noF hx, r.noZ hx⟩, dx, [], ⟨r.noF hdx, r.noZ hdx⟩, upd_same, by rw [upd_ne ne, upd_same], rvf_nil.mpr rfl⟩
    · rw [if_neg e, if_neg e]
      have hk' : k < h.nx := by have : k < h.nx + 1 := hk; omega
      exact (r.cell k hk').to ext (fun b _ e1 e2 => ⟨e1, e2⟩) fun b u e _ _ => keep b u e
  · have hj : j < h.nx + 1 := hj
    have hk : k < h.nx + 1 := hk
    have e : (if j = h.nx then x else w.m j) = (if k = h.nx then x else w.m k) := e
    by_cases e1 : j = h.nx <;> by_cases e2 : k = h.nx
    · rw [e1, e2]
    · rw [if_pos e1, if_neg e2] at e
      exact absurd e.symm (nm k (by omega))
    · rw [if_neg e1, if_pos e2] at e
      exact absurd e (nm j (by omega))
    · rw [if_neg e1, if_neg e2] at e
      exact r.inj j k (by omega) (by omega) e
  · show upd _ x _ (if k = h.nx then x else w.m k) ≠ none
    have hk : k < h.nx + 1 := hk
    by_cases e : k = h.nx
    · rw [if_pos e, upd_same]; exact fun z => nomatch z
    · rw [if_neg e]
      cases eo : H (w.m k) with
      | none => exact absurd eo (r.oc k (by omega))
      | some u => rw [keep _ _ eo]; exact fun z => nomatch z
end
end Rk

set_option maxHeartbeats 1000000
/-! Rk.I: what loops walk; targets; comprehensions. -/
namespace Rk
open PySem PySem.Spec PyProof.Rows L2
/-- an iterator yields what the evaluator's source yields -/
structure Serves (g : Gi) (J : L2.It) (w0 : Wd) (n0 : Nat) (s : Src) : Prop where
  it : ∀ w h H i d, Ext w0 n0 w h.nx → RR g w h H → s.get i h = some (some d) → J.go i H ∧ ∀ x H', J.yld i H x H' → ∃ w', Ext w h.nx w' h.nx ∧ RR g w' h H' ∧ RV g w' h.nx d x
  stop : ∀ w h H i, Ext w0 n0 w h.nx → RR g w h H → s.get i h = some none → J.stop i H
section
variable {g : Gi} {w0 : Wd} {n0 : Nat} {K : PySem.W.Frag} {a : Addr}
theorem RVs.none {w : Wd} {n : Nat} {l : List D} {xs : List V} {i : Nat} (r : RVs g w n l xs) (h : l[i]? = none) : xs.length ≤ i := by
  rw [r.length]
  exact List.getElem?_eq_none_iff.mp h
theorem serves_lst {l : List D} {xs : List V} (r : RVs g w0 n0 l xs) (hq : ∀ w h H, Ext w0 n0 w h.nx → RR g w h H → SqL K H a xs) : Serves g (Itl K a) w0 n0 (.fix l) := by
  refine ⟨fun w h H i d ext rr e => ?_, fun w h H i ext rr e => ?_⟩
  · have e : l[i]? = some d := Option.some.inj e
    obtain ⟨x, hx, rx⟩ := r.get e
    refine ⟨⟨xs, x, hq w h H ext rr, hx⟩, fun x' H' y => ?_⟩
    obtain ⟨e1, y⟩ := y
    subst e1
    have := y xs (hq w h _ ext rr)
    rw [hx] at this
    cases this
    exact ⟨w, Ext.refl _ _, rr, rx.ext ext _ _⟩
  · exact ⟨xs, hq w h H ext rr, r.none (Option.some.inj e)⟩
theorem serves_tup {l : List D} {xs : List V} (r : RVs g w0 n0 l xs) (hq : ∀ w h H, Ext w0 n0 w h.nx → RR g w h H → SqT K H a xs) : Serves g (Itt K a) w0 n0 (.fix l) := by
  refine ⟨fun w h H i d ext rr e => ?_, fun w h H i ext rr e => ?_⟩
  · have e : l[i]? = some d := Option.some.inj e
    obtain ⟨x, hx, rx⟩ := r.get e
    refine ⟨⟨xs, x, hq w h H ext rr, hx⟩, fun x' H' y => ?_⟩
    obtain ⟨e1, y⟩ := y
    subst e1
    have := y xs (hq w h _ ext rr)
    rw [hx] at this
    cases this
    exact ⟨w, Ext.refl _ _, rr, rx.ext ext _ _⟩
  · exact ⟨xs, hq w h H ext rr, r.none (Option.some.inj e)⟩
theorem serves_str {s : List Nat} (hs : okS s = true) : Serves g (Its (stt s)) w0 n0 (.fix (s.map fun c => .str [c])) := by
  refine ⟨fun w h H i d ext rr e => ?_, fun w h H i ext rr e => ?_⟩
  · have e : (s.map fun c => D.str [c])[i]? = some d := Option.some.inj e
    rw [List.getElem?_map] at e
    obtain ⟨c, hc, rfl⟩ := Option.map_eq_some_iff.mp e
    have hi : i < s.length := (List.getElem?_eq_some_iff.mp hc).1
    refine ⟨by show i < s.toArray.size; simpa using hi, fun x' H' y => ?_⟩
    obtain ⟨e1, c', hc', e2⟩ := y
    subst e1 e2
    have hc' : s[i]? = some c' := by simpa [stt] using hc'
    rw [hc] at hc'
    cases hc'
    exact ⟨w, Ext.refl _ _, rr, rv_str.mpr ⟨rfl, okS_get hs hc⟩⟩
  · have e : (s.map fun c => D.str [c])[i]? = none := Option.some.inj e
    have := List.getElem?_eq_none_iff.mp e
    show s.toArray.size ≤ i
    simpa using this
theorem range_len (i j : Int) : (range i j).length = (j - i).toNat := by unfold range; rw [List.length_map, List.length_range]
theorem serves_rng {i j : Int} : Serves g (Itr i (j - i).toNat) w0 n0 (.fix (range i j)) := by
  refine ⟨fun w h H k d ext rr e => ?_, fun w h H k ext rr e => ?_⟩
  · have e : (range i j)[k]? = some d := Option.some.inj e
    have hk : k < (range i j).length := (List.getElem?_eq_some_iff.mp e).1
    rw [range_len] at hk
    refine ⟨hk, fun x' H' y => ?_⟩
    obtain ⟨e1, e2⟩ := y
    subst e1 e2
    refine ⟨w, Ext.refl _ _, rr, ?_⟩
    unfold range at e
    rw [List.getElem?_map, List.getElem?_range hk] at e
    cases e
    exact rv_int.mpr rfl
  · have e : (range i j)[k]? = none := Option.some.inj e
    have := List.getElem?_eq_none_iff.mp e
    rw [range_len] at this
    exact this
theorem get_cell {m i : Nat} {h : AH} {o : Option D} (e : (Src.cell m).get i h = some o) : ∃ l, h.cell m = .lst l ∧ l[i]? = o := by
  have e : (match h.cell m with
    | .lst l => some l[i]?
    | _ => none) = some o := e
  cases ec : h.cell m with
  | lst l => rw [ec] at e; exact ⟨l, rfl, Option.some.inj e⟩
  | _ => rw [ec] at e; cases e
theorem get_ecell {m i : Nat} {h : AH} {o : Option D} (e : (Src.ecell m).get i h = some o) : ∃ l, h.cell m = .lst l ∧ (l[i]?.map fun d => D.tup [.int i, d]) = o := by
  have e : (match h.cell m with
    | .lst l => some (l[i]?.map fun d => D.tup [.int i, d])
    | _ => none) = some o := e
  cases ec : h.cell m with
  | lst l => rw [ec] at e; exact ⟨l, rfl, Option.some.inj e⟩
  | _ => rw [ec] at e; cases e
theorem serves_cell {m : Nat} (hm : m < n0) : Serves g (Itl K (w0.m m)) w0 n0 (.cell m) := by
  refine ⟨fun w h H i d ext rr e => ?_, fun w h H i ext rr e => ?_⟩
  · obtain ⟨l, ec, e⟩ := get_cell e
    obtain ⟨xs, q1, r1⟩ := cell_lst rr (Nat.lt_of_lt_of_le hm ext.le) ec
    rw [ext.m m hm] at q1
    obtain ⟨x, hx, rx⟩ := r1.get e
    refine ⟨⟨xs, x, SqL.of q1, hx⟩, fun x' H' y => ?_⟩
    obtain ⟨e1, y⟩ := y
    subst e1
    have := y xs (SqL.of q1)
    rw [hx] at this
    cases this
    exact ⟨w, Ext.refl _ _, rr, rx⟩
  · obtain ⟨l, ec, e⟩ := get_cell e
    obtain ⟨xs, q1, r1⟩ := cell_lst rr (Nat.lt_of_lt_of_le hm ext.le) ec
    rw [ext.m m hm] at q1
    exact ⟨xs, SqL.of q1, r1.none e⟩
theorem pairs_get : ∀ (l : List D) (j i : Nat), (pairs j l)[i]? = l[i]?.map fun d => .tup [.int ((j + i : Nat) : Int), d]
  | [], j, i => by unfold pairs; simp
  | x :: l, j, 0 => by unfold pairs; simp
  | x :: l, j, i + 1 => by
    unfold pairs
    rw [List.getElem?_cons_succ, List.getElem?_cons_succ, pairs_get l (j + 1) i, show j + 1 + i = j + (i + 1) by omega]
/-- a new pair -/
theorem new_pair {w : Wd} {h : AH} {H : Hp} {T : Addr} {d e : D} {x y : V} (rr : RR g w h H) (hT : H T = none) (r1 : RV g w h.nx d x) (r2 : RV g w h.nx e y) :
    ∃ w', Ext w h.nx w' h.nx ∧ RR g w' h (upd H T (.tup [x, y])) ∧ RV g w' h.nx (.tup [d, e]) (.ref T) := by
  obtain ⟨r3, ext⟩ := rr.freeze (o := .tup [x, y]) hT
  exact ⟨_, ext, r3, rv_tup.mpr ⟨T, [x, y], rfl, .inl (.inl upd_same), RVs.mk (r1.ext ext _ _) (RVs.mk (r2.ext ext _ _) RVs.nil)⟩⟩
theorem serves_enum {l : List D} {xs : List V} (r : RVs g w0 n0 l xs) (hq : ∀ w h H, Ext w0 n0 w h.nx → RR g w h H → SqL K H a xs) : Serves g (Ite K a) w0 n0 (.fix (pairs 0 l)) := by
  refine ⟨fun w h H i d ext rr e => ?_, fun w h H i ext rr e => ?_⟩
  · have e : (pairs 0 l)[i]? = some d := Option.some.inj e
    rw [pairs_get, Nat.zero_add] at e
    obtain ⟨d', hd, rfl⟩ := Option.map_eq_some_iff.mp e
    obtain ⟨x, hx, rx⟩ := r.get hd
    refine ⟨⟨xs, x, hq w h H ext rr, hx⟩, fun x' H' y => ?_⟩
    obtain ⟨T, x2, e1, hT, e2, y⟩ := y
    subst e1 e2
    have := y xs (hq w h _ ext rr)
    rw [hx] at this
    cases this
    exact new_pair rr hT (rv_int.mpr rfl) (rx.ext ext _ _)
  · have e : (pairs 0 l)[i]? = none := Option.some.inj e
    rw [pairs_get] at e
    have e : l[i]? = none := by simpa using e
    exact ⟨xs, hq w h H ext rr, r.none e⟩
theorem serves_ecell {m : Nat} (hm : m < n0) : Serves g (Ite K (w0.m m)) w0 n0 (.ecell m) := by
  refine ⟨fun w h H i d ext rr e => ?_, fun w h H i ext rr e => ?_⟩
  · obtain ⟨l, ec, e⟩ := get_ecell e
    obtain ⟨xs, q1, r1⟩ := cell_lst rr (Nat.lt_of_lt_of_le hm ext.le) ec
    rw [ext.m m hm] at q1
    obtain ⟨d', hd, rfl⟩ := Option.map_eq_some_iff.mp e
    obtain ⟨x, hx, rx⟩ := r1.get hd
    refine ⟨⟨xs, x, SqL.of q1, hx⟩, fun x' H' y => ?_⟩
    obtain ⟨T, x2, e1, hT, e2, y⟩ := y
    subst e1 e2
    have := y xs (SqL.of q1)
    rw [hx] at this
    cases this
    exact new_pair rr hT (rv_int.mpr rfl) rx
  · obtain ⟨l, ec, e⟩ := get_ecell e
    obtain ⟨xs, q1, r1⟩ := cell_lst rr (Nat.lt_of_lt_of_le hm ext.le) ec
    rw [ext.m m hm] at q1
    exact ⟨xs, SqL.of q1, r1.none (by simpa using e)⟩
theorem zips_get : ∀ (l m : List D) (i : Nat), (zips l m)[i]? = (match l[i]?, m[i]? with
    | some x, some y => some (.tup [x, y])
    | _, _ => none)
  | [], m, i => by unfold zips; simp
  | x :: l, [], i => by
    unfold zips
    simp
  | x :: l, y :: m, 0 => by unfold zips; simp
  | x :: l, y :: m, i + 1 => by
    unfold zips
    rw [List.getElem?_cons_succ, List.getElem?_cons_succ, List.getElem?_cons_succ, zips_get l m i]
theorem serves_zip {b : Addr} {l m : List D} {xs ys : List V} (r : RVs g w0 n0 l xs) (hq : ∀ w h H, Ext w0 n0 w h.nx → RR g w h H → SqL K H a xs) (r' : RVs g w0 n0 m ys) (hq' : ∀ w h H, Ext w0 n0 w h.nx → RR g w h H → SqL K H b ys) : Serves g (Itz K a b) w0 n0 (.fix (zips l m)) := by
  refine ⟨fun w h H i d ext rr e => ?_, fun w h H i ext rr e => ?_⟩
  · have e : (zips l m)[i]? = some d := Option.some.inj e
    rw [zips_get] at e
    split at e
    · rename_i d1 d2 h1 h2
      cases e
      obtain ⟨x, hx, rx⟩ := r.get h1
      obtain ⟨y, hy, ry⟩ := r'.get h2
      refine ⟨⟨xs, ys, x, y, hq w h H ext rr, hq' w h H ext rr, hx, hy⟩, fun x' H' z => ?_⟩
      obtain ⟨T, x2, y2, e1, hT, e2, z1, z2⟩ := z
      subst e1 e2
      have := z1 xs (hq w h _ ext rr)
      rw [hx] at this
      cases this
      have := z2 ys (hq' w h _ ext rr)
      rw [hy] at this
      cases this
      exact new_pair rr hT (rx.ext ext _ _) (ry.ext ext _ _)
    · cases e
  · have e : (zips l m)[i]? = none := Option.some.inj e
    rw [zips_get] at e
    refine ⟨xs, ys, hq w h H ext rr, hq' w h H ext rr, ?_⟩
    cases h1 : l[i]? with
    | none => exact .inl (r.none h1)
    | some x =>
      cases h2 : m[i]? with
      | none => exact .inr (r'.none h2)
      | some y => rw [h1, h2] at e; cases e
end
theorem PI.cas {X : Cx} {tg iter : Expr} {wi : TI} (h : ∀ σ H R, wi σ H R → ∃ wi', PI X tg iter wi' ∧ wi' σ H R) : PI X tg iter wi := ⟨fun pins s σ H R I q => by
  obtain ⟨wi', o, q'⟩ := h σ H R q
  exact o.run pins s σ H R I q'⟩
def tI (g : Gi) (X : SX') (run : Run Src) : TI := fun σ H R => ∃ w env h, RR g w h H ∧ RE g w h.nx env σ ∧ Post g w h.nx (run env h) (X σ) (fun w1 h1 H1 src => ∀ J, Serves g J w1 h1.nx src → R J H1)
section
variable {X : Cx} {g : Gi} {c : Bool} {k : Nat} {E : SX'} {e a b d tg iter : Expr} {pos : Pos} {run ra rb rd : Run D}
theorem lst_sq {K : PySem.W.Frag} {w0 : Wd} {n0 : Nat} {a : Addr} {xs : List V} (q : w0.F a = some (.lst xs)) : ∀ (w : Wd) (h : AH) (H : Hp), Ext w0 n0 w h.nx → RR g w h H → SqL K H a xs := fun w h H ext rr => SqL.of (rr.sub _ _ (ext.F _ _ q))
theorem src_ref {m : Nat} {h : AH} {s : Src} (e : srcOf (.ref m) h = some s) : ∃ l, h.cell m = .lst l ∧ s = .cell m := by
  have e : (match h.cell m with
    | .lst _ => some (Src.cell m)
    | _ => none) = some s := e
  cases ec : h.cell m with
  | lst l => rw [ec] at e; exact ⟨l, rfl, (Option.some.inj e).symm⟩
  | _ => rw [ec] at e; cases e
theorem enum_ref {m : Nat} {h : AH} {s : Src} (e : enumOf (.ref m) h = some s) : ∃ l, h.cell m = .lst l ∧ s = .ecell m := by
  have e : (match h.cell m with
    | .lst _ => some (Src.ecell m)
    | _ => none) = some s := e
  cases ec : h.cell m with
  | lst l => rw [ec] at e; exact ⟨l, rfl, (Option.some.inj e).symm⟩
  | _ => rw [ec] at e; cases e
theorem lift_ok' {α : Type} {o : Option α} {w : Wd} {n : Nat} {h : AH} {E : XK} {P : Wd → AH → Hp → α → Prop} (q : Post g w n (lift o h) E P) : ∃ a, o = some a ∧ Post g w n (.ok a h) E P := by
  cases o with
  | none => exact q.elim
  | some a => exact ⟨a, rfl, q⟩
theorem iv_seq (G : GX g c k X) (ha : EV X g E e ra) : PI X tg e (tI g E (fun env h => (ra env h).bind fun x h => lift (srcOf x h) h)) := by
  refine PI.cas fun σ H R ⟨w, env, h, rr, re, q⟩ => ?_
  dsimp only at q
  cases hra : ra env h with
  | stuck => rw [hra] at q; exact q.elim
  | exc y h1 =>
    rw [hra] at q
    exact ⟨_, pi_list ha.pe, w, env, h, rr, re, by rw [hra]; exact q⟩
  | ok x h1 =>
    rw [hra, bind_ok] at q
    obtain ⟨src, hs, q⟩ := lift_ok' q
    have use : ∀ {T : V → Hp → Prop}, (∀ w1 H1 v, Ext w h.nx w1 h1.nx → RR g w1 h1 H1 → RV g w1 h1.nx x v → T v H1) → tE g E ra σ H T := fun {T} hT => ⟨w, env, h, rr, re, by
      rw [hra]
      exact fun w1 H1 ext rr1 v rv => hT w1 H1 v ext rr1 rv⟩
    cases x with
    | lst l =>
      cases hs
      refine ⟨_, pi_list ha.pe, use fun w1 H1 v ext rr1 rv => ?_⟩
      obtain ⟨a, xs, rfl, q1, r1⟩ := rv_lst.mp rv
      exact ⟨a, rfl, ⟨xs, SqL.of (rr1.sub _ _ q1)⟩, q w1 H1 ext rr1 _ (serves_lst r1 (lst_sq q1))⟩
    | tup l =>
      cases hs
      refine ⟨_, pi_tup ha.pe, use fun w1 H1 v ext rr1 rv => ?_⟩
      obtain ⟨a, xs, rfl, q1, r1⟩ := rv_tup.mp rv
      have sq : ∀ (w : Wd) (h : AH) (H : Hp), Ext w1 h1.nx w h.nx → RR g w h H → SqT X.K H a xs := fun w h H ext rr => by rw [G.K]; exact SqT.ext (fun b o e => rr.sub _ _ (ext.F _ _ e)) q1
      exact ⟨a, rfl, ⟨xs, sq w1 h1 H1 (Ext.refl _ _) rr1⟩, q w1 H1 ext rr1 _ (serves_tup r1 sq)⟩
    | str s =>
      cases hs
      refine ⟨_, pi_str ha.pe, use fun w1 H1 v ext rr1 rv => ?_⟩
      obtain ⟨rfl, ho⟩ := rv_str.mp rv
      exact ⟨_, rfl, q w1 H1 ext rr1 _ (serves_str ho)⟩
    | ref m =>
      obtain ⟨l, ec, rfl⟩ := src_ref hs
      refine ⟨_, pi_list ha.pe, use fun w1 H1 v ext rr1 rv => ?_⟩
      obtain ⟨rfl, hm⟩ := rv_ref.mp rv
      obtain ⟨xs, q1, r1⟩ := cell_lst rr1 hm ec
      exact ⟨_, rfl, ⟨xs, SqL.of q1⟩, q w1 H1 ext rr1 _ (serves_cell hm)⟩
    | _ => cases hs
theorem iv_rng (G : GX g c k X) {p : Pos} (hgl : Gl X "range") (hml : X.mg "range" = none) (ha : EV X g E a ra) (hn : nst a = true) : PI X tg (.Call (.Name "range" p) [a] [] pos) (tI g E (fun env h => (ra env h).bind fun x h => match x with
    | .int i => if -(2 ^ 62) ≤ i ∧ i < 2 ^ 62 then .ok (.fix (range 0 i)) h else .stuck
    | _ => .stuck)) := by
  refine PI.cas fun σ H R ⟨w, env, h, rr, re, q⟩ => ⟨_, pi_range1 hgl hml (pa_cons ha.pe pa_nil (nst_ok hn _ _)) (nst_ok hn _ _), ?_⟩
  refine tE.step q rr re rfl fun w1 h1 H1 x v ext rr1 re1 rv q1 => ?_
  cases x with
  | int i =>
    rw [rv_int.mp rv]
    obtain ⟨hl, q1⟩ := if_ok q1
    refine ⟨i, rfl, hl.1, hl.2, q1.now rr1 _ ?_⟩
    have := serves_rng (g := g) (w0 := w1) (n0 := h1.nx) (i := 0) (j := i)
    rw [Int.sub_zero] at this
    exact this
  | _ => exact q1.elim
theorem iv_rng2 (G : GX g c k X) {p : Pos} (hgl : Gl X "range") (hml : X.mg "range" = none) (ha : EV X g E a ra) (hb : EV X g E b rb) (hn : nst a = true) (hn2 : nst b = true) : PI X tg (.Call (.Name "range" p) [a, b] [] pos) (tI g E (fun env h => (ra env h).bind fun x h => (rb env h).bind fun y h => match x, y with
    | .int i, .int j => if (-(2 ^ 62) ≤ i ∧ i < 2 ^ 62) ∧ -(2 ^ 62) ≤ j ∧ j < 2 ^ 62 then .ok (.fix (range i j)) h else .stuck
    | _, _ => .stuck)) := by
  refine PI.cas fun σ H R ⟨w, env, h, rr, re, q⟩ => ⟨_, pi_range2 hgl hml (pa_cons ha.pe (pa_cons hb.pe pa_nil (nst_ok hn2 _ _)) (nst_ok hn _ _)) (by rw [nst_ok hn, nst_ok hn2]; rfl) (nst_ok hn2 _ _), ?_⟩
  refine tE.step q rr re rfl fun w1 h1 H1 x v ext rr1 re1 rv q1 => ?_
  refine tE.step q1 rr1 re1 rfl fun w2 h2 H2 y u ext2 rr2 re2 rv2 q2 => ?_
  have rv := rv.ext ext2 _ _
  cases x with
  | int i =>
    cases y with
    | int j =>
      rw [rv_int.mp rv, rv_int.mp rv2]
      obtain ⟨hl, q2⟩ := if_ok q2
      exact ⟨i, j, rfl, ⟨hl.1.1, hl.1.2, hl.2.1, hl.2.2⟩, q2.now rr2 _ serves_rng⟩
    | _ => exact q2.elim
  | _ => exact q2.elim
theorem iv_enum (G : GX g c k X) {p tpos : Pos} {elts : List Expr} {kk : Nat} (hgl : Gl X "enumerate") (hml : X.mg "enumerate" = none) (ha : EV X g E a ra) (hn : nst a = true) : PI X (.Tuple elts kk tpos) (.Call (.Name "enumerate" p) [a] [] pos) (tI g E (fun env h => (ra env h).bind fun x h => lift (enumOf x h) h)) := by
  refine PI.cas fun σ H R ⟨w, env, h, rr, re, q⟩ => ⟨_, pi_enum hgl hml (pa_cons ha.pe pa_nil (nst_ok hn _ _)) (nst_ok hn _ _), ?_⟩
  refine tE.step q rr re rfl fun w1 h1 H1 x v ext rr1 re1 rv q1 => ?_
  obtain ⟨src, hs, q1⟩ := lift_ok q1
  cases x with
  | lst l =>
    cases hs
    obtain ⟨a, xs, rfl, q2, r1⟩ := rv_lst.mp rv
    exact ⟨a, xs, rfl, SqL.of (rr1.sub _ _ q2), q1.now rr1 _ (serves_enum r1 (lst_sq q2))⟩
  | ref m =>
    obtain ⟨l, ec, rfl⟩ := enum_ref hs
    obtain ⟨rfl, hm⟩ := rv_ref.mp rv
    obtain ⟨xs, q2, r1⟩ := cell_lst rr1 hm ec
    exact ⟨_, xs, rfl, SqL.of q2, q1.now rr1 _ (serves_ecell hm)⟩
  | _ => cases hs
theorem iv_zip (G : GX g c k X) {p tpos : Pos} {elts : List Expr} {kk : Nat} (hgl : Gl X "zip") (hml : X.mg "zip" = none) (ha : EV X g E a ra) (hb : EV X g E b rb) (hn : nst a = true) (hn2 : nst b = true) : PI X (.Tuple elts kk tpos) (.Call (.Name "zip" p) [a, b] [] pos) (tI g E (fun env h => (ra env h).bind fun x h => (rb env h).bind fun y h => lift (zipOf x y) h)) := by
  refine PI.cas fun σ H R ⟨w, env, h, rr, re, q⟩ => ⟨_, pi_zip hgl hml (pa_cons ha.pe (pa_cons hb.pe pa_nil (nst_ok hn2 _ _)) (nst_ok hn _ _)) (nst_ok hn _ _) (by rw [nst_ok hn2]; rfl), ?_⟩
  refine tE.step q rr re rfl fun w1 h1 H1 x v ext rr1 re1 rv q1 => ?_
  refine tE.step q1 rr1 re1 rfl fun w2 h2 H2 y u ext2 rr2 re2 rv2 q2 => ?_
  have rv := rv.ext ext2 _ _
  obtain ⟨src, hs, q2⟩ := lift_ok q2
  cases x with
  | lst l =>
    cases y with
    | lst m =>
      cases hs
      obtain ⟨a, xs, rfl, q3, r1⟩ := rv_lst.mp rv
      obtain ⟨b, ys, rfl, q4, r2⟩ := rv_lst.mp rv2
      exact ⟨a, b, xs, ys, rfl, SqL.of (rr2.sub _ _ q3), SqL.of (rr2.sub _ _ q4), q2.now rr2 _ (serves_zip r1 (lst_sq q3) r2 (lst_sq q4))⟩
    | _ => cases hs
  | _ => cases hs
/-! ### targets -/
/-- slots but those of U -/
structure REu (g : Gi) (w : Wd) (n : Nat) (U : Nat → Prop) (env : Env) (σ : L2.St) : Prop where
  len : env.length = σ.length
  at' : ∀ (i : Nat) (d : Sl) (o : Option V), ¬ U i → env[i]? = some d → σ[i]? = some o → RS g w n d o
theorem REu.set {w : Wd} {n : Nat} {U : Nat → Prop} {env : Env} {σ : L2.St} (r : REu g w n U env σ) (i : Nat) {d : D} {v : V} (q : RV g w n d v) : REu g w n (fun j => U j ∧ j ≠ i) (env.set i (.v d)) (σ.set i (some v)) := by
  refine ⟨by simp [r.len], fun j e u hj h1 h2 => ?_⟩
  by_cases hij : i = j
  · subst hij
    by_cases hi : i < env.length
    · rw [List.getElem?_set_self hi] at h1
      rw [List.getElem?_set_self (r.len ▸ hi)] at h2
      cases h1; cases h2
      exact ⟨v, rfl, q⟩
    · rw [List.getElem?_eq_none (by simpa using hi)] at h1
      cases h1
  · rw [List.getElem?_set_ne hij] at h1 h2
    exact r.at' j e u (fun z => hj ⟨z, Ne.symm hij⟩) h1 h2
theorem REu.re {w : Wd} {n : Nat} {U : Nat → Prop} {env : Env} {σ : L2.St} (r : REu g w n U env σ) (h : ∀ i, ¬ U i) : RE g w n env σ := ⟨r.len, fun i d o e1 e2 => r.at' i d o (h i) e1 e2⟩
theorem RE.u {w : Wd} {n : Nat} {U : Nat → Prop} {env : Env} {σ : L2.St} (r : RE g w n env σ) : REu g w n U env σ := ⟨r.len, fun i d o _ e1 e2 => r.at' i d o e1 e2⟩
theorem REu.ext {w w' : Wd} {n n' : Nat} {U : Nat → Prop} {env : Env} {σ : L2.St} (r : REu g w n U env σ) (x : Ext w n w' n') : REu g w' n' U env σ := ⟨r.len, fun i d o hu e1 e2 => (r.at' i d o hu e1 e2).extF x.f⟩
theorem REu.of_wipe {w : Wd} {n : Nat} {env : Env} {σ : L2.St} (r : RE g w n env σ) (vs : List Nat) : REu g w n (· ∈ vs) env (wipe σ vs) := ⟨by rw [wipe_length]; exact r.len, fun i d o hu e1 e2 => by
  rw [wipe_out hu] at e2
  exact r.at' i d o e1 e2⟩
theorem wipe_in {σ : L2.St} {i : Nat} : ∀ {vs : List Nat}, i ∈ vs → (wipe σ vs)[i]? = if i < σ.length then some none else none
  | [], h => by cases h
  | v :: vs, h => by
    unfold wipe
    by_cases e : v = i
    · subst e
      by_cases hi : v < σ.length
      · rw [if_pos hi, List.getElem?_set_self (by rw [wipe_length]; exact hi)]
      · rw [if_neg hi, List.getElem?_eq_none (by rw [List.length_set, wipe_length]; omega)]
    · rw [List.getElem?_set_ne e]
      exact wipe_in (by rcases List.mem_cons.mp h with z | z; exact absurd z.symm e; exact z)
theorem wipe_set {σ : L2.St} {i : Nat} {v : Option V} {vs : List Nat} (h : i ∈ vs) : wipe (σ.set i v) vs = wipe σ vs := by
  refine List.ext_getElem? fun j => ?_
  by_cases hj : j ∈ vs
  · rw [wipe_in hj, wipe_in hj, List.length_set]
  · rw [wipe_out hj, wipe_out hj, List.getElem?_set_ne fun (e : i = j) => hj (e ▸ h)]
def tG (g : Gi) (tg : List Nat) : TG := fun v σ H Q => ∃ w env h d env' U, RR g w h H ∧ REu g w h.nx U env σ ∧ (∀ i, U i → i ∈ tg) ∧ RV g w h.nx d v ∧ bindT tg d env = some env' ∧ ∀ σ', RE g w h.nx env' σ' → (∀ ws, (∀ i ∈ tg, i ∈ ws) → wipe σ' ws = wipe σ ws) → Q σ' H
theorem _root_.L2.PG.imp {X : Cx} {e : Expr} {t t' : TG} (h : PG X e t) (k : ∀ v σ H Q, t' v σ H Q → t v σ H Q) : PG X e t' := ⟨fun pins s σ H v u Q I r q => h.run pins s σ H v u Q I r (k _ _ _ _ q)⟩
theorem gv_one {i : Nat} {x : Str} (hN : X.N.Nodup) (hi : X.N[i]? = some x) (hx : Loc X.env.scope x) (hf : X.fn x = true ∨ X.env.scope.names.lookup x = some .local) : PG X (.Name x pos) (tG g [i]) := by
  refine (pg_name hN hi hx hf).imp fun v σ H Q ⟨w, env, h, d, env', U, rr, re, hu, rv, hb, q⟩ => ?_
  have hb : some (env.set i (.v d)) = some env' := hb
  cases hb
  exact q _ ((re.set i rv).re fun j ⟨z, n⟩ => n (by simpa using hu j z)) fun ws hw => wipe_set (hw i List.mem_cons_self)
/-- names of a target and their slots -/
inductive TN (X : Cx) : List Expr → List Nat → Prop where
  | nil : TN X [] []
  | cons {x : Str} {pos : Pos} {i : Nat} {es : List Expr} {is : List Nat} (hi : X.N[i]? = some x) (hx : Loc X.env.scope x) (hf : X.fn x = true ∨ X.env.scope.names.lookup x = some .local) (r : TN X es is) : TN X (.Name x pos :: es) (i :: is)
def setAll {α : Type} (σ : List (Option α)) : List (Nat × α) → List (Option α)
  | [] => σ
  | p :: r => setAll (σ.set p.1 (some p.2)) r
theorem setAll_eq {α : Type} : ∀ (l : List (Nat × α)) (σ : List (Option α)), l.foldl (fun e p => e.set p.1 (some p.2)) σ = setAll σ l
  | [], _ => rfl
  | p :: l, σ => by rw [List.foldl_cons, setAll_eq l]; rfl
def setAllE (σ : Env) : List (Nat × D) → Env
  | [] => σ
  | p :: r => setAllE (σ.set p.1 (.v p.2)) r
theorem setAllE_eq : ∀ (l : List (Nat × D)) (σ : Env), l.foldl (fun e p => e.set p.1 (.v p.2)) σ = setAllE σ l
  | [], _ => rfl
  | p :: l, σ => by rw [List.foldl_cons, setAllE_eq l]; rfl
def gSets (is : List Nat) : TGs := fun vs σ H Q => vs.length = is.length ∧ Q (setAll σ (is.zip vs)) H
theorem PGs.imp {X : Cx} {e : List Expr} {t t' : TGs} (h : PGs X e t) (k : ∀ v σ H Q, t' v σ H Q → t v σ H Q) : PGs X e t' := ⟨fun pins s σ H v u Q I r q => h.run pins s σ H v u Q I r (k _ _ _ _ q)⟩
theorem TN.pgs (hN : X.N.Nodup) : ∀ {es : List Expr} {is : List Nat}, TN X es is → PGs X es (gSets is)
  | _, _, .nil => PGs.imp pgs_nil fun v σ H Q ⟨h1, h2⟩ => ⟨List.eq_nil_of_length_eq_zero h1, h2⟩
  | _, _, .cons hi hx hf r => PGs.imp (pgs_cons (pg_name hN hi hx hf) (TN.pgs hN r)) fun v σ H Q ⟨h1, h2⟩ => by
    cases v with
    | nil => cases h1
    | cons v vs => exact ⟨v, vs, rfl, by simpa using h1, h2⟩
theorem TN.each : ∀ {es : List Expr} {is : List Nat}, TN X es is → (assignEach es X.env).length = is.length ∧ (assignEach es X.env).findIdx? (·.1) = none
  | _, _, .nil => ⟨rfl, rfl⟩
  | _, _, .cons (x := x) (pos := pos) (es := es) hi hx hf r => by
    obtain ⟨h1, h2⟩ := TN.each r
    have e : assignEach (.Name x pos :: es) X.env = (false, assign (.Name x pos) X.env) :: assignEach es X.env := rfl
    rw [e]
    refine ⟨by rw [List.length_cons, List.length_cons, h1], ?_⟩
    rw [List.findIdx?_cons, h2]
    rfl
theorem REu.setAll {w : Wd} {n : Nat} : ∀ {is : List Nat} {l : List D} {xs : List V} {U : Nat → Prop} {env : Env} {σ : L2.St}, REu g w n U env σ → RVs g w n l xs → is.length = l.length → REu g w n (fun j => U j ∧ j ∉ is) (Rk.setAllE env (is.zip l)) (Rk.setAll σ (is.zip xs))
  | [], _, _, U, env, σ, r, _, _ => ⟨r.len, fun i d o hu e1 e2 => r.at' i d o (fun z => hu ⟨z, by simp⟩) e1 e2⟩
  | i :: is, [], _, _, _, _, _, _, h => by cases h
  | i :: is, d :: l, xs, U, env, σ, r, q, h => by
    obtain ⟨x, ys, rfl, h1, h2⟩ := rvs_cons.mp q
    have z := REu.setAll (r.set i h1) h2 (by simpa using h)
    refine ⟨z.len, fun j e o hu => z.at' j e o fun ⟨⟨y1, y2⟩, y3⟩ => hu ⟨y1, by simp only [List.mem_cons, not_or]; exact ⟨y2, y3⟩⟩⟩
theorem wipe_setAll {ws : List Nat} : ∀ {is : List Nat} {xs : List V} {σ : L2.St}, (∀ i ∈ is, i ∈ ws) → wipe (setAll σ (is.zip xs)) ws = wipe σ ws
  | [], _, _, _ => rfl
  | i :: is, [], _, _ => rfl
  | i :: is, x :: xs, σ, h => (wipe_setAll fun j hj => h j (List.mem_cons_of_mem _ hj)).trans (wipe_set (h i List.mem_cons_self))
theorem PG.cas {X : Cx} {tg : Expr} {t : TG} (h : ∀ v σ H Q, t v σ H Q → ∃ t', PG X tg t' ∧ t' v σ H Q) : PG X tg t := ⟨fun pins s σ H v u Q I r q => by
  obtain ⟨t', o, q'⟩ := h v σ H Q q
  exact o.run pins s σ H v u Q I r q'⟩
theorem gv_tup (G : GX g c k X) (hc : X.calm = true) {es : List Expr} {is : List Nat} {kk : Nat} (t : TN X es is) (h2 : 2 ≤ is.length) : PG X (.Tuple es kk pos) (tG g is) := by
  obtain ⟨e1, e2⟩ := t.each
  refine PG.cas fun v σ H Q ⟨w, env, h, d, env', U, rr, re, hu, rv, hb, q⟩ => ?_
  unfold bindT at hb
  split at hb
  · simp at h2
  · split at hb
    · rename_i l
      obtain ⟨a, xs, rfl, q1, r1⟩ := rv_tup.mp rv
      obtain ⟨hl, hb⟩ := opt_if hb
      subst hb
      refine ⟨_, pg_tup (n := is.length) hc (t.pgs G.nd) e1 e2, a, xs, rfl, by rw [G.K]; exact SqT.ext rr.sub q1, by rw [r1.length, hl], by rw [r1.length, hl], ?_⟩
      refine q _ ?_ fun ws hw => wipe_setAll hw
      rw [setAllE_eq]
      exact (re.setAll r1 hl.symm).re fun j ⟨z, n⟩ => n (hu j z)
    · rename_i l
      obtain ⟨a, xs, rfl, q1, r1⟩ := rv_lst.mp rv
      obtain ⟨hl, hb⟩ := opt_if hb
      subst hb
      refine ⟨_, pg_lst (n := is.length) hc (t.pgs G.nd) e1 e2, a, xs, rfl, SqL.of (rr.sub _ _ q1), by rw [r1.length, hl], by rw [r1.length, hl], ?_⟩
      refine q _ ?_ fun ws hw => wipe_setAll hw
      rw [setAllE_eq]
      exact (re.setAll r1 hl.symm).re fun j ⟨z, n⟩ => n (hu j z)
    · cases hb
/-! ### [elt for target in iter if ..] -/
def E0 : SX' := fun _ _ _ _ => False
def itmR (tgs : List Nat) (rf : Run Bool) (re : Run D) (env : Env) : D → AH → Res (Option D) := fun x h => match bindT tgs x env with
        | some e => (rf e h).bind fun b h => if b then (re e h).bind fun y h => .ok (some y) h else .ok none h
        | none => .stuck
def cmprR (rI : Run Src) (tgs : List Nat) (rf : Run Bool) (re : Run D) : Run D := fun env h => (rI env h).bind fun s h => if s.len h ≤ line then
      (noexc (mapI s (itmR tgs rf re env) (s.len h + 1) 0 h)).bind fun r h => .ok (.lst r) h
    else .stuck
theorem Post.from {α : Type} {w w' : Wd} {n n' : Nat} {r : Res α} {X : XK} {P : Wd → AH → Hp → α → Prop} (q : Post g w n r X P) (x : Ext w n w' n') : Post g w' n' r X P := by
  cases r with
  | ok a h => exact fun w1 H1 e1 => q w1 H1 (x.trans e1)
  | exc y h => exact fun w1 H1 cls d e1 => q w1 H1 cls d (x.trans e1)
  | stuck => exact q
theorem noexc_push (o : Option D) (r : Res (List D)) (F : List D → AH → Res D) : (noexc (r.bind fun r h => .ok (push o r) h)).bind F = (noexc r).bind fun r h => F (push o r) h := by
  cases r <;> rfl
theorem cmpr_read {σ : L2.St} {H : Hp} {Q : VK} {rI : Run Src} {tgs vs : List Nat} {rf : Run Bool} {re : Run D} (hsub : ∀ i ∈ vs, i ∈ tgs) (hsup : ∀ i ∈ tgs, i ∈ vs) (h : tE g E (cmprR rI tgs rf re) σ H Q) : tLc (tI g E rI) (tG g tgs) (tB' g E0 rf) (tE g E0 re) vs σ H Q := by
  obtain ⟨w, env, h, rr, renv, q⟩ := h
  refine ⟨w, env, h, rr, renv, q.bind.mono fun w1 h1 H1 src ext rr1 q1 J sv L hD => ?_⟩
  obtain ⟨hl, q1⟩ := if_ok q1
  obtain ⟨rr2, ext2⟩ := rr1.side (o := .lst []) hD
  have zD : w1.Z L = none := rr1.noZ hD
  have re1 := renv.ext ext
  refine ⟨fun i m H => ∃ w3 h3 acc accv, Ext w1 h1.nx w3 h3.nx ∧ RR g w3 h3 H ∧ w3.Z L = some (.lst accv) ∧ RVs g w3 h3.nx acc accv ∧ acc.length + m ≤ line ∧
      Post g w1 h1.nx ((noexc (mapI src (itmR tgs rf re env) (m + 1) i h3)).bind fun r h => .ok (.lst (acc ++ r)) h) (E σ) (PV g Q),
    ⟨src.len h1, _, h1, [], [], ext2, rr2, upd_same, RVs.nil, by simpa using hl, by simpa using q1⟩, ?_⟩
  rintro i m H3 ⟨w3, h3, acc, accv, ext3, rr3, z3, r3, len3, q3⟩
  unfold mapI at q3
  cases hg : src.get i h3 with
  | none => rw [hg] at q3; exact q3.elim
  | some o =>
    cases o with
    | none =>
      rw [hg] at q3
      refine .inl ⟨sv.stop w3 h3 H3 i ext3 rr3 hg, ?_⟩
      have q3 : Post g w1 h1.nx (.ok (.lst (acc ++ [])) h3) (E σ) (PV g Q) := q3
      rw [List.append_nil] at q3
      refine q3 ⟨w3.m, upd w3.F L (.lst accv), fun a => if a = L then none else w3.Z a⟩ H3 ⟨ext3.le, ext3.m, fun a o e => ?_, fun a o e => ?_⟩ (rr3.sideF z3) _ (rv_lst.mpr ⟨L, accv, rfl, upd_same, RVs.moreF (fun a o e => ?_) r3⟩)
      · show upd w3.F L _ a = some o
        rw [upd_ne (ne_of_none (ext3.F _ _ e) (rr3.subz _ _ z3).2)]
        exact ext3.F _ _ e
      · show (if a = L then none else w3.Z a) = some o
        rw [if_neg (ne_of_none e zD)]
        exact ext3.Z _ _ e
      · rw [upd_ne (ne_of_none e (rr3.subz _ _ z3).2)]
        exact e
    | some x =>
      rw [hg] at q3
      obtain ⟨go, yl⟩ := sv.it w3 h3 H3 i x ext3 rr3 hg
      refine .inr ⟨go, fun H' => ∃ m', m' < m ∧ ∃ w3 h3 acc accv, Ext w1 h1.nx w3 h3.nx ∧ RR g w3 h3 H' ∧ w3.Z L = some (.lst accv) ∧ RVs g w3 h3.nx acc accv ∧ acc.length + m' ≤ line ∧
        Post g w1 h1.nx ((noexc (mapI src (itmR tgs rf re env) (m' + 1) (i + 1) h3)).bind fun r h => .ok (.lst (acc ++ r)) h) (E σ) (PV g Q), fun H' z => z, fun x' H' y => ?_⟩
      obtain ⟨w4, ext4, rr4, rv4⟩ := yl x' H' y
      have ext14 := ext3.trans ext4
      dsimp only at q3
      cases hb : bindT tgs x env with
      | none =>
        have e0 : itmR tgs rf re env x h3 = .stuck := by unfold itmR; rw [hb]
        rw [e0] at q3
        exact q3.elim
      | some env' =>
        have e0 : itmR tgs rf re env x h3 = ((rf env' h3).bind fun b h => if b then (re env' h).bind fun y h => .ok (some y) h else .ok none h) := by unfold itmR; rw [hb]
        rw [e0] at q3
        refine ⟨w4, env, h3, x, env', _, rr4, REu.of_wipe (re1.ext ext14) vs, hsub, rv4, hb, fun σ2 re2 hw => ⟨?_, ?_⟩⟩
        · rw [hw vs hsup]
          refine List.ext_getElem? fun j => ?_
          by_cases hj : j ∈ vs
          · rw [wipe_in hj, wipe_in hj, wipe_length]
          · rw [wipe_out hj]
        refine ⟨w4, env', h3, rr4, re2, ?_⟩
        -- what is left behind a turn
        have left : ∀ (w5 : Wd) (h5 : AH) (H5 : Hp) (o : Option D) (acc' : List D) (accv' : List V), Ext w1 h1.nx w5 h5.nx → RR g w5 h5 H5 → w5.Z L = some (.lst accv') → RVs g w5 h5.nx acc' accv' → acc'.length + m ≤ line + 1 → (∀ r, acc ++ push o r = acc' ++ r) →
            Post g w1 h1.nx ((noexc ((mapI src (itmR tgs rf re env) m (i + 1) h5).bind fun r h'' => .ok (push o r) h'')).bind fun r h => .ok (.lst (acc ++ r)) h) (E σ) (PV g Q) →
            ∃ m', m' < m ∧ ∃ w3 h3 acc accv, Ext w1 h1.nx w3 h3.nx ∧ RR g w3 h3 H5 ∧ w3.Z L = some (.lst accv) ∧ RVs g w3 h3.nx acc accv ∧ acc.length + m' ≤ line ∧
              Post g w1 h1.nx ((noexc (mapI src (itmR tgs rf re env) (m' + 1) (i + 1) h3)).bind fun r h => .ok (.lst (acc ++ r)) h) (E σ) (PV g Q) := by
          intro w5 h5 H5 o acc' accv' ext5 rr5 z5 r5 len5 hpush q5
          rw [noexc_push] at q5
          cases m with
          | zero => exact q5.elim
          | succ m' =>
            refine ⟨m', Nat.lt_succ_self _, w5, h5, acc', accv', ext5, rr5, z5, r5, by omega, ?_⟩
            have e : (fun (r : List D) (h : AH) => Res.ok (D.lst (acc ++ push o r)) h) = fun r h => Res.ok (D.lst (acc' ++ r)) h := by
              funext r h
              rw [hpush r]
            rw [e] at q5
            exact q5
        cases hrf : rf env' h3 with
        | stuck => rw [hrf] at q3; exact q3.elim
        | exc y h5 => rw [hrf] at q3; exact q3.elim
        | ok b h5 =>
          rw [hrf, bind_ok] at q3
          intro w5 H5 ext5 rr5
          show if b = true then _ else _
          cases b with
          | false =>
            refine iteF ?_
            exact left w5 h5 H5 none acc accv (ext14.trans ext5) rr5 (ext5.Z _ _ (ext4.Z _ _ z3)) ((r3.ext ext4).ext ext5) (by omega) (fun r => rfl) q3
          | true =>
            refine iteT ⟨w5, env', h5, rr5, re2.ext ext5, ?_⟩
            simp only [if_true] at q3
            cases hre : re env' h5 with
            | stuck => rw [hre] at q3; exact q3.elim
            | exc y h6 => rw [hre] at q3; exact q3.elim
            | ok yd h6 =>
              rw [hre, bind_ok, bind_ok] at q3
              intro w6 H6 ext6 rr6 yv rv6
              have z6 := ext6.Z _ _ (ext5.Z _ _ (ext4.Z _ _ z3))
              have r6 := (((r3.ext ext4).ext ext5).ext ext6).append (RVs.mk rv6 RVs.nil)
              have hm : 0 < m := by
                cases m with
                | zero => exact q3.elim
                | succ m' => exact Nat.succ_pos _
              refine ⟨accv, (rr6.subz _ _ z6).1, by rw [r3.length, sizeL]; omega, ?_⟩
              have ext16 := (ext14.trans ext5).trans ext6
              refine left ⟨w6.m, w6.F, upd w6.Z L (.lst (accv ++ [yv]))⟩ h6 _ (some yd) (acc ++ [yd]) (accv ++ [yv]) ⟨ext16.le, ext16.m, ext16.F, fun a o e => ?_⟩ (rr6.side2 z6) upd_same (RVs.noZ r6) (by rw [List.length_append]; simp; omega) (fun r => by simp [push]) q3
              show upd w6.Z L _ a = some o
              rw [upd_ne (ne_of_none e zD)]
              exact ext16.Z _ _ e
end
end Rk

set_option maxHeartbeats 1000000
/-! Rk.J: statements. -/
namespace Rk
open PySem PySem.Spec PyProof.Rows L2
abbrev xw (W : L2.WX) : SX' := fun σ cls d H => W cls d σ H
abbrev NoX : XK := fun _ _ _ => False
section
variable {X : Cx} {g : Gi} {c : Bool} {k : Nat} {W : L2.WX} {e a b d tg iter : Expr} {pos : Pos} {run ra rb rd : Run Rk.D} {env : Env} {w : Wd} {h : AH} {H : Hp} {σ : L2.St}
theorem bX.to {α : Type} {r : Res α} {f : α → AH → Res Fl} {D : Ends} (q : Post g w h.nx (r.bindX env f) NoX (PF g W D)) (re : RE g w h.nx env σ) :
    Post g w h.nx r (xw W σ) (fun w1 h1 H1 x => Post g w1 h1.nx (f x h1) NoX (PF g W D)) := by
  cases r with
  | ok x h1 =>
    intro w1 H1 e1 rr1
    exact Post.from (show Post g w h.nx (f x h1) NoX (PF g W D) from q) e1
  | exc x h1 =>
    intro w1 H1 cls d e1 rr1 rx
    exact q w1 H1 e1 rr1 σ cls d (re.ext e1) rx
  | stuck => exact q
theorem bX.step {f : D → AH → Res Fl} {D : Ends} (q : Post g w h.nx ((ra env h).bindX env f) NoX (PF g W D)) (rr : RR g w h H) (re : RE g w h.nx env σ)
    {R : V → Hp → Prop} (hR : ∀ w1 h1 H1 x v, Ext w h.nx w1 h1.nx → RR g w1 h1 H1 → RE g w1 h1.nx env σ → RV g w1 h1.nx x v → Post g w1 h1.nx (f x h1) NoX (PF g W D) → R v H1) : tE g (xw W) ra σ H R :=
  ⟨w, env, h, rr, re, (bX.to q re).mono fun w1 h1 H1 x ext rr1 q1 v rv => hR w1 h1 H1 x v ext rr1 (re.ext ext) rv q1⟩
theorem bXT.step {f : Bool → AH → Res Fl} {D : Ends} (q : Post g w h.nx ((runT ra env h).bindX env f) NoX (PF g W D)) (rr : RR g w h H) (re : RE g w h.nx env σ)
    {R : Bool → Hp → Prop} (hR : ∀ w1 h1 H1 x, Ext w h.nx w1 h1.nx → RR g w1 h1 H1 → RE g w1 h1.nx env σ → Post g w1 h1.nx (f x h1) NoX (PF g W D) → R x H1) : tB' g (xw W) (runT ra) σ H R :=
  ⟨w, env, h, rr, re, (bX.to q re).mono fun w1 h1 H1 x ext rr1 q1 => hR w1 h1 H1 x ext rr1 (re.ext ext) q1⟩
theorem bXA.step {ra : Run (List D)} {f : List D → AH → Res Fl} {D : Ends} (q : Post g w h.nx ((ra env h).bindX env f) NoX (PF g W D)) (rr : RR g w h H) (re : RE g w h.nx env σ)
    {R : List V → Hp → Prop} (hR : ∀ w1 h1 H1 x v, Ext w h.nx w1 h1.nx → RR g w1 h1 H1 → RE g w1 h1.nx env σ → RVs g w1 h1.nx x v → Post g w1 h1.nx (f x h1) NoX (PF g W D) → R v H1) : tEs g (xw W) ra σ H R :=
  ⟨w, env, h, rr, re, (bX.to q re).mono fun w1 h1 H1 x ext rr1 q1 v rv => hR w1 h1 H1 x v ext rr1 (re.ext ext) rv q1⟩
/-- a statement's reading -/
abbrev SV (X : Cx) (g : Gi) (W : L2.WX) (st : Stmt) (run : Run Fl) : Prop := PS X st (tS g W run)
abbrev SVs (X : Cx) (g : Gi) (W : L2.WX) (st : List Stmt) (run : Run Fl) : Prop := PSs X st (tS g W run)
theorem now' {α : Type} {w : Wd} {n : Nat} {h : AH} {H : Hp} {a : α} {X : XK} {P : Wd → AH → Hp → α → Prop} (q : Post g w n (.ok a h) X P) {w' : Wd} (e : Ext w n w' h.nx) (rr : RR g w' h H) : P w' h H a := q w' H e rr
theorem svs_nil : SVs X g W [] (fun env h => .ok (.nx env) h) := pss_nil.imp fun D σ H ⟨w, env, h, rr, re, q⟩ => q.now rr σ re
theorem svs_cons {st : Stmt} {rest : List Stmt} {rs rr' : Run Fl} (h1 : SV X g W st rs) (h2 : SVs X g W rest rr') : SVs X g W (st :: rest) (fun env h => (rs env h).bind fun f h => match f with
    | .nx e => rr' e h
    | f => .ok f h) := by
  refine (pss_cons h1 h2).imp fun D σ H ⟨w, env, h, rr, re, q⟩ => ⟨w, env, h, rr, re, q.bind.mono fun w1 h1 H1 f ext rr1 q1 => ?_⟩
  cases f with
  | nx e => exact fun σ1 re1 => ⟨w1, e, h1, rr1, re1, q1⟩
  | rt d => exact q1.now rr1
  | bk e => exact q1.now rr1
  | ct e => exact q1.now rr1
  | xc x e => exact q1.now rr1
/-- no comprehension -/
def ncp : Expr → Bool
  | .ListComp .. => false
  | .SetComp .. => false
  | .DictComp .. => false
  | _ => true
def nset : Expr → Bool
  | .Set .. => false
  | _ => true
theorem ncp_ok (h : ncp e = true) (t : Option Expr) (l : Nat) (env : PySem.Env) : swapsWith e t l env = pure false := by
  cases e <;> first
    | rfl
    | cases h
theorem nset_ok (h : nset e = true) (env : PySem.Env) (x : Value) : foldedSetIterable e env x = pure x := by
  cases e <;> first
    | rfl
    | cases h
theorem ncp_sole (h : ncp e = true) (t : Expr) (l : Nat) (env : PySem.Env) : swapsWithSole [t] e l env = pure false := ncp_ok h (some t) l env
theorem sv_expr (he : EV X g (xw W) e run) (hn : ncp e = true) : SV X g W (.Expr e pos) (fun env h => (run env h).bindX env fun _ h => .ok (.nx env) h) :=
  (ps_expr he.pe (ncp_ok hn _ _ _)).imp fun D σ H ⟨w, env, h, rr, re, q⟩ => bX.step q rr re fun w1 h1 H1 x v ext rr1 re1 rv q1 => q1.now rr1 σ re1
theorem sv_doc {x : Str} {j : Nat} {pos' : Pos} : SV X g W (.Expr (.Constant (.str x) j pos) pos') (fun env h => .ok (.nx env) h) := ps_doc.imp fun D σ H ⟨w, env, h, rr, re, q⟩ => q.now rr σ re
theorem asg_read {i : Nat} {D : Ends} {run : Run Rk.D} (q : tS g W (fun env h => (run env h).bindX env fun x h => .ok (.nx (env.set i (.v x))) h) D σ H) : tAsg (tE g (xw W) run) (gName i) D σ H := by
  obtain ⟨w, env, h, rr, re, q⟩ := q
  exact bX.step q rr re fun w1 h1 H1 x v ext rr1 re1 rv q1 => q1.now rr1 _ (re1.set i rv)
theorem sv_asg (G : GX g c k X) {i : Nat} {x : Str} {pos' : Pos} (hi : X.N[i]? = some x) (hx : Loc X.env.scope x) (hf : X.fn x = true ∨ X.env.scope.names.lookup x = some .local) (he : EV X g (xw W) e run) (hn : ncp e = true) :
    SV X g W (.Assign [.Name x pos'] e pos) (fun env h => (run env h).bindX env fun x h => .ok (.nx (env.set i (.v x))) h) :=
  (ps_set G.nd hi hx he.pe (ncp_ok hn _ _ _) hf).imp fun D σ H q => asg_read q
theorem bk_fun {env : PySem.Env} (h : env.scope.kind = .function) : env.blockKind = .function := by unfold Env.blockKind; rw [h]; rfl
/-- name = [..] -/
theorem sv_asgc (G : GX g c k X) (hc : X.calm = true) (hk : X.env.scope.kind = .function) {i : Nat} {y : Str} {py spos : Pos} {elt : Expr} {ifs : List Expr} {scope : Scope} {own : List (Str × Nat)} {tgs : List Nat} {rI : Run Src} {rf : Run Bool} {re : Run D}
    (hy : X.N[i]? = some y) (hx : Loc X.env.scope y) (hf : X.fn y = true ∨ X.env.scope.names.lookup y = some .local)
    (hi : PI X tg iter (tI g (xw W) rI)) (ok : BlkOk X.N X.env.scope scope own) (hsub : ∀ i ∈ own.map (·.2), i ∈ tgs) (hsup : ∀ i ∈ tgs, i ∈ own.map (·.2))
    (hg : ∀ (s : Shared) (H : Hp) (C : Addr) (cl : List (Str × Addr)) (fp : List Addr), PG (X.blk s H scope (compEnvC scope cl C X.env) fp) tg (tG g tgs)) (ht : ∀ (s : Shared) (H : Hp) (C : Addr) (cl : List (Str × Addr)) (fp : List Addr), PTs (X.blk s H scope (compEnvC scope cl C X.env) fp) ifs (tB' g E0 rf))
    (he : ∀ (s : Shared) (H : Hp) (C : Addr) (cl : List (Str × Addr)) (fp : List Addr), PE (X.blk s H scope (compEnvC scope cl C X.env) fp) elt (tE g E0 re)) (hs : nset iter = true) :
    SV X g W (.Assign [.Name y py] (.ListComp elt [⟨tg, iter, ifs, 0⟩] scope pos) spos) (fun env h => (cmprR rI tgs rf re env h).bindX env fun x h => .ok (.nx (env.set i (.v x))) h) := by
  have hsw : swapsWith (.ListComp elt [⟨tg, iter, ifs, 0⟩] scope pos) (some (.Name y py)) spos.line X.env = pure (X.env.blockKind == .function && X.env.kindOf y == some .local && py.line == pos.line && !(scope.names.any fun (n, k) => n == y && (k == .local || k == .cell))) := rfl
  cases hb : (X.env.blockKind == .function && X.env.kindOf y == some .local && py.line == pos.line && !(scope.names.any fun (n, k) => n == y && (k == .local || k == .cell))) with
  | true =>
    rw [hb] at hsw
    simp only [Bool.and_eq_true] at hb
    have hyl : X.env.scope.names.lookup y = some .local := by
      have z : X.env.kindOf y = some .local := by simpa using hb.1.1.2
      exact z
    refine (ps_setLc hc G.nd hy hyl hsw hi ok hg ht he (nset_ok hs _)).imp fun D σ H q => ?_
    have q := asg_read q
    exact cmpr_read hsub hsup q
  | false =>
    rw [hb] at hsw
    exact (ps_set G.nd hy hx ((pe_lc hc G.nd hi ok hg ht he (nset_ok hs _)).imp fun σ H Q q => cmpr_read hsub hsup q) hsw hf).imp fun D σ H q => asg_read q
theorem ev_cmpr (G : GX g c k X) (hc : X.calm = true) {E : SX'} {elt : Expr} {ifs : List Expr} {scope : Scope} {own : List (Str × Nat)} {tgs : List Nat} {rI : Run Src} {rf : Run Bool} {re : Run D}
    (hi : PI X tg iter (tI g E rI)) (ok : BlkOk X.N X.env.scope scope own) (hsub : ∀ i ∈ own.map (·.2), i ∈ tgs) (hsup : ∀ i ∈ tgs, i ∈ own.map (·.2))
    (hg : ∀ (s : Shared) (H : Hp) (C : Addr) (cl : List (Str × Addr)) (fp : List Addr), PG (X.blk s H scope (compEnvC scope cl C X.env) fp) tg (tG g tgs)) (ht : ∀ (s : Shared) (H : Hp) (C : Addr) (cl : List (Str × Addr)) (fp : List Addr), PTs (X.blk s H scope (compEnvC scope cl C X.env) fp) ifs (tB' g E0 rf))
    (he : ∀ (s : Shared) (H : Hp) (C : Addr) (cl : List (Str × Addr)) (fp : List Addr), PE (X.blk s H scope (compEnvC scope cl C X.env) fp) elt (tE g E0 re)) (hs : nset iter = true) :
    EV X g E (.ListComp elt [⟨tg, iter, ifs, 0⟩] scope pos) (cmprR rI tgs rf re) :=
  EV.of G ((pe_lc hc G.nd hi ok hg ht he (nset_ok hs _)).imp fun σ H Q q => cmpr_read hsub hsup q) fun _ => rfl
/-! ### several names at once -/
def isTL : Expr → Bool
  | .Tuple .. => true
  | .List .. => true
  | _ => false
def isT : Expr → Bool
  | .Tuple .. => true
  | _ => false
/-- what stores a pair's values from the right -/
def swE (names : List (Str × NameKind)) (ts vs : List Expr) : Option (List Str) :=
  if !(ts.length == 2 || ts.length == 3) || vs.length != ts.length then none else
  if vs.any fun | .Starred .. => true | _ => false then none else
  let line := (ts.head?.map (·.pos.line)).getD 0
  let nm := ts.filterMap fun
    | .Name id pos => if names.lookup id == some .local && pos.line == line then some id else none
    | _ => none
  if nm.length != ts.length || nm.eraseDups.length != nm.length then none else
  if vs.all (foldedForSure 8) then none else
  if vs.all (constantsAlone 8) then none else some nm
def swOk (vs : List Expr) : Bool := vs.all (foldedForSure 8) || !vs.all (constantsAlone 8)
theorem swE_ok {env : PySem.Env} (hk : env.scope.kind = .function) {ts vs : List Expr} {k1 k2 : Nat} {p1 p2 : Pos} (ho : swOk vs = true) : swappedStores [.Tuple ts k1 p1] (.Tuple vs k2 p2) env = pure (swE env.scope.names ts vs) := by
  have hb := bk_fun hk
  have key : ∀ {c : Prop} [Decidable c] {a b : Sem (Option (List Str))} {a' b' : Option (List Str)}, a = pure a' → b = pure b' → (if c then a else b) = pure (if c then a' else b') := fun {c} _ {a b a' b'} h1 h2 => by
    by_cases hc : c
    · rw [if_pos hc, if_pos hc, h1]
    · rw [if_neg hc, if_neg hc, h2]
  unfold swappedStores swE
  simp only [hb]
  have e1 : (!(ts.length == 2 || ts.length == 3) || vs.length != ts.length || ScopeKind.function != ScopeKind.function) = (!(ts.length == 2 || ts.length == 3) || vs.length != ts.length) := by simp
  rw [e1]
  refine key rfl (key rfl (key rfl ?_))
  unfold swOk at ho
  by_cases h4 : vs.all (foldedForSure 8) = true
  · rw [if_pos h4, if_pos h4]
  · have h5 : vs.all (constantsAlone 8) = false := by
      rw [Bool.or_eq_true] at ho
      rcases ho with z | z
      · exact absurd z h4
      · simpa using z
    rw [if_neg h4, if_neg h4, h5]
    rfl
theorem setAll_two {α : Type} (σ : List (Option α)) (i j : Nat) (x y : α) : setAll σ ([i, j].zip [x, y]) = (σ.set i (some x)).set j (some y) := rfl
def asgtR (is : List Nat) (run : Run D) : Run Fl := fun env h => (run env h).bindX env fun x h => lift ((bindT is x env).map .nx) h
/-- the end of a store of several names -/
theorem lift_okX {α : Type} {o : Option α} {w : Wd} {n : Nat} {h : AH} {E : XK} {P : Wd → AH → Hp → α → Prop} (q : Post g w n (lift o h) E P) : ∃ a, o = some a ∧ Post g w n (.ok a h) E P := lift_ok' q
theorem asgt_read {is : List Nat} {D : Ends} {run : Run Rk.D} (q : tS g W (asgtR is run) D σ H) : tAsg (tE g (xw W) run) (tG g is) D σ H := by
  obtain ⟨w, env, h, rr, re, q⟩ := q
  refine bX.step q rr re fun w1 h1 H1 x v ext rr1 re1 rv q1 => ?_
  obtain ⟨f, hf, q1⟩ := lift_ok' q1
  obtain ⟨e, he, rfl⟩ := Option.map_eq_some_iff.mp hf
  exact ⟨w1, env, h1, x, e, fun _ => False, rr1, re1.u, fun i z => z.elim, rv, he, fun σ' re' _ => q1.now rr1 σ' re'⟩
theorem sv_asgt (G : GX g c k X) (hc : X.calm = true) {es : List Expr} {is : List Nat} {kk : Nat} {p1 : Pos} (t : TN X es is) (h2 : 2 ≤ is.length) (he : EV X g (xw W) e run) (hn : ncp e = true) (ht : isT e = false) :
    SV X g W (.Assign [.Tuple es kk p1] e pos) (asgtR is run) := by
  refine (ps_asg he.pe (gv_tup G hc t h2) (ncp_sole hn _ _ _) ?_ rfl).imp fun D σ H q => asgt_read q
  cases e <;> first
    | rfl
    | cases ht
/-- a tuple of constants -/
theorem sv_asgtC (G : GX g c k X) (hc : X.calm = true) (hk : X.env.scope.kind = .function) {es vs : List Expr} {is : List Nat} {k1 k2 : Nat} {p1 p2 : Pos} (t : TN X es is) (h2 : 2 ≤ is.length) (he : EV X g (xw W) (.Tuple vs k2 p2) run) (ho : swOk vs = true) (hw : swE X.env.scope.names es vs = none) :
    SV X g W (.Assign [.Tuple es k1 p1] (.Tuple vs k2 p2) pos) (asgtR is run) :=
  (ps_asg he.pe (gv_tup G hc t h2) rfl (by rw [swE_ok hk ho, hw]) rfl).imp fun D σ H q => asgt_read q
def tupR (rs : Run (List D)) : Run D := fun env h => (rs env h).bind fun l h => if l.length ≤ line then .ok (.tup l) h else .stuck
theorem par_read {rs : Run (List Rk.D)} {is : List Nat} {D : Ends} (h2 : 2 ≤ is.length) (q : tS g W (asgtR is (tupR rs)) D σ H) : tEs g (xw W) rs σ H (fun vs H1 => vs.length = is.length ∧ D.nx (setAll σ (is.zip vs)) H1) := by
  obtain ⟨w, env, h, rr, re, q⟩ := q
  have e : asgtR is (tupR rs) env h = (rs env h).bindX env fun l h => if l.length ≤ line then lift ((bindT is (.tup l) env).map .nx) h else .stuck := by
    unfold asgtR tupR
    cases hr : rs env h with
    | ok l h1 =>
      rw [bind_ok, bindX_ok]
      by_cases hl : l.length ≤ line
      · rw [if_pos hl, if_pos hl]; rfl
      · rw [if_neg hl, if_neg hl]; rfl
    | _ => rfl
  rw [e] at q
  refine bXA.step q rr re fun w1 h1 H1 l vs ext rr1 re1 rvs q1 => ?_
  obtain ⟨_, q1⟩ := if_ok q1
  obtain ⟨f, hf, q1⟩ := lift_ok' q1
  obtain ⟨e, he, rfl⟩ := Option.map_eq_some_iff.mp hf
  unfold bindT at he
  split at he
  · simp at h2
  · obtain ⟨hl, he⟩ := opt_if he
    subst he
    refine ⟨by rw [rvs.length, hl], q1.now rr1 _ ?_⟩
    rw [setAllE_eq]
    have z : REu g w1 h1.nx (fun _ => False) env σ := re1.u
    exact (z.setAll rvs hl.symm).re fun j ⟨z, n⟩ => z
theorem nodup2 {i j : Nat} (h : [i, j].Nodup) : i ≠ j := by simp at h; exact h
theorem nodup3 {i j l : Nat} (h : [i, j, l].Nodup) : i ≠ j ∧ i ≠ l ∧ j ≠ l := by simp at h; exact ⟨h.1.1, h.1.2, h.2⟩
/-- a, b = x, y -/
theorem sv_par (G : GX g c k X) (hc : X.calm = true) (hk : X.env.scope.kind = .function) {es vs : List Expr} {is : List Nat} {k1 k2 : Nat} {p1 p2 : Pos} {rs : Run (List D)} (t : TN X es is) (hd : is.Nodup) (ha : PA X vs (tEs g (xw W) rs)) (ho : swOk vs = true) {nm : List Str} (hw : swE X.env.scope.names es vs = some nm)
    (hloc : ∀ e ∈ es, ∀ x p, e = .Name x p → X.env.scope.names.lookup x = some .local) (hnm : ∀ l, TN X es l → nm = es.filterMap fun | .Name x _ => some x | _ => none) (hl : es.length = vs.length) (h23 : es.length = 2 ∨ es.length = 3) :
    SV X g W (.Assign [.Tuple es k1 p1] (.Tuple vs k2 p2) pos) (asgtR is (tupR rs)) := by
  have hw2 := (swE_ok (k1 := k1) (k2 := k2) (p1 := p1) (p2 := p2) hk ho).trans (by rw [hw])
  have hnm := hnm _ t
  rcases h23 with h2 | h3
  · cases t with
    | nil => cases h2
    | cons hi hx hf t =>
      cases t with
      | nil => cases h2
      | cons hj hy hg t =>
        cases t with
        | cons _ _ _ _ => simp at h2
        | nil =>
          obtain ⟨v1, v2, rfl⟩ : ∃ a b, vs = [a, b] := by
            match vs, hl with
            | [a, b], _ => exact ⟨a, b, rfl⟩
          have hnm : nm = [_, _] := hnm
          subst hnm
          refine (ps_par hc G.nd hi hj (nodup2 hd) (hloc _ List.mem_cons_self _ _ rfl) (hloc _ (List.mem_cons_of_mem _ List.mem_cons_self) _ _ rfl) ha hw2 rfl).imp fun D σ H q => ?_
          have q := par_read (by simp) q
          obtain ⟨w, env, h, rr, re, q⟩ := q
          refine ⟨w, env, h, rr, re, q.mono fun w1 h1 H1 l ext rr1 q1 xs rv => ?_⟩
          obtain ⟨hl2, q1⟩ := q1 xs rv
          match xs, hl2 with
          | [a, b], _ => exact ⟨a, b, rfl, q1⟩
  · cases t with
    | nil => cases h3
    | cons hi hx hf t =>
      cases t with
      | nil => cases h3
      | cons hj hy hg t =>
        cases t with
        | nil => cases h3
        | cons hm hz hh t =>
          cases t with
          | cons _ _ _ _ => simp at h3
          | nil =>
            obtain ⟨v1, v2, v3, rfl⟩ : ∃ a b c, vs = [a, b, c] := by
              match vs, hl with
              | [a, b, c], _ => exact ⟨a, b, c, rfl⟩
            have hnm : nm = [_, _, _] := hnm
            subst hnm
            obtain ⟨n1, n2, n3⟩ := nodup3 hd
            refine (ps_par3 hc G.nd hi hj hm n1 n2 n3 (hloc _ List.mem_cons_self _ _ rfl) (hloc _ (List.mem_cons_of_mem _ List.mem_cons_self) _ _ rfl) (hloc _ (List.mem_cons_of_mem _ (List.mem_cons_of_mem _ List.mem_cons_self)) _ _ rfl) ha hw2 rfl).imp fun D σ H q => ?_
            have q := par_read (by simp) q
            obtain ⟨w, env, h, rr, re, q⟩ := q
            refine ⟨w, env, h, rr, re, q.mono fun w1 h1 H1 l ext rr1 q1 xs rv => ?_⟩
            obtain ⟨hl2, q1⟩ := q1 xs rv
            match xs, hl2 with
            | [a, b, c], _ => exact ⟨a, b, c, rfl, q1⟩
/-! ### return, if, for, while -/
theorem sv_ret (he : EV X g (xw W) e run) : SV X g W (.Return (some e) pos) (fun env h => (run env h).bindX env fun x h => .ok (.rt x) h) :=
  (ps_ret he.pe).imp fun D σ H ⟨w, env, h, rr, re, q⟩ => bX.step q rr re fun w1 h1 H1 x v ext rr1 re1 rv q1 => q1.now rr1 v rv
theorem sv_retn : SV X g W (.Return none pos) (fun env h => .ok (.rt .non) h) := ps_retN.imp fun D σ H ⟨w, env, h, rr, re, q⟩ => q.now rr _ (rv_non.mpr rfl)
theorem sv_if {rs rt : Run Fl} {p q : List Stmt} (he : EV X g (xw W) e run) (hp : SVs X g W p rs) (hq : SVs X g W q rt) : SV X g W (.If e p q pos) (fun env h => (runT run env h).bindX env fun k h => if k then rs env h else rt env h) :=
  (ps_if he.pt hp hq).imp fun D σ H ⟨w, env, h, rr, re, q⟩ => bXT.step q rr re fun w1 h1 H1 b ext rr1 re1 q1 => by
    cases b with
    | true => exact iteT ⟨w1, env, h1, rr1, re1, q1⟩
    | false => exact iteF ⟨w1, env, h1, rr1, re1, q1⟩
theorem sv_pass : SV X g W (.Pass pos) (fun env h => .ok (.nx env) h) := ps_pass.imp fun D σ H ⟨w, env, h, rr, re, q⟩ => q.now rr σ re
theorem sv_never {st : Stmt} : SV X g W st (fun _ _ => .stuck) := ps_never.imp fun D σ H ⟨w, env, h, rr, re, q⟩ => q.elim
theorem sv_brk : SV X g W (.Break pos) (fun env h => .ok (.bk env) h) := ps_break.imp fun D σ H ⟨w, env, h, rr, re, q⟩ => q.now rr σ re
theorem sv_cnt : SV X g W (.Continue pos) (fun env h => .ok (.ct env) h) := ps_continue.imp fun D σ H ⟨w, env, h, rr, re, q⟩ => q.now rr σ re
def loopR (f : Fl → AH → Res Fl) (r : Fl) (h : AH) : Res Fl := f r h
def bodR (tgs : List Nat) (rb : Run Fl) : D → Env → AH → Res Fl := fun x env h => match bindT tgs x env with
      | some e => rb e h
      | none => .stuck
def forR' (rI : Run Src) (tgs : List Nat) (rb : Run Fl) : Run Fl := fun env h => (rI env h).bindX env fun s h => forI s (bodR tgs rb) (s.len h + 1) 0 env h
theorem sv_for {rI : Run Src} {tgs : List Nat} {rb : Run Fl} {body : List Stmt} (hc : X.calm = true) (hp : PassesOwn (model X.prog X.w) X.A X.env X.xe) (hi : PI X tg iter (tI g (xw W) rI)) (hg : PG X tg (tG g tgs)) (hb : SVs X g W body rb) (hs : nset iter = true) :
    SV X g W (.For tg iter body [] pos) (forR' rI tgs rb) := by
  refine (ps_for hp hc hi hg hb (nset_ok hs _)).imp fun D σ H ⟨w, env, h, rr, re, q⟩ => ?_
  refine ⟨w, env, h, rr, re, (bX.to q re).mono fun w1 h1 H1 src ext rr1 q1 J sv => ?_⟩
  refine ⟨fun i m σ H => ∃ w env h, Ext w1 h1.nx w h.nx ∧ RR g w h H ∧ RE g w h.nx env σ ∧ Post g w h.nx (forI src (bodR tgs rb) (m + 1) i env h) NoX (PF g W D), ⟨_, w1, env, h1, Ext.refl _ _, rr1, re.ext ext, q1⟩, ?_⟩
  rintro i m σ H ⟨w, env, h, ext, rr, re, q⟩
  unfold forI at q
  cases hg : src.get i h with
  | none => rw [hg] at q; exact q.elim
  | some o =>
    rw [hg] at q
    cases o with
    | none => exact .inl ⟨sv.stop w h H i ext rr hg, q.now rr σ re⟩
    | some x =>
      obtain ⟨go, yl⟩ := sv.it w h H i x ext rr hg
      refine .inr ⟨go, fun σ' H' => ∃ m', m' < m ∧ ∃ w env h, Ext w1 h1.nx w h.nx ∧ RR g w h H' ∧ RE g w h.nx env σ' ∧ Post g w h.nx (forI src (bodR tgs rb) (m' + 1) (i + 1) env h) NoX (PF g W D), fun _ _ z => z, fun x' H' y => ?_⟩
      obtain ⟨w4, ext4, rr4, rv4⟩ := yl x' H' y
      dsimp only at q
      cases hb : bindT tgs x env with
      | none =>
        have e0 : bodR tgs rb x env h = .stuck := by unfold bodR; rw [hb]
        rw [e0] at q
        exact q.elim
      | some env' =>
        have e0 : bodR tgs rb x env h = rb env' h := by unfold bodR; rw [hb]
        rw [e0] at q
        have re4 := re.ext ext4
        refine ⟨w4, env, h, x, env', fun _ => False, rr4, re4.u, fun i z => z.elim, rv4, hb, fun σ2 re2 _ => ?_⟩
        refine ⟨w4, env', h, rr4, re2, (q.bind.from ext4).mono fun w5 h5 H5 f ext5 rr5 q5 => ?_⟩
        have next : ∀ (e : Env) (σ5 : L2.St), RE g w5 h5.nx e σ5 → Post g w5 h5.nx (forI src (bodR tgs rb) m (i + 1) e h5) NoX (PF g W D) → ∃ m', m' < m ∧ ∃ w env h, Ext w1 h1.nx w h.nx ∧ RR g w h H5 ∧ RE g w h.nx env σ5 ∧ Post g w h.nx (forI src (bodR tgs rb) (m' + 1) (i + 1) env h) NoX (PF g W D) := fun e σ5 re5 q5 => by
          cases m with
          | zero => exact q5.elim
          | succ m' => exact ⟨m', Nat.lt_succ_self _, w5, e, h5, (ext.trans ext4).trans ext5, rr5, re5, q5⟩
        cases f with
        | nx e => exact fun σ5 re5 => next e σ5 re5 q5
        | ct e => exact fun σ5 re5 => next e σ5 re5 q5
        | bk e => exact fun σ5 re5 => q5.now rr5 σ5 re5
        | rt d => exact q5.now rr5
        | xc x e => exact q5.now rr5
theorem sv_whl {rb : Run Fl} {body : List Stmt} (hp : PassesOwn (model X.prog X.w) X.A X.env X.xe) (he : EV X g (xw W) e run) (hb : SVs X g W body rb) :
    SV X g W (.While e body [] pos) (fun env h => whileN (runT run) rb 4096 env h) := by
  refine (ps_while hp he.pt hb).imp fun D σ H ⟨w, env, h, rr, re, q⟩ => ?_
  refine ⟨fun m σ H => ∃ w env h, RR g w h H ∧ RE g w h.nx env σ ∧ Post g w h.nx (whileN (runT run) rb m env h) NoX (PF g W D), ⟨_, w, env, h, rr, re, q⟩, ?_⟩
  rintro m σ H ⟨w, env, h, rr, re, q⟩
  cases m with
  | zero => exact q.elim
  | succ m =>
    unfold whileN at q
    refine bXT.step q rr re fun w1 h1 H1 b ext rr1 re1 q1 => ?_
    cases b with
    | false => exact iteF (q1.now rr1 σ re1)
    | true =>
      refine iteT ⟨fun σ' H' => ∃ w env h, RR g w h H' ∧ RE g w h.nx env σ' ∧ Post g w h.nx (whileN (runT run) rb m env h) NoX (PF g W D), fun σ' H' z => ⟨m, Nat.lt_succ_self _, z⟩, ?_⟩
      have q1 : Post g w1 h1.nx ((rb env h1).bind fun r h'' => match r with
        | .nx e => whileN (runT run) rb m e h''
        | .ct e => whileN (runT run) rb m e h''
        | .bk e => .ok (.nx e) h''
        | r => .ok r h'') NoX (PF g W D) := q1
      refine ⟨w1, env, h1, rr1, re1, q1.bind.mono fun w5 h5 H5 f ext5 rr5 q5 => ?_⟩
      cases f with
      | nx e => exact fun σ5 re5 => ⟨w5, e, h5, rr5, re5, q5⟩
      | ct e => exact fun σ5 re5 => ⟨w5, e, h5, rr5, re5, q5⟩
      | bk e => exact fun σ5 re5 => q5.now rr5 σ5 re5
      | rt d => exact q5.now rr5
      | xc x e => exact q5.now rr5
/-! ### o[i] = e -/
def setiR (ro ri re : Run D) : Run Fl := fun env h => (re env h).bindX env fun x h => (ro env h).bindX env fun y h => (ri env h).bindX env fun z h => match y, z with
    | .ref n, .int k => match h.cell n with
      | .lst l => match L2.ixN l.length k with
        | some j => .ok (.nx env) (h.put n (.lst (l.set j x)))
        | none => .stuck
      | _ => .stuck
    | _, _ => .stuck
theorem sv_seti {o i : Expr} {ro ri re : Run D} {p1 : Pos} (he : EV X g (xw W) e re) (ho : EV X g (xw W) o ro) (hi : EV X g (xw W) i ri) (hn : ncp e = true) (hp : nsl i = true) :
    SV X g W (.Assign [.Subscript o i p1] e pos) (setiR ro ri re) := by
  have store : PG X (.Subscript o i p1) (gSub (tE g (xw W) ro) (tE g (xw W) ri) rSetL) := by
    refine pg_sub ho.pe hi.pe set_list ?_
    intro v
    cases i <;> first
      | rfl
      | cases hp
  refine (ps_asg he.pe store (ncp_sole hn _ _ _) rfl rfl).imp fun D σ H ⟨w, env, h, rr, renv, q⟩ => ?_
  refine bX.step q rr renv fun w1 h1 H1 x v ext rr1 re1 rv q1 => ?_
  refine bX.step q1 rr1 re1 fun w2 h2 H2 y v2 ext2 rr2 re2 rv2 q2 => ?_
  refine bX.step q2 rr2 re2 fun w3 h3 H3 z v3 ext3 rr3 re3 rv3 q3 => ?_
  have rv := (rv.ext ext2 _ _).ext ext3 _ _
  have rv2 := rv2.ext ext3 _ _
  cases y with
  | ref n =>
    cases z with
    | int kk =>
      obtain ⟨rfl, hm⟩ := rv_ref.mp rv2
      rw [rv_int.mp rv3]
      dsimp only at q3
      cases ec : h3.cell n with
      | lst l =>
        rw [ec] at q3
        dsimp only at q3
        obtain ⟨xs, q4, r4⟩ := cell_lst rr3 hm ec
        cases hj : ixN l.length kk with
        | none => rw [hj] at q3; exact q3.elim
        | some j =>
          rw [hj] at q3
          refine ⟨_, xs, kk, j, rfl, rfl, q4, by rw [r4.length]; exact hj, ?_⟩
          exact q3 w3 _ (Ext.refl _ _) (rr3.store hm ec (r4.set j rv)) σ re3
      | _ => rw [ec] at q3; exact q3.elim
    | _ => exact q3.elim
  | _ => exact q3.elim
/-- name op= e, ints -/
theorem sv_aug (G : GX g c k X) {i : Nat} {x : Str} {pos' : Pos} {o : Operator} (ho : o = .Add ∨ o = .Sub) (hi : X.N[i]? = some x) (hx : Loc X.env.scope x) (hf : X.fn x = true ∨ X.env.scope.names.lookup x = some .local) (he : EV X g (xw W) e run) :
    SV X g W (.AugAssign (.Name x pos') o e pos) (fun env h => (ldV env i h).bindX env fun x h => (run env h).bindX env fun y h => (match x, y with
      | .int _, .int _ => binop o x y h
      | _, _ => .stuck).bindX env fun z h => .ok (.nx (env.set i (.v z))) h) := by
  have main : ∀ (ti : TIp) (F : Int → Int → Int), PIp X o ti → (∀ a b, binop o (.int a) (.int b) = fun h => .ok (.int (F a b)) h) → (∀ (a b : Int) (H : Hp) (Q : VK), Q (.int (F a b)) H → ti (.int a) (.int b) H Q) → SV X g W (.AugAssign (.Name x pos') o e pos) (fun env h => (ldV env i h).bindX env fun x h => (run env h).bindX env fun y h => (match x, y with
      | .int _, .int _ => binop o x y h
      | _, _ => .stuck).bindX env fun z h => .ok (.nx (env.set i (.v z))) h) := fun ti F hti hbin hq => by
    refine (ps_aug G.nd hi hx he.pe hti hf).imp fun D σ H ⟨w, env, h, rr, re, q⟩ => ?_
    unfold ldV at q
    dsimp only at q
    split at q
    · rename_i dd hd
      obtain ⟨v, h1, h2⟩ := re.at_ _ _ hd
      refine ⟨v, h1, bX.step q rr re fun w1 h1 H1 y v2 ext rr1 re1 rv q1 => ?_⟩
      have h2 := h2.ext ext _ _
      cases dd with
      | int a =>
        cases y with
        | int b =>
          rw [rv_int.mp h2, rv_int.mp rv]
          rw [hbin] at q1
          exact hq _ _ _ _ (q1.now rr1 _ (re1.set i (rv_int.mpr rfl)))
        | _ => exact q1.elim
      | _ => exact q1.elim
    · exact q.elim
  rcases ho with rfl | rfl
  · exact main _ (fun a b => a + b) ip_add (fun _ _ => rfl) fun a b H Q h => ⟨a, b, rfl, rfl, h⟩
  · exact main _ (fun a b => a - b) ip_sub (fun _ _ => rfl) fun a b H Q h => ⟨a, b, rfl, rfl, h⟩
end
end Rk

set_option maxHeartbeats 1000000
/-! Rk.Ca: attributes and methods of instances. -/
namespace Rk
open PySem PySem.Spec PyProof.Rows L2
section
variable {X : Cx} {g : Gi} {z c : Bool} {k : Nat} {E : SX'} {e a b d : Expr} {pos p1 p2 : Pos} {es : List Expr} {ra : Run D} {rs rk : Run (List D)}
/-- written arguments without stars reach the callee -/
theorem cw_plain (G : GX g c k X) {fv : Addr} {first : List Value} {kws : List Keyword} {ks : List Str} {pins : List (Addr × Obj)} {σ : L2.St} {H : Hp} {s : Shared} {Q : VK} {w : Wd} {env : Env} {h : AH} {f : List D → List D → AH → Res D}
    (hkp : PySem.W.keepIn X.K (.ref fv) = true) (hn : nsts es = true) (hk : kwn kws = some ks) (ha : PA X es (tEs g E rs)) (hkw : PK X kws (tEs g E rk)) (h0 : es = [] → ∀ env h, rs env h = .ok [] h) (hl1 : ∀ env h l h', rs env h = .ok l h' → l.length = es.length) (hl2 : ∀ env h l h', rk env h = .ok l h' → l.length = ks.length)
    (I : Inv X pins σ H s) (rr : RR g w h H) (re : RE g w h.nx env σ) (q : Post g w h.nx ((rs env h).bind fun l h => (rk env h).bind fun m h => f l m h) (E σ) (PV g Q))
    (go : ∀ (us ws : List Value) (xs ys : List V) (s2 : Shared) (H2 : Hp) (w2 : Wd) (h2 : AH) (l m : List D), Inv X pins σ H2 s2 → Ext w h.nx w2 h2.nx → RR g w2 h2 H2 → RVs g w2 h2.nx l xs → RVs g w2 h2.nx m ys → Vals xs us → Vals ys ws → us.length = es.length → ws.length = ks.length →
      Post g w2 h2.nx (f l m h2) (E σ) (PV g Q) → wpAny (model X.prog X.w) X.A (PySem.call (.ref fv) (first ++ us) (ks.zip ws)) (EP X pins σ Q) X.xe s2) :
    wpAny (model X.prog X.w) X.A (callWith pos (.ref fv) first (backTo pos (starEach es X.env)) (backToKw pos (keywordEach kws X.env))) (EP X pins σ Q) X.xe s := by
  obtain ⟨k1, k2, k3⟩ := kwn_ok (pos := pos) (env := X.env) hk
  have hpl : ((backTo pos (starEach es X.env)).any (·.1) || (backToKw pos (keywordEach kws X.env)).any (·.1.isNone)) = false := by rw [nsts_any hn, k3]; rfl
  have tail : ∀ (us : List Value) (s1 : Shared) (xs : List V) (H1 : Hp), Inv X pins σ H1 s1 → Vals xs us → us.length = es.length → (∃ w1 h1 l, Ext w h.nx w1 h1.nx ∧ RR g w1 h1 H1 ∧ RE g w1 h1.nx env σ ∧ RVs g w1 h1.nx l xs ∧ Post g w1 h1.nx ((rk env h1).bind fun m h => f l m h) (E σ) (PV g Q)) →
      wpAny (model X.prog X.w) X.A (evalAll ((backToKw pos (keywordEach kws X.env)).map (·.2))) (fun ws s₂ => X.K.In s₂.heap ∧ wpAny (model X.prog X.w) X.A (PySem.call (.ref fv) (first ++ us) (((backToKw pos (keywordEach kws X.env)).filterMap (·.1)).zip ws)) (EP X pins σ Q) X.xe s₂) X.xe s1 := by
    rintro us s1 xs H1 I1 v1 hlu ⟨w1, h1, l, x1, rr1, re1, rvs, q1⟩
    cases hrk : rk env h1 with
    | stuck => rw [hrk] at q1; exact q1.elim
    | _ =>
      refine thn (hkw.run pos pins s1 σ H1 (fun ys H2 => ys.length = ks.length ∧ ∃ w2 h2 m, Ext w h.nx w2 h2.nx ∧ RR g w2 h2 H2 ∧ RVs g w2 h2.nx l xs ∧ RVs g w2 h2.nx m ys ∧ Post g w2 h2.nx (f l m h2) (E σ) (PV g Q)) I1 ?_) fun ws s2 ⟨ys, H2, I2, v2, e2, w2, h2, m, x2, rr2, r1, r2, q2⟩ => ⟨I2.kIn, ?_⟩
      · refine ⟨w1, env, h1, rr1, re1, ?_⟩
        have q1 := q1.bind
        cases hrk : rk env h1 with
        | ok m h2 =>
          rw [hrk] at q1
          exact fun w2 H2 ext rr2 ys rv => ⟨by rw [rv.length]; exact hl2 _ _ _ _ hrk, w2, h2, m, x1.trans ext, rr2, rvs.ext ext, rv, q1 w2 H2 ext rr2⟩
        | exc x h2 => rw [hrk] at q1; exact q1
        | stuck => rw [hrk] at q1; exact q1
      · rw [k2]
        exact go us ws xs ys s2 H2 w2 h2 l m I2 x2 rr2 r1 r2 v1 v2 hlu (by rw [← v2.length]; exact e2) q2
  cases es with
  | nil =>
    refine PySem.W.callWith_KW0 (h₀ := X.base) I.ok.mod.kin hkp k1 ?_ hpl
    rw [h0 rfl, bind_ok] at q
    have t := tail [] s [] H I .nil rfl ⟨w, h, [], Ext.refl _ _, rr, re, RVs.nil, q⟩
    exact t
  | cons e es =>
    have hn1 : nst e = true := by unfold nsts at hn; rw [List.all_cons, Bool.and_eq_true] at hn; exact hn.1
    refine PySem.W.callWith_KW (h₀ := X.base) I.ok.mod.kin hkp k1 (thn (ha.run pos pins s σ H (fun xs H1 => xs.length = (e :: es).length ∧ ∃ w1 h1 l, Ext w h.nx w1 h1.nx ∧ RR g w1 h1 H1 ∧ RE g w1 h1.nx env σ ∧ RVs g w1 h1.nx l xs ∧ Post g w1 h1.nx ((rk env h1).bind fun m h => f l m h) (E σ) (PV g Q)) I ⟨w, env, h, rr, re, ?_⟩) fun us s1 ⟨xs, H1, I1, v1, e1, q1⟩ => tail us s1 xs H1 I1 v1 (by rw [← v1.length]; exact e1) q1) hpl (nst_ok hn1 _ _)
    have q0 := q.bind
    cases hr : rs env h with
    | ok l h1 =>
      rw [hr] at q0
      exact fun w1 H1 ext rr1 xs rv => ⟨by rw [rv.length]; exact hl1 _ _ _ _ hr, w1, h1, l, ext, rr1, re.ext ext, rv, q0 w1 H1 ext rr1⟩
    | exc x h1 => rw [hr] at q0; exact q0
    | stuck => rw [hr] at q0; exact q0
theorem rv_ins {w : Wd} {n j : Nat} {fs : List (Nat × D)} {x : V} (h : RV g w n (.ins j fs) x) : ∃ a dx gs, x = .ref a ∧ w.F a = some (.ins (g.cb j) dx gs) ∧ w.F dx = some (.own a) ∧ RVf g w n fs gs := by unfold RV at h; exact h.2
theorem rv_insm {w : Wd} {n j : Nat} {fs : List (Nat × D)} {x : V} (hc : j < g.nc) (h : ∃ a dx gs, x = .ref a ∧ w.F a = some (.ins (g.cb j) dx gs) ∧ w.F dx = some (.own a) ∧ RVf g w n fs gs) : RV g w n (.ins j fs) x := by unfold RV; exact ⟨hc, h⟩
theorem rv_insc {w : Wd} {n j : Nat} {fs : List (Nat × D)} {x : V} (h : RV g w n (.ins j fs) x) : j < g.nc := by unfold RV at h; exact h.1
/-- o.m(..): from the object and its method's look-up -/
theorem wpAny_Call_meth {M : Model} {A : Around} {EE : Value → Shared → Prop} {s : Shared} {env : PySem.Env} {o : Expr} {name : Str} {apos : Pos} {args : List Expr} {kws : List Keyword} {Q : Value → Shared → Prop}
    (hbase : attributeBase o name env (eval o env) = eval o env) (hform : methodCallForm (args.length + kws.length) (backTo pos (starEach args env)) (backToKw pos (keywordEach kws env)) = true) (hline : (apos.endLine == pos.line) = true)
    (h : wpAny M A (eval o env) (fun ov s₁ => ∀ pl, wpAny M A (getMethod ov name pl) (fun fx s₂ => wpAny M A (callWith pos fx.1 fx.2 (backTo pos (starEach args env)) (backToKw pos (keywordEach kws env))) Q EE s₂) EE s₁) EE s) :
    wpAny M A (eval (.Call (.Attribute o name apos) args kws pos) env) Q EE s := by
  rw [arm_eval_Call, hbase]
  refine wpAny_bind (wpAny_mono h (fun ov s₁ h₁ => ?_) fun _ _ e => e)
  refine wpAny_bind (wpAny_standAt ?_)
  have hpos : methodCallPos true o env apos pos = pure pos := by unfold methodCallPos; simp [hline]
  unfold methodCall
  rw [hform]
  refine wpAny_bind (wpAny_holding (wpAny_mono (h₁ _) (fun fx s₂ h₂ => ?_) fun _ _ x => x))
  exact wpAny_bind (wpAny_of_eq hpos h₂)
end
end Rk

set_option maxHeartbeats 1000000
/-! Rk.Cb: attributes read, methods called, instances made. -/
namespace Rk
open PySem PySem.Spec PyProof.Rows L2
/-- a def run one level below -/
def spP (g : Gi) (call : Cl) (f : Nat) : Sp := fun vs H Q E => ∃ w ds h, RR g w h H ∧ RVs g w h.nx ds vs ∧ Post g w h.nx (call.pr f ds h) E (PV g Q)
def LowF (X : Cx) (g : Gi) (call : Cl) (k f : Nat) : Prop := (∀ ds h, call.pr f ds h = .stuck) ∨ ∃ n, k = n + 1 ∧ FnG false X.prog X.w X.K X.mg X.base n true (g.fa f) (g.fd f) (g.fps f) (spP g call f)
/-- an __init__'s promise: the object at x is the new one -/
def spI (g : Gi) (call : Cl) (kk : Nat) : Sp := fun vs H Q E => ∃ w ds h x dx us, vs = .ref x :: us ∧ w.F x = none ∧ w.F dx = none ∧ w.Z x = none ∧ w.Z dx = none ∧ dx ≠ x ∧
  RR g ⟨w.m, w.F, upd (upd w.Z dx (.own x)) x (.ins (g.cb kk) dx [])⟩ h H ∧ RVs g w h.nx ds us ∧ Post g w h.nx (call.make kk ds h) E (PV g fun v H' => v = .ref x → Q .non H')
section
variable {g : Gi} {w : Wd} {n : Nat}
theorem RVf.nolook (ok : NmOk g) {i : Nat} (hi : i < g.nn) : ∀ {fs : List (Nat × D)} {gs : List (Str × V)}, RVf g w n fs gs → lkN i fs = none → gs.lookup (g.an i) = none
  | [], gs, q, h => by rw [rvf_nil.mp q]; rfl
  | (j, e) :: r, gs, q, h => by
    obtain ⟨x, t, rfl, hj, rx, rt⟩ := rvf_cons.mp q
    unfold lkN at h
    rw [List.lookup_cons]
    by_cases e1 : j = i
    · rw [if_pos e1] at h; cases h
    · rw [if_neg e1] at h
      have : (g.an i == g.an j) = false := by
        rw [beq_eq_false_iff_ne]
        exact fun z => e1 (ok j i hj hi z.symm)
      rw [this]
      exact RVf.nolook ok hi rt h
end
section
variable {X : Cx} {g : Gi} {z c : Bool} {k : Nat} {E : SX'} {e a b d : Expr} {pos p1 p2 : Pos} {es : List Expr} {ra : Run D} {rs rk : Run (List D)}
theorem roomG_in1 {n : Nat} {A : Around} (r : RoomG (n + 1) A) : RoomG n A.in1 :=
  ⟨by have := r.dp; show A.depth + 3 * n + 5 < _; omega, by have := r.un; show A.units + 1 + 16 * n + 200 < _; omega, by first | exact r.gd | (have := r.gd; simpa [Around.in1] using this)⟩
theorem roomG_make {n : Nat} {A : Around} (r : RoomG (n + 1) A) (C : Addr) (us : List Value) (kw : List (Str × Value)) : RoomG n (A.under (.builtin "type.__call__" ⟨.ref C :: us, kw⟩)) :=
  ⟨by have := r.dp; rw [make_depth]; omega, by have := r.un; rw [make_units]; omega, by first | exact r.gd | (have := r.gd; simpa [Around.under, Code.weight, Code.isCreation, Code.isGuard, Code.isCaller, Code.frames, Code.isFrame, guardIds] using this)⟩
/-- a property's getter runs -/
theorem getprop_G {C pa g1 a dx : Addr} {fs : List (Str × V)} {f : Str} {fd : FuncData} {ps : List Str} {sp : Sp} {n : Nat} {pins : List (Addr × Obj)} {σ : L2.St} {H : Hp} {s : Shared} {Q : VK} {b : Bool} {E' : Value → Shared → Prop} (I : Inv X pins σ H s) (ea : H a = some (.ins C dx fs)) (c : Cls X.K C) (hp : PropOf X.K C f pa g1)
    (F : FnG false X.prog X.w X.K X.mg X.base n true g1 fd ps sp) (room : RoomG (n + 1) X.A) (calm : X.A.handled = none) (hl : ps.length = 1) (hb : ∀ (s : Shared) (u : Value), X.K.In s.heap → BindsTo s fd ⟨[u], []⟩ (ps.zip [u])) (h : sp [.ref a] H Q (fun _ _ _ => False)) :
    wpAny (model X.prog X.w) X.A (getAttr (.ref a) f b) (EP X pins σ Q) E' s := by
  obtain ⟨mA, O, _, _, _, _⟩ := ins_get I.hok ea
  obtain ⟨od, J, _⟩ := O.look
  obtain ⟨rest, hrec⟩ := hp.rec_
  have I1 := I.tok (s.toks + 1)
  have hc : (PySem.W.clsIn X.K C).isSome = true := by
    obtain ⟨cd, hc, _⟩ := PySem.W.any_some c.hd
    rw [hc]
    rfl
  refine PySem.W.get_bind I.kIn J (PySem.W.plainGet_of (c.get f)).1 (PySem.W.findObj_data hc hp.at_ hp.get hp.tak) (PySem.W.plainGet_of (c.get f)).2 (wpAny_call (PySem.W.prop_get (s := { s with toks := s.toks + 1 }) I.kIn hrec ?_))
  refine codeAny_mono (F.run X.A.in1 X.stack { s with toks := s.toks + 1 } H ⟨[.ref a], []⟩ [.ref a] [.ref a] Q (fun _ _ _ => False) (roomG_in1 room) (fun _ => calm) I1.env0.in1 (by rw [hl]; rfl) (hb _ _ I1.kIn) (.cons rfl .nil) h) fun r s' hq => ?_
  cases r with
  | error er =>
    obtain ⟨_, _, _, _, _, _, _, _, _, _, _, _, he⟩ := hq
    exact he.elim
  | ok fl =>
    cases fl with
    | ret u =>
      obtain ⟨v, H', I3, rv, q3⟩ := I1.after hq
      show wpAny _ _ (handedOut u) _ _ _
      rw [PySem.W.handedOut_of (handed_of rv)]
      exact wpAny_pure ⟨v, H', I3, rv, q3⟩
    | next => exact False.elim hq
    | brk => exact False.elim hq
    | cont => exact False.elim hq
theorem kb_one {f : Nat} (hb : KB g f 1 [] [0]) {s : Shared} {u : Value} (h : g.K.In s.heap) : BindsTo s (g.fd f) ⟨[u], []⟩ ((g.fps f).zip [u]) := by
  obtain ⟨ds, _, q⟩ := hb.bind
  exact q s [u] [] [u] h rfl rfl rfl
/-- what is known of an attribute of the classes -/
structure AtOk (X : Cx) (g : Gi) (gG : G) (call : Cl) (k i : Nat) : Prop where
  lt : i < g.nn
  cls : ∀ kk, (match gG.atr kk i with | .no => False | _ => True) → Cls X.K (g.cb kk)
  fld : ∀ kk, gG.atr kk i = .fld → NoAttr X.K (g.cb kk) (g.an i)
  con : ∀ kk d, gG.atr kk i = .con d → ∃ v u, Con X.K (g.cb kk) (g.an i) v u ∧ ∀ w n, RV g w n d v
  prp : ∀ kk p, gG.atr kk i = .prp p → (∃ pa, PropOf X.K (g.cb kk) (g.an i) pa (g.fa p)) ∧ KB g p 1 [] [0] ∧ (g.fps p).length = 1 ∧ LowF X g call k p
/-- o.f -/
theorem ev_fld {gG : G} {call' : Cl} (G : GX g true k X) (nmk : NmOk g) {i : Nat} (A : AtOk X g gG call' k i) (hsup : nsuper a = true) (ha : EV X g E a ra) :
    EV X g E (.Attribute a (g.an i) pos) (fun env h => (ra env h).bind fun x h => match x with
    | .ins kk fs => (match gG.atr kk i with
      | .fld => lift (lkN i fs) h
      | .con d => (match lkN i fs with
        | none => .ok d h
        | some _ => .stuck)
      | .prp p => noexc (call'.pr p [.ins kk fs] h)
      | .no => .stuck)
    | _ => .stuck) := by
  refine EV.of G (PE.mk fun pins s σ H Q I ⟨w, env, h, rr, re, q⟩ => ?_) fun _ => rfl
  refine attr_of (nsuper_ok hsup _ _) (thn (ha.pe.run pins s σ H (fun x H1 => ∃ w1 h1 dd, RR g w1 h1 H1 ∧ RV g w1 h1.nx dd x ∧ Post g w1 h1.nx (match dd with
    | .ins kk fs => (match gG.atr kk i with
      | .fld => lift (lkN i fs) h1
      | .con d => (match lkN i fs with
        | none => .ok d h1
        | some _ => .stuck)
      | .prp p => noexc (call'.pr p [.ins kk fs] h1)
      | .no => .stuck)
    | _ => .stuck) (E σ) (PV g Q)) I ?_) fun u s1 ⟨x, H1, I1, rx, w1, h1, dd, rr1, rv, q1⟩ => ?_)
  · exact tE.step q rr re rfl fun w1 h1 H1 x v ext rr1 re1 rv q1 => ⟨w1, h1, x, rr1, rv, q1⟩
  · cases dd with
    | ins kk fs =>
      obtain ⟨oa, dx, gs, rfl, f1, f2, f3⟩ := rv_ins rv
      obtain rfl : u = Value.ref oa := rx
      have ea := rr1.sub _ _ f1
      dsimp only at q1
      cases hat : gG.atr kk i with
      | no => rw [hat] at q1; exact q1.elim
      | fld =>
        rw [hat] at q1
        have cl := A.cls kk (by rw [hat]; trivial)
        obtain ⟨d0, hd, q2⟩ := lift_ok q1
        obtain ⟨v, hv, rv2⟩ := RVf.look nmk A.lt f3 hd
        exact getattr_ok I1 ea cl (A.fld kk hat) hv fun u' s2 I2 ru => ⟨v, H1, I2, ru, pv_now q2 rr1 rv2⟩
      | con d0 =>
        rw [hat] at q1
        have cl := A.cls kk (by rw [hat]; trivial)
        dsimp only at q1
        cases hl : lkN i fs with
        | some _ => rw [hl] at q1; exact q1.elim
        | none =>
          rw [hl] at q1
          obtain ⟨v, u0, cn, rv2⟩ := A.con kk d0 hat
          exact getcon_ok I1 ea cl cn (RVf.nolook nmk A.lt f3 hl) fun s2 I2 => ⟨v, H1, I2, cn.rel, pv_now q1 rr1 (rv2 _ _)⟩
      | prp p =>
        rw [hat] at q1
        have cl := A.cls kk (by rw [hat]; trivial)
        dsimp only at q1
        obtain ⟨⟨pa, hp⟩, hb, hl, hF⟩ := A.prp kk p hat
        rcases hF with hF | ⟨n, rfl, F⟩
        · rw [hF] at q1; exact q1.elim
        · exact getprop_G I1 ea cl hp F G.room (I1.ok.hd (G.calm rfl)) hl (fun s u hs => kb_one hb (G.K ▸ hs)) ⟨w1, [.ins kk fs], h1, rr1, RVs.mk rv RVs.nil, Post.noexc q1⟩
    | _ => exact q1.elim
/-- what is known of the methods of a name -/
structure MtOk (X : Cx) (g : Gi) (gG : G) (call : Cl) (c : Bool) (k m n : Nat) (mn : Str) (ks : List Str) (sel : List Nat) : Prop where
  no : ∀ i, i < g.nn → g.an i ≠ mn
  ok : ∀ kk f, gG.mtd kk m = some f → Cls X.K (g.cb kk) ∧ Meth X.K (g.cb kk) mn (g.fa f) ∧ FnG false X.prog X.w X.K X.mg X.base k c (g.fa f) (g.fd f) (g.fps f) (spF g call c f) ∧ KB g f (n + 1) ks sel ∧ (g.fps f).length = sel.length ∧ ∀ w n, RVs g w n (gG.dfl f) (g.fdv f)
/-- o.m(a, .., k = b, ..) -/
theorem ev_mth {gG : G} {call' : Cl} (G : GX g c k X) {m : Nat} {mn : Str} {ks : List Str} {sel : List Nat} {kws : List Keyword} {p3 : Pos} (M : MtOk X g gG call' c k m es.length mn ks sel) (tk : Takes X (fun cls d σ H => E σ cls d H)) (hsup : nsuper a = true) (hline : (p3.endLine == pos.line) = true)
    (hn : nsts es = true) (hk : kwn kws = some ks) (hfew : es.length + kws.length + 1 < 30) (ha : EV X g E a ra) (hb : PA X es (tEs g E rs)) (hkw : PK X kws (tEs g E rk)) (h0 : es = [] → ∀ env h, rs env h = .ok [] h) (hl1 : ∀ env h l h', rs env h = .ok l h' → l.length = es.length) (hl2 : ∀ env h l h', rk env h = .ok l h' → l.length = ks.length) :
    EV X g E (.Call (.Attribute a mn p3) es kws pos) (fun env h => (ra env h).bind fun x h => match x with
    | .ins kk fs => (match gG.mtd kk m with
      | some f => (rs env h).bind fun l h => (rk env h).bind fun r h => (match pick sel (.ins kk fs :: l ++ r ++ gG.dfl f) with
        | some vs => call'.f c f vs h
        | none => .stuck)
      | none => .stuck)
    | _ => .stuck) := by
  refine EV.of G (PE.mk fun pins s σ H Q I ⟨w, env, h, rr, re, q⟩ => ?_) fun _ => rfl
  obtain ⟨k1, k2, k3⟩ := kwn_ok (pos := pos) (env := X.env) hk
  have hform : methodCallForm (es.length + kws.length) (backTo pos (starEach es X.env)) (backToKw pos (keywordEach kws X.env)) = true := by
    show ((backTo pos (starEach es X.env)).all (fun x => !x.1) && (backToKw pos (keywordEach kws X.env)).all (fun x => x.1.isSome) && decide (es.length + kws.length + (if (backToKw pos (keywordEach kws X.env)).isEmpty then 0 else 1) < 30)) = true
    rw [nsts_all hn, k1, Bool.true_and, Bool.true_and]
    exact decide_eq_true (by split <;> omega)
  refine wpAny_Call_meth (nsuper_ok hsup _ _) hform hline (thn (ha.pe.run pins s σ H (fun x H1 => ∃ w1 h1 dd, RR g w1 h1 H1 ∧ RE g w1 h1.nx env σ ∧ RV g w1 h1.nx dd x ∧ Post g w1 h1.nx (match dd with
    | .ins kk fs => (match gG.mtd kk m with
      | some f => (rs env h1).bind fun l h => (rk env h).bind fun r h => (match pick sel (.ins kk fs :: l ++ r ++ gG.dfl f) with
        | some vs => call'.f c f vs h
        | none => .stuck)
      | none => .stuck)
    | _ => .stuck) (E σ) (PV g Q)) I ?_) fun u s1 ⟨x, H1, I1, rx, w1, h1, dd, rr1, re1, rv, q1⟩ pl => ?_)
  · exact tE.step q rr re rfl fun w1 h1 H1 x v ext rr1 re1 rv q1 => ⟨w1, h1, x, rr1, re1, rv, q1⟩
  · cases dd with
    | ins kk fs =>
      obtain ⟨oa, dx, gs, rfl, f1, f2, f3⟩ := rv_ins rv
      obtain rfl : u = Value.ref oa := rx
      have ea := rr1.sub _ _ f1
      dsimp only at q1
      cases hm : gG.mtd kk m with
      | none => rw [hm] at q1; exact q1.elim
      | some f =>
        rw [hm] at q1
        obtain ⟨cl, mt, F, hkb, hps, hdf⟩ := M.ok kk f hm
        refine getmeth_ok I1 ea cl mt (RVf.no M.no f3) ?_
        refine cw_plain (first := [.ref oa]) G mt.kp hn hk hb hkw h0 hl1 hl2 I1 rr1 re1 q1 fun us ws xs ys s2 H2 w2 h2 l r I2 ext rr2 r1 r2 v1 v2 e1 e2 q2 => ?_
        exact cal_core (us := .ref oa :: us) (xs := .ref oa :: xs) (l := .ins kk fs :: l) G F hkb hps hdf tk I2 rr2 (RVs.mk (rv.ext ext _ _) r1) r2 (.cons rfl v1) v2 (by rw [List.length_cons, e1]) e2 q2
    | _ => exact q1.elim
end
end Rk

set_option maxHeartbeats 1000000
/-! Rk.Cc: instances made. -/
namespace Rk
open PySem PySem.Spec PyProof.Rows L2
theorem Post.up {α : Type} {g : Gi} {w w' : Wd} {n n' : Nat} {r : Res α} {E : XK} {P : Wd → AH → Hp → α → Prop} (x : Ext w n w' n') (q : Post g w n r E P) : Post g w' n' r E P := by
  cases r with
  | ok a h => exact fun w2 H2 e rr => q w2 H2 (x.trans e) rr
  | exc y h => exact fun w2 H2 cls d e rr rx => q w2 H2 cls d (x.trans e) rr rx
  | stuck => exact q
section
variable {X : Cx} {g : Gi} {z c : Bool} {k : Nat} {E : SX'} {e a b d : Expr} {pos p1 p2 : Pos} {es : List Expr} {ra : Run D} {rs rk : Run (List D)}
theorem run_mkG {C fI : Addr} {fd : FuncData} {ps : List Str} {sp : Sp} {n : Nat} {pins : List (Addr × Obj)} {σ : L2.St} {H : Hp} {s : Shared} {Q : VK} {us : List Value} {kw : List (Str × Value)} {G : Addr → Addr → List V → Hp → Prop} (M : Mk X.K C fI) (F : FnG false X.prog X.w X.K X.mg X.base n true fI fd ps sp)
    (room : RoomG (n + 1) X.A) (calm : X.A.handled = none) (tk : Takes X (fun cls d σ H => E σ cls d H)) (I : Inv X pins σ H s)
    (hb : ∀ (x dx : Addr) (A : Around) (s2 : Shared) (H2 : Hp), H x = none → H dx = none → dx ≠ x → H2 = upd (upd H dx (.own x)) x (.ins C dx []) → Env0 X.prog X.w X.K X.mg X.base A X.stack s2 H2 →
      StX.Bnd (L2.CX X.prog X.w) X.prog X.w X.K X.mg X.base fd ⟨.ref x :: us, kw⟩ ps A X.stack s2 H2 (E σ) (G x dx))
    (hs : ∀ (x dx : Addr), H x = none → H dx = none → dx ≠ x → ∀ vs H2, G x dx vs H2 → sp vs H2 (fun v H3 => v = .non ∧ Q (.ref x) H3) (E σ)) :
    wpAny (model X.prog X.w) X.A (PySem.call (.ref C) us kw) (EP X pins σ Q) X.xe s := by
  have n1 : H (s.heap.objs.size + 1) = none := I.hok.fresh (Nat.le_succ _)
  have n2 : H s.heap.objs.size = none := I.hok.fresh (Nat.le_refl _)
  have ne : s.heap.objs.size ≠ s.heap.objs.size + 1 := Nat.ne_of_lt (Nat.lt_succ_self _)
  have I2 := Inv.made (C := C) I
  refine wpAny_call (make_map (f := fI) I.kIn M.makes M.init (beq_iff_eq.mp M.fn) (codeAny_mono (F.runB _ X.stack _ _ ⟨.ref (s.heap.objs.size + 1) :: us, kw⟩ _ (E σ) (G (s.heap.objs.size + 1) s.heap.objs.size) (roomG_make room C us kw) (fun _ => calm) (I2.env0.make C us kw)
    (hb _ _ _ _ _ n1 n2 ne rfl (I2.env0.make C us kw)) (hs _ _ n1 n2 ne)) fun r s' hq' => ?_))
  cases r with
  | error e => exact tk e s' (L2.XE.of_call I2 (fun cls d H' h => h) hq')
  | ok fl =>
    cases fl with
    | ret u =>
      obtain ⟨v, H', I3, rv, ev, q3⟩ := I2.after hq'
      subst ev
      exact ⟨rv, ⟨V.ref (s.heap.objs.size + 1), H', I3, rfl, q3⟩⟩
    | next => exact False.elim hq'
    | brk => exact False.elim hq'
    | cont => exact False.elim hq'
/-- what is known of a class that is made by n values and the names ks -/
structure MkOk (X : Cx) (g : Gi) (gG : G) (call : Cl) (k kk n : Nat) (ks : List Str) (sel : List Nat) (x : Str) : Prop where
  mg : X.mg x = some (.ref (g.cb kk))
  kp : PySem.W.keepIn X.K (.ref (g.cb kk)) = true
  df : ∀ w n, RVs g w n (gG.cdf kk) (g.cdv kk)
  ok : (∀ vs h, call.make kk vs h = .stuck) ∨ ∃ j fI fd ps, k = j + 1 ∧ Mk X.K (g.cb kk) fI ∧ FnG false X.prog X.w X.K X.mg X.base j true fI fd ps (spI g call kk) ∧ ps.length = sel.length + 1 ∧
    ∃ ds, Vals (g.cdv kk) ds ∧ ∀ (s : Shared) (a : Value) (us ws vs : List Value), X.K.In s.heap → us.length = n → ws.length = ks.length → pick sel (us ++ ws ++ ds) = some vs → BindsTo s fd ⟨a :: us, ks.zip ws⟩ (ps.zip (a :: vs))
/-- the new object's world -/
theorem new_world {w : Wd} {h : AH} {H : Hp} (rr : RR g w h H) {x dx C : Addr} (hx : H x = none) (hdx : H dx = none) (hne : dx ≠ x) : RR g ⟨w.m, w.F, upd (upd w.Z dx (.own x)) x (.ins C dx [])⟩ h (upd (upd H dx (.own x)) x (.ins C dx [])) :=
  ((rr.side (o := .own x) hdx).1.side (p := x) (o := .ins C dx []) (by rw [upd_ne fun z => hne z.symm]; exact hx)).1
/-- C(a, .., k = b, ..) -/
theorem ev_mk {gG : G} {call' : Cl} (G : GX g true k X) {kk : Nat} {ks : List Str} {sel : List Nat} {kws : List Keyword} {x : Str} (M : MkOk X g gG call' k kk es.length ks sel x) (hg : Gl X x) (hdb : (x == ("__debug__" : Str)) = false) (tk : Takes X (fun cls d σ H => E σ cls d H))
    (hn : nsts es = true) (hk : kwn kws = some ks) (hb : PA X es (tEs g E rs)) (hkw : PK X kws (tEs g E rk)) (h0 : es = [] → ∀ env h, rs env h = .ok [] h) (hl1 : ∀ env h l h', rs env h = .ok l h' → l.length = es.length) (hl2 : ∀ env h l h', rk env h = .ok l h' → l.length = ks.length) :
    EV X g E (.Call (.Name x p1) es kws pos) (fun env h => (rs env h).bind fun l h => (rk env h).bind fun m h => match pick sel (l ++ m ++ gG.cdf kk) with
      | some vs => call'.make kk vs h
      | none => .stuck) := by
  refine EV.of G (PE.mk fun pins s σ H Q I ⟨w, env, h, rr, re, q⟩ => ?_) fun _ => rfl
  refine wpAny_Call_Name_kw (ld_glob I hg M.mg ?_ hdb)
  refine cw_plain (first := []) G M.kp hn hk hb hkw h0 hl1 hl2 I rr re q fun us ws xs ys s2 H2 w2 h2 l m I2 ext rr2 r1 r2 v1 v2 e1 e2 q2 => ?_
  rw [List.nil_append]
  cases hp : pick sel (l ++ m ++ gG.cdf kk) with
  | none => rw [hp] at q2; exact q2.elim
  | some vs =>
    rw [hp] at q2
    dsimp only at q2
    rcases M.ok with st | ⟨j, fI, fd, ps, rfl, MK, F, hps, ds, vd, hbind⟩
    · rw [st] at q2; exact q2.elim
    obtain ⟨zs, hz, rz⟩ := pick_rvs ((r1.append r2).append (M.df w2 h2.nx)) hp
    obtain ⟨bs, hbs, rb⟩ := pick_paired (vals_app (vals_app v1 v2) vd) hz
    have hlen : ∀ {α : Type} {sel : List Nat} {l : List α} {r : List α}, pick sel l = some r → r.length = sel.length := by
      intro α sel
      induction sel with
      | nil => intro l r h; cases h; rfl
      | cons i sel ih =>
        intro l r h
        unfold pick at h
        split at h
        · rename_i d s h1 h2
          cases h
          rw [List.length_cons, List.length_cons, ih h2]
        · cases h
    refine run_mkG (G := fun x dx vs H3 => vs = .ref x :: zs ∧ H3 = upd (upd H2 dx (.own x)) x (.ins (g.cb kk) dx [])) MK F G.room (I2.ok.hd (G.calm rfl)) tk I2 (fun x dx A s3 H3 hx hdx hne eH e0 => ?_) (fun x dx hx hdx hne vs' H3 ⟨ev, eH⟩ => ?_)
    · intro A' Ex Q' hq
      have inK : X.K.In s3.heap := e0.mod.kin.keeps fun b o e => (e0.bs b o e).1
      exact hbind s3 (.ref x) us ws bs inK e1 e2 hbs _ _ _ _ (hq s3 H3 (.ref x :: zs) (.ref x :: bs) e0 Un.refl rfl (fun _ _ z => z) (.cons rfl rb) (by rw [List.length_cons, hlen hz, hps]) ⟨rfl, eH⟩)
    · subst ev eH
      exact ⟨w2, vs, h2, x, dx, zs, rfl, rr2.noF hx, rr2.noF hdx, rr2.noZ hx, rr2.noZ hdx, hne, new_world rr2 hx hdx hne, rz, q2.mono fun w3 h3 H3 d _ _ qq v rv ev => ⟨rfl, ev ▸ qq v rv⟩⟩
end
end Rk

set_option maxHeartbeats 1000000
/-! Rk.Cd: any number of arguments. -/
namespace Rk
open PySem PySem.Spec PyProof.Rows L2
/-- what is left over becomes a tuple -/
def VarB (fd : FuncData) (ps : List Str) (n : Nat) : Prop := ∀ us rest : List Value, us.length = n → bindArgs fd ⟨us ++ rest, []⟩ = (newTuple rest >>= fun t => pure (ps.zip (us ++ [t])))
theorem bnd_star {P : Program} {w : World} {K : PySem.W.Frag} {mg : Str → Option Value} {base : Heap} {fd : FuncData} {ps : List Str} {A : Around} {outer : List PySem.Env} {s : Shared} {H : Hp} {E : XK} {u1 u2 : List Value} {ws rest : List V} {n : Nat}
    (e0 : Env0 P w K mg base A outer s H) (hb : VarB fd ps n) (r1 : Vals ws u1) (r2 : Vals rest u2) (hl : ws.length = n) (hp : ps.length = n + 1) (hz : rest.length ≤ sizeLine) :
    StX.Bnd (L2.CX P w) P w K mg base fd ⟨u1 ++ u2, []⟩ ps A outer s H E (fun xs H2 => ∃ p, H p = none ∧ xs = ws ++ [V.ref p] ∧ H2 = upd H p (.tup rest)) := by
  intro A' Ex Q' h
  have hn : H s.heap.objs.size = none := e0.hok.fresh (Nat.le_refl _)
  have hl1 : u1.length = n := by rw [← r1.length]; exact hl
  have hl2 : u2.length ≤ sizeLine := by rw [← r2.length]; exact hz
  rw [hb u1 u2 hl1]
  refine wpAny_bind (wpAny_newTuple (wpAny_pure ?_) hl2)
  have new : ObjOk P w (upd H s.heap.objs.size (.tup rest)) (s.heap.push ({ cls := .type "tuple", data := .seq u2.toArray } : Obj)) s.heap.objs.size (.tup rest) := ⟨hz, u2, r2, ⟨_, Heap.get?_push_size _ rfl, rfl, _, rfl⟩⟩
  have un := StX.un_laid (fs := frs outer) (s := s) (o := ({ cls := .type "tuple", data := .seq u2.toArray } : Obj)) (u := .tup rest) hn
  exact h _ _ (ws ++ [V.ref s.heap.objs.size]) (u1 ++ [Value.ref s.heap.objs.size]) (StX.env0_laid e0 new) un rfl (fun e s' => StX.cxUp outer s H _ _ E e s' un (fun b o q => Heap.get?_push_of_some _ q) rfl) (r1.append (.cons rfl .nil))
    (by rw [List.length_append, hl, hp]; rfl) ⟨_, hn, rfl, rfl⟩
section
variable {X : Cx} {g : Gi} {z c : Bool} {k : Nat} {E : SX'} {e a b d : Expr} {pos p1 p2 : Pos} {es : List Expr} {ra rv : Run D} {rs rk : Run (List D)}
/-- the leftover's world -/
theorem tup_world {w : Wd} {h : AH} {H : Hp} (rr : RR g w h H) {p : Addr} {xs : List V} (hp : H p = none) {l : List D} (r : RVs g w h.nx l xs) :
    RR g ⟨w.m, upd w.F p (.tup xs), w.Z⟩ h (upd H p (.tup xs)) ∧ Ext w h.nx ⟨w.m, upd w.F p (.tup xs), w.Z⟩ h.nx ∧ RV g ⟨w.m, upd w.F p (.tup xs), w.Z⟩ h.nx (.tup l) (.ref p) := by
  obtain ⟨r2, x⟩ := rr.freeze (o := .tup xs) hp
  exact ⟨r2, x, rv_tup.mpr ⟨p, xs, rfl, .inl (.inl upd_same), r.ext x⟩⟩
theorem rvs_take {w : Wd} {n kf : Nat} {l : List D} {xs : List V} (r : RVs g w n l xs) : RVs g w n (l.take kf) (xs.take kf) := r.take kf
theorem vals_take {xs : List V} {us : List Value} (r : Vals xs us) : ∀ kf, Vals (xs.take kf) (us.take kf)
  | 0 => by rw [List.take_zero, List.take_zero]; exact .nil
  | kf + 1 => by
    cases r with
    | nil => exact .nil
    | cons a b => exact .cons a (vals_take b kf)
theorem vals_drop {xs : List V} {us : List Value} (r : Vals xs us) : ∀ kf, Vals (xs.drop kf) (us.drop kf)
  | 0 => r
  | kf + 1 => by
    cases r with
    | nil => exact .nil
    | cons a b => exact vals_drop b kf
/-- a def with leftovers is called -/
theorem cav_core {fa : Addr} {fd : FuncData} {ps : List Str} {call' : Cl} {f kf : Nat} {pins : List (Addr × Obj)} {σ : L2.St} {H : Hp} {s : Shared} {Q : VK} {us : List Value} {xs : List V} {l : List D} {w : Wd} {h : AH} (G : GX g true k X)
    (F : FnG false X.prog X.w X.K X.mg X.base k true fa fd ps (spF g call' true f)) (hb : VarB fd ps kf) (hps : ps.length = kf + 1) (tk : Takes X (fun cls d σ H => E σ cls d H)) (I : Inv X pins σ H s) (rr : RR g w h H) (r : RVs g w h.nx l xs) (v : Vals xs us)
    (q : Post g w h.nx (if kf ≤ l.length ∧ l.length ≤ line then call'.f true f (l.take kf ++ [.tup (l.drop kf)]) h else .stuck) (E σ) (PV g Q)) :
    wpAny (model X.prog X.w) X.A (PySem.call (.ref fa) us) (EP X pins σ Q) X.xe s := by
  obtain ⟨⟨h1, h2⟩, q⟩ := if_ok q
  have hx : xs.length = l.length := r.length
  refine wpAny_call (codeAny_mono (F.runB X.A X.stack s H ⟨us, []⟩ Q (E σ) (fun zs H2 => ∃ p, H p = none ∧ zs = xs.take kf ++ [V.ref p] ∧ H2 = upd H p (.tup (xs.drop kf))) G.room (fun _ => I.ok.hd (G.calm rfl)) I.env0 ?_ fun vs H2 ⟨p, hp, ev, eH⟩ => ?_) fun r s' hq => ?_)
  · have := bnd_star (E := E σ) (u1 := us.take kf) (u2 := us.drop kf) I.env0 hb (vals_take v kf) (vals_drop v kf) (by rw [List.length_take]; omega) hps (by rw [List.length_drop, sizeL]; omega)
    rw [List.take_append_drop] at this
    exact this
  · subst ev eH
    obtain ⟨rr2, x2, rt⟩ := tup_world rr hp (r.drop kf)
    exact ⟨_, _, h, rr2, ((r.take kf).ext x2).append (RVs.mk rt RVs.nil), Post.up x2 q⟩
  · cases r with
    | error e => exact tk e s' (L2.XE.of_call I (fun cls d H' h => h) hq)
    | ok fl =>
      cases fl with
      | ret u => exact I.after hq
      | next => exact False.elim hq
      | brk => exact False.elim hq
      | cont => exact False.elim hq
theorem kwn_nil : kwn [] = some [] := rfl
/-- f(a, ..) where f takes any number -/
theorem ev_cav {call' : Cl} (G : GX g true k X) {f kf : Nat} {x : Str} (F : FnG false X.prog X.w X.K X.mg X.base k true (g.fa f) (g.fd f) (g.fps f) (spF g call' true f)) (hb : VarB (g.fd f) (g.fps f) kf) (hps : (g.fps f).length = kf + 1) (hg : Gl X x) (hm : X.mg x = some (.ref (g.fa f)))
    (hkp : PySem.W.keepIn X.K (.ref (g.fa f)) = true) (hdb : (x == ("__debug__" : Str)) = false) (tk : Takes X (fun cls d σ H => E σ cls d H)) (hn : nsts es = true) (ha : PA X es (tEs g E rs)) (h0 : es = [] → ∀ env h, rs env h = .ok [] h) (hl1 : ∀ env h l h', rs env h = .ok l h' → l.length = es.length) :
    EV X g E (.Call (.Name x p1) es [] pos) (fun env h => (rs env h).bind fun l h => if kf ≤ l.length ∧ l.length ≤ line then call'.f true f (l.take kf ++ [.tup (l.drop kf)]) h else .stuck) := by
  refine EV.of G (PE.mk fun pins s σ H Q I ⟨w, env, h, rr, re, q⟩ => ?_) fun _ => rfl
  refine wpAny_Call_Name_kw (ld_glob I hg hm ?_ hdb)
  have q : Post g w h.nx ((rs env h).bind fun l h => (Res.ok ([] : List D) h).bind fun m h => if kf ≤ l.length ∧ l.length ≤ line then call'.f true f (l.take kf ++ [.tup (l.drop kf)]) h else .stuck) (E σ) (PV g Q) := q
  refine cw_plain (first := []) (rk := fun _ h => .ok [] h) (f := fun l m h => if kf ≤ l.length ∧ l.length ≤ line then call'.f true f (l.take kf ++ [.tup (l.drop kf)]) h else .stuck) G hkp hn kwn_nil ha kv_nil h0 hl1 (fun env h l h' e => by cases e; rfl) I rr re q fun us ws xs ys s2 H2 w2 h2 l m I2 ext rr2 r1 r2 v1 v2 e1 e2 q2 => ?_
  rw [List.nil_append]
  exact cav_core G F hb hps tk I2 rr2 r1 v1 q2
/-- what is known of a class that is made by any number of values -/
structure MvOk (X : Cx) (g : Gi) (call : Cl) (k kk : Nat) (x : Str) : Prop where
  mg : X.mg x = some (.ref (g.cb kk))
  kp : PySem.W.keepIn X.K (.ref (g.cb kk)) = true
  ok : (∀ vs h, call.make kk vs h = .stuck) ∨ ∃ j fI fd ps, k = j + 1 ∧ Mk X.K (g.cb kk) fI ∧ FnG false X.prog X.w X.K X.mg X.base j true fI fd ps (spI g call kk) ∧ ps.length = 2 ∧ VarB fd ps 1
theorem mkv_core {call' : Cl} {kk : Nat} {x : Str} {pins : List (Addr × Obj)} {σ : L2.St} {H : Hp} {s : Shared} {Q : VK} {us : List Value} {xs : List V} {l : List D} {w : Wd} {h : AH} (G : GX g true k X) (M : MvOk X g call' k kk x) (tk : Takes X (fun cls d σ H => E σ cls d H)) (I : Inv X pins σ H s) (rr : RR g w h H) (r : RVs g w h.nx l xs) (v : Vals xs us)
    (q : Post g w h.nx (if l.length ≤ line then call'.make kk [.tup l] h else .stuck) (E σ) (PV g Q)) :
    wpAny (model X.prog X.w) X.A (PySem.call (.ref (g.cb kk)) us) (EP X pins σ Q) X.xe s := by
  obtain ⟨h2, q⟩ := if_ok q
  rcases M.ok with st | ⟨j, fI, fd, ps, rfl, MK, F, hps, hb⟩
  · rw [st] at q; exact q.elim
  have hx : xs.length = l.length := r.length
  refine run_mkG (kw := []) (G := fun x dx vs H3 => ∃ p, upd (upd H dx (.own x)) x (.ins (g.cb kk) dx []) p = none ∧ vs = [V.ref x] ++ [V.ref p] ∧ H3 = upd (upd (upd H dx (.own x)) x (.ins (g.cb kk) dx [])) p (.tup xs)) MK F G.room (I.ok.hd (G.calm rfl)) tk I (fun x dx A s3 H3 hx hdx hne eH e0 => ?_) (fun x dx hx hdx hne vs' H3 ⟨p, hp, ev, eH⟩ => ?_)
  · have := bnd_star (E := E σ) (u1 := [Value.ref x]) (u2 := us) (ws := [V.ref x]) (rest := xs) e0 hb (.cons rfl .nil) v rfl hps (by rw [r.length, sizeL]; exact h2)
    rw [← eH]
    exact this
  · subst ev eH
    have nw := new_world (C := g.cb kk) rr hx hdx hne
    have hpx : p ≠ x := fun z => by rw [z, upd_same] at hp; cases hp
    have hpd : p ≠ dx := fun z => by rw [z, upd_ne hne, upd_same] at hp; cases hp
    obtain ⟨rr2, x2, rt⟩ := tup_world nw hp (l := l) (by exact RVs.noZ (w := w) r)
    have hpH : H p = none := by rw [upd_ne hpx, upd_ne hpd] at hp; exact hp
    have fx : upd w.F p (.tup xs) x = none := by rw [upd_ne hpx.symm]; exact rr.noF hx
    have fd' : upd w.F p (.tup xs) dx = none := by rw [upd_ne hpd.symm]; exact rr.noF hdx
    obtain ⟨_, x3, rt3⟩ := tup_world rr hpH r
    exact ⟨⟨w.m, upd w.F p (.tup xs), w.Z⟩, [.tup l], h, x, dx, [.ref p], rfl, fx, fd', rr.noZ hx, rr.noZ hdx, hne, rr2, RVs.mk rt3 RVs.nil, Post.up x3 (q.mono fun w3 h3 H3 d _ _ qq v rv ev => ⟨rfl, ev ▸ qq v rv⟩)⟩
/-- C(a, ..) where __init__ takes any number -/
theorem ev_mkv {call' : Cl} (G : GX g true k X) {kk : Nat} {x : Str} (M : MvOk X g call' k kk x) (hg : Gl X x) (hdb : (x == ("__debug__" : Str)) = false) (tk : Takes X (fun cls d σ H => E σ cls d H)) (hn : nsts es = true) (ha : PA X es (tEs g E rs)) (h0 : es = [] → ∀ env h, rs env h = .ok [] h) (hl1 : ∀ env h l h', rs env h = .ok l h' → l.length = es.length) :
    EV X g E (.Call (.Name x p1) es [] pos) (fun env h => (rs env h).bind fun l h => if l.length ≤ line then call'.make kk [.tup l] h else .stuck) := by
  refine EV.of G (PE.mk fun pins s σ H Q I ⟨w, env, h, rr, re, q⟩ => ?_) fun _ => rfl
  refine wpAny_Call_Name_kw (ld_glob I hg M.mg ?_ hdb)
  have q : Post g w h.nx ((rs env h).bind fun l h => (Res.ok ([] : List D) h).bind fun m h => if l.length ≤ line then call'.make kk [.tup l] h else .stuck) (E σ) (PV g Q) := q
  refine cw_plain (first := []) (rk := fun _ h => .ok [] h) (f := fun l m h => if l.length ≤ line then call'.make kk [.tup l] h else .stuck) G M.kp hn kwn_nil ha kv_nil h0 hl1 (fun env h l h' e => by cases e; rfl) I rr re q fun us ws xs ys s2 H2 w2 h2 l m I2 ext rr2 r1 r2 v1 v2 e1 e2 q2 => ?_
  rw [List.nil_append]
  exact mkv_core G M tk I2 rr2 r1 v1 q2
/-- C(*x) -/
theorem ev_mks {call' : Cl} (G : GX g true k X) {kk : Nat} {x : Str} {sp : Pos} (M : MvOk X g call' k kk x) (hg : Gl X x) (hdb : (x == ("__debug__" : Str)) = false) (tk : Takes X (fun cls d σ H => E σ cls d H)) (ha : EV X g E a ra) :
    EV X g E (.Call (.Name x p1) [.Starred a sp] [] pos) (fun env h => (ra env h).bind fun y h => match y with
      | .lst l => if l.length ≤ line then call'.make kk [.tup l] h else .stuck
      | .tup l => if l.length ≤ line then call'.make kk [.tup l] h else .stuck
      | _ => .stuck) := by
  refine EV.of G (PE.mk fun pins s σ H Q I ⟨w, env, h, rr, re, q⟩ => ?_) fun _ => rfl
  refine wpAny_Call_Name_kw (ld_glob I hg M.mg ?_ hdb)
  refine PySem.W.callWith_S (first := []) (h₀ := X.base) I.ok.mod.kin M.kp (thn (ha.pe.run pins s σ H (fun y H1 => ∃ w1 h1 dd, RR g w1 h1 H1 ∧ RV g w1 h1.nx dd y ∧ Post g w1 h1.nx (match dd with
      | .lst l => if l.length ≤ line then call'.make kk [.tup l] h1 else .stuck
      | .tup l => if l.length ≤ line then call'.make kk [.tup l] h1 else .stuck
      | _ => .stuck) (E σ) (PV g Q)) I ?_) fun v s1 ⟨y, H1, I1, ry, w1, h1, dd, rr1, rv1, q1⟩ => ?_)
  · exact tE.step q rr re rfl fun w1 h1 H1 x v ext rr1 re1 rv q1 => ⟨w1, h1, x, rr1, rv, q1⟩
  · cases dd with
    | lst l =>
      obtain ⟨oa, xs, rfl, f1, r1⟩ := rv_lst.mp rv1
      obtain rfl : v = Value.ref oa := ry
      exact StX.star_any I1 (.inr (SqL.of (rr1.sub _ _ f1))) fun us s2 I2 rv => ⟨I2.kIn, by rw [List.nil_append]; exact mkv_core G M tk I2 rr1 r1 rv q1⟩
    | tup l =>
      obtain ⟨oa, xs, rfl, f1, r1⟩ := rv_tup.mp rv1
      obtain rfl : v = Value.ref oa := ry
      have hK := G.K
      exact StX.star_any I1 (.inl (by rw [hK]; exact SqT.ext rr1.sub f1)) fun us s2 I2 rv => ⟨I2.kIn, by rw [List.nil_append]; exact mkv_core G M tk I2 rr1 r1 rv q1⟩
    | _ => exact q1.elim
end
end Rk

set_option maxHeartbeats 1000000
/-! Rk.Ce: classes' constants and static methods, isinstance, instances called. -/
namespace Rk
open PySem PySem.Spec PyProof.Rows L2
section
variable {X : Cx} {g : Gi} {z c : Bool} {k : Nat} {E : SX'} {e a b d : Expr} {pos p1 p2 p3 : Pos} {es : List Expr} {ra rv : Run D} {rs rk : Run (List D)}
/-- C.f -/
theorem ev_con (G : GX g c k X) {x f : Str} {C : Addr} {dd : D} {mc : Value} (hg : Gl X x) (hm : X.mg x = some (.ref C)) (hdb : (x == ("__debug__" : Str)) = false) (cr : ClX.CRead X.K C mc) (h : ∃ v u, ClX.CVal X.K C mc f v u ∧ ∀ w n, RV g w n dd v) :
    EV X g E (.Attribute (.Name x p1) f pos) (fun _ h => .ok dd h) := by
  obtain ⟨v, u, cv, hrv⟩ := h
  exact EV.of G ((ClX.pe_cval (pe_glob hg hm (v := .ref C) rfl hdb)).imp fun σ H Q ⟨w, env, h, rr, re, q⟩ => ⟨C, mc, v, u, rfl, cr, cv, pv_now q rr (hrv _ _)⟩) fun _ => rfl
/-- a static method of a class: its record at p, its def at f -/
structure SMet (K : PySem.W.Frag) (C : Addr) (m : Str) (p f : Addr) : Prop where
  at_ : PySem.W.findCls K (.ref C) (.type "type") m = some (.get (.builtin "staticmethod.__get__") (.ref p) .none (.ref C))
  rc : ∃ rest, PySem.W.recIn K p "staticmethod" = some (.ref f :: rest)
theorem getsm_ok {pins : List (Addr × Obj)} {σ : L2.St} {H : Hp} {s : Shared} {C p f : Addr} {m : Str} {A : Around} {E : Value → Shared → Prop} {pl : Sem Bool} {Q : Value × List Value → Shared → Prop} (I : Inv X pins σ H s) (r : ClX.CRead X.K C (.type "type")) (k : SMet X.K C m p f)
    (h : ∀ s', Inv X pins σ H s' → Q (.ref f, []) s') : wpAny (model X.prog X.w) A (getMethod (.ref C) m pl) Q E s := by
  obtain ⟨rest, hp⟩ := k.rc
  refine PySem.W.method_cls I.kIn r.ga ?_
  refine PySem.W.cls_bind I.kIn r.rd k.at_ ?_
  refine wpAny_call (PySem.W.sm_get (s := { s with toks := s.toks + 1 }) I.kIn hp (PySem.W.handed_on rfl ?_))
  exact h _ (I.tok _)
/-- C.m(a, .., k = b, ..) -/
theorem ev_stt {call' : Cl} {dfl : List D} (G : GX g c k X) {x m : Str} {C p : Addr} {f : Nat} {ks : List Str} {sel : List Nat} {kws : List Keyword} (hg : Gl X x) (hm : X.mg x = some (.ref C)) (hdb : (x == ("__debug__" : Str)) = false) (cr : ClX.CRead X.K C (.type "type")) (sm : SMet X.K C m p (g.fa f))
    (F : FnG false X.prog X.w X.K X.mg X.base k c (g.fa f) (g.fd f) (g.fps f) (spF g call' c f)) (hkp : PySem.W.keepIn X.K (.ref (g.fa f)) = true) (hkb : KB g f es.length ks sel) (hps : (g.fps f).length = sel.length) (hdf : ∀ w n, RVs g w n dfl (g.fdv f)) (tk : Takes X (fun cls d σ H => E σ cls d H)) (hline : (p3.endLine == pos.line) = true)
    (hn : nsts es = true) (hk : kwn kws = some ks) (hfew : es.length + kws.length + 1 < 30) (hb : PA X es (tEs g E rs)) (hkw : PK X kws (tEs g E rk)) (h0 : es = [] → ∀ env h, rs env h = .ok [] h) (hl1 : ∀ env h l h', rs env h = .ok l h' → l.length = es.length) (hl2 : ∀ env h l h', rk env h = .ok l h' → l.length = ks.length) :
    EV X g E (.Call (.Attribute (.Name x p1) m p3) es kws pos) (fun env h => (rs env h).bind fun l h => (rk env h).bind fun r h => (match pick sel (l ++ r ++ dfl) with
      | some vs => call'.f c f vs h
      | none => .stuck)) := by
  refine EV.of G (PE.mk fun pins s σ H Q I ⟨w, env, h, rr, re, q⟩ => ?_) fun _ => rfl
  obtain ⟨k1, k2, k3⟩ := kwn_ok (pos := pos) (env := X.env) hk
  have hform : methodCallForm (es.length + kws.length) (backTo pos (starEach es X.env)) (backToKw pos (keywordEach kws X.env)) = true := by
    show ((backTo pos (starEach es X.env)).all (fun x => !x.1) && (backToKw pos (keywordEach kws X.env)).all (fun x => x.1.isSome) && decide (es.length + kws.length + (if (backToKw pos (keywordEach kws X.env)).isEmpty then 0 else 1) < 30)) = true
    rw [nsts_all hn, k1, Bool.true_and, Bool.true_and]
    exact decide_eq_true (by split <;> omega)
  refine wpAny_Call_meth (nsuper_ok (e := .Name x p1) rfl _ _) hform hline (thn ((pe_glob hg hm (v := .ref C) rfl hdb).run pins s σ H (fun y H1 => y = .ref C ∧ H1 = H) I ⟨rfl, rfl⟩) fun u s1 ⟨y, H1, I1, ry, ey, eH⟩ pl => ?_)
  subst ey eH
  obtain rfl : u = Value.ref C := ry
  refine getsm_ok I1 cr sm fun s2 I2 => ?_
  refine cw_plain (first := []) G hkp hn hk hb hkw h0 hl1 hl2 I2 rr re q fun us ws xs ys s3 H2 w2 h2 l r I3 ext rr2 r1 r2 v1 v2 e1 e2 q2 => ?_
  rw [List.nil_append]
  exact cal_core G F hkb hps hdf tk I3 rr2 r1 r2 v1 v2 e1 e2 q2
/-- what an instance's class must say for isinstance -/
structure IsC (K : PySem.W.Frag) (C : Addr) : Prop where
  cl : Cls K C
  ha : PySem.W.findIn K (.ref C) "__class__" = some (some (.builtin "object.__class__"))
  hn : PySem.W.specialIn K (.builtin "object.__class__") "__get__" = some (some (.builtin "getset_descriptor.__get__"))
  tk : PySem.W.takesIn K (.builtin "object.__class__") = some true
  hm : PySem.W.mroIn K C (.type "object") = some true
/-- isinstance(x, C) of an own class -/
theorem ev_isc (G : GX g c k X) {x : Str} {kk : Nat} {isa : Nat → Bool} (hg : Gl X "isinstance") (hm : X.mg "isinstance" = none) (hgc : Gl X x) (hmc : X.mg x = some (.ref (g.cb kk))) (hdb : (x == ("__debug__" : Str)) = false) (hn : nst a = true)
    (hi : ∀ j, j < g.nc → IsC X.K (g.cb j) ∧ PySem.W.kitOne X.K (.ref (g.cb j)) (.ref (g.cb kk)) = some (isa j)) (hp : ∀ t ∈ (["NoneType", "bool", "int", "str", "tuple", "list"] : List String), PySem.W.kitOne X.K (.type t) (.ref (g.cb kk)) = some false) (ha : EV X g E a ra) :
    EV X g E (.Call (.Name "isinstance" p1) [a, .Name x p2] [] pos) (fun env h => (ra env h).bind fun x h => match x with
    | .ins j _ => .ok (.bl (isa j)) h
    | x => if nins x then .ok (.bl false) h else .stuck) := by
  have hB : PE X (.Name x p2) (tC (.ref (g.cb kk))) := pe_glob hgc hmc rfl hdb
  have hA : PA X [a, .Name x p2] (tCons (tE g E ra) (tCons (tC (.ref (g.cb kk))) tNil)) := pa_cons ha.pe (pa_cons hB pa_nil) (nst_ok hn _ X.env)
  refine EV.of G ((pe_callB call_isi hg hm (by decide +kernel) hA (by decide +kernel) (by decide +kernel) (nst_ok hn _ X.env)).imp fun σ H Q ⟨w, env, h, rr, re, q⟩ => ?_) fun _ => rfl
  refine tE.step q rr re rfl fun w1 h1 H1 x v ext rr1 re1 rv q1 => ?_
  have other : nins x = true → Post g w1 h1.nx (if nins x then .ok (.bl false) h1 else .stuck) (E σ) (PV g Q) → rIsi X.K [v, .ref (g.cb kk)] H1 Q := fun hx q1 => by
    rw [if_pos hx] at q1
    obtain ⟨b0, hb0⟩ : ∃ b0, isk x .int = some b0 := by
      clear q1 rv
      cases x <;> first
        | exact ⟨_, rfl⟩
        | exact absurd hx (by unfold nins; exact Bool.false_ne_true)
    have ty : TyX X.K H1 v (.type (tyn x)) := tyx_of (kk := .int) (b := b0) G.K rr1 rv hb0
    refine ⟨v, .ref (g.cb kk), .type (tyn x), .ref (g.cb kk), false, rfl, .own _, ty, hp _ ?_, pv_now q1 rr1 (rv_bl.mpr rfl)⟩
    clear q1 rv ty hb0
    cases x <;> first
      | (simp [tyn]; done)
      | exact absurd hx (by unfold nins; exact Bool.false_ne_true)
  cases x with
  | ins j fs =>
    obtain ⟨ic, hk⟩ := hi j (rv_insc rv)
    · obtain ⟨oa, dx, gs, rfl, f1, f2, f3⟩ := rv_ins rv
      exact ⟨.ref oa, .ref (g.cb kk), .ref (g.cb j), .ref (g.cb kk), isa j, rfl, .own _, .base (.ins (rr1.sub _ _ f1) ic.cl ic.ha ic.hn ic.tk ic.hm), hk, pv_now q1 rr1 (rv_bl.mpr rfl)⟩
  | non => exact other rfl q1
  | bl _ => exact other rfl q1
  | int _ => exact other rfl q1
  | str _ => exact other rfl q1
  | tup _ => exact other rfl q1
  | lst _ => exact other rfl q1
  | _ => exact q1.elim
/-- what is known of classes whose instances are called -/
structure CaOk (X : Cx) (g : Gi) (gG : G) (call : Cl) (c : Bool) (k n : Nat) (ks : List Str) (sel : List Nat) : Prop where
  ok : ∀ kk f, gG.dmt kk .call = some f → StX.CallO X.K (g.cb kk) (g.fa f) ∧ FnG false X.prog X.w X.K X.mg X.base k c (g.fa f) (g.fd f) (g.fps f) (spF g call c f) ∧ KB g f (n + 1) ks sel ∧ (g.fps f).length = sel.length ∧ ∀ w n, RVs g w n (gG.dfl f) (g.fdv f)
/-- o(a, ..), o a name that holds an instance -/
theorem ev_cao {gG : G} {call' : Cl} (G : GX g c k X) {x : Str} {sel : List Nat} (M : CaOk X g gG call' c k es.length [] sel) (tk : Takes X (fun cls d σ H => E σ cls d H)) (hn : nsts es = true) (hne : es ≠ [])
    (ha : EV X g E (.Name x p1) ra) (hb : PA X es (tEs g E rs)) (hl1 : ∀ env h l h', rs env h = .ok l h' → l.length = es.length) :
    EV X g E (.Call (.Name x p1) es [] pos) (fun env h => (ra env h).bind fun x h => match x with
    | .ins kk fs => (match gG.dmt kk .call with
      | some f => (rs env h).bind fun l h => (Res.ok [] h).bind fun r h => (match pick sel (.ins kk fs :: l ++ r ++ gG.dfl f) with
        | some vs => call'.f c f vs h
        | none => .stuck)
      | none => .stuck)
    | _ => .stuck) := by
  refine EV.of G (PE.mk fun pins s σ H Q I ⟨w, env, h, rr, re, q⟩ => ?_) fun _ => rfl
  refine wpAny_Call_Name_kw (thn (ha.pe.run pins s σ H (fun x H1 => ∃ w1 h1 dd, RR g w1 h1 H1 ∧ RE g w1 h1.nx env σ ∧ RV g w1 h1.nx dd x ∧ Post g w1 h1.nx (match dd with
    | .ins kk fs => (match gG.dmt kk .call with
      | some f => (rs env h1).bind fun l h => (Res.ok [] h).bind fun r h => (match pick sel (.ins kk fs :: l ++ r ++ gG.dfl f) with
        | some vs => call'.f c f vs h
        | none => .stuck)
      | none => .stuck)
    | _ => .stuck) (E σ) (PV g Q)) I ?_) fun u s1 ⟨x, H1, I1, rx, w1, h1, dd, rr1, re1, rv, q1⟩ => ?_)
  · exact tE.step q rr re rfl fun w1 h1 H1 x v ext rr1 re1 rv q1 => ⟨w1, h1, x, rr1, re1, rv, q1⟩
  · cases dd with
    | ins kk fs =>
      obtain ⟨oa, dx, gs, rfl, f1, f2, f3⟩ := rv_ins rv
      obtain rfl : u = Value.ref oa := rx
      dsimp only at q1
      cases hm : gG.dmt kk .call with
      | none => rw [hm] at q1; exact q1.elim
      | some f =>
        rw [hm] at q1
        obtain ⟨co, F, hkb, hps, hdf⟩ := M.ok kk f hm
        cases es with
        | nil => exact absurd rfl hne
        | cons e es =>
          have hn1 : nst e = true ∧ nsts es = true := by
            unfold nsts at hn
            rw [List.all_cons, Bool.and_eq_true] at hn
            exact hn
          have q1 : Post g w1 h1.nx ((rs env h1).bind fun l h => match pick sel (.ins kk fs :: l ++ [] ++ gG.dfl f) with
            | some vs => call'.f c f vs h
            | none => .stuck) (E σ) (PV g Q) := q1
          refine StX.callO_with (thn (hb.run pos pins s1 σ H1 (fun xs H2 => xs.length = (e :: es).length ∧ ∃ w2 h2 l, RR g w2 h2 H2 ∧ RV g w2 h2.nx (.ins kk fs) (.ref oa) ∧ RVs g w2 h2.nx l xs ∧ Post g w2 h2.nx (match pick sel (.ins kk fs :: l ++ [] ++ gG.dfl f) with
            | some vs => call'.f c f vs h2
            | none => .stuck) (E σ) (PV g Q)) I1 ⟨w1, env, h1, rr1, re1, ?_⟩) fun us s2 ⟨xs, H2, I2, v2, e2, w2, h2, l, rr2, ro, r2, q2⟩ => ?_) (nst_ok hn1.1 _ _) (nsts_any hn1.2 _ _)
          · have q0 := q1.bind
            cases hr : rs env h1 with
            | ok l h2 =>
              rw [hr] at q0
              exact fun w2 H2 ext rr2 xs rvs => ⟨by rw [rvs.length]; exact hl1 _ _ _ _ hr, w2, h2, l, rr2, rv.ext ext _ _, rvs, q0 w2 H2 ext rr2⟩
            | exc x h2 => rw [hr] at q0; exact q0
            | stuck => rw [hr] at q0; exact q0
          · obtain ⟨oa', dx2, gs2, ea, f4, f5, f6⟩ := rv_ins ro
            cases ea
            obtain ⟨ox, od, J, hd⟩ := StX.insC_at I2 (.inr ⟨dx2, gs2, rr2.sub _ _ f4⟩)
            refine ⟨⟨_, ox, od, J, hd⟩, ?_⟩
            rw [List.nil_append]
            cases hp : pick sel (.ins kk fs :: l ++ [] ++ gG.dfl f) with
            | none => rw [hp] at q2; exact q2.elim
            | some vs =>
              rw [hp] at q2
              obtain ⟨ds, vd, hbind⟩ := hkb.bind
              obtain ⟨zs, hz, rz⟩ := pick_rvs (((RVs.mk ro r2).append RVs.nil).append (hdf w2 h2.nx)) hp
              obtain ⟨bs, hbs, rb⟩ := pick_paired (vals_app (vals_app (Paired.cons (show RelV (V.ref oa) (Value.ref oa) from rfl) v2) Paired.nil) vd) hz
              have hlen : ∀ {α : Type} {sel : List Nat} {l : List α} {r : List α}, pick sel l = some r → r.length = sel.length := by
                intro α sel
                induction sel with
                | nil => intro l r h; cases h; rfl
                | cons i sel ih =>
                  intro l r h
                  unfold pick at h
                  split at h
                  · rename_i d s h1 h2
                    cases h
                    rw [List.length_cons, List.length_cons, ih h2]
                  · cases h
              refine wpAny_call (PySem.W.kco_code I2.kIn J hd co.at_ co.fn co.fi (codeAny_mono (F.run X.A X.stack s2 H2 ⟨.ref oa :: us, []⟩ bs zs Q (E σ) G.room (fun hc => I2.ok.hd (G.calm hc)) I2.env0 (by rw [hlen hz, hps]) (hbind s2 (.ref oa :: us) [] bs (G.K ▸ I2.kIn) (by rw [List.length_cons, ← v2.length, e2]) rfl hbs) rb ⟨w2, vs, h2, rr2, rz, q2⟩) fun r s' hq => ?_))
              cases r with
              | error e => exact tk e s' (L2.XE.of_call I2 (fun cls d H' h => h) hq)
              | ok fl =>
                cases fl with
                | ret u => exact I2.after hq
                | next => exact False.elim hq
                | brk => exact False.elim hq
                | cont => exact False.elim hq
    | _ => exact q1.elim
end
end Rk

set_option maxHeartbeats 1000000
/-! Rk.Cf: special methods of instances; f-strings. -/
namespace Rk
open PySem PySem.Spec PyProof.Rows L2
section
variable {X : Cx} {g : Gi} {z c : Bool} {k : Nat} {E : SX'} {e a b d : Expr} {pos p1 p2 p3 : Pos} {es : List Expr} {ra rb rv : Run D} {rs rk : Run (List D)}
/-- what is known of a special method: n values, self among them -/
structure DuOk (X : Cx) (g : Gi) (gG : G) (call : Cl) (k : Nat) (d : Du) (name : Str) (n : Nat) : Prop where
  ok : ∀ kk f, gG.dmt kk d = some f → PySem.W.findIn X.K (.ref (g.cb kk)) name = some (some (.ref (g.fa f))) ∧ PySem.W.isFn X.K (.ref (g.fa f)) = true ∧ LowF X g call k f ∧ KB g f n [] (List.range n) ∧ (g.fps f).length = n
/-- a def one level below runs -/
theorem run_low {A : Around} {call' : Cl} {f n : Nat} {pins : List (Addr × Obj)} {σ : L2.St} {H : Hp} {s : Shared} {Q : VK} {us : List Value} {vs : List V} {E' : Value → Shared → Prop} (F : FnG false X.prog X.w X.K X.mg X.base n true (g.fa f) (g.fd f) (g.fps f) (spP g call' f)) (room : RoomG n A) (calm : A.handled = none)
    (e0 : Env0 X.prog X.w X.K X.mg X.base A X.stack s H) (I : Inv X pins σ H s) (hl : vs.length = (g.fps f).length) (hb : BindsTo s (g.fd f) ⟨us, []⟩ ((g.fps f).zip us)) (r : Vals vs us) (h : spP g call' f vs H Q (fun _ _ _ => False)) :
    wpAny (model X.prog X.w) A (PySem.call (.ref (g.fa f)) us) (EP X pins σ Q) E' s := by
  refine wpAny_call (codeAny_mono (F.run A X.stack s H ⟨us, []⟩ us vs Q (fun _ _ _ => False) room (fun _ => calm) e0 hl hb r h) fun r s' hq => ?_)
  cases r with
  | error er =>
    obtain ⟨_, _, _, _, _, _, _, _, _, _, _, _, he⟩ := hq
    exact he.elim
  | ok fl =>
    cases fl with
    | ret u => exact I.after hq
    | next => exact False.elim hq
    | brk => exact False.elim hq
    | cont => exact False.elim hq
theorem kb_two {f : Nat} (hb : KB g f 2 [] [0, 1]) {s : Shared} {u v : Value} (h : g.K.In s.heap) : BindsTo s (g.fd f) ⟨[u, v], []⟩ ((g.fps f).zip [u, v]) := by
  obtain ⟨ds, _, q⟩ := hb.bind
  exact q s [u, v] [] [u, v] h rfl rfl rfl
/-- the answer of a special method of the object alone -/
def rDu (g : Gi) (gG : G) (call : Cl) (EE : XK) (d : Du) : List V → Hp → VK → Prop := fun xs H Q => ∃ w h kk fs x, RR g w h H ∧ RV g w h.nx (.ins kk fs) x ∧ xs = [x] ∧ Post g w h.nx (match gG.dmt kk d with
  | some f => (noexc (call.pr f [.ins kk fs] h)).bind fun v h => dunR d v h
  | none => .stuck) EE (PV g Q)
theorem inst_of {w : Wd} {h : AH} {H : Hp} {pins : List (Addr × Obj)} {σ : L2.St} {s : Shared} (I : Inv X pins σ H s) (rr : RR g w h H) {kk : Nat} {fs : List (Nat × D)} {x : V} (rv : RV g w h.nx (.ins kk fs) x) : ∃ a ox od, x = .ref a ∧ PySem.W.InstAt s.heap a ox (g.cb kk) od ∧ ox.data = .plain := by
  obtain ⟨oa, dx, gs, rfl, f1, f2, f3⟩ := rv_ins rv
  obtain ⟨ox, od, J, hd⟩ := StX.insC_at I (.inr ⟨dx, gs, rr.sub _ _ f1⟩)
  exact ⟨oa, ox, od, rfl, J, hd⟩
theorem call_lenO {gG : G} {call' : Cl} {EE : XK} (G : GX g true k X) (D' : DuOk X g gG call' k .len "__len__" 1) : CallR X (.builtin "len") (rDu g gG call' EE .len) := by
  intro pins s σ H xs us Q I r ⟨w, h, kk, fs, x, rr, rv, ex, q⟩
  subst ex
  obtain ⟨u, rfl, ru⟩ := r.one
  obtain ⟨oa, ox, od, rfl, J, hd⟩ := inst_of I rr rv
  obtain rfl : u = Value.ref oa := ru
  cases hm : gG.dmt kk .len with
  | none => rw [hm] at q; exact q.elim
  | some f =>
    rw [hm] at q
    dsimp only at q
    obtain ⟨h1, h2, hF, hb, hl⟩ := D'.ok kk f hm
    obtain ⟨m, hFr⟩ := I.fr
    rcases hF with hF | ⟨n, rfl, F⟩
    · rw [hF] at q; exact q.elim
    · refine PySem.W.len_K hFr I.ok.mod.kin J h1 h2 (wpAny_mono (run_low (Q := fun v H' => ∃ i : Int, v = .int i ∧ (0 ≤ i ∧ i < 2 ^ 63) ∧ Q (.int i) H') F (roomG_in1 G.room) (I.ok.hd (G.calm rfl)) I.env0.in1 I (by rw [hl]; rfl) (kb_one hb (G.K ▸ I.kIn)) (Paired.cons (show RelV (V.ref oa) (Value.ref oa) from rfl) Paired.nil) ⟨w, [.ins kk fs], h, rr, RVs.mk rv RVs.nil, ?_⟩) (fun v s' hv => ?_) fun _ _ y => y)
      · refine (Post.noexc (q.bind)).mono fun w1 h1 H1 dd _ rr1 q1 v rv1 => ?_
        cases dd with
        | int i =>
          obtain ⟨hi, q2⟩ := if_ok q1
          obtain rfl := rv_int.mp rv1
          exact ⟨i, rfl, ⟨hi.1, by omega⟩, pv_now q2 rr1 rv1⟩
        | _ => exact q1.elim
      · obtain ⟨v0, H', I', rv0, i, rfl, hi, qi⟩ := hv
        obtain ⟨t, rfl⟩ := (show ∃ t, v = Value.int i t from rv0)
        exact ⟨hi, .int i, H', I'.tok _, ⟨_, rfl⟩, qi⟩
theorem call_reprO {gG : G} {call' : Cl} {EE : XK} (G : GX g true k X) (D' : DuOk X g gG call' k .repr "__repr__" 1) : CallR X (.builtin "repr") (rDu g gG call' EE .repr) := by
  intro pins s σ H xs us Q I r ⟨w, h, kk, fs, x, rr, rv, ex, q⟩
  subst ex
  obtain ⟨u, rfl, ru⟩ := r.one
  obtain ⟨oa, ox, od, rfl, J, hd⟩ := inst_of I rr rv
  obtain rfl : u = Value.ref oa := ru
  cases hm : gG.dmt kk .repr with
  | none => rw [hm] at q; exact q.elim
  | some f =>
    rw [hm] at q
    dsimp only at q
    obtain ⟨h1, h2, hF, hb, hl⟩ := D'.ok kk f hm
    obtain ⟨m, hFr⟩ := I.fr
    rcases hF with hF | ⟨n, rfl, F⟩
    · rw [hF] at q; exact q.elim
    · refine PySem.W.repr_K (by have := G.un; show X.A.units + 1 < cLine; omega) hFr I.ok.mod.kin J h1 h2 (wpAny_mono (run_low (Q := fun v H' => ∃ y : Str, v = .str y ∧ Q (.str y) H') F (roomG_in1 G.room) (I.ok.hd (G.calm rfl)) I.env0.in1 I (by rw [hl]; rfl) (kb_one hb (G.K ▸ I.kIn)) (Paired.cons (show RelV (V.ref oa) (Value.ref oa) from rfl) Paired.nil) ⟨w, [.ins kk fs], h, rr, RVs.mk rv RVs.nil, ?_⟩) (fun v s' hv => ?_) fun _ _ y => y)
      · refine (Post.noexc (q.bind)).mono fun w1 h1 H1 dd _ rr1 q1 v rv1 => ?_
        cases dd with
        | str y =>
          obtain ⟨rfl, ho⟩ := rv_str.mp rv1
          exact ⟨_, rfl, pv_now (show Post g w1 h1.nx (.ok (.str y) h1) EE (PV g Q) from q1) rr1 rv1⟩
        | _ => exact q1.elim
      · obtain ⟨v0, H', I', rv0, y, rfl, qy⟩ := hv
        obtain ⟨t, rfl⟩ := (show ∃ t, v = Value.str y t from rv0)
        exact ⟨.str y, H', I', ⟨t, rfl⟩, qy⟩
/-- len(o), repr(o) -/
theorem ev_du1 {gG : G} {call' : Cl} (G : GX g true k X) {dk : Du} {nm : Str} (hC : ∀ EE, CallR X (.builtin (if dk = .len then "len" else "repr")) (rDu g gG call' EE dk)) (hd : (dk = .len ∧ nm = "len") ∨ (dk = .repr ∧ nm = "repr")) (hg : Gl X nm) (hm : X.mg nm = none) (hn : nst a = true) (ha : EV X g E a ra) :
    EV X g E (.Call (.Name nm p1) [a] [] pos) (fun env h => (ra env h).bind fun x h => match x with
    | .ins kk fs => (match gG.dmt kk dk with
      | some f => (noexc (call'.pr f [.ins kk fs] h)).bind fun v h => dunR dk v h
      | none => .stuck)
    | _ => .stuck) := by
  refine EV.of G (PE.mk fun pins s σ H Q I ⟨w, env, h, rr, re, q⟩ => ?_) fun _ => rfl
  have hA : PA X [a] (tCons (tE g E ra) tNil) := pa_cons ha.pe pa_nil (nst_ok hn [] X.env)
  have hR : tCB (rDu g gG call' (E σ) dk) (tCons (tE g E ra) tNil) σ H Q := by
    refine tE.step q rr re rfl fun w1 h1 H1 x v ext rr1 re1 rv q1 => ?_
    cases x with
    | ins kk fs => exact ⟨w1, h1, kk, fs, v, rr1, rv, rfl, q1⟩
    | _ => exact q1.elim
  rcases hd with ⟨rfl, rfl⟩ | ⟨rfl, rfl⟩
  · exact (pe_callB (hC (E σ)) hg hm (by decide +kernel) hA (by decide +kernel) (by decide +kernel) (nst_ok hn [] X.env)).run pins s σ H Q I hR
  · exact (pe_callB (hC (E σ)) hg hm (by decide +kernel) hA (by decide +kernel) (by decide +kernel) (nst_ok hn [] X.env)).run pins s σ H Q I hR
end
end Rk

set_option maxHeartbeats 1000000
/-! Rk.Cg: == and != by an own __eq__; f-strings. -/
namespace Rk
open PySem PySem.Spec PyProof.Rows L2 PySem.Calls
section
variable {prog : Program} {w : World} {A : Around} {EE : Value → Shared → Prop} {s : Shared} {K : PySem.W.Frag} {x C f : Addr} {ox : Obj} {od : Option Obj} {b tb : Value}
/-- a comparison whose left side answers -/
theorem cmp_left {op : CmpOp} {Q : Value → Shared → Prop} (hu : A.units < cLine) (inK : K.In s.heap) (J : PySem.W.InstAt s.heap x ox C od) (tyb : PySem.W.Looks (model prog w) s.heap (typeOf b) tb) (nf : PySem.W.notFirst K C tb = true)
    (ask : wpAny (model prog w) A (tryCompare (.ref x) (cmpInfo op).2.1 b) (fun o s' => ∃ v, o = some v ∧ Q v s') EE s) : wpAny (model prog w) A (richCompare op (.ref x) b) Q EE s := by
  unfold richCompare
  simp only [oneThing_ref]
  apply wpAny_holding
  apply wpAny_bind
  apply wpAny_cRoomFor hu
  apply wpAny_bind
  apply J.type.here
  apply wpAny_bind
  apply tyb.here
  by_cases same : tb = .ref C
  · subst same
    simp only [bne_self_eq_false, Bool.false_eq_true, if_false]
    refine wpAny_bind (wpAny_pure ?_)
    simp only [Bool.false_eq_true, if_false]
    refine wpAny_bind (wpAny_mono ask (fun o s' h => ?_) fun _ _ h => h)
    obtain ⟨v, rfl, q⟩ := h
    exact wpAny_pure q
  · have sub : PySem.W.subIn K tb (.ref C) = some false := by
      unfold PySem.W.notFirst at nf
      rw [Bool.or_eq_true, beq_iff_eq, beq_iff_eq] at nf
      exact nf.resolve_left same
    have ne : (Value.ref C != tb) = true := by
      rw [bne_iff_ne]
      exact fun z => same z.symm
    simp only [ne, if_true]
    refine wpAny_bind ((PySem.W.looks_subIn inK sub).here ?_)
    simp only [Bool.false_eq_true, if_false]
    refine wpAny_bind (wpAny_mono ask (fun o s' h => ?_) fun _ _ h => h)
    obtain ⟨v, rfl, q⟩ := h
    exact wpAny_pure q
theorem ask_eq {Q : Value → Shared → Prop} (inK : K.In s.heap) (J : PySem.W.InstAt s.heap x ox C od) (hs : PySem.W.findIn K (.ref C) "__eq__" = some (some (.ref f))) (hf : PySem.W.isFn K (.ref f) = true)
    (h : wpAny (model prog w) A (call (.ref f) [.ref x, b]) (fun v s' => ∃ t, v = .bool t ∧ Q (.bool t) s') EE s) : wpAny (model prog w) A (tryCompare (.ref x) (cmpInfo .Eq).2.1 b) (fun o s' => ∃ v, o = some v ∧ Q v s') EE s := by
  unfold tryCompare
  refine wpAny_bind (PySem.W.ifBound_K (name := "__eq__") inK J hs hf (wpAny_mono h (fun v s' hv => ?_) fun _ _ y => y))
  obtain ⟨t, rfl, q⟩ := hv
  exact wpAny_pure ⟨_, rfl, q⟩
/-- object.__ne__ asks __eq__ -/
theorem ask_ne {Q : Value → Shared → Prop} (hu : A.in1.units < cLine) (inK : K.In s.heap) (J : PySem.W.InstAt s.heap x ox C od) (hm : PySem.W.mroIn K C (.type "object") = some true) (hn : PySem.W.findIn K (.ref C) "__ne__" = some (some (.builtin "object.__ne__"))) (hs : PySem.W.findIn K (.ref C) "__eq__" = some (some (.ref f))) (hf : PySem.W.isFn K (.ref f) = true)
    (h : wpAny (model prog w) A.in1 (call (.ref f) [.ref x, b]) (fun v s' => ∃ t, v = .bool t ∧ Q (.bool !t) s') EE s) : wpAny (model prog w) A (tryCompare (.ref x) (cmpInfo .NotEq).2.1 b) (fun o s' => ∃ v, o = some v ∧ Q v s') EE s := by
  have body : wpAny (model prog w) A (call (.builtin "object.__ne__") [.ref x, b]) (fun v s' => ∃ t, v = .bool t ∧ Q (.bool t) s') EE s := by
    refine wpAny_call (codeAny_call_builtin (by decide +kernel) PySem.F.cmpEntry_ne (PySem.W.check_slot (i := "object.__ne__") (owner := "object") (n := "__ne__") PySem.F.cmpKind_ne PySem.F.cmpSplit_ne (J.type.andThen (PySem.W.looks_mroIn inK hm)) (PySem.F.cmpArgs_ne _ _) ?_))
    unfold Builtin.«object.__ne__»
    refine wpAny_bind (m := slotArgs "__ne__" 1 _) (wpAny_pure ?_)
    refine wpAny_bind (m := cRoomFor _ _) (wpAny_cRoomFor hu ?_)
    refine wpAny_bind (m := callSpecialIfBound? (.ref x) (Str.ofString "__eq__") _) (PySem.W.ifBound_K inK J hs hf (wpAny_mono h (fun v s' hv => ?_) fun _ _ y => y))
    obtain ⟨t, rfl, q⟩ := hv
    exact wpAny_pure ⟨_, rfl, q⟩
  unfold tryCompare
  refine wpAny_bind (m := callSpecialIfBound? (.ref x) (Str.ofString "__ne__") [b]) ?_
  simp only [callSpecialIfBound?, bindSpecialIfBound?]
  refine wpAny_holding (wpAny_bind (wpAny_bind (wpAny_bind (J.type.here ((PySem.W.looks_findIn inK hn).here ?_)))))
  refine wpAny_bind (wpAny_askSetting (wpAny_ite ?_))
  have goes : wpAny (model prog w) A (call (.builtin "object.__ne__") ([.ref x] ++ [b]) >>= fun v => pure (some v)) (fun o s' => wpAny (model prog w) A (match o with
    | some .notImplemented | none => pure none
    | some v => pure (some v)) (fun o s' => ∃ v, o = some v ∧ Q v s') EE s') EE s := wpAny_bind (wpAny_mono body (fun v s' hv => by
      obtain ⟨t, rfl, q⟩ := hv
      exact wpAny_pure (wpAny_pure ⟨_, rfl, q⟩)) fun _ _ y => y)
  have bnd : ∀ self, bindSpecial (.builtin "object.__ne__") self = pure (.builtin "object.__ne__", [self]) := PySem.F.slot_object_ne.bind
  split
  · exact wpAny_bind ((PySem.W.Looks.of_pure (bnd _)).here (wpAny_pure (by exact goes)))
  · exact wpAny_tryCatch (wpAny_bind ((PySem.W.Looks.of_pure (bnd _)).here (wpAny_pure (by exact goes))))
end
section
variable {X : Cx} {g : Gi} {z c : Bool} {k : Nat} {E : SX'} {e a b d : Expr} {pos p1 p2 p3 : Pos} {es : List Expr} {ra rb rv : Run D} {rs rk : Run (List D)}
def tys6 : List String := ["NoneType", "bool", "int", "str", "tuple", "list"]
/-- what is known of == -/
structure EqOk (X : Cx) (g : Gi) (gG : G) (call : Cl) (k : Nat) (ne : Bool) : Prop where
  ok : ∀ kk f, gG.dmt kk (if ne then .ne else .eq) = some f → PySem.W.findIn X.K (.ref (g.cb kk)) "__eq__" = some (some (.ref (g.fa f))) ∧ PySem.W.isFn X.K (.ref (g.fa f)) = true ∧ LowF X g call k f ∧ KB g f 2 [] [0, 1] ∧ (g.fps f).length = 2 ∧
    (ne = true → PySem.W.mroIn X.K (g.cb kk) (.type "object") = some true ∧ PySem.W.findIn X.K (.ref (g.cb kk)) "__ne__" = some (some (.builtin "object.__ne__"))) ∧ (∀ t ∈ tys6, PySem.W.notFirst X.K (g.cb kk) (.type t) = true) ∧
    ∀ j, j < g.nc → PySem.W.notFirst X.K (g.cb kk) (.ref (g.cb j)) = true
def eqD (ne : Bool) : Du := if ne then .ne else .eq
def rEqO (g : Gi) (gG : G) (call : Cl) (EE : XK) (ne : Bool) : R2 := fun x y H Q => ∃ w h kk fs e f, RR g w h H ∧ RV g w h.nx (.ins kk fs) x ∧ RV g w h.nx e y ∧ gG.dmt kk (eqD ne) = some f ∧ duArg (eqD ne) [e] = true ∧
  Post g w h.nx (noexc (call.pr f [.ins kk fs, e] h)) EE fun _ _ H' v => ∃ t, v = .bl t ∧ Q (.bl (t != ne)) H'
theorem typ_of {w : Wd} {h : AH} {H : Hp} {pins : List (Addr × Obj)} {σ : L2.St} {s : Shared} {C : Addr} (hK : X.K = g.K) (I : Inv X pins σ H s) (rr : RR g w h H) {e : D} {y : V} {u : Value} (rv : RV g w h.nx e y) (ru : RelV y u) (ne : Bool) (he : duArg (eqD ne) [e] = true) (h1 : ∀ t ∈ tys6, PySem.W.notFirst X.K C (.type t) = true)
    (h2 : ∀ j, j < g.nc → PySem.W.notFirst X.K C (.ref (g.cb j)) = true) : ∃ tb, PySem.W.Looks (model X.prog X.w) s.heap (typeOf u) tb ∧ PySem.W.notFirst X.K C tb = true := by
  have plainly : nins e = true → ∃ tb, PySem.W.Looks (model X.prog X.w) s.heap (typeOf u) tb ∧ PySem.W.notFirst X.K C tb = true := fun hx => by
    obtain ⟨b0, hb0⟩ : ∃ b0, isk e .int = some b0 := by
      clear rv he
      cases e <;> first
        | exact ⟨_, rfl⟩
        | exact absurd hx (by unfold nins; exact Bool.false_ne_true)
    obtain ⟨P, kx, hP, _⟩ := kit_of I ru (tyx_of (kk := .int) (b := b0) hK rr rv hb0)
    refine ⟨_, kx.ty _ _ I.kIn hP, h1 _ ?_⟩
    clear rv he hb0
    cases e <;> first
      | (simp [tyn, tys6]; done)
      | exact absurd hx (by unfold nins; exact Bool.false_ne_true)
  cases e with
  | ins j fs =>
    have nf := h2 j (rv_insc rv)
    · obtain ⟨oa, ox, od, rfl, J, hd⟩ := inst_of I rr rv
      obtain rfl : u = Value.ref oa := ru
      exact ⟨_, J.type, nf⟩
  | _ => exact plainly (by cases ne <;> exact he)
theorem op_eqo {gG : G} {call' : Cl} {EE : XK} (G : GX g true k X) {ne : Bool} (D' : EqOk X g gG call' k ne) : OpR X (compareOp (if ne then .NotEq else .Eq)) (rEqO g gG call' EE ne) := by
  intro pins s σ H x y v u Q I rx ry ⟨w, h, kk, fs, e, f, rr, rvx, rvy, hm, hda, q⟩
  obtain ⟨oa, ox, od, rfl, J, hd⟩ := inst_of I rr rvx
  obtain rfl : v = Value.ref oa := rx
  obtain ⟨h1, h2, hF, hb, hl, h3, h4, h5⟩ := D'.ok kk f hm
  obtain ⟨tb, ty, nf⟩ := typ_of G.K I rr rvy ry ne hda h4 h5
  rcases hF with hF | ⟨n, rfl, F⟩
  · rw [hF] at q; exact q.elim
  have un : X.A.units < cLine := by have := G.un; omega
  have un1 : X.A.in1.units < cLine := by have := G.un; show X.A.units + 1 < cLine; omega
  have rvs : RVs g w h.nx [.ins kk fs, e] [.ref oa, y] := RVs.mk rvx (RVs.mk rvy RVs.nil)
  have vals : Vals [V.ref oa, y] [Value.ref oa, u] := Paired.cons (show RelV (V.ref oa) (Value.ref oa) from rfl) (Paired.cons ry Paired.nil)
  cases ne with
  | false =>
    show wpAny (model X.prog X.w) X.A (richCompare .Eq (.ref oa) u) (EP X pins σ Q) X.xe s
    refine cmp_left un I.kIn J ty nf (ask_eq I.kIn J h1 h2 (wpAny_mono (run_low (Q := fun v H' => ∃ t, v = .bl t ∧ Q (.bl t) H') F (G.room.mono (by omega)) (I.ok.hd (G.calm rfl)) I.env0 I (by rw [hl]; rfl) (kb_two hb (G.K ▸ I.kIn)) vals ⟨w, _, h, rr, rvs, ?_⟩) (fun v s' hv => ?_) fun _ _ y => y))
    · exact (Post.noexc q).mono fun w1 h1 H1 dd _ rr1 ⟨t, et, qt⟩ v rv1 => by
        subst et
        rw [rv_bl.mp rv1]
        exact ⟨t, rfl, by rw [Bool.bne_false] at qt; exact qt⟩
    · obtain ⟨v0, H', I', rv0, t, rfl, qt⟩ := hv
      obtain rfl : v = Value.bool t := rv0
      exact ⟨t, rfl, .bl t, H', I', rfl, qt⟩
  | true =>
    show wpAny (model X.prog X.w) X.A (richCompare .NotEq (.ref oa) u) (EP X pins σ Q) X.xe s
    obtain ⟨hmro, hne⟩ := h3 rfl
    refine cmp_left un I.kIn J ty nf (ask_ne un1 I.kIn J hmro hne h1 h2 (wpAny_mono (run_low (Q := fun v H' => ∃ t, v = .bl t ∧ Q (.bl !t) H') F (roomG_in1 G.room) (I.ok.hd (G.calm rfl)) I.env0.in1 I (by rw [hl]; rfl) (kb_two hb (G.K ▸ I.kIn)) vals ⟨w, _, h, rr, rvs, ?_⟩) (fun v s' hv => ?_) fun _ _ y => y))
    · exact (Post.noexc q).mono fun w1 h1 H1 dd _ rr1 ⟨t, et, qt⟩ v rv1 => by
        subst et
        rw [rv_bl.mp rv1]
        exact ⟨t, rfl, by rw [Bool.bne_true] at qt; exact qt⟩
    · obtain ⟨v0, H', I', rv0, t, rfl, qt⟩ := hv
      obtain rfl : v = Value.bool t := rv0
      exact ⟨t, rfl, .bl !t, H', I', rfl, qt⟩
def eqoR (gG : G) (call : Cl) (ne : Bool) (ra rb : Run D) : Run D := fun env h => (ra env h).bind fun x h => match x with
    | .ins k fs => (match gG.dmt k (eqD ne) with
      | some f => ((rb env h).bind fun y h => .ok [y] h).bind fun l h => if duArg (eqD ne) l then (noexc (call.pr f (.ins k fs :: l) h)).bind fun v h => dunR (eqD ne) v h else .stuck
      | none => .stuck)
    | _ => .stuck
theorem dunR_eq {ne t : Bool} {h : AH} : dunR (eqD ne) (.bl t) h = .ok (.bl (t != ne)) h := by cases ne <;> cases t <;> rfl
theorem dunR_no {ne : Bool} {v : D} {h : AH} (hv : ∀ t, v ≠ .bl t) : dunR (eqD ne) v h = .stuck := by
  cases v with
  | bl t => exact absurd rfl (hv t)
  | _ => cases ne <;> rfl
theorem isbl (v : D) : (∃ t, v = .bl t) ∨ ∀ t, v ≠ .bl t := by
  cases v with
  | bl t => exact .inl ⟨t, rfl⟩
  | _ => exact .inr fun _ z => nomatch z
/-- a == b, a != b, a an instance -/
theorem ev_eqo {gG : G} {call' : Cl} (G : GX g true k X) {ne : Bool} (D' : EqOk X g gG call' k ne) (ha : EV X g E a ra) (hb : EV X g E b rb) (hm : behindInMarks (if ne then .NotEq else .Eq) b = false) :
    EV X g E (.Compare a [if ne then .NotEq else .Eq] [b] pos) (eqoR gG call' ne ra rb) := by
  refine ⟨(PE.mk fun pins s σ H Q I ⟨w, env, h, rr, re, q⟩ => ?_), PT.mk fun pins s σ H Q I ⟨w, env, h, rr, re, q⟩ => ?_⟩
  · refine (pe_cmpR (op_eqo (EE := E σ) G D') ha.pe hb.pe hm).run pins s σ H Q I ?_
    unfold eqoR at q
    refine tE.step q rr re rfl fun w1 h1 H1 x v ext rr1 re1 rv q1 => ?_
    cases x with
    | ins kk fs =>
      dsimp only at q1
      cases hd : gG.dmt kk (eqD ne) with
      | none => rw [hd] at q1; exact q1.elim
      | some f =>
        rw [hd] at q1
        dsimp only at q1
        rw [bind_assoc] at q1
        refine tE.step q1 rr1 re1 rfl fun w2 h2 H2 y u ext2 rr2 re2 rv2 q2 => ?_
        rw [bind_ok] at q2
        obtain ⟨hda, q2⟩ := if_ok q2
        refine ⟨w2, h2, kk, fs, y, f, rr2, rv.ext ext2 _ _, rv2, hd, hda, q2.bind.mono fun w3 h3 H3 v3 _ rr3 q3 => ?_⟩
        rcases isbl v3 with ⟨t, rfl⟩ | no
        · rw [dunR_eq] at q3
          exact ⟨t, rfl, pv_now q3 rr3 (rv_bl.mpr rfl)⟩
        · rw [dunR_no no] at q3; exact q3.elim
    | _ => exact q1.elim
  · refine (pt_cmpR (op_eqo (EE := E σ) G D') ha.pe hb.pe hm).run pins s σ H Q I ?_
    unfold runT eqoR at q
    rw [bind_assoc] at q
    refine tE.step q rr re rfl fun w1 h1 H1 x v ext rr1 re1 rv q1 => ?_
    cases x with
    | ins kk fs =>
      dsimp only at q1
      cases hd : gG.dmt kk (eqD ne) with
      | none => rw [hd] at q1; exact q1.elim
      | some f =>
        rw [hd] at q1
        dsimp only at q1
        rw [bind_assoc, bind_assoc] at q1
        refine tE.step q1 rr1 re1 rfl fun w2 h2 H2 y u ext2 rr2 re2 rv2 q2 => ?_
        rw [bind_ok] at q2
        by_cases hda : duArg (eqD ne) [y] = true
        · rw [if_pos hda, bind_assoc] at q2
          refine ⟨w2, h2, kk, fs, y, f, rr2, rv.ext ext2 _ _, rv2, hd, hda, q2.bind.mono fun w3 h3 H3 v3 _ rr3 q3 => ?_⟩
          rcases isbl v3 with ⟨t, rfl⟩ | no
          · rw [dunR_eq] at q3
            exact ⟨t, rfl, _, rfl, Post.now (show Post g w3 h3.nx (.ok (t != ne) h3) (E σ) (PB Q) from q3) rr3⟩
          · rw [dunR_no no] at q3; exact q3.elim
        · rw [if_neg hda] at q2; exact q2.elim
    | _ => exact q1.elim
end
end Rk

set_option maxHeartbeats 1000000
/-! Rk.Ch: f-strings; new objects filled. -/
namespace Rk
open PySem PySem.Spec PyProof.Rows L2
section
variable {X : Cx} {g : Gi} {z c : Bool} {k : Nat} {E : SX'} {e a b d : Expr} {pos p1 p2 p3 : Pos} {es : List Expr} {ra rb rv : Run D} {rs rk : Run (List D)}
/-- the parts of an f-string behind acc -/
structure FJ (X : Cx) (g : Gi) (E : SX') (l : List Expr) (run : List Nat → Run D) : Prop where
  ex : ∃ ts, PJ X l ts ∧ ∀ (acc : List Nat) (w : Wd) (env : Env) (h : AH) (σ : L2.St) (H : Hp) (Q : VK), okS acc = true → RR g w h H → RE g w h.nx env σ → Post g w h.nx (run acc env h) (E σ) (PV g Q) → tJs ts (stt acc) σ H (fun s H' => Q (.str s) H')
theorem fj_nil : FJ X g E [] (fun acc _ h => .ok (.str acc) h) := ⟨[], .nil, fun acc w env h σ H Q ho rr re q => q.now rr (.str (stt acc)) (rv_str.mpr ⟨rfl, ho⟩)⟩
theorem fmt_step {x : D} {v : V} {w : Wd} {h : AH} {H : Hp} {s : List Nat} (rv : RV g w h.nx x v) (hf : fmtD x = some s) : okS s = true ∧ ((x = .str s ∧ v = .str (stt s)) ∨ ∃ i : Int, v = .int i ∧ i.natAbs.log2 < 1920 ∧ (Str.ofString (toString i)) = stt s) := by
  cases x with
  | str s0 =>
    cases hf
    obtain ⟨rfl, ho⟩ := rv_str.mp rv
    exact ⟨ho, .inl ⟨rfl, rfl⟩⟩
  | int i =>
    have hf : (if 0 ≤ i ∧ i < 1000000000000 then some (TL.numL i.toNat) else none) = some s := hf
    split at hf
    · rename_i hi
      cases hf
      refine ⟨numL_ok _, .inr ⟨i, rv_int.mp rv, ?_, ?_⟩⟩
      · by_cases h0 : i.natAbs = 0
        · rw [h0]; decide
        · refine (Nat.log2_lt h0).mpr (Nat.lt_of_lt_of_le (show i.natAbs < 1000000000000 by omega) ?_)
          exact Nat.le_trans (show 1000000000000 ≤ 2 ^ 40 by decide) (Nat.pow_le_pow_right (by decide) (by decide))
      · have e1 : (toString i : String) = toString ((i.toNat : Nat) : Int) := by rw [Int.toNat_of_nonneg hi.1]
        rw [e1]
        exact SX.num_S _
    · cases hf
  | _ => cases hf
def fmtR (ra : Run D) (rr : List Nat → Run D) : List Nat → Run D := fun acc env h => (ra env h).bind fun x h => match fmtD x with
    | some s => if (acc ++ s).length ≤ line then rr (acc ++ s) env h else .stuck
    | none => .stuck
theorem fj_step {rr' : List Nat → Run D} {acc : List Nat} {w : Wd} {env : Env} {h : AH} {σ : L2.St} {H : Hp} {Q : VK} {R : V → Hp → Prop} (rr : RR g w h H) (re : RE g w h.nx env σ) (ho : okS acc = true)
    (q : Post g w h.nx (fmtR ra rr' acc env h) (E σ) (PV g Q))
    (hR : ∀ w1 h1 H1 x v s, RR g w1 h1 H1 → RE g w1 h1.nx env σ → RV g w1 h1.nx x v → fmtD x = some s → (acc ++ s).length ≤ line → okS (acc ++ s) = true → Post g w1 h1.nx (rr' (acc ++ s) env h1) (E σ) (PV g Q) → R v H1) : tE g E ra σ H R := by
  unfold fmtR at q
  refine tE.step q rr re rfl fun w1 h1 H1 x v ext rr1 re1 rv q1 => ?_
  cases hf : fmtD x with
  | none => rw [hf] at q1; exact q1.elim
  | some s =>
    rw [hf] at q1
    obtain ⟨hl, q2⟩ := if_ok q1
    exact hR w1 h1 H1 x v s rr1 re1 rv hf hl (okS_app ho (fmt_step (H := H1) rv hf).1) q2
/-- a written part -/
theorem fj_cst {l : List Expr} {rr' : List Nat → Run D} {s0 : Str} {j : Nat} (hs : okS s0.cps.toList = true) (G : GX g c k X) (h : FJ X g E l rr') : FJ X g E (.Constant (.str s0) j pos :: l) (fmtR (fun _ h => .ok (.str s0.cps.toList) h) rr') := by
  obtain ⟨ts, pj, hh⟩ := h.ex
  have ev : EV X g E (.Constant (.str s0) j pos) (fun _ h => .ok (.str s0.cps.toList) h) := ev_cst G (by show (if okS s0.cps.toList then some (D.str s0.cps.toList) else none) = _; rw [if_pos hs])
  refine ⟨_, .cons ev.pe pj, fun acc w env h σ H Q ho rr re q => ?_⟩
  unfold fmtR at q
  rw [bind_ok] at q
  have q : Post g w h.nx (if (acc ++ s0.cps.toList).length ≤ line then rr' (acc ++ s0.cps.toList) env h else .stuck) (E σ) (PV g Q) := q
  obtain ⟨hl, q2⟩ := if_ok q
  refine ⟨w, env, h, rr, re, fun w1 H1 x1 rr1 v rv => ?_⟩
  obtain ⟨rfl, _⟩ := rv_str.mp rv
  refine ⟨_, rfl, ?_, ?_⟩
  · rw [stt_app, stt_len, sizeL]; exact hl
  · rw [stt_app]
    exact hh _ w1 env h σ H1 Q (okS_app ho hs) rr1 (re.ext x1) (Post.up x1 q2)
/-- {e} -/
theorem fj_fmt {l : List Expr} {rr' : List Nat → Run D} (ha : EV X g E a ra) (h : FJ X g E l rr') : FJ X g E (.FormattedValue a (-1) none pos :: l) (fmtR ra rr') := by
  obtain ⟨ts, pj, hh⟩ := h.ex
  refine ⟨_, .cons (pe_fmt ha.pe) pj, fun acc w env h σ H Q ho rr re q => ?_⟩
  refine fj_step rr re ho q fun w1 h1 H1 x v s rr1 re1 rv hf hl ho2 q1 => ?_
  have lz : (stt acc ++ stt s).length ≤ sizeLine := by rw [stt_app, stt_len, sizeL]; exact hl
  have ls : (stt s).length ≤ sizeLine := by
    rw [stt_len, sizeL]
    rw [List.length_append] at hl
    omega
  have go : tJs ts (stt acc ++ stt s) σ H1 (fun s H' => Q (.str s) H') := by
    rw [stt_app]
    exact hh _ w1 env h1 σ H1 Q ho2 rr1 re1 q1
  rcases (fmt_step (H := H1) rv hf).2 with ⟨_, rfl⟩ | ⟨i, rfl, hi, es⟩
  · exact .inl ⟨stt s, rfl, ls, stt s, rfl, lz, go⟩
  · refine .inr ⟨i, rfl, hi, _, rfl, ?_, ?_⟩
    · show (stt acc ++ Str.ofString (toString i)).length ≤ sizeLine
      rw [es]; exact lz
    · show tJs ts (stt acc ++ Str.ofString (toString i)) σ H1 (fun s H' => Q (.str s) H')
      rw [es]; exact go
theorem ev_fst {l : List Expr} {v1 v2 : Expr} {rr' : List Nat → Run D} (G : GX g c k X) (h : FJ X g E (v1 :: v2 :: l) rr') : EV X g E (.JoinedStr (v1 :: v2 :: l) pos) (rr' []) := by
  obtain ⟨ts, pj, hh⟩ := h.ex
  refine EV.of G ((pe_joined pj).imp fun σ H Q ⟨w, env, h, rr, re, q⟩ => ?_) fun _ => rfl
  exact hh [] w env h σ H Q rfl rr re q
end
end Rk

set_option maxHeartbeats 1000000
/-! Rk.Ci: a new object is filled. -/
namespace Rk
open PySem PySem.Spec PyProof.Rows L2
/-- the side without the new object -/
def lessZ (Z : Hp) (x dx : Addr) : Hp := fun a => if a = x ∨ a = dx then none else Z a
section
variable {g : Gi} {w : Wd} {h : AH} {H : Hp} {x dx C : Addr} {gs : List (Str × V)}
theorem lessZ_le {Z : Hp} {x dx a : Addr} {o : HO} (h : lessZ Z x dx a = some o) : Z a = some o ∧ a ≠ x ∧ a ≠ dx := by
  unfold lessZ at h
  split at h
  · cases h
  · rename_i n
    exact ⟨h, fun z => n (.inl z), fun z => n (.inr z)⟩
theorem lessZ_x {Z : Hp} {x dx : Addr} : lessZ Z x dx x = none := if_pos (.inl rfl)
theorem lessZ_dx {Z : Hp} {x dx : Addr} : lessZ Z x dx dx = none := if_pos (.inr rfl)
theorem lessZ_back {Z : Hp} (h1 : Z x = some (.ins C dx gs)) (h2 : Z dx = some (.own x)) (hne : dx ≠ x) : upd (upd (lessZ Z x dx) dx (.own x)) x (.ins C dx gs) = Z := by
  funext a
  by_cases e1 : a = x
  · subst e1; rw [upd_same, h1]
  · rw [upd_ne e1]
    by_cases e2 : a = dx
    · subst e2; rw [upd_same, h2]
    · rw [upd_ne e2]
      exact if_neg fun z => z.elim e1 e2
theorem lessZ_put {Z : Hp} (h2 : Z dx = some (.own x)) (hne : dx ≠ x) {o : HO} : upd Z x o = upd (upd (lessZ Z x dx) dx (.own x)) x o := by
  funext a
  by_cases e1 : a = x
  · subst e1; rw [upd_same, upd_same]
  · rw [upd_ne e1, upd_ne e1]
    by_cases e2 : a = dx
    · subst e2; rw [upd_same, h2]
    · rw [upd_ne e2]
      exact (if_neg fun z => z.elim e1 e2).symm
theorem RR.lessZ {m : Nat → Addr} {F Z Z' : Hp} (r : RR g ⟨m, F, Z⟩ h H) (k : ∀ a o, Z' a = some o → Z a = some o) : RR g ⟨m, F, Z'⟩ h H := by
  have no : ∀ a, Z a = none → Z' a = none := fun a e => by
    cases e2 : Z' a with
    | none => rfl
    | some o => rw [k a o e2] at e; cases e
  refine ⟨r.sub, fun a o e => r.subz a o (k a o e), fun j hj => ?_, r.inj, r.oc, fun p hp => ⟨(r.tabs p hp).nF, no _ (r.tabs p hp).nZ, (r.tabs p hp).tab⟩⟩
  have q := r.cell j hj
  show RC g _ h.nx H (m j) (h.cell j)
  cases ec : h.cell j with
  | no => trivial
  | lst l =>
    rw [ec] at q
    obtain ⟨q1, zs, q2, q3⟩ := q
    exact ⟨⟨q1.1, no _ q1.2⟩, zs, q2, RVs.noZ (w := ⟨m, F, Z⟩) q3⟩
  | ins c fs =>
    rw [ec] at q
    obtain ⟨q1, dx, gs, q4, q2, q5, q3⟩ := q
    exact ⟨⟨q1.1, no _ q1.2⟩, dx, gs, ⟨q4.1, no _ q4.2⟩, q2, q5, RVf.noZ (w := ⟨m, F, Z⟩) q3⟩
  | dct l => rw [ec] at q; exact q
/-- what holds of the new object's world -/
structure NW (g : Gi) (w : Wd) (h : AH) (H : Hp) (kk : Nat) (x dx : Addr) (gs : List (Str × V)) : Prop where
  fx : w.F x = none
  fd : w.F dx = none
  zx : w.Z x = none
  zd : w.Z dx = none
  ne : dx ≠ x
  kc : kk < g.nc
  rr : RR g ⟨w.m, w.F, upd (upd w.Z dx (.own x)) x (.ins (g.cb kk) dx gs)⟩ h H
abbrev inW (g : Gi) (w : Wd) (kk : Nat) (x dx : Addr) (gs : List (Str × V)) : Wd := ⟨w.m, w.F, upd (upd w.Z dx (.own x)) x (.ins (g.cb kk) dx gs)⟩
abbrev outW (w : Wd) (x dx : Addr) : Wd := ⟨w.m, w.F, lessZ w.Z x dx⟩
theorem NW.ext {kk n : Nat} (N : NW g w h H kk x dx gs) : Ext w n (inW g w kk x dx gs) n := ⟨Nat.le_refl _, fun _ _ => rfl, fun _ _ e => e, fun a o e => by
  have e1 : a ≠ x := fun z => by rw [z, N.zx] at e; cases e
  have e2 : a ≠ dx := fun z => by rw [z, N.zd] at e; cases e
  show upd (upd w.Z dx (.own x)) x _ a = some o
  rw [upd_ne e1, upd_ne e2]
  exact e⟩
/-- behind a part's run -/
theorem NW.later {kk n : Nat} (N : NW g w h H kk x dx gs) {w2 : Wd} {h2 : AH} {H2 : Hp} (e : Ext (inW g w kk x dx gs) n w2 h2.nx) (rr : RR g w2 h2 H2) : NW g (outW w2 x dx) h2 H2 kk x dx gs ∧ Ext w n (outW w2 x dx) h2.nx ∧ w2.Z x = some (.ins (g.cb kk) dx gs) ∧ w2.Z dx = some (.own x) := by
  have z1 : w2.Z x = some (.ins (g.cb kk) dx gs) := e.Z x _ (by show upd _ x _ x = _; rw [upd_same])
  have z2 : w2.Z dx = some (.own x) := e.Z dx _ (by show upd (upd _ dx _) x _ dx = _; rw [upd_ne N.ne, upd_same])
  refine ⟨⟨(rr.subz x _ z1).2, (rr.subz dx _ z2).2, lessZ_x, lessZ_dx, N.ne, N.kc, ?_⟩, ⟨e.le, fun k hk => e.m k hk, fun a o q => e.F a o q, fun a o q => ?_⟩, z1, z2⟩
  · show RR g ⟨w2.m, w2.F, upd (upd (lessZ w2.Z x dx) dx (.own x)) x (.ins (g.cb kk) dx gs)⟩ h2 H2
    rw [lessZ_back z1 z2 N.ne]
    exact rr
  · have e1 : a ≠ x := fun z => by rw [z, N.zx] at q; cases q
    have e2 : a ≠ dx := fun z => by rw [z, N.zd] at q; cases q
    show lessZ w2.Z x dx a = some o
    unfold lessZ
    rw [if_neg fun z => z.elim e1 e2]
    exact e.Z a o ((N.ext (n := n)).Z a o q)
theorem RX.out {w2 : Wd} {n : Nat} {y : D} {cls : Value} {d : Option Addr} {H2 : Hp} (r : RX g w2 n y cls d H2) : RX g (outW w2 x dx) n y cls d H2 := by
  obtain ⟨c, fs, dd, gs, h1, h2, h3, h4, h5, h6⟩ := r
  exact ⟨c, fs, dd, gs, h1, h2, h3, h4, RVf.noZ (w := w2) h5, h6⟩
end
/-- a part of an __init__ -/
def tBI (g : Gi) (EE : XK) (kk : Nat) (x dx : Addr) (run : Env → List (Nat × D) → AH → Res (List (Nat × D))) : TS := fun D σ H => ∃ w env h fs gs, NW g w h H kk x dx gs ∧ RE g w h.nx env σ ∧ isMe env = true ∧ RVf g w h.nx fs gs ∧
  Post g w h.nx (run env fs h) EE fun w' h' H' fs' => RV g w' h'.nx (.ins kk fs') (.ref x) → ∀ σ', D.nx σ' H'
section
variable {X : Cx} {g : Gi} {c : Bool} {k kk : Nat} {EE : XK} {x dx : Addr} {e : Expr} {pos p1 p2 : Pos} {run re : Run D} {rs : Run Fl} {rr' : Env → List (Nat × D) → AH → Res (List (Nat × D))} {st : Stmt} {rest : List Stmt}
theorem RE.me {w : Wd} {n : Nat} {env : Env} {σ : L2.St} (r : RE g w n env σ) (hm : isMe env = true) : ∃ x, g.me = some x ∧ σ[0]? = some (some (.ref x)) := by
  cases env with
  | nil => cases hm
  | cons s env =>
    cases s with
    | me =>
      have hi : 0 < σ.length := by rw [← r.len]; exact Nat.succ_pos _
      obtain ⟨x, h1, h2⟩ := r.at' 0 _ _ rfl (List.getElem?_eq_getElem hi)
      exact ⟨x, h1, by rw [List.getElem?_eq_getElem hi, h2]⟩
    | _ => cases hm
theorem bi_nil : PSs X [] (tBI g EE kk x dx fun _ fs h => .ok fs h) := pss_nil.imp fun D σ H ⟨w, env, h, fs, gs, N, re, hm, rf, q⟩ => by
  have r1 := N.rr.sideF (p := x) (o := .ins (g.cb kk) dx gs) (by show upd _ x _ x = _; rw [upd_same])
  have r2 := r1.sideF (p := dx) (o := .own x) (by show (if dx = x then none else upd (upd w.Z dx (.own x)) x (.ins (g.cb kk) dx gs) dx) = _; rw [if_neg N.ne, upd_ne N.ne, upd_same])
  have eZ : (fun a => if a = dx then none else (if a = x then none else upd (upd w.Z dx (.own x)) x (.ins (g.cb kk) dx gs) a)) = w.Z := by
    funext a
    by_cases e1 : a = dx
    · subst e1; rw [if_pos rfl, N.zd]
    · rw [if_neg e1]
      by_cases e2 : a = x
      · subst e2; rw [if_pos rfl, N.zx]
      · rw [if_neg e2, upd_ne e2, upd_ne e1]
  have keep : ∀ a o, w.F a = some o → upd (upd w.F x (.ins (g.cb kk) dx gs)) dx (.own x) a = some o := fun a o e => by
    have e1 : a ≠ x := fun z => by rw [z, N.fx] at e; cases e
    have e2 : a ≠ dx := fun z => by rw [z, N.fd] at e; cases e
    rw [upd_ne e2, upd_ne e1]
    exact e
  have r2 : RR g ⟨w.m, upd (upd w.F x (.ins (g.cb kk) dx gs)) dx (.own x), fun a => if a = dx then none else (if a = x then none else upd (upd w.Z dx (.own x)) x (.ins (g.cb kk) dx gs) a)⟩ h H := r2
  rw [eZ] at r2
  exact q ⟨w.m, upd (upd w.F x (.ins (g.cb kk) dx gs)) dx (.own x), w.Z⟩ H ⟨Nat.le_refl _, fun _ _ => rfl, keep, fun _ _ e => e⟩ r2 (rv_insm N.kc ⟨x, dx, gs, rfl, by show upd (upd w.F x _) dx _ x = _; rw [upd_ne N.ne.symm, upd_same], upd_same, RVf.moreF keep rf⟩) σ
/-- any statement -/
theorem bi_reg (h1 : SV X g (fun cls d _ H => EE cls d H) st rs) (h2 : PSs X rest (tBI g EE kk x dx rr')) : PSs X (st :: rest) (tBI g EE kk x dx fun env fs h => (noexc (rs env h)).bind fun f h => match f with
    | .nx e => if isMe e then rr' e fs h else .stuck
    | .xc x _ => .exc x h
    | _ => .stuck) := by
  refine (pss_cons h1 h2).imp fun D σ H ⟨w, env, h, fs, gs, N, re, hm, rf, q⟩ => ?_
  refine ⟨inW g w kk x dx gs, env, h, N.rr, re.ext N.ext, ?_⟩
  dsimp only at q
  cases hr : rs env h with
  | stuck => rw [hr] at q; exact q.elim
  | exc y h2 => rw [hr] at q; exact q.elim
  | ok f h2 =>
    rw [hr] at q
    intro w2 H2 e2 rr2
    obtain ⟨N2, x2, _, _⟩ := N.later e2 rr2
    cases f with
    | nx env2 =>
      intro σ2 re2
      obtain ⟨hm2, q2⟩ := if_ok (show Post g w h.nx (if isMe env2 = true then rr' env2 fs h2 else .stuck) EE _ from q)
      refine ⟨outW w2 x dx, env2, h2, fs, gs, N2, ⟨re2.len, fun i d o a b => RS.extF (show ExtF w2 h2.nx (outW w2 x dx) h2.nx from ⟨Nat.le_refl _, fun _ _ => rfl, fun _ _ e => e⟩) (re2.at' i d o a b)⟩, hm2, RVf.ext x2 fs gs rf, Post.up x2 q2⟩
    | xc y e =>
      intro σ2 cls d re2 rx
      exact q (outW w2 x dx) H2 cls d x2 (rr2.lessZ fun a o z => (lessZ_le z).1) (RX.out rx)
    | _ => exact q.elim
/-- self.f = e -/
theorem bi_sto (G : GX g c k X) (nmk : NmOk g) {sx : Str} {i : Nat} (hi : i < g.nn) (hx : X.N[0]? = some sx) (hv : Vis X.env.scope sx) (hd : (sx == ("__debug__" : Str)) = false) (hcd : (sx == ("__classdict__" : Str)) = false) (hme : g.me = some x) (cl : Cls X.K (g.cb kk)) (na : NoAttr X.K (g.cb kk) (g.an i)) (he : EV X g (fun _ => EE) e re) (hn : ncp e = true)
    (h2 : PSs X rest (tBI g EE kk x dx rr')) : PSs X (.Assign [.Attribute (.Name sx p1) (g.an i) p2] e pos :: rest) (tBI g EE kk x dx fun env fs h => (re env h).bind fun d h => if fs.length < 900 then rr' env (putN i d fs) h else .stuck) := by
  refine (pss_cons (ps_fld (pe_var hx hv hd hcd) he.pe (ncp_ok hn _ _ _)) h2).imp fun D σ H ⟨w, env, h, fs, gs, N, ren, hm, rf, q⟩ => ?_
  refine ⟨inW g w kk x dx gs, env, h, N.rr, ren.ext N.ext, ?_⟩
  dsimp only at q
  cases hr : re env h with
  | stuck => rw [hr] at q; exact q.elim
  | exc y h2 =>
    rw [hr] at q
    intro w2 H2 cls d e2 rr2 rx
    obtain ⟨N2, x2, _, _⟩ := N.later e2 rr2
    exact q (outW w2 x dx) H2 cls d x2 (rr2.lessZ fun a o z => (lessZ_le z).1) (RX.out rx)
  | ok dd h2 =>
    rw [hr] at q
    intro w2 H2 e2 rr2 y rv
    obtain ⟨N2, x2, z1, z2⟩ := N.later e2 rr2
    obtain ⟨hl, q2⟩ := if_ok (show Post g w h.nx (if fs.length < 900 then rr' env (putN i dd fs) h2 else .stuck) EE _ from q)
    obtain ⟨x', hx', hs⟩ := ren.me hm
    rw [hme] at hx'
    cases hx'
    have rf2 : RVf g (outW w2 x dx) h2.nx fs gs := RVf.ext x2 fs gs rf
    have rv2 : RV g (outW w2 x dx) h2.nx dd y := RV.extF (show ExtF w2 h2.nx (outW w2 x dx) h2.nx from ⟨Nat.le_refl _, fun _ _ => rfl, fun _ _ e => e⟩) _ _ rv
    refine ⟨_, hs, x, g.cb kk, dx, gs, rfl, (rr2.subz x _ z1).1, cl, na, by rw [rf.len]; omega, ?_⟩
    refine ⟨outW w2 x dx, env, h2, putN i dd fs, putF (g.an i) y gs, ⟨N2.fx, N2.fd, N2.zx, N2.zd, N2.ne, N2.kc, ?_⟩, ⟨ren.len, fun j d o a b => RS.extF (show ExtF w h.nx (outW w2 x dx) h2.nx from x2.f) (ren.at' j d o a b)⟩, hm, RVf.put nmk hi rv2 rf2, Post.up x2 q2⟩
    have r3 := rr2.side2 (p := x) (o' := .ins (g.cb kk) dx (putF (g.an i) y gs)) z1
    have r3 : RR g ⟨w2.m, w2.F, upd w2.Z x (.ins (g.cb kk) dx (putF (g.an i) y gs))⟩ h2 (upd H2 x (.ins (g.cb kk) dx (putF (g.an i) y gs))) := r3
    rw [lessZ_put z2 N.ne] at r3
    exact r3
end
end Rk

set_option maxHeartbeats 1000000
/-! Rk.Cj: lists made, given up and cleared. -/
namespace Rk
open PySem PySem.Spec PyProof.Rows L2
section
variable {X : Cx} {g : Gi} {z c : Bool} {k : Nat} {E : SX'} {e a b d : Expr} {pos p1 p2 p3 : Pos} {es : List Expr} {ra : Run D}
/-- a cell that nobody changes from here on -/
theorem ev_frz {kws : List Keyword} (G : GX g c k X) (ha : EV X g E (.Call a es kws pos) ra) : EV X g E (.Call a es kws pos) (fun env h => (ra env h).bind fun x h => frzop x h) := by
  refine EV.of G (ha.pe.imp fun σ H Q ⟨w, env, h, rr, re, q⟩ => ?_) fun _ => rfl
  refine tE.step q rr re rfl fun w1 h1 H1 x v ext rr1 re1 rv q1 => ?_
  unfold frzop at q1
  cases x with
  | ref n =>
    obtain ⟨rfl, hm⟩ := rv_ref.mp rv
    dsimp only at q1
    cases ec : h1.cell n with
    | lst l =>
      rw [ec] at q1
      obtain ⟨xs, q3, r3⟩ := cell_lst rr1 hm ec
      obtain ⟨rr2, x2⟩ := rr1.still hm ec q3
      exact q1 _ _ x2 rr2 _ (rv_lst.mpr ⟨_, xs, rfl, upd_same, r3.ext x2⟩)
    | _ => rw [ec] at q1; exact q1.elim
  | _ => exact q1.elim
/-- list(x), a cell of the heap -/
theorem ev_hlst (G : GX g c k X) (hg : Gl X "list") (hm : X.mg "list" = none) (hn : nst a = true) (ha : EV X g E a ra) : EV X g E (.Call (.Name "list" p1) [a] [] pos) (fun env h => (ra env h).bind fun x h => hlstop x h) := by
  refine EV.of G ((pe_callTy call_list_of hg hm (bboot .list) (pa_cons ha.pe pa_nil (nst_ok hn _ X.env)) (bname_ok .list).1 (bname_ok .list).2 (nst_ok hn _ X.env)).imp fun σ H Q ⟨w, env, h, rr, re, q⟩ => ?_) fun _ => rfl
  refine tE.step q rr re rfl fun w1 h1 H1 x v ext rr1 re1 rv q1 => ?_
  unfold hlstop at q1
  have hK := G.K
  cases x with
  | lst l =>
    obtain ⟨oa, xs, rfl, f1, r1⟩ := rv_lst.mp rv
    refine ⟨_, xs, rfl, .inl (SqL.of (rr1.sub _ _ f1)), fun p hp => ?_⟩
    obtain ⟨r2, x2⟩ := rr1.alloc hp r1
    exact q1 _ _ x2 r2 _ (rv_ref.mpr ⟨by show _ = V.ref (if h1.nx = h1.nx then p else _); rw [if_pos rfl], Nat.lt_succ_self _⟩)
  | tup l =>
    obtain ⟨oa, xs, rfl, f1, r1⟩ := rv_tup.mp rv
    refine ⟨_, xs, rfl, .inr (by rw [hK]; exact SqT.ext rr1.sub f1), fun p hp => ?_⟩
    obtain ⟨r2, x2⟩ := rr1.alloc hp r1
    exact q1 _ _ x2 r2 _ (rv_ref.mpr ⟨by show _ = V.ref (if h1.nx = h1.nx then p else _); rw [if_pos rfl], Nat.lt_succ_self _⟩)
  | _ => exact q1.elim
/-- x.clear() -/
theorem ev_clr (G : GX g c k X) (ha : EV X g E a ra) (hsup : nsuper a = true) (hline : (p3.endLine == pos.line) = true) : EV X g E (.Call (.Attribute a "clear" p3) [] [] pos) (fun env h => (ra env h).bind fun x h => clrop x h) := by
  refine EV.of G ((pe_bm0 F.plainAttrs_list F.slot_list_clear F.type_list_clear mt_clear ha.pe (nsuper_ok hsup _ _) hline).imp fun σ H Q ⟨w, env, h, rr, re, q⟩ => ?_) fun _ => rfl
  refine tE.step q rr re rfl fun w1 h1 H1 x v ext rr1 re1 rv q1 => ?_
  unfold clrop at q1
  cases x with
  | ref n =>
    obtain ⟨rfl, hm⟩ := rv_ref.mp rv
    dsimp only at q1
    cases ec : h1.cell n with
    | lst l =>
      rw [ec] at q1
      obtain ⟨xs, q3, r3⟩ := cell_lst rr1 hm ec
      exact ⟨.inl ⟨rfl, xs, SqL.of q3⟩, _, xs, rfl, rfl, q3, q1 w1 _ (Ext.refl _ _) (rr1.store hm ec RVs.nil) _ (rv_non.mpr rfl)⟩
    | _ => rw [ec] at q1; exact q1.elim
  | _ => exact q1.elim
/-- the call's node where the callee is an instance, with keywords -/
theorem callO_ofk {M : Model} {A : Around} {E : Value → Shared → Prop} {s : Shared} {a : Addr} {pos : Pos} {Q : Value → Shared → Prop} {args : List (Bool × Sem Value)} {kws : List (Option Str × Sem Value)} (hplain : (args.any (·.1) || kws.any (·.1.isNone)) = false)
    (h : wpAny M A (evalArgs (.ref a) true args kws) (fun z s₁ => (∃ C ox od, PySem.W.InstAt s₁.heap a ox C od ∧ ox.data = .plain) ∧ wpAny M A (call (.ref a) ([] ++ z.pos) z.kw) Q E s₁) E s) : wpAny M A (callWith pos (.ref a) [] args kws) Q E s := by
  unfold callWith
  refine wpAny_bind (wpAny_holding (wpAny_mono h (fun z s₁ h₁ => wpAny_bind (wpAny_standAt ?_)) fun _ _ y => y))
  obtain ⟨⟨C, ox, od, J, hd⟩, h₁⟩ := h₁
  have L := PySem.W.kco_keeper (M := M) J hd
  simp only [hplain]
  refine wpAny_bind (L.here ?_)
  have tail : ∀ {t : Sem Value}, wpAny M A t Q E s₁ → wpAny M A (t >>= fun r => holding [r] point >>= fun _ => pure r) Q E s₁ :=
    fun ht => wpAny_bind (wpAny_mono ht (fun r s₂ hr => wpAny_bind (wpAny_holding (wpAny_point (wpAny_pure hr)))) fun _ _ y => y)
  exact tail (wpAny_operateT h₁)
/-- a callee that is no attribute -/
def callee : Expr → Bool
  | .Name .. => true
  | .Call .. => true
  | _ => false
theorem wpAny_Call_callee {M : Model} {A : Around} {EE : Value → Shared → Prop} {s : Shared} {env : PySem.Env} {f : Expr} {args : List Expr} {kws : List Keyword} {Q : Value → Shared → Prop} (hc : callee f = true)
    (h : wpAny M A (eval f env) (fun fv s₁ => wpAny M A (callWith pos fv [] (backTo pos (starEach args env)) (backToKw pos (keywordEach kws env))) Q EE s₁) EE s) : wpAny M A (eval (.Call f args kws pos) env) Q EE s := by
  cases f with
  | Name id p => exact wpAny_Call_Name_kw h
  | Call f' a' k' p' =>
    have e : eval (.Call (.Call f' a' k' p') args kws pos) env = (do callWith pos (← eval (.Call f' a' k' p') env) [] (backTo pos (starEach args env)) (backToKw pos (keywordEach kws env))) := rfl
    rw [e]
    exact wpAny_bind h
  | _ => cases hc

variable {rs rk : Run (List D)}
/-- written arguments without stars, valued -/
theorem ea_plain (G : GX g c k X) {fv : Value} {kws : List Keyword} {ks : List Str} {pins : List (Addr × Obj)} {σ : L2.St} {H : Hp} {s : Shared} {Q : VK} {QQ : Args → Shared → Prop} {w : Wd} {env : Env} {h : AH} {f : List D → List D → AH → Res D}
    (hn : nsts es = true) (hk : kwn kws = some ks) (ha : PA X es (tEs g E rs)) (hkw : PK X kws (tEs g E rk)) (h0 : es = [] → ∀ env h, rs env h = .ok [] h) (hl1 : ∀ env h l h', rs env h = .ok l h' → l.length = es.length) (hl2 : ∀ env h l h', rk env h = .ok l h' → l.length = ks.length)
    (I : Inv X pins σ H s) (rr : RR g w h H) (re : RE g w h.nx env σ) (q : Post g w h.nx ((rs env h).bind fun l h => (rk env h).bind fun m h => f l m h) (E σ) (PV g Q))
    (go : ∀ (us ws : List Value) (xs ys : List V) (s2 : Shared) (H2 : Hp) (w2 : Wd) (h2 : AH) (l m : List D), Inv X pins σ H2 s2 → Ext w h.nx w2 h2.nx → RR g w2 h2 H2 → RVs g w2 h2.nx l xs → RVs g w2 h2.nx m ys → Vals xs us → Vals ys ws → us.length = es.length → ws.length = ks.length →
      Post g w2 h2.nx (f l m h2) (E σ) (PV g Q) → QQ ⟨us, ks.zip ws⟩ s2) :
    wpAny (model X.prog X.w) X.A (evalArgs fv true (backTo pos (starEach es X.env)) (backToKw pos (keywordEach kws X.env))) QQ X.xe s := by
  obtain ⟨k1, k2, k3⟩ := kwn_ok (pos := pos) (env := X.env) hk
  have tail : ∀ (us : List Value) (s1 : Shared) (xs : List V) (H1 : Hp), Inv X pins σ H1 s1 → Vals xs us → us.length = es.length → (∃ w1 h1 l, Ext w h.nx w1 h1.nx ∧ RR g w1 h1 H1 ∧ RE g w1 h1.nx env σ ∧ RVs g w1 h1.nx l xs ∧ Post g w1 h1.nx ((rk env h1).bind fun m h => f l m h) (E σ) (PV g Q)) →
      wpAny (model X.prog X.w) X.A (evalAll ((backToKw pos (keywordEach kws X.env)).map (·.2))) (fun ws s₂ => QQ ⟨us, ((backToKw pos (keywordEach kws X.env)).filterMap (·.1)).zip ws⟩ s₂) X.xe s1 := by
    rintro us s1 xs H1 I1 v1 hlu ⟨w1, h1, l, x1, rr1, re1, rvs, q1⟩
    cases hrk : rk env h1 with
    | stuck => rw [hrk] at q1; exact q1.elim
    | _ =>
      refine thn (hkw.run pos pins s1 σ H1 (fun ys H2 => ys.length = ks.length ∧ ∃ w2 h2 m, Ext w h.nx w2 h2.nx ∧ RR g w2 h2 H2 ∧ RVs g w2 h2.nx l xs ∧ RVs g w2 h2.nx m ys ∧ Post g w2 h2.nx (f l m h2) (E σ) (PV g Q)) I1 ?_) fun ws s2 ⟨ys, H2, I2, v2, e2, w2, h2, m, x2, rr2, r1, r2, q2⟩ => ?_
      · refine ⟨w1, env, h1, rr1, re1, ?_⟩
        have q1 := q1.bind
        cases hrk : rk env h1 with
        | ok m h2 =>
          rw [hrk] at q1
          exact fun w2 H2 ext rr2 ys rv => ⟨by rw [rv.length]; exact hl2 _ _ _ _ hrk, w2, h2, m, x1.trans ext, rr2, rvs.ext ext, rv, q1 w2 H2 ext rr2⟩
        | exc x h2 => rw [hrk] at q1; exact q1
        | stuck => rw [hrk] at q1; exact q1
      · rw [k2]
        exact go us ws xs ys s2 H2 w2 h2 l m I2 x2 rr2 r1 r2 v1 v2 hlu (by rw [← v2.length]; exact e2) q2
  cases es with
  | nil =>
    rw [h0 rfl, bind_ok] at q
    exact evalArgs_kw2_nil k1 (tail [] s [] H I .nil rfl ⟨w, h, [], Ext.refl _ _, rr, re, RVs.nil, q⟩)
  | cons e es =>
    have hn1 : nst e = true := by unfold nsts at hn; rw [List.all_cons, Bool.and_eq_true] at hn; exact hn.1
    refine evalArgs_kw2 k1 (thn (ha.run pos pins s σ H (fun xs H1 => xs.length = (e :: es).length ∧ ∃ w1 h1 l, Ext w h.nx w1 h1.nx ∧ RR g w1 h1 H1 ∧ RE g w1 h1.nx env σ ∧ RVs g w1 h1.nx l xs ∧ Post g w1 h1.nx ((rk env h1).bind fun m h => f l m h) (E σ) (PV g Q)) I ⟨w, env, h, rr, re, ?_⟩) fun us s1 ⟨xs, H1, I1, v1, e1, q1⟩ => tail us s1 xs H1 I1 v1 (by rw [← v1.length]; exact e1) q1) (nst_ok hn1 _ _)
    have q0 := q.bind
    cases hr : rs env h with
    | ok l h1 =>
      rw [hr] at q0
      exact fun w1 H1 ext rr1 xs rv => ⟨by rw [rv.length]; exact hl1 _ _ _ _ hr, w1, h1, l, ext, rr1, re.ext ext, rv, q0 w1 H1 ext rr1⟩
    | exc x h1 => rw [hr] at q0; exact q0
    | stuck => rw [hr] at q0; exact q0
/-- o(a, .., k = b, ..), o an expression that yields an instance -/
theorem ev_cao2 {gG : G} {call' : Cl} {kws : List Keyword} {ks : List Str} (G : GX g c k X) {sel : List Nat} (M : CaOk X g gG call' c k es.length ks sel) (tk : Takes X (fun cls d σ H => E σ cls d H)) (hcal : callee a = true) (hn : nsts es = true) (hk : kwn kws = some ks)
    (ha : EV X g E a ra) (hb : PA X es (tEs g E rs)) (hkw : PK X kws (tEs g E rk)) (h0 : es = [] → ∀ env h, rs env h = .ok [] h) (hl1 : ∀ env h l h', rs env h = .ok l h' → l.length = es.length) (hl2 : ∀ env h l h', rk env h = .ok l h' → l.length = ks.length) :
    EV X g E (.Call a es kws pos) (fun env h => (ra env h).bind fun x h => match x with
    | .ins kk fs => (match gG.dmt kk .call with
      | some f => (rs env h).bind fun l h => (rk env h).bind fun r h => (match pick sel (.ins kk fs :: l ++ r ++ gG.dfl f) with
        | some vs => call'.f c f vs h
        | none => .stuck)
      | none => .stuck)
    | _ => .stuck) := by
  obtain ⟨k1, k2, k3⟩ := kwn_ok (pos := pos) (env := X.env) hk
  have hpl : ((backTo pos (starEach es X.env)).any (·.1) || (backToKw pos (keywordEach kws X.env)).any (·.1.isNone)) = false := by rw [nsts_any hn, k3]; rfl
  refine EV.of G (PE.mk fun pins s σ H Q I ⟨w, env, h, rr, re, q⟩ => ?_) fun _ => rfl
  refine wpAny_Call_callee hcal (thn (ha.pe.run pins s σ H (fun x H1 => ∃ w1 h1 dd, RR g w1 h1 H1 ∧ RE g w1 h1.nx env σ ∧ RV g w1 h1.nx dd x ∧ Post g w1 h1.nx (match dd with
    | .ins kk fs => (match gG.dmt kk .call with
      | some f => (rs env h1).bind fun l h => (rk env h).bind fun r h => (match pick sel (.ins kk fs :: l ++ r ++ gG.dfl f) with
        | some vs => call'.f c f vs h
        | none => .stuck)
      | none => .stuck)
    | _ => .stuck) (E σ) (PV g Q)) I ?_) fun u s1 ⟨x, H1, I1, rx, w1, h1, dd, rr1, re1, rv, q1⟩ => ?_)
  · exact tE.step q rr re rfl fun w1 h1 H1 x v ext rr1 re1 rv q1 => ⟨w1, h1, x, rr1, re1, rv, q1⟩
  · cases dd with
    | ins kk fs =>
      obtain ⟨oa, dx, gs, rfl, f1, f2, f3⟩ := rv_ins rv
      obtain rfl : u = Value.ref oa := rx
      dsimp only at q1
      cases hm : gG.dmt kk .call with
      | none => rw [hm] at q1; exact q1.elim
      | some f =>
        rw [hm] at q1
        dsimp only at q1
        obtain ⟨co, F, hkb, hps, hdf⟩ := M.ok kk f hm
        refine callO_ofk hpl (ea_plain G hn hk hb hkw h0 hl1 hl2 I1 rr1 re1 q1 fun us ws xs ys s2 H2 w2 h2 l r I2 ext rr2 r1 r2 v1 v2 e1 e2 q2 => ?_)
        have ro := rv.ext ext _ _
        obtain ⟨oa', dx2, gs2, ea, f4, f5, f6⟩ := rv_ins ro
        cases ea
        obtain ⟨ox, od, J, hd⟩ := StX.insC_at I2 (.inr ⟨dx2, gs2, rr2.sub _ _ f4⟩)
        refine ⟨⟨_, ox, od, J, hd⟩, ?_⟩
        rw [List.nil_append]
        cases hp : pick sel (.ins kk fs :: l ++ r ++ gG.dfl f) with
        | none => rw [hp] at q2; exact q2.elim
        | some vs =>
          rw [hp] at q2
          obtain ⟨ds, vd, hbind⟩ := hkb.bind
          obtain ⟨zs, hz, rz⟩ := pick_rvs (((RVs.mk ro r1).append r2).append (hdf w2 h2.nx)) hp
          obtain ⟨bs, hbs, rb⟩ := pick_paired (vals_app (vals_app (Paired.cons (show RelV (V.ref oa) (Value.ref oa) from rfl) v1) v2) vd) hz
          have hlen : ∀ {α : Type} {sel : List Nat} {l : List α} {r : List α}, pick sel l = some r → r.length = sel.length := by
            intro α sel
            induction sel with
            | nil => intro l r h; cases h; rfl
            | cons i sel ih =>
              intro l r h
              unfold pick at h
              split at h
              · rename_i d s h1 h2
                cases h
                rw [List.length_cons, List.length_cons, ih h2]
              · cases h
          refine wpAny_call (PySem.W.kco_code I2.kIn J hd co.at_ co.fn co.fi (codeAny_mono (F.run X.A X.stack s2 H2 ⟨.ref oa :: us, ks.zip ws⟩ bs zs Q (E σ) G.room (fun hc => I2.ok.hd (G.calm hc)) I2.env0 (by rw [hlen hz, hps]) (hbind s2 (.ref oa :: us) ws bs (G.K ▸ I2.kIn) (by rw [List.length_cons, e1]) e2 hbs) rb ⟨w2, vs, h2, rr2, rz, q2⟩) fun r s' hq => ?_))
          cases r with
          | error e => exact tk e s' (L2.XE.of_call I2 (fun cls d H' h => h) hq)
          | ok fl =>
            cases fl with
            | ret u => exact I2.after hq
            | next => exact False.elim hq
            | brk => exact False.elim hq
            | cont => exact False.elim hq
    | _ => exact q1.elim
end
end Rk

set_option maxHeartbeats 1000000
/-! Rk.K: the same value and the same text. -/
namespace Rk
open PySem PySem.Spec PyProof.Rows L2
def rtx : PyData → Str
  | .none => "None"
  | .bool b => if b then "True" else "False"
  | d => d.shown
def rRp (g : Gi) : List V → Hp → VK → Prop := fun xs H Q => ∃ w h d x m, RR g w h H ∧ RV g w h.nx d x ∧ xs = [x] ∧ wt d = some m ∧ m ≤ 60000 ∧ dpt 60 d = true ∧ Q (.str (rtx (py d))) H
mutual
theorem dsame_eq : ∀ (d e : D), dsame d e = true → d = e
  | .non, e, h => by cases e <;> (unfold dsame at h; first | rfl | cases h)
  | .bl b, e, h => by cases e <;> (unfold dsame at h; first | (rw [beq_iff_eq] at h; rw [h]) | cases h)
  | .int b, e, h => by cases e <;> (unfold dsame at h; first | (rw [beq_iff_eq] at h; rw [h]) | cases h)
  | .str b, e, h => by cases e <;> (unfold dsame at h; first | (rw [beq_iff_eq] at h; rw [h]) | cases h)
  | .tup l, e, h => by
    cases e with
    | tup m => unfold dsame at h; rw [dsames_eq l m h]
    | _ => unfold dsame at h; cases h
  | .lst l, e, h => by
    cases e with
    | lst m => unfold dsame at h; rw [dsames_eq l m h]
    | _ => unfold dsame at h; cases h
  | .ref _, e, h => by cases e <;> (unfold dsame at h; cases h)
  | .ins _ _, e, h => by cases e <;> (unfold dsame at h; cases h)
  | .exc _ _, e, h => by cases e <;> (unfold dsame at h; cases h)
  | .scr _, e, h => by cases e <;> (unfold dsame at h; cases h)
  | .dct _, e, h => by cases e <;> (unfold dsame at h; cases h)
  | .set _, e, h => by cases e <;> (unfold dsame at h; cases h)
theorem dsames_eq : ∀ (l m : List D), dsames l m = true → l = m
  | [], [], _ => rfl
  | [], _ :: _, h => by unfold dsames at h; cases h
  | _ :: _, [], h => by unfold dsames at h; cases h
  | d :: l, e :: m, h => by
    unfold dsames at h
    rw [Bool.and_eq_true] at h
    rw [dsame_eq d e h.1, dsames_eq l m h.2]
end
section
variable {X : Cx} {g : Gi} {c : Bool} {k : Nat} {E : SX'} {e a b d tg iter : Expr} {pos : Pos}
theorem call_repr (G : GX g c k X) : CallR X (.builtin "repr") (rRp g) := by
  intro pins s σ H xs us Q I r h
  obtain ⟨w, h, d, x, m, rr, rv, rfl, hw, hm, hd, q⟩ := h
  obtain ⟨u, rfl, rx⟩ := vals1 r
  obtain ⟨h1, h2, h3, h4⟩ := short_of d m hw (okD_of d x rv)
  have hfit : (py d).shown.length ≤ sizeLine := PyData.shown_fits_bulk (B := 13) (by decide) (by decide) h1 (by omega)
  have hcont : ∀ (a : Addr), u = .ref a → (∀ i, d ≠ .int i) → rtx (py d) = (py d).shown → wpAny (model X.prog X.w) X.A (call (.builtin "repr") [u]) (EP X pins σ Q) X.xe s := fun a hu _ e => by
    obtain ⟨as, rd⟩ := Dp.reads I (py d) x u (by rw [G.K]; exact dp_of rr.sub 60 d x hd rv) rx
    subst hu
    have hdep := (lay_of 60 d x hd rv).2
    refine repr_of_reads' rd h2 (PyData.noDict_hsm h3) G.gd (by have := G.un; omega) (fun _ _ e => e) (fun h' u tk hk => ?_) hfit
    exact ⟨.str (py d).shown, H, I.kept (t' := tk) hk, ⟨u, rfl⟩, e ▸ q⟩
  cases d with
  | non =>
    rw [rv_non.mp rv] at rx
    cases rx
    exact P.repr_of_none ⟨.str (rtx (py .non)), H, I.tok _, ⟨_, by unfold py; rfl⟩, q⟩
  | bl bb =>
    rw [rv_bl.mp rv] at rx
    cases rx
    exact P.repr_of_bool ⟨.str (rtx (py (.bl bb))), H, I.tok _, ⟨_, by unfold py; cases bb <;> rfl⟩, q⟩
  | int i =>
    rw [rv_int.mp rv] at rx
    obtain ⟨t, rfl⟩ := rx
    have hl : i.natAbs.log2 < 1920 := by
      unfold py at h2
      simpa [PyData.showable] using h2
    refine P.repr_of_int hl ⟨.str (rtx (py (.int i))), H, I.tok _, ⟨s.toks, ?_⟩, q⟩
    unfold py
    show Value.str (Str.ofString (toString i)) _ = Value.str (PyData.int i).shown _
    rw [PyData.shown_int]
  | str z =>
    rw [(rv_str.mp rv).1] at rx
    obtain ⟨t, rfl⟩ := rx
    have e : (PyData.str (stt z)).shown = reprText (stt z) := by simp [PyData.shown]
    refine P.repr_of_str ⟨.str (rtx (py (.str z))), H, I.tok _, ⟨s.toks, ?_⟩, q⟩ (by rw [← e]; unfold py at hfit; exact hfit)
    unfold py
    show Value.str (reprText (stt z)) _ = Value.str (PyData.str (stt z)).shown _
    rw [e]
  | tup l =>
    obtain ⟨p, ys, ex, _, _⟩ := rv_tup.mp rv
    rw [ex] at rx
    cases rx
    exact hcont p rfl (fun _ z => nomatch z) (by unfold py; rfl)
  | lst l =>
    obtain ⟨p, ys, ex, _, _⟩ := rv_lst.mp rv
    rw [ex] at rx
    cases rx
    exact hcont p rfl (fun _ z => nomatch z) (by unfold py; rfl)
  | _ => unfold wt at hw; cases hw
theorem boot_repr' : bootBuiltins "repr" = some (.builtin "repr") := by decide +kernel
theorem ev_same (G : GX g c k X) {i j : Nat} {x y : Str} {p1 p2 p3 p4 p5 p6 p7 p8 p9 p10 : Pos} (hi : X.N[i]? = some x) (hj : X.N[j]? = some y) (hx : Vis X.env.scope x) (hy : Vis X.env.scope y) (dx : (x == ("__debug__" : Str)) = false) (cx : (x == ("__classdict__" : Str)) = false) (dy : (y == ("__debug__" : Str)) = false) (cy : (y == ("__classdict__" : Str)) = false)
    (hg : Gl X "repr") (hm : X.mg "repr" = none) :
    EV X g E (.BoolOp .And [.Compare (.Name x p1) [.Eq] [.Name y p2] p3, .Compare (.Call (.Name "repr" p4) [.Name x p5] [] p6) [.Eq] [.Call (.Name "repr" p7) [.Name y p8] [] p9] p10] pos) (fun env h => (ldV env i h).bind fun x h => (ldV env j h).bind fun y h => sameop x y h) := by
  have v1 : ∀ {p : Pos}, PE X (.Name x p) (tVar i) := fun {p} => pe_var hi hx dx cx
  have v2 : ∀ {p : Pos}, PE X (.Name y p) (tVar j) := fun {p} => pe_var hj hy dy cy
  have r1 : PE X (.Call (.Name "repr" p4) [.Name x p5] [] p6) (tCB (rRp g) (tCons (tVar i) tNil)) := pe_callB (call_repr G) hg hm boot_repr' (pa_cons v1 pa_nil)
  have r2 : PE X (.Call (.Name "repr" p7) [.Name y p8] [] p9) (tCB (rRp g) (tCons (tVar j) tNil)) := pe_callB (call_repr G) hg hm boot_repr' (pa_cons v2 pa_nil)
  have c1 : PE X (.Compare (.Name x p1) [.Eq] [.Name y p2] p3) (tOp (rEqD X.K) (tVar i) (tVar j)) := pe_cmpR (op_eqD (by have := G.un; omega)) v1 v2 rfl
  have c2 := pe_cmpR (pos := p10) op_eq r1 r2 rfl
  have c1t := pt_cmpR (pos := p3) (op_eqD (X := X) (by have := G.un; omega)) (v1 (p := p1)) (v2 (p := p2)) rfl
  have c2t := pt_cmpR (pos := p10) op_eq r1 r2 rfl
  have key : ∀ {w : Wd} {env : Env} {h : AH} {σ : L2.St} {H : Hp} {XE : XK} {P : Wd → AH → Hp → D → Prop}, RR g w h H → RE g w h.nx env σ → Post g w h.nx ((ldV env i h).bind fun x h => (ldV env j h).bind fun y h => sameop x y h) XE P →
      ∃ (d : D) (m : Nat) (x1 x2 : V), σ[i]? = some (some x1) ∧ σ[j]? = some (some x2) ∧ RV g w h.nx d x1 ∧ RV g w h.nx d x2 ∧ wt d = some m ∧ m ≤ 60000 ∧ dpt 60 d = true ∧ P w h H (.bl true) := by
    intro w env h σ H XE P rr re q
    unfold ldV at q
    split at q
    · rename_i d1 he1
      rw [bind_ok] at q
      split at q
      · rename_i d2 he2
        rw [bind_ok] at q
        obtain ⟨x1, s1, t1⟩ := re.at_ _ _ he1
        obtain ⟨x2, s2, t2⟩ := re.at_ _ _ he2
        unfold sameop at q
        obtain ⟨hs, q2⟩ := if_ok q
        clear q
        have ep := dsame_eq _ _ hs
        subst ep
        cases hw : wt d1 with
        | none => rw [hw] at q2; exact q2.elim
        | some m =>
          rw [hw] at q2
          obtain ⟨⟨hm1, hd⟩, q3⟩ := if_ok q2
          exact ⟨d1, m, x1, x2, s1, s2, t1, t2, hw, hm1, hd, q3.now rr⟩
      · exact q.elim
    · exact q.elim
  refine ⟨PE.imp (pe_andT c1 (pe_one (pos := pos) c2)) fun σ H Q ⟨w, env, h, rr, re, q⟩ => ?_, (PW.imp' (pw_and c1t (pw_and1 c2t)) fun σ H Q ⟨w, env, h, rr, re, q⟩ => ?_).pt⟩
  · obtain ⟨d, m, x1, x2, s1, s2, t1, t2, hw, hm1, hd, q⟩ := key rr re q
    have hp1 := dp_of rr.sub 60 d x1 hd t1
    have hp2 := dp_of rr.sub 60 d x2 hd t2
    refine ⟨x1, s1, x2, s2, py d, py d, by rw [G.K]; exact hp1, by rw [G.K]; exact hp2, shaped_of hd t1, shaped_of hd t2, true, ?_, iteT ?_⟩
    · rw [eqv_refl' 60 d hd]; exact rfl
    · refine ⟨x1, s1, w, h, d, x1, m, rr, t1, rfl, hw, hm1, hd, x2, s2, w, h, d, x2, m, rr, t2, rfl, hw, hm1, hd, rfl, ?_⟩
      rw [decide_eq_true rfl]
      exact q _ (rv_bl.mpr rfl)
  · have e : runT (fun env h => (ldV env i h).bind fun x h => (ldV env j h).bind fun y h => sameop x y h) env h = ((ldV env i h).bind fun x h => (ldV env j h).bind fun y h => sameop x y h).bind fun x h => lift (truth x) h := rfl
    rw [e] at q
    obtain ⟨d, m, x1, x2, s1, s2, t1, t2, hw, hm1, hd, q⟩ := key rr re q.bind
    have hp1 := dp_of rr.sub 60 d x1 hd t1
    have hp2 := dp_of rr.sub 60 d x2 hd t2
    refine ⟨x1, s1, x2, s2, py d, py d, by rw [G.K]; exact hp1, by rw [G.K]; exact hp2, shaped_of hd t1, shaped_of hd t2, true, by rw [eqv_refl' 60 d hd], iteT ?_⟩
    refine ⟨x1, s1, w, h, d, x1, m, rr, t1, rfl, hw, hm1, hd, x2, s2, w, h, d, x2, m, rr, t2, rfl, hw, hm1, hd, rfl, true, by rw [decide_eq_true rfl], ?_⟩
    exact q.now rr
end
end Rk

set_option maxHeartbeats 2000000
/-! Rk.W: an error class of the program called. -/
namespace Rk
open PySem PySem.Spec PyProof.Rows PySem.W PySem.Calls
open PySem.Builtin PySem.Builtin.ObjectAttr
section
variable {prog : Program} {w : World} {A : Around} {E : Value → Shared → Prop} {R : Result → Shared → Prop} {hp : Heap} {g : Array GenState} {d : Drawn} {t : Nat} {os : OsState}
variable {B : String} {bmB : List Value} {K : PySem.W.Frag} {C x : Addr}
/-- the first field: the dict is made -/
theorem xs_new {name : Str} {tk : Tok} {v : Value} {fv : Array Value} {cd : ClassData} (SF : StoreFacts B bmB "object.__setattr__" "object")
    (X : K.In hp) (hx : hp.get? x = some { cls := .ref C, data := .fields fv }) (ho : excOver K C bmB = true) (ht : takerIn K C name = some none) (hcd : PySem.W.clsIn K C = some cd) (hh : cd.hasDict = true)
    (hq : ∀ h' tk' dx, (∀ b o, b ≠ x → hp.get? b = some o → h'.get? b = some o) → hp.objs.size ≤ dx → dx ≠ x → h'.get? x = some { cls := .ref C, dict := some dx, data := .fields fv } →
      h'.Ns1 dx (fun y => if y = name then some v else none) → R (.ok (.ret .none)) ⟨h', g, d, tk', os⟩) :
    codeAny (model prog w) A (.call (.builtin "object.__setattr__") ⟨[.ref x, .str name tk, v], []⟩) R ⟨hp, g, d, t, os⟩ := by
  have I : PySem.W.InstAt hp x { cls := .ref C, data := .fields fv } C none := ⟨hx, rfl, rfl, trivial⟩
  have hxs : x ≠ hp.objs.size := Nat.ne_of_lt (Heap.lt_size hx)
  refine osa_openX (s := ⟨hp, g, d, t, os⟩) SF X I ho ht fun b => ?_
  have hcls : PySem.W.Looks (model prog w) hp (classData C) cd := PySem.W.looks_clsIn X hcd
  obtain ⟨nm, bs, mro, ns, qn, hd, sn, sb, ab, col, del⟩ := cd
  dsimp only at hh
  subst hh
  dsimp only
  unfold storeInOwnDict ownDictForStores
  repeat (first | with_reducible refine HandSPX.store_in_new ?_ ?_ | with_reducible refine wpAny_loadPart_at hx ?_ | with_reducible refine hcls.at ?_ | wp_step)
  · exact ⟨_, #[], _, (Heap.get?_update_ne _ _ _ _ hxs.symm).trans (Heap.get?_push_at rfl rfl), rfl, fun e he => absurd he (by simp), fun _ => rfl⟩
  · intro h' tk' hn' hs
    have hx₁ : (hp.push { cls := .type "dict", data := .dict #[] }).get? x = some { cls := .ref C, data := .fields fv } := Heap.get?_push_of_some _ hx
    refine hq h' tk' hp.objs.size (fun b o hb ho => ?_) (Nat.le_refl _) hxs.symm ?_ hn'
    · exact (hs.2 b (Nat.ne_of_lt (Heap.lt_size ho))).trans ((Heap.get?_update_ne _ _ _ _ hb).trans (Heap.get?_push_of_some _ ho))
    · exact (hs.2 x hxs).trans (Heap.get?_update_self _ hx₁ rfl)
/-- a further one -/
theorem xs_old {name : Str} {tk : Tok} {v : Value} {dx : Addr} {fv : Array Value} {cd : ClassData} {m0 : Str → Option Value} {nl : List Str} (SF : StoreFacts B bmB "object.__setattr__" "object")
    (X : K.In hp) (hx : hp.get? x = some { cls := .ref C, dict := some dx, data := .fields fv }) (hns : hp.Ns1 dx m0) (hw : Within m0 nl) (hz : nl.length ≤ 1000) (ho : excOver K C bmB = true) (ht : takerIn K C name = some none) (hcd : PySem.W.clsIn K C = some cd) (hh : cd.hasDict = true)
    (hq : ∀ h' tk', (∀ b o, b ≠ dx → hp.get? b = some o → h'.get? b = some o) → h'.Ns1 dx (fun y => if y = name then some v else m0 y) → R (.ok (.ret .none)) ⟨h', g, d, tk', os⟩) :
    codeAny (model prog w) A (.call (.builtin "object.__setattr__") ⟨[.ref x, .str name tk, v], []⟩) R ⟨hp, g, d, t, os⟩ := by
  obtain ⟨oD, esD, epD, hoD, hdD, _⟩ := hns.count hw
  have I : PySem.W.InstAt hp x { cls := .ref C, dict := some dx, data := .fields fv } C (some oD) := ⟨hx, rfl, rfl, hoD⟩
  refine osa_openX (s := ⟨hp, g, d, t, os⟩) SF X I ho ht fun b => ?_
  have hcls : PySem.W.Looks (model prog w) hp (classData C) cd := PySem.W.looks_clsIn X hcd
  obtain ⟨nm, bs, mro, ns, qn, hd, sn, sb, ab, col, del⟩ := cd
  dsimp only at hh
  subst hh
  dsimp only
  unfold storeInOwnDict ownDictForStores
  repeat (first | with_reducible refine PySem.OEX.store_in_old hns hw hz ?_ | with_reducible refine wpAny_loadPart_at hx ?_ | with_reducible refine hcls.at ?_ | wp_step)
  intro h' tk' hn' hs
  exact hq h' tk' (fun b o hb ho => (hs.2 b hb).trans ho) hn'
end
/-! ### the class's __init__ -/
/-- what an error class's __init__ says: super().__init__("N"); self.code = "N"; self.f = f -/
def xinit : List Stmt → Option (Str × Option Str)
  | [.Expr (.Call (.Attribute (.Call (.Name s _) [] [] _) i p2) [.Constant (.str c1) _ _] [] p4) _, .Assign [.Attribute (.Name s1 _) cd _] (.Constant (.str c2) _ _) _] =>
    if s = ("super" : Str) ∧ i = ("__init__" : Str) ∧ s1 = ("self" : Str) ∧ cd = ("code" : Str) ∧ c1 = c2 ∧ p2.endLine = p4.line then some (c2, none) else none
  | [.Expr (.Call (.Attribute (.Call (.Name s _) [] [] _) i p2) [.Constant (.str c1) _ _] [] p4) _, .Assign [.Attribute (.Name s1 _) cd _] (.Constant (.str c2) _ _) _, .Assign [.Attribute (.Name s2 _) f1 _] (.Name f2 _) _] =>
    if s = ("super" : Str) ∧ i = ("__init__" : Str) ∧ s1 = ("self" : Str) ∧ s2 = ("self" : Str) ∧ cd = ("code" : Str) ∧ c1 = c2 ∧ f1 = f2 ∧ f1 ≠ ("self" : Str) ∧ f1 ≠ ("code" : Str) ∧ f1 ≠ ("__debug__" : Str) ∧ p2.endLine = p4.line then some (c2, some f1) else none
  | _ => none
/-- a built-in class below the program's own errors -/
structure ExB (B newId initId : String) (bmB : List Value) : Prop where
  FB : ExcBaseFacts B newId initId bmB
  SF : StoreFacts B bmB "object.__setattr__" "object"
  KF : KxsFacts B initId
/-- what the written part says of an error class at C, its __init__ at fI -/
structure ExcI (prog : Program) (K : PySem.W.Frag) (C fI : Addr) (code : Str) (fld : Option Str) : Prop where
  base : ∃ B newId initId bmB, ExB B newId initId bmB ∧ excInitIn K C bmB newId = true ∧ excOver K C bmB = true ∧ ks_superIn K C C "__init__" = some (some (.builtin initId)) ∧ subIn K (.ref C) (.type B) = some true
  iC : findIn K (.ref C) "__init__" = some (some (.ref fI))
  tI : typeIn K (.ref fI) = some (.type "function")
  fn : ∃ (oc : Value) (od : Option Addr) (osl : Array (Option Value)) (qual : Str) (params : Arguments) (body : List Stmt) (scope : Scope) (kV doc pm : Value) (an : Option Addr) (cda cc : Addr) (ct : Value) (ocd : Value) (odd : Option Addr) (vs : Array Value) (osd : Array (Option Value)) (file : Str) (tf : Tok) (cl : Value) (cld : Option Addr) (csl : Array (Option Value)),
    K.lookup fI = some ⟨oc, od, .func (ksFn "__init__" qual params body scope .none kV doc pm an (.ref cda) ct cc), osl⟩ ∧ codeIn K (.ref cda) qual = true ∧ K.lookup cda = some ⟨ocd, odd, .fields vs, osd⟩ ∧ vs[2]? = some (.str file tf) ∧ ((prog.main.file : Str) == file) = true ∧ K.lookup cc = some ⟨cl, cld, .cell (some (.ref C)), csl⟩ ∧
    (prog.main.scope.names.lookup ("super" : Str)).isSome = false ∧ scope.names.lookup ("super" : Str) = some .globalImplicit ∧ scope.names.lookup ("__class__" : Str) = some .free ∧ scope.names.lookup ("self" : Str) = some .local ∧ scope.kind = .function ∧ scope.isCoroutine = false ∧ scope.isGenerator = false ∧ (∀ x ∈ scope.names, x.2 ≠ .cell) ∧
    xinit body = some (code, fld) ∧ (∃ ar, (params.posonlyargs ++ params.args).head? = some ar ∧ ar.arg = ("self" : Str)) ∧ (∀ f, fld = some f → scope.names.lookup f = some .local ∧ ∀ u v : Value, bindArgs (ksFn "__init__" qual params body scope .none kV doc pm an (.ref cda) ct cc) ⟨[u, v], []⟩ = pure [(("self" : Str), u), (f, v)]) ∧
    (fld = none → ∀ u : Value, bindArgs (ksFn "__init__" qual params body scope .none kV doc pm an (.ref cda) ct cc) ⟨[u], []⟩ = pure [(("self" : Str), u)])
  nsS : nsIn K mainGlobals "super" = some none
  opq : nsIn K cStatics "thirdparty.any" = some none
  tkC : takerIn K C "code" = some none
  tkF : ∀ f, fld = some f → takerIn K C f = some none
  cls : ∃ cd, clsIn K C = some cd ∧ cd.hasDict = true
  mro : mroIn K C (.ref C) = some true
  sa : findIn K (.ref C) "__setattr__" = some (some (.builtin "object.__setattr__"))
section
variable {prog : Program} {w : World} {A : Around} {R : Result → Shared → Prop} {hp : Heap} {g : Array GenState} {d : Drawn} {t : Nat} {os : OsState}
variable {K : PySem.W.Frag} {C e fI t0 : Addr} {code : Str} {mg : Str → Option Value}
/-- an exception object -/
abbrev exO (C t1 : Addr) (d : Option Addr) : Obj := { cls := .ref C, dict := d, data := .fields #[.ref t1, .none, .none, .none, .bool false, .none] }
/-- a method's call of few arguments -/
theorem meth_eq {o : Expr} {name : Str} {apos pos : Pos} {a1 : Expr} {env : PySem.Env} (hl : (apos.endLine == pos.line) = true) (h1 : starEach [a1] env = [(false, eval a1 env)] := by rfl) : eval (.Call (.Attribute o name apos) [a1] [] pos) env = (do
      let ov ← attributeBase o name env (eval o env)
      standAt apos.atName
      let (f, first) ← holding [ov] (getMethod ov name (do return (← importBound o env).getD true))
      callWith pos f first (backTo pos (starEach [a1] env)) []) := by
  have e : eval (.Call (.Attribute o name apos) [a1] [] pos) env = (do
      let ov ← attributeBase o name env (eval o env)
      standAt apos.atName
      methodCall o name apos pos env ov 1 (backTo pos (starEach [a1] env)) []) := rfl
  rw [e]
  unfold methodCall methodCallPos calleeOf
  rw [h1]
  have e2 : methodCallForm 1 (backTo pos [(false, eval a1 env)]) [] = true := rfl
  simp only [e2, hl, Bool.not_true, Bool.or_true, if_true, pure_bind]
/-- super().__init__("N") in such a def, then the rest -/
theorem exc_super {qual : Str} {scope : Scope} {L cda cc : Addr} {body rest : List Stmt} {fld : Option Str} {m : Str → Option Value} {p0 p1 p2 p3 p4 p5 : Pos} {j : Nat} {E : Value → Shared → Prop} {Q : Flow → Shared → Prop} (XI : ExcI prog K C fI code fld)
    {oc : Value} {od : Option Addr} {osl : Array (Option Value)} {params : Arguments} {kV doc pm ct : Value} {an : Option Addr} {ocd : Value} {odd : Option Addr} {vs : Array Value} {osd : Array (Option Value)} {file : Str} {tf : Tok} {cl : Value} {cld : Option Addr} {csl : Array (Option Value)} {ar : Arg}
    (lk : K.lookup fI = some ⟨oc, od, .func (ksFn "__init__" qual params body scope .none kV doc pm an (.ref cda) ct cc), osl⟩) (hcode : K.lookup cda = some ⟨ocd, odd, .fields vs, osd⟩) (hvs : vs[2]? = some (.str file tf)) (hfile : ((prog.main.file : Str) == file) = true)
    (hcell : K.lookup cc = some ⟨cl, cld, .cell (some (.ref C)), csl⟩) (htop : (prog.main.scope.names.lookup ("super" : Str)).isSome = false) (hks : scope.names.lookup ("super" : Str) = some .globalImplicit) (hkc : scope.names.lookup ("__class__" : Str) = some .free) (hka : scope.names.lookup ("self" : Str) = some .local) (hk : scope.kind = .function)
    (hp' : (params.posonlyargs ++ params.args).head? = some ar) (har : ar.arg = ("self" : Str)) (KX : K.In hp) (glob : hp.Ns mainGlobals mg) (blt : ∃ mb, hp.Ns builtinsNs mb ∧ ∀ x : Str, x ≠ "__name__" → mb x = bootBuiltins x)
    (hl24 : (p2.endLine == p4.line) = true) (hns : hp.Ns L m) (hv : m "self" = some (.ref e)) (he : hp.get? e = some (exO C t0 none))
    (h : ∀ h' tk t1, (∀ b o, b ≠ e → hp.get? b = some o → h'.get? b = some o) → h'.get? e = some (exO C t1 none) → wpAny (model prog w) A (execs rest (ksEnv qual scope L fI (.ref cda) cc)) Q E ⟨h', g, d, tk, os⟩) :
    PySem.wpAt (model prog w) A (.func body (ksEnv qual scope L fI (.ref cda) cc)) (execs (.Expr (.Call (.Attribute (.Call (.Name "super" p0) [] [] p1) "__init__" p2) [.Constant (.str code) j p3] [] p4) p5 :: rest) (ksEnv qual scope L fI (.ref cda) cc)) Q E ⟨hp, g, d, t, os⟩ := by
  obtain ⟨B, newId, initId, bmB, XB, q, ov, hm, hB⟩ := XI.base
  obtain ⟨mb, bns, bb⟩ := blt
  obtain ⟨cd, hD, hhd⟩ := XI.cls
  obtain ⟨oD, hD1, hD2⟩ : ∃ oD, hp.get? C = some oD ∧ oD.data = .cls cd := by
    unfold clsIn at hD
    split at hD
    · rename_i c d cd' sl ho
      cases hD
      exact ⟨_, KX _ _ ho, rfl⟩
    · cases hD
  have hno : ∀ c : ClassData, (exO C t0 none).data ≠ .cls c := fun c z => nomatch z
  refine ks_wpAt_execs_cons (ks_wpAt_Expr_any (ks_wpAt_MethodCall (pl := do return (← importBound (.Call (.Name "super" p0) [] [] p1) (ksEnv qual scope L fI (.ref cda) cc)).getD true) ?_ (meth_eq hl24)) (by unfold PySem.interactive; rw [show (ksEnv qual scope L fI (.ref cda) cc).scope.kind = .function from hk]; rfl))
  refine ks_wpAt_super_base (env := ksEnv qual scope L fI (.ref cda) cc) hks hkc (by decide) rfl (KX _ _ lk) rfl hp' rfl (KX _ _ hcode) rfl hvs hfile htop ?_
  refine ks_loadName_global hk hks (loadGlobal_builtin (env := ksEnv qual scope L fI (.ref cda) cc) glob (mg_none_of KX glob XI.nsS) bns ((bb _ (by decide +kernel)).trans (by decide +kernel : bootBuiltins "super" = some (.type "super"))) ⟨rfl, ?_⟩)
  refine wpAny_loadName_free hk hkc rfl ⟨_, KX _ _ hcell, rfl⟩ ?_
  rw [har]
  refine wpAny_loadName_local hk hka hns hv ?_
  refine ks_wpAny_isType_cls hD1 hD2 ⟨rfl, ?_⟩
  refine ks_wpAny_call_super hD1 hD2 he rfl hno (looks_mroIn KX XI.mro) (fun h1 e1 k1 => ?_)
  have KX1 : K.In h1 := KX.keeps k1
  have he1 := k1 _ _ he
  have I1 : PySem.W.InstAt h1 e (exO C t0 none) C none := ⟨he1, rfl, rfl, trivial⟩
  have hI : PySem.W.Looks (model prog w) h1 (isInstance (.ref e) (.type B)) true := I1.type.andThen (looks_subIn KX1 hB)
  have hm' := hm
  unfold ks_superIn at hm'
  rw [hD] at hm'
  refine kxs_getMethod XB.KF e1 (looks_opaque KX1 XI.opq) (l₀ := cd.mro) ?_ rfl KX1 hm' hI (ks_ne KX1 I1 hD) (by decide) ?_
  · exact fun A Q E s k q => wpAny_bind ((looks_clsIn KX1 hD) A _ E s k (wpAny_pure q))
  · have hu : (h1.push (kxs_mw initId e)).get? h1.objs.size = some (kxs_mw initId e) := Heap.get?_push_at rfl rfl
    have k2 : ∀ b o, h1.get? b = some o → (h1.push (kxs_mw initId e)).get? b = some o := fun b o z => Heap.get?_push_of_some _ z
    refine kxs_callWith (i := initId) (x := e) rfl (evalArgs_plain (spliced_cons ?_))
    show wpAny _ _ (eval (.Constant (.str code) j p3) (ksEnv qual scope L fI (.ref cda) cc)) _ _ _
    refine Constant_str (spliced_nil ⟨hu, ?_⟩)
    obtain ⟨nm, N', qn, bs, bm, hdct, sn, sub, ab, col, dd, k0, k1', k2', k3, k5, hC, hT⟩ := excInit_of (KX1.keeps k2) q
    refine wpAny_call (codeAny_of_tree ?_)
    show wpAny _ A.in1 (callAny (.ref h1.objs.size) _) _ _ _
    simp only [callAny]
    refine wpAny_bind (wpAny_load hu ?_)
    simp only [kxs_mw, show (Value.type "method-wrapper" == Value.type "method" || Value.type "method-wrapper" == Value.type "builtin_function_or_method" || Value.type "method-wrapper" == Value.type "method-wrapper") = true by decide, if_true]
    refine KFB.if_so (by decide) ?_
    refine wpAny_bind (check_bound_init XB.FB.toExcCallFacts hC (k2 _ _ he1) rfl ?_)
    refine wpAny_bind (wpAny_pure (wpAny_pure ?_))
    refine ⟨plainId_quiet XB.FB.init.plain _, codeAny_builtin XB.FB.initEntry ?_⟩
    refine exc_init_tree (cls := .ref C) (t0 := t0) (dv := none) (c2 := .none) (c3 := .none) (b4 := .bool false) (k2 _ _ he1) (by rw [sizeLine_eq]; exact (by decide : 1 ≤ 16777216)) fun h3 k3 e3 t3 => ?_
    exact wpAt_of_wpAny (h h3 _ _ (fun b o hb z => k3 b o hb (k2 b o (k1 b o z))) e3)
/-- two attributes of an exception's dict -/
abbrev xNs (fld : Option Str) (ut uc : Value) : Str → Option Value := fun y => if fld = some y then some ut else if y = "code" then some uc else none
/-- such a def called -/
theorem exc_init {fld : Option Str} {us : List Value} (XI : ExcI prog K C fI code fld) (hus : fld = none ∧ us = [] ∨ ∃ f u, fld = some f ∧ us = [u]) (hroom : A.depth < recursionLimit) (hKe : K.lookup e = none)
    (KX : K.In hp) (glob : hp.Ns mainGlobals mg) (blt : ∃ mb, hp.Ns builtinsNs mb ∧ ∀ x : Str, x ≠ "__name__" → mb x = bootBuiltins x) (lim : hp.NoLimit) (he : hp.get? e = some (exO C t0 none))
    (hq : ∀ (h' : Heap) (tk' : Nat) (t1 dx : Addr) (tc : Tok), (∀ b o, b ≠ e → hp.get? b = some o → h'.get? b = some o) → hp.objs.size ≤ dx → h'.get? e = some (exO C t1 (some dx)) → h'.Ns1 dx (xNs fld (us.headD .none) (.str code tc)) → R (.ok (.ret .none)) ⟨h', g, d, tk', os⟩) :
    codeAny (model prog w) A (.call (.ref fI) ⟨.ref e :: us, []⟩) R ⟨hp, g, d, t, os⟩ := by
  obtain ⟨oc, od, osl, qual, params, body, scope, kV, doc, pm, an, cda, cc, ct, ocd, odd, vs, osd, file, tf, cl, cld, csl, lk, hcd, hcode, hvs, hfile, hcell, htop, hks, hkc, hka, hk, hco, hgen, hnc, hx, ⟨ar, hpar, har⟩, hb1, hb0⟩ := XI.fn
  obtain ⟨B, newId, initId, bmB, XB, q, ov, hm, hB⟩ := XI.base
  obtain ⟨cd, hD, hhd⟩ := XI.cls
  have lt : e < hp.objs.size := Heap.lt_size he
  have neL : hp.objs.size ≠ e := Nat.ne_of_gt lt
  have go : ∀ (binds : List (Str × Value)) (mm : Str → Option Value), BindsTo ⟨hp, g, d, t, os⟩ (ksFn "__init__" qual params body scope .none kV doc pm an (.ref cda) ct cc) ⟨.ref e :: us, []⟩ binds → (∀ y ∈ binds, scope.names.lookup y.1 = some .local) → (fun x => binds.reverse.lookup x) = mm → mm "self" = some (.ref e) → (∀ f u, fld = some f → us = [u] → mm f = some u ∧ scope.names.lookup f = some .local) →
      codeAny (model prog w) A (.call (.ref fI) ⟨.ref e :: us, []⟩) R ⟨hp, g, d, t, os⟩ := by
    intro binds mm hbind hloc em h1 h2
    refine ks_codeAny_call_defAt (fd := ksFn "__init__" qual params body scope .none kV doc pm an (.ref cda) ct cc) (body := body) (binds := binds) hroom (KX _ _ lk) rfl lim (codeRec_of KX hcd) rfl hbind hnc hloc (fun h₁ hns hk₁ => ?_) hco hgen hk
    show PySem.wpAt _ _ (.func body (ksEnv qual scope hp.objs.size fI (.ref cda) cc)) (execs body (ksEnv qual scope hp.objs.size fI (.ref cda) cc)) _ _ _
    rw [em] at hns
    have hns : h₁.Ns hp.objs.size mm := hns
    have keepK : ∀ h' : Heap, (∀ b o, b ≠ e → h₁.get? b = some o → h'.get? b = some o) → K.In h' := fun h' k' b o z => k' b o (fun y => by rw [y, hKe] at z; cases z) (hk₁ b o (KX b o z))
    have keepN : ∀ h' : Heap, (∀ b o, b ≠ e → h₁.get? b = some o → h'.get? b = some o) → h'.Ns hp.objs.size mm := fun h' k' => by
      obtain ⟨o, es, ep, e1, e2, e3⟩ := hns
      exact ⟨o, es, ep, k' _ _ neL e1, e2, e3⟩
    -- behind super().__init__: the field code
    have tail : ∀ (rest : List Stmt) {p6 p7 p8 p9 : Pos} {j2 : Nat} {Q : Flow → Shared → Prop} {E : Value → Shared → Prop} (h' : Heap) (tk : Nat) (t1 : Addr), (∀ b o, b ≠ e → h₁.get? b = some o → h'.get? b = some o) → h'.get? e = some (exO C t1 none) →
        (∀ (h2 : Heap) (tk2 : Nat) (dx : Addr), (∀ b o, b ≠ e → h₁.get? b = some o → h2.get? b = some o) → hp.objs.size ≤ dx → dx ≠ e → dx ≠ hp.objs.size → h₁.get? dx = none → h2.get? e = some (exO C t1 (some dx)) → h2.Ns1 dx (fun y => if y = "code" then some (.str code tk) else none) →
          wpAny (model prog w) (A.deeper (ksEnv qual scope hp.objs.size fI (.ref cda) cc)) (execs rest (ksEnv qual scope hp.objs.size fI (.ref cda) cc)) Q E ⟨h2, g, d, tk2, os⟩) →
        wpAny (model prog w) (A.deeper (ksEnv qual scope hp.objs.size fI (.ref cda) cc)) (execs (.Assign [.Attribute (.Name "self" p6) "code" p7] (.Constant (.str code) j2 p8) p9 :: rest) (ksEnv qual scope hp.objs.size fI (.ref cda) cc)) Q E ⟨h', g, d, tk, os⟩ := by
      intro rest p6 p7 p8 p9 j2 Q E h' tk t1 k' e' hrest
      refine wpAny_execs_cons (plainObj_wpAny_Assign_Attribute (Constant_str ?_))
      refine wpAny_Name (wpAny_loadName_local hk hka (keepN h' k') h1 ?_)
      have sz : ∀ b o, h₁.get? b = some o → b < h'.objs.size := fun b o z => by
        by_cases hb : b = e
        · rw [hb]; exact Heap.lt_size e'
        · exact Heap.lt_size (k' b o hb z)
      have hL : hp.objs.size < h'.objs.size := by
        obtain ⟨o, es, ep, e1, _⟩ := hns
        exact sz _ _ e1
      refine set_plain (keepK h' k') (ox := exO C t1 none) (od := none) ⟨e', rfl, rfl, trivial⟩ XI.sa ?_
      refine xs_new XB.SF (keepK h' k') e' ov XI.tkC hD hhd fun h2 tk2 dx k2 hdx hne he2 hn2 => ?_
      refine hrest h2 tk2 dx (fun b o hb z => k2 b o hb (k' b o hb z)) (Nat.le_trans (Nat.le_of_lt hL) hdx) hne (Nat.ne_of_gt (Nat.lt_of_lt_of_le hL hdx)) ?_ he2 hn2
      cases z : h₁.get? dx with
      | none => rfl
      | some o => exact absurd (Nat.lt_of_lt_of_le (sz _ _ z) hdx) (Nat.lt_irrefl _)
    unfold xinit at hx
    split at hx
    · rename_i s0 p0 p1 i2 p2 c1 j1 p3 p4 p5 s1 p6 cd0 p7 c2 j2 p8 p9
      split at hx
      · rename_i hc
        obtain ⟨rfl, rfl, rfl, rfl, rfl, hl⟩ := hc
        have hx := Option.some.inj hx
        have e1 : c1 = code := congrArg Prod.fst hx
        have e2 : (none : Option Str) = fld := congrArg Prod.snd hx
        subst e1; subst e2
        refine exc_super XI lk hcode hvs hfile hcell htop hks hkc hka hk hpar har (KX.keeps hk₁) (glob.keeps hk₁) ?_ (by rw [hl]; exact beq_self_eq_true _) hns h1 (hk₁ _ _ he) fun h' tk t1 k' e' => ?_
        · obtain ⟨mb, b1, b2⟩ := blt
          exact ⟨mb, b1.keeps hk₁, b2⟩
        · refine tail [] h' tk t1 k' e' fun h2 tk2 dx k2 d1 d2 d3 d4 he2 hn2 => wpAny_execs_nil ?_
          refine hq h2 tk2 t1 dx tk (fun b o hb z => k2 b o hb (hk₁ b o z)) d1 he2 ?_
          have : xNs none (us.headD .none) (Value.str c1 tk) = fun y : Str => if y = "code" then some (Value.str c1 tk) else none := by
            funext y
            show (if (none : Option Str) = some y then _ else _) = _
            rw [if_neg (by simp)]
          rw [this]
          exact hn2
      · cases hx
    · rename_i s0 p0 p1 i2 p2 c1 j1 p3 p4 p5 s1 p6 cd0 p7 c2 j2 p8 p9 s2 p10 f1 p11 f2 p12 p13
      split at hx
      · rename_i hc
        obtain ⟨rfl, rfl, rfl, rfl, rfl, rfl, rfl, n1, n2, n3, hl⟩ := hc
        have hx := Option.some.inj hx
        have e1 : c1 = code := congrArg Prod.fst hx
        have e2 : some f1 = fld := congrArg Prod.snd hx
        subst e1; subst e2
        obtain ⟨f, u, ef, rfl⟩ := hus.resolve_left fun z => nomatch z.1
        cases ef
        obtain ⟨hf, hfl⟩ := h2 f1 u rfl rfl
        refine exc_super XI lk hcode hvs hfile hcell htop hks hkc hka hk hpar har (KX.keeps hk₁) (glob.keeps hk₁) ?_ (by rw [hl]; exact beq_self_eq_true _) hns h1 (hk₁ _ _ he) fun h' tk t1 k' e' => ?_
        · obtain ⟨mb, b1, b2⟩ := blt
          exact ⟨mb, b1.keeps hk₁, b2⟩
        · refine tail _ h' tk t1 k' e' fun h2 tk2 dx k2 d1 d2 d3 d4 he2 hn2 => ?_
          refine wpAny_execs_cons (plainObj_wpAny_Assign_Attribute ?_)
          refine wpAny_Name (wpAny_loadName_local hk hfl (keepN h2 k2) hf ?_) (by rw [beq_eq_false_iff_ne]; exact n3)
          refine wpAny_Name (wpAny_loadName_local hk hka (keepN h2 k2) h1 ?_)
          obtain ⟨oD, esD, epD, hoD, hdD, _⟩ := hn2.count (Within.cons "code" (.str c1 tk) Within.nil)
          refine set_plain (keepK h2 k2) (ox := exO C t1 (some dx)) (od := some oD) ⟨he2, rfl, rfl, hoD⟩ XI.sa ?_
          refine xs_old XB.SF (keepK h2 k2) he2 hn2 (Within.cons "code" (.str c1 tk) Within.nil) (by simp) ov (XI.tkF f1 rfl) hD hhd fun h3 tk3 k3 hn3 => wpAny_execs_nil ?_
          refine hq h3 tk3 t1 dx tk (fun b o hb z => ?_) d1 (k3 _ _ (Ne.symm d2) he2) ?_
          · have : b ≠ dx := fun y => by
              rw [y] at z
              rw [hk₁ _ _ z] at d4
              cases d4
            exact k3 b o this (k2 b o hb (hk₁ b o z))
          · have : xNs (some f1) u (Value.str c1 tk) = fun y : Str => if y = f1 then some u else if y = "code" then some (Value.str c1 tk) else none := by
              funext y
              show (if some f1 = some y then _ else _) = _
              by_cases hy : y = f1
              · subst hy; rw [if_pos rfl, if_pos rfl]
              · rw [if_neg hy, if_neg fun z => hy (Option.some.inj z).symm]
            show h3.Ns1 dx (xNs (some f1) u (.str c1 tk))
            rw [this]
            exact hn3
      · cases hx
    · cases hx
  rcases hus with ⟨rfl, rfl⟩ | ⟨f, u, rfl, rfl⟩
  · refine go [("self", .ref e)] (fun x => if x = "self" then some (.ref e) else none) (.of_eq (hb0 rfl _)) ?_ ?_ (if_pos rfl) (fun f u h => nomatch h)
    · intro y hy
      rw [List.mem_singleton.mp hy]
      exact hka
    · funext x
      by_cases hx : x = "self"
      · subst hx; rfl
      · have : (x == ("self" : Str)) = false := by rw [beq_eq_false_iff_ne]; exact hx
        simp [List.lookup, this, hx]
  · obtain ⟨l1, l2⟩ := hb1 f rfl
    have nf : f ≠ ("self" : Str) := by
      unfold xinit at hx
      split at hx
      · split at hx
        · cases Option.some.inj hx
        · cases hx
      · split at hx
        · rename_i hc
          obtain ⟨_, _, _, _, _, _, rfl, n1, _⟩ := hc
          have e2 : some _ = some f := congrArg Prod.snd (Option.some.inj hx)
          cases e2
          exact n1
        · cases hx
      · cases hx
    refine go [("self", .ref e), (f, u)] (fun x => if x = f then some u else if x = "self" then some (.ref e) else none) (.of_eq (l2 _ _)) ?_ ?_ ?_ (fun f' u' h1 h2 => ?_)
    · intro y hy
      rcases List.mem_cons.mp hy with rfl | hy
      · exact hka
      · rw [List.mem_singleton.mp hy]
        exact l1
    · funext x
      by_cases hx : x = f
      · subst hx
        simp [List.lookup]
      · have t1 : (x == f) = false := by rw [beq_eq_false_iff_ne]; exact hx
        by_cases hx2 : x = "self"
        · subst hx2
          simp [List.lookup, t1, hx]
        · have t2 : (x == ("self" : Str)) = false := by rw [beq_eq_false_iff_ne]; exact hx2
          simp [List.lookup, t1, t2, hx, hx2]
    · show (if (("self" : Str) = f) then _ else _) = _
      rw [if_neg (Ne.symm nf), if_pos rfl]
    · cases h1; cases h2
      exact ⟨if_pos rfl, l1⟩
end
end Rk

set_option maxHeartbeats 2000000
/-! Rk.X: exceptions made and raised. -/
namespace Rk
open PySem PySem.Spec PyProof.Rows L2
section
variable {X : Cx} {es : List Expr} {p pos : Pos} {x : Str} {code : Str} {fld : Option Str} {C fI : Addr}
/-- the fields of the exception made -/
def xFs (code : Str) (fld : Option Str) (vs : List V) : List (Str × V) := ("code", .str code) :: (match fld, vs with
  | some f, [v] => [(f, v)]
  | _, _ => [])
/-- how many values the class is called with -/
def xAr (fld : Option Str) (vs : List V) : Prop := match fld with
  | none => vs = []
  | some _ => ∃ v, vs = [v]
/-- C(..) -/
def tMkX (C : Addr) (code : Str) (fld : Option Str) (ta : TA) : L2.St → Hp → XK → Prop := fun σ H Q => ta σ H fun vs H1 => xAr fld vs ∧ ∀ d, H1 d = none → Q (.ref C) (some d) (upd H1 d (.xd (xFs code fld vs)))
theorem xNs_rel {vs : List V} {us : List Value} {tc : Tok} (hn : ∀ f, fld = some f → f ≠ ("code" : Str)) (r : Vals vs us) (ha : xAr fld vs) : ∀ y, RelO ((xFs code fld vs).lookup y) (xNs fld (us.headD .none) (.str code tc) y) := by
  intro y
  unfold xAr at ha
  cases fld with
  | none =>
    show RelO ((((("code" : Str), V.str code)) :: ([] : List (Str × V))).lookup y) _
    rw [lookup_put]
    show RelO (if y = "code" then some (V.str code) else none) (if (none : Option Str) = some y then _ else _)
    rw [if_neg (fun z : (none : Option Str) = some y => nomatch z)]
    by_cases h : y = "code"
    · rw [if_pos h, if_pos h]; exact ⟨tc, rfl⟩
    · rw [if_neg h, if_neg h]; trivial
  | some f =>
    obtain ⟨v, rfl⟩ := ha
    cases r with
    | cons ry rt =>
      cases rt
      have nf := hn f rfl
      show RelO (((("code" : Str), V.str code) :: [(f, v)]).lookup y) (if some f = some y then some _ else _)
      rw [lookup_put, lookup_put]
      by_cases h : y = f
      · subst h
        rw [if_neg nf, if_pos rfl, if_pos rfl]
        exact ry
      · rw [if_neg (fun z => h (Option.some.inj z).symm), if_neg h]
        by_cases h2 : y = "code"
        · rw [if_pos h2, if_pos h2]; exact ⟨tc, rfl⟩
        · rw [if_neg h2, if_neg h2]; trivial
/-- the end of the class's call -/
theorem x_end {pins : List (Addr × Obj)} {σ : L2.St} {H1 : Hp} {Q : XK} {s : Shared} {vs : List V} {us : List Value} (I1 : Inv X pins σ H1 s) (XI : ExcI X.prog X.K C fI code fld) (hr : X.A.depth + 2 < recursionLimit) (hn : ∀ f, fld = some f → f ≠ ("code" : Str)) (r : Vals vs us) (ha : xAr fld vs)
    (hsub : PySem.W.subIn X.K (.ref C) (.type "BaseException") = some true) (hty : PySem.W.typeIn X.K (.ref C) = some (.type "type"))
    (q : ∀ d, H1 d = none → Q (.ref C) (some d) (upd H1 d (.xd (xFs code fld vs)))) :
    wpAny (model X.prog X.w) X.A (PySem.call (.ref C) us) (fun u s' => L2N.MkP X pins σ Q u s' ∧ L2H.Six u s') X.xe s := by
  obtain ⟨B, newId, initId, bmB, XB, hq, ov, hm, hB⟩ := XI.base
  obtain ⟨nm, N', qn, bs, bm, hdct, sn, sub, ab, col, dd, k0, k1, k2, k3, k5, hC, hT⟩ := PySem.W.excInit_of I1.kIn hq
  have hus : fld = none ∧ us = [] ∨ ∃ f u, fld = some f ∧ us = [u] := by
    unfold xAr at ha
    cases fld with
    | none => subst ha; cases r; exact .inl ⟨rfl, rfl⟩
    | some f =>
      obtain ⟨v, rfl⟩ := ha
      cases r with
      | cons ry rt => cases rt; exact .inr ⟨f, _, rfl, rfl⟩
  have hlen : us.length ≤ sizeLine := by
    rw [sizeLine_eq]
    rcases hus with ⟨_, rfl⟩ | ⟨_, _, _, rfl⟩ <;> simp
  obtain ⟨hp, g, dr, tk, os⟩ := s
  have kk : ∀ b o, hp.get? b = some o → ((hp.push (PySem.W.kdv_tup us)).push (PySem.HandSPX.excO C hp.objs.size)).get? b = some o := fun b o e => Heap.get?_push_of_some _ (Heap.get?_push_of_some _ e)
  have hget : ((hp.push (PySem.W.kdv_tup us)).push (PySem.HandSPX.excO C hp.objs.size)).get? (hp.objs.size + 1) = some (PySem.HandSPX.excO C hp.objs.size) := by heap_get
  have hKe : X.K.lookup (hp.objs.size + 1) = none := by
    cases z : X.K.lookup (hp.objs.size + 1) with
    | none => rfl
    | some o =>
      have := Heap.lt_size (I1.kIn _ _ z)
      exact absurd this (by show ¬ hp.objs.size + 1 < hp.objs.size; omega)
  have glob : hp.Ns mainGlobals X.mg := I1.mod.glob.keeps I1.bk
  obtain ⟨mb, hmb, hbb⟩ := I1.mod.blt
  have blt : hp.Ns builtinsNs mb := hmb.keeps I1.bk
  refine wpAny_call (PySem.HandSPX.call_own XB.FB hT hC (PySem.W.looks_findIn I1.kIn XI.iC) (fun self => PySem.W.bind_fn I1.kIn self XI.tI) hlen ?_)
  refine exc_init (t0 := hp.objs.size) XI hus (by rw [make_depth]; show X.A.depth + 1 < _; omega) hKe (I1.kIn.keeps kk) (glob.keeps kk) ⟨mb, blt.keeps kk, hbb⟩ (I1.nolimit.keeps kk) hget fun h' tk' t1 dx tc k' hdx he' hn' => ?_
  have hsz : ((hp.push (PySem.W.kdv_tup us)).push (PySem.HandSPX.excO C hp.objs.size)).objs.size = hp.objs.size + 2 := by rw [Heap.size_push, Heap.size_push]
  have hdx : hp.objs.size + 2 ≤ dx := hsz ▸ hdx
  have ksz : hp.objs.size ≤ dx := by omega
  have nea : ∀ {b : Addr} {o : Obj}, hp.get? b = some o → b ≠ hp.objs.size + 1 := fun {b o} z => Nat.ne_of_lt (Nat.lt_succ_of_lt (Heap.lt_size z))
  have kh : ∀ b o, hp.get? b = some o → h'.get? b = some o := fun b o z => k' b o (nea z) (kk b o z)
  have nda : dx ≠ hp.objs.size + 1 := Nat.ne_of_gt hdx
  obtain ⟨G, g1, g2⟩ := L2.restrict h' fun b => decide (b ≠ hp.objs.size + 1)
  have gk : ∀ b, b ≠ hp.objs.size + 1 → G.get? b = h'.get? b := fun b hb => g1 b (decide_eq_true hb)
  have ge : G.get? (hp.objs.size + 1) = none := g2 _ (by simp)
  have J : Inv X pins σ (upd H1 dx (.xd (xFs code fld vs))) ⟨G, g, dr, tk', os⟩ := I1.laid (t' := tk') (h' := G) (fun b u z => by rw [gk b (nea z)]; exact kh b u z) ksz (by
    refine ⟨_, hn'.at fun o z => (gk dx nda).trans z, ?_⟩
    exact xNs_rel hn r ha)
  have hH1 : H1 dx = none := I1.hok.fresh ksz
  have na : upd H1 dx (.xd (xFs code fld vs)) (hp.objs.size + 1) = none := by
    rw [upd_ne (Ne.symm nda)]
    exact I1.hok.fresh (Nat.le_succ _)
  refine ⟨rfl, ⟨hp.objs.size + 1, _, _, ⟨G, g, dr, tk', os⟩, _, .ref C, some dx, rfl, J, fun b o z => ?_, ge, he', ⟨rfl, rfl, fun vs hv => ?_⟩, rfl, rfl, na, rfl, I1.bare, raises_own hsub hty, q dx hH1⟩, fun a oe vs ea2 hg2 hd2 => ?_⟩
  · by_cases hb : b = hp.objs.size + 1
    · rw [hb, ge] at z; cases z
    · exact (gk b hb).symm.trans z
  · cases hv; rfl
  · cases ea2
    have hg3 : h'.get? (hp.objs.size + 1) = some oe := hg2
    rw [he'] at hg3
    cases hg3
    cases hd2
    show (4 : Nat) < 6
    decide
/-- C(e, ..) -/
theorem pmk5_x {ta : TA} (XI : ExcI X.prog X.K C fI code fld) (hr : X.A.depth + 2 < recursionLimit) (hn : ∀ f, fld = some f → f ≠ ("code" : Str)) (hsub : PySem.W.subIn X.K (.ref C) (.type "BaseException") = some true) (hty : PySem.W.typeIn X.K (.ref C) = some (.type "type"))
    (hk : PySem.W.keepIn X.K (.ref C) = true) (hg : Gl X x) (hm : X.mg x = some (.ref C)) (hdb : (x == ("__debug__" : Str)) = false) (ha : PA X es ta) (hns : nsts es = true) (h0 : es = [] → ∀ σ H Q, ta σ H Q → Q [] H) :
    L2H.PMk5 X (.Call (.Name x p) es [] pos) (tMkX C code fld ta) := by
  intro pins s σ H Q I h
  refine wpAny_Call_Name_kw (ld_glob I hg hm ?_ hdb)
  cases es with
  | nil =>
    obtain ⟨h1, h2⟩ := h0 rfl _ _ _ h
    refine PySem.W.callWith_KW0 (h₀ := X.base) I.ok.mod.kin hk rfl (wpAny_pure ⟨I.kIn, ?_⟩)
    exact x_end I XI hr hn .nil h1 hsub hty h2
  | cons e es =>
    have hn1 : nst e = true ∧ nsts es = true := by
      unfold nsts at hns
      rw [List.all_cons, Bool.and_eq_true] at hns
      exact hns
    refine PySem.W.callWith_K (h₀ := X.base) I.ok.mod.kin hk (thn (ha.run pos pins s σ H _ I h) fun us s1 ⟨vs, H1, I1, r1, h1, h2⟩ => ⟨I1.kIn, ?_⟩) (nst_ok hn1.1 _ _) (nsts_any hn1.2 _ _)
    exact x_end I1 XI hr hn r1 h1 hsub hty h2
theorem pmk_n {e : Expr} {t : L2.St → Hp → XK → Prop} (h : L2N.PMk X e t) : L2.PMk X e t := fun pins s σ H Q I q => thn (h pins s σ H Q I q) fun _ _ ⟨a, oe, vs, sI, H', cls, d, h1, h2, h3, h4, h5, h6, h7⟩ => ⟨a, oe, vs, sI, H', cls, d, h1, h2, h3, h4, h5, h6.zc, h7⟩
end
end Rk

set_option maxHeartbeats 2000000
/-! Rk.Y: try with one clause. -/
namespace Rk
open PySem PySem.Spec PyProof.Rows L2
theorem flying_keeps {B h h' : Heap} {l : List PySem.Env} {a : Addr} {Z : Obj → Prop} (x : HandSPX.FlyingZ B l a Z h) (k : ∀ b o, h.get? b = some o → h'.get? b = some o) : HandSPX.FlyingZ B l a Z h' := by
  obtain ⟨k1, k2, k3, oe, vs, T, oT, ts, he, hz, hd, h1, hn, ht, hT, hdT, h3⟩ := x
  exact ⟨fun b o e => k b o (k1 b o e), k2, k3.of_keeps fun b o e _ => ⟨o, k b o e, rfl⟩, oe, vs, T, oT, ts, k _ _ he, hz, hd, h1, hn, ht, k _ _ hT, hdT, h3⟩
/-- what a clause asks -/
def Tests (X : Cx) (te : Expr) (cs : List Value) : Prop := ∀ (a : Addr) (oe : Obj) (pn : List (Addr × Obj)) (σ : L2.St) (H : Hp) (s : Shared) (cls : Value) (b : Bool) (Q : Bool → Shared → Prop) (E : Value → Shared → Prop), Inv (X.suite a ((a, oe) :: pn)) [] σ H s →
  PySem.W.Looks (model X.prog X.w) s.heap (typeOf (.ref a)) cls → PySem.W.exmAny X.K cls cs = some b → (∀ h4, (∀ b o, s.heap.get? b = some o → h4.get? b = some o) → Q b { s with heap := h4 }) →
  wpAny (model X.prog X.w) (X.A.mark (some (.ref a))) (eval te X.env) (fun c s1 => wpAny (model X.prog X.w) (X.A.mark (some (.ref a))) (excMatches (.ref a) c) Q E s1) E s
section
variable {X : Cx}
theorem names_ld {x : Str} {c : Value} (hc : Names X x c) {a : Addr} {oe : Obj} {pn : List (Addr × Obj)} {σ : L2.St} {H : Hp} {s : Shared} {np : Pos} {Q : Value → Shared → Prop} {E : Value → Shared → Prop} (I : Inv (X.suite a ((a, oe) :: pn)) [] σ H s) (q : Q c s) :
    wpAny (model X.prog X.w) (X.A.mark (some (.ref a))) (eval (.Name x np) X.env) Q E s := by
  obtain ⟨hg, hdbg, hm | ⟨hm, hv, hnn⟩⟩ := hc
  · exact ld_glob (X := X.suite a ((a, oe) :: pn)) I hg hm q hdbg
  · exact ld_blt (X := X.suite a ((a, oe) :: pn)) I hg hm hv q hnn hdbg
theorem tests_one {x : Str} {c : Value} {np : Pos} (hc : Names X x c) : Tests X (.Name x np) [c] := by
  intro a oe pn σ H s cls b Q E I LT hb q
  refine names_ld hc I ?_
  obtain ⟨b1, d1, h1, h2, h3⟩ := PySem.W.exmAny_cons hb
  cases (show some false = some d1 from h2)
  have e : b = b1 := by rw [h3, Bool.or_false]
  subst e
  exact (PySem.W.exm_one (M := model X.prog X.w) I.kIn LT h1).here (q s.heap fun _ _ e => e)
theorem tests_tup {x1 x2 : Str} {c1 c2 : Value} {p1 p2 np : Pos} {k : Nat} (h1 : Names X x1 c1) (h2 : Names X x2 c2) : Tests X (.Tuple [.Name x1 p1, .Name x2 p2] k np) [c1, c2] := by
  intro a oe pn σ H s cls b Q E I LT hb q
  refine Tuple_ ?_
  show wpAny _ _ (spliced ((false, eval (.Name x1 p1) X.env) :: (false, eval (.Name x2 p2) X.env) :: [])) _ _ _
  refine Calls.spliced_cons (names_ld h1 I (Calls.spliced_cons (names_ld h2 I (Calls.spliced_nil ?_))))
  refine wpAny_newObj_type ?_
  obtain ⟨hp, g, d, t, os⟩ := s
  have kk : ∀ b o, hp.get? b = some o → (hp.push { cls := .type "tuple", dict := none, data := .seq [c1, c2].toArray }).get? b = some o := fun b o e => Heap.get?_push_of_some _ e
  exact (PySem.W.exm_tup2 (M := model X.prog X.w) (I.kIn.keeps kk) (LT.keeps kk) (Heap.get?_push_at rfl rfl) hb).here (q _ kk)
theorem tests_tup3 {x1 x2 x3 : Str} {c1 c2 c3 : Value} {p1 p2 p3 np : Pos} {k : Nat} (h1 : Names X x1 c1) (h2 : Names X x2 c2) (h3 : Names X x3 c3) : Tests X (.Tuple [.Name x1 p1, .Name x2 p2, .Name x3 p3] k np) [c1, c2, c3] := by
  intro a oe pn σ H s cls b Q E I LT hb q
  refine Tuple_ ?_
  show wpAny _ _ (spliced ((false, eval (.Name x1 p1) X.env) :: (false, eval (.Name x2 p2) X.env) :: (false, eval (.Name x3 p3) X.env) :: [])) _ _ _
  refine Calls.spliced_cons (names_ld h1 I (Calls.spliced_cons (names_ld h2 I (Calls.spliced_cons (names_ld h3 I (Calls.spliced_nil ?_))))))
  refine wpAny_newObj_type ?_
  obtain ⟨hp, g, d, t, os⟩ := s
  have kk : ∀ b o, hp.get? b = some o → (hp.push { cls := .type "tuple", dict := none, data := .seq [c1, c2, c3].toArray }).get? b = some o := fun b o e => Heap.get?_push_of_some _ e
  exact (PySem.W.exm_tup3 (M := model X.prog X.w) (I.kIn.keeps kk) (LT.keeps kk) (Heap.get?_push_at rfl rfl) hb).here (q _ kk)
end
/-- the ends behind a clause that names the exception -/
def asD (o : Option Nat) (D : Ends) : Ends := match o with
  | none => D
  | some i => { nx := fun σ' H' => D.nx (σ'.set i none) H', rt := D.rt, bk := fun σ' H' => D.bk (σ'.set i none) H', ct := fun σ' H' => D.ct (σ'.set i none) H' }
def asS (o : Option Nat) (a : Addr) (σ : L2.St) : L2.St := match o with
  | none => σ
  | some i => σ.set i (some (.ref a))
/-- what a try's clause wishes of an exception of the body -/
def wTry (K : PySem.W.Frag) (cs : List Value) (o : Option Nat) (ts : Addr → Value → Option Addr → TS) (Wout : WX) (D : Ends) : WX := fun cls d σ H =>
  ∃ b, PySem.W.exmAny K cls cs = some b ∧ (b = true → ∀ a, H a = none → ts a cls d (asD o D) (asS o a σ) H) ∧ (b = false → Wout cls d σ H)
/-- the clause's name -/
def AsOk (X : Cx) (o : Option Nat) (no : Option Str) : Prop := match o, no with
  | none, none => True
  | some i, some n => X.N[i]? = some n ∧ X.env.kindOf n = some .local
  | _, _ => False
section
variable {X : Cx} {te : Expr} {cs : List Value} {o : Option Nat} {no : Option Str} {body suite : List Stmt} {b₀ : Stmt} {pos pos' : Pos} {tb : WX → TS} {ts : Addr → Value → Option Addr → TS} {Wout : WX}
theorem ps_try1 (hs : X.stack = X.env :: X.outer) (hf : X.env.frame = some X.env.locals) (hN : X.N.Nodup) (ha : AsOk X o no) (hc : Tests X te cs) (tk : Takes X Wout)
    (hb : ∀ (W : WX) (pn : List (Addr × Obj)) (xe : Value → Shared → Prop), Takes (X.tr pn xe) W → PassesOwn (model X.prog X.w) X.A X.env xe → PSs (X.tr pn xe) body (tb W))
    (hsu : ∀ (a : Addr) (oe : Obj) (cls : Value) (d : Option Addr) (pn : List (Addr × Obj)), Zc cls d oe → (∃ vs, oe.data = .fields vs) → PSs (X.suite a ((a, oe) :: pn)) (b₀ :: suite) (ts a cls d)) :
    PS X (.Try body [.ExceptHandler (some te) no (b₀ :: suite) pos'] [] [] pos) (fun D σ H => tb (wTry X.K cs o ts Wout D) D σ H) := by
  refine ⟨fun pins s σ H D I h => ?_⟩
  have ok := I.ok
  have hfr : X.A.frames = some (X.env :: X.outer) := by rw [ok.frames, hs]
  refine wpAny_Try_except ?_
  refine wpAny_mono ((hb (wTry X.K cs o ts Wout D) (X.pn ++ pins) (fun e s₁ => wpAny (model X.prog X.w) X.A (noteFrame e X.env) (fun _ s₂ => wpAny (model X.prog X.w) X.A (setFlight e none) (fun _ s₃ =>
    wpAny (model X.prog X.w) X.A (handleBy e X.env [.ExceptHandler (some te) no (b₀ :: suite) pos']) (SP X pins D) X.xe s₃) X.xe s₂) X.xe s₁) (fun u s' xx => ?_) PassesOwn.looking).run [] s σ H D (I.toTry _) h) (fun f s1 hsp => ?_) (fun e s1 he => he)
  · -- the catch
    obtain ⟨a, B, sI, pins', σ', H', cls, d, rfl, J', nb, up, sky, na, os, ag, b, hb1, hyes, hno⟩ := xx
    have J : Inv X pins σ' H' sI := J'.ofTry ok
    have sky' : Sky B (X.env :: X.outer) a (Zc cls d) X.env.locals s'.heap := by rw [← hs]; exact sky
    show wpAny (model X.prog X.w) X.A (noteFrame (.ref a) X.env) _ _ _
    refine Sky.land Zc.steady hfr hf sky' fun h3 fl3 up3 => ?_
    have J3 : Inv X pins σ' H' { s' with heap := h3 } := J.landed nb fl3.1 (up.trans up3) os ag
    obtain ⟨oe3, vs3, he3, hz3, hd3⟩ := fl3.there
    have notFr : ∀ {h : Heap} {o : Obj} {vs : Array Value}, h.FunFrames B (X.env :: X.outer) → h.get? a = some o → o.data = .fields vs → a ∉ frs (X.env :: X.outer) := fun {h o vs} ff e dd hm => by
      obtain ⟨_, o', e', hnf⟩ := ff.mem hm
      rw [e] at e'; cases e'
      exact hnf _ dd
    have nfr := notFr fl3.2.2.1 he3 hd3
    have nL : a ≠ X.env.locals := fun z => nfr (List.mem_filterMap.mpr ⟨X.env, List.mem_cons_self, by rw [hf, z]⟩)
    have nF : a ∉ X.fs := fun hm => by
      obtain ⟨e, he, q⟩ := List.mem_filterMap.mp hm
      exact nfr (List.mem_filterMap.mpr ⟨e, List.mem_cons_of_mem _ he, q⟩)
    have S3 := J3.suite he3 hd3 na nL nF
    refine wpAny_handleBy_cons (codeAny_handlers_test ?_) (by intro q; cases q)
    have LT : PySem.W.Looks (model X.prog X.w) h3 (typeOf (.ref a)) cls := fun A Q E s k q => wpAny_typeOf_ref (k _ _ he3) (by rw [hz3.1]; exact q)
    refine hc a oe3 _ σ' H' { s' with heap := h3 } cls b _ _ S3 LT hb1 fun h3' k3' => ?_
    have fl3 := flying_keeps fl3 k3'
    have up3 : s'.heap.UpToSlots h3' := up3.trans (Heap.UpToSlots.of_keeps k3')
    cases b with
    | true =>
      have suite_end : ∀ (h4 : Heap), HandSPX.FlyingZ B (X.env :: X.outer) a (Zc cls d) h4 → s'.heap.UpToSlots h4 → ∃ oe4, Zc cls d oe4 ∧ (∃ vs, oe4.data = .fields vs) ∧ Inv (X.suite a ((a, oe4) :: (X.pn ++ pins))) [] σ' H' { s' with heap := h4 } := fun h4 fl4 up4 => by
        have J4 : Inv X pins σ' H' { s' with heap := h4 } := J.landed nb fl4.1 (up.trans up4) os ag
        obtain ⟨oe4, vs4, he4, hz4, hd4⟩ := fl4.there
        exact ⟨oe4, hz4, ⟨_, hd4⟩, J4.suite he4 hd4 na nL nF⟩
      cases o with
      | none =>
        cases no with
        | some n => exact ha.elim
        | none =>
          refine codeAny_handlers_suite ?_
          refine HandSPX.lands_againZ fl3 fun h4 fl4 up4 => ?_
          obtain ⟨oe4, hz4, hd4, S4⟩ := suite_end h4 fl4 (up3.trans up4)
          refine wpAny_mono ((hsu a oe4 cls d (X.pn ++ pins) hz4 hd4).run [] _ _ H' _ S4 (hyes rfl a na)) (fun f s6 hsp => ?_) (fun _ _ z => False.elim z)
          cases f with
          | next =>
            obtain ⟨σ6, H6, S6, q6⟩ := hsp
            exact ⟨_, _, S6.unsuite ok, q6⟩
          | brk =>
            obtain ⟨σ6, H6, S6, q6⟩ := hsp
            exact ⟨_, _, S6.unsuite ok, q6⟩
          | cont =>
            obtain ⟨σ6, H6, S6, q6⟩ := hsp
            exact ⟨_, _, S6.unsuite ok, q6⟩
          | ret u =>
            obtain ⟨v6, σ6, H6, S6, r6, q6⟩ := hsp
            exact ⟨_, _, _, S6.unsuite ok, r6, q6⟩
      | some i =>
        cases no with
        | none => exact ha.elim
        | some n =>
          obtain ⟨hi, hln⟩ := ha
          have hloc : Loc X.env.scope n := .inl hln
          refine codeAny_handlers_suite_as ?_
          refine HandSPX.lands_againZ fl3 fun h4 fl4 up4 => ?_
          obtain ⟨oe4, hz4, hd4, S4⟩ := suite_end h4 fl4 (up3.trans up4)
          refine store_ok (X := X.suite a ((a, oe4) :: (X.pn ++ pins))) (v := .ref a) S4 hN hi hloc rfl (fun s5 S5 => ?_) (.inr hln)
          refine wpAny_mono ((hsu a oe4 cls d (X.pn ++ pins) hz4 hd4).run [] s5 _ H' _ S5 (hyes rfl a na)) (fun f s6 hsp => ?_) (fun _ _ z => False.elim z)
          have end_ : ∀ {σ6 : L2.St} {H6 : Hp} {Q : Shared → Prop}, Inv (X.suite a ((a, oe4) :: (X.pn ++ pins))) [] σ6 H6 s6 → (∀ s7, Inv X pins (σ6.set i none) H6 s7 → Q s7) →
              wpAny (model X.prog X.w) X.A (do bindName X.env n .none; unbindBehindTheSuite X.env n pos') (fun _ s7 => Q s7) X.xe s6 := fun {σ6 H6 Q} S6 hq => gone_ok (S6.unsuite ok) hN hi hln hq
          cases f with
          | next =>
            obtain ⟨σ6, H6, S6, q6⟩ := hsp
            exact end_ S6 fun s7 J7 => ⟨_, _, J7, q6⟩
          | brk =>
            obtain ⟨σ6, H6, S6, q6⟩ := hsp
            exact end_ S6 fun s7 J7 => ⟨_, _, J7, q6⟩
          | cont =>
            obtain ⟨σ6, H6, S6, q6⟩ := hsp
            exact end_ S6 fun s7 J7 => ⟨_, _, J7, q6⟩
          | ret u =>
            obtain ⟨v6, σ6, H6, S6, r6, q6⟩ := hsp
            exact end_ S6 fun s7 J7 => ⟨_, _, _, J7, r6, q6⟩
    | false =>
      show wpAny _ X.A (handleBy (.ref a) X.env []) _ _ _
      refine wpAny_handleBy_nil ?_
      obtain ⟨k1, k2, k3, oe, vs, T, oT, ts', he, hz, hd, h1, hr⟩ := id fl3
      unfold PySem.passOn
      refine wpAny_bind (wpAny_field he hd h1 ?_)
      rw [if_neg (show ¬ ((Value.ref T == Value.none) = true) from by simp)]
      have fin : wpAny (model X.prog X.w) X.A (setFlight (.ref a) X.env.frame) (fun _ s4 => wpAny (model X.prog X.w) X.A (throw (.ref a) : Sem Flow) (SP X pins D) X.xe s4) X.xe { s' with heap := h3' } := by
        rw [hf]
        refine HandSPX.setFlight_upZ fl3 fun h4 hh4 up4 => wpAny_throw (tk _ _ ?_)
        exact ⟨a, B, sI, pins, σ', H', cls, d, rfl, J, nb, (up.trans up3).trans up4, .inr (.inr (by rw [hs]; exact hh4)), na, os, ag, hno rfl⟩
      first
        | exact wpAny_bind (wpAny_pure (wpAny_bind fin))
        | exact wpAny_bind fin
  · cases f with
    | next =>
      obtain ⟨σ', H', J', q⟩ := hsp
      exact wpAny_execs_nil ⟨σ', H', J'.ofTry ok, q⟩
    | brk =>
      obtain ⟨σ', H', J', q⟩ := hsp
      exact ⟨σ', H', J'.ofTry ok, q⟩
    | cont =>
      obtain ⟨σ', H', J', q⟩ := hsp
      exact ⟨σ', H', J'.ofTry ok, q⟩
    | ret u =>
      obtain ⟨v, σ', H', J', r, q⟩ := hsp
      exact ⟨v, σ', H', J'.ofTry ok, r, q⟩
end
end Rk

set_option maxHeartbeats 2000000
/-! Rk.Z: lambdas made. -/
namespace Rk
open PySem PySem.Spec PyProof.Rows L2
/-- a table grows -/
theorem RR.tabGrow {g : Gi} {w : Wd} {h : AH} {H : Hp} (r : RR g w h H) {P : Addr} {q : Str} {ps : Array Value} (hP : (P, q) ∈ g.tabs) (hu : ∀ p ∈ g.tabs, p.1 = P → p.2 = q) (hps : TriplesOk ps.toList) (hc : ∀ (pos : Pos) (cv : Value), codeAmong pos ps.toList = some cv → ∃ c, cv = .ref c ∧ w.F c = some (LamX.CodeO c q)) :
    RR g w h (upd H P (.tbl ps)) := by
  have T := r.tabs _ hP
  obtain ⟨ps0, hH, _⟩ := T.tab
  have hH : H P = some (.tbl ps0) := hH
  have nF : ∀ a u, w.F a = some u → a ≠ P := fun a u e z => by
    have := T.nF
    rw [z] at e
    rw [e] at this; cases this
  have nZ : ∀ a u, w.Z a = some u → a ≠ P := fun a u e z => by
    have := T.nZ
    rw [z] at e
    rw [e] at this; cases this
  have ne : ∀ {a : Addr} {o : HO}, H a = some o → (∀ ps, o ≠ .tbl ps) → a ≠ P := fun {a o} e n z => by
    rw [z, hH] at e
    exact n _ (Option.some.inj e).symm
  refine ⟨fun a u e => by rw [upd_ne (nF a u e)]; exact r.sub a u e, fun a u e => by rw [upd_ne (nZ a u e)]; exact r.subz a u e, fun k hk => ?_, r.inj, fun k hk => ?_, fun p hp => ?_⟩
  · have q := r.cell k hk
    cases ec : h.cell k with
    | no => trivial
    | lst m =>
      rw [ec] at q
      obtain ⟨q1, zs, q2, q3⟩ := q
      exact ⟨q1, zs, by rw [upd_ne (ne q2 fun _ z => nomatch z)]; exact q2, q3⟩
    | ins c fs =>
      rw [ec] at q
      obtain ⟨q1, dx, gs, q4, q2, q5, q3⟩ := q
      exact ⟨q1, dx, gs, q4, by rw [upd_ne (ne q2 fun _ z => nomatch z)]; exact q2, by rw [upd_ne (ne q5 fun _ z => nomatch z)]; exact q5, q3⟩
    | dct l => rw [ec] at q; exact q
  · by_cases e : w.m k = P
    · rw [e, upd_same]; exact fun z => nomatch z
    · rw [upd_ne e]
      exact r.oc k hk
  · by_cases e : p.1 = P
    · have e2 := hu p hp e
      obtain ⟨p1, p2⟩ := p
      subst e; subst e2
      exact ⟨T.nF, T.nZ, ps, upd_same, hps, hc⟩
    · exact (r.tabs p hp).to (fun _ _ e => e) (r.tabs p hp).nF (r.tabs p hp).nZ (upd_ne e)
/-- what the frame is to the lambdas that it makes -/
structure LamK (X : Cx) (g : Gi) : Prop where
  ex : ∃ c P, X.env.code = .ref c ∧ (P, X.env.qual ++ "<lambda>") ∈ g.tabs ∧ (∀ p ∈ g.tabs, p.1 = P → p.2 = X.env.qual ++ "<lambda>") ∧ LamX.TabB X.base X.mg c P
  cells : g.cells = X.env.cells
  qual : g.qual = X.env.qual
/-- a lambda's reading -/
def tLm (g : Gi) (k : Nat) : TE := fun σ H Q => ∃ w h, RR g w h H ∧ ∀ w' H' v, Ext w h.nx w' h.nx → RR g w' h H' → LamV g w' k v → Q v H'
theorem upd_comm {H : Hp} {a b : Addr} {o u : HO} (n : a ≠ b) : upd (upd H a o) b u = upd (upd H b u) a o := by
  funext c
  unfold upd
  by_cases h1 : c = b
  · subst h1
    rw [if_pos rfl, if_neg (Ne.symm n), if_pos rfl]
  · rw [if_neg h1]
    by_cases h2 : c = a
    · rw [if_pos h2, if_pos h2]
    · rw [if_neg h2, if_neg h2, if_neg h1]
section
variable {X : Cx} {g : Gi}
/-- the function object is made -/
theorem lam_tail {L : LamI} {pos : Pos} {k : Nat} {pins : List (Addr × Obj)} {σ : L2.St} {H : Hp} {s : Shared} {w : Wd} {h : AH} {dV : Value} {Q : Value → Shared → Prop} {E : Value → Shared → Prop} (LK : LamK X g) (I : Inv X pins σ H s) (rr : RR g w h H) (hfree : ∀ y ∈ L.scope.names, y.2 = .free → ∃ c, X.env.cells.lookup y.1 = some c)
    (hok : g.lamOk k L) (hd : LamD w.F L dV) (q : ∀ w' H' f s', Ext w h.nx w' h.nx → RR g w' h H' → LamV g w' k (.ref f) → Inv X pins σ H' s' → Q (.ref f) s') :
    wpAny (model X.prog X.w) X.A (makeTail "<lambda>" (X.env.qual ++ "<lambda>") L.params (.expr L.body) L.scope X.env dV .none none pos pos.line) Q E s := by
  obtain ⟨c, P, hcode, hm, hu, TB⟩ := LK.ex
  have T := rr.tabs _ hm
  obtain ⟨ps, hP, ht, ha⟩ := T.tab
  have hP : H P = some (.tbl ps) := hP
  have bP : s.heap.BuiltinsAt X.mg P := TB.bm.keeps I.bk
  have hP' : s.heap.get? P = some { cls := .none, data := .fields ps } := I.hok P _ hP
  have eqc := LK.cells
  have eqq := LK.qual
  cases hc : codeAmong pos ps.toList with
  | none =>
    refine PySem.W.kdv_makeTail (mg := X.mg) (c := c) (P := P) (ps := ps) (closure_ok hfree) I.ok.glob (I.mod.glob.keeps I.bk) hcode (TB.code.keeps I.bk) hP' ht hc TB.gP bP fun c' ctv doc h' tk hx hge hlt hrec htb => ?_
    obtain ⟨c2, oc, vs, t, e2, hoc, hd', hv⟩ := hrec
    cases e2
    have hsz : s.heap.objs.size ≤ h'.objs.size := Nat.le_trans hge (Nat.le_of_lt hlt)
    have nC : H c' = none := I.hok.fresh hge
    have nF : H h'.objs.size = none := I.hok.fresh hsz
    have nPc : P ≠ c' := ne_of_none hP nC
    have n1 : h'.objs.size ≠ c' := Nat.ne_of_gt hlt
    have n2 : h'.objs.size ≠ P := Nat.ne_of_gt (Nat.lt_of_lt_of_le (Heap.lt_size hP') hsz)
    have I1 := LamX.inv_table (q := X.env.qual ++ "<lambda>") (t' := tk) (more := #[rawInt pos.line, rawInt pos.col, .ref c']) (h' := h') I hP (fun b o hb e => hx b o hb e) htb hge ⟨oc, vs, t, hoc, hd', hv⟩
    have new : ∀ H', ObjOk X.prog X.w H' (h'.push (PySem.W.kdv_obj "<lambda>" (X.env.qual ++ "<lambda>") L.params (.expr L.body) L.scope (cloFrom X.env.cells L.scope.names []) dV doc ((X.mg "__name__").getD .none) c' ctv)) h'.objs.size (LamO h'.objs.size (X.env.qual ++ "<lambda>") L X.env.cells c' dV) := fun H' =>
      ⟨⟨doc, _, ctv, Heap.get?_push_size _ rfl⟩, ⟨_, Heap.get?_push_size _ rfl⟩, fun h1 h2 ⟨a1, a2, a3, z⟩ st => ⟨a1, a2, a3, st _ z⟩⟩
    have I2 := I1.laid (t' := tk) (a := h'.objs.size) (o := LamO h'.objs.size (X.env.qual ++ "<lambda>") L X.env.cells c' dV) (h' := h'.push _) (fun b u e => Heap.get?_push_of_some _ e) (Nat.le_refl _) (new _)
    obtain ⟨rr1, x1⟩ := rr.freeze (o := LamX.CodeO c' (X.env.qual ++ "<lambda>")) nC
    have eL : (ps ++ #[rawInt pos.line, rawInt pos.col, .ref c']).toList = ps.toList ++ [rawInt pos.line, rawInt pos.col, .ref c'] := by simp
    have rr2 := rr1.tabGrow (ps := ps ++ #[rawInt pos.line, rawInt pos.col, .ref c']) hm hu (by rw [eL]; exact PySem.TriplesOk_snoc _ _ _ _ ht) (fun p' cv hcv => by
      rw [eL] at hcv
      rcases LamX.among_app _ ht hcv with z | z
      · obtain ⟨c0, e1, e2⟩ := ha p' cv z
        exact ⟨c0, e1, x1.F _ _ e2⟩
      · exact ⟨c', z, upd_same⟩)
    rw [upd_comm nPc.symm] at rr2
    have nf2 : upd (upd H P (.tbl (ps ++ #[rawInt pos.line, rawInt pos.col, .ref c']))) c' (LamX.CodeO c' (X.env.qual ++ "<lambda>")) h'.objs.size = none := by
      rw [upd_ne n1, upd_ne n2]; exact nF
    obtain ⟨rr3, x3⟩ := rr2.freeze (o := LamO h'.objs.size (X.env.qual ++ "<lambda>") L X.env.cells c' dV) nf2
    refine q _ _ _ _ (x1.trans x3) rr3 ⟨h'.objs.size, c', L, dV, rfl, hok, ?_, ?_, ?_⟩ I2
    · rw [eqc, eqq]; exact upd_same
    · rw [eqq]; exact x3.F _ _ upd_same
    · rcases hd with z | ⟨y, i, T, a1, a2, a3⟩
      · exact .inl z
      · exact .inr ⟨y, i, T, a1, a2, x3.F _ _ (x1.F _ _ a3)⟩
  | some cv =>
    obtain ⟨c', e, hco⟩ := ha pos cv hc
    subst e
    refine PySem.W.kdv_makeTailHit (mg := X.mg) (c := c) (P := P) (ps := ps) (closure_ok hfree) I.ok.glob (I.mod.glob.keeps I.bk) hcode (TB.code.keeps I.bk) hP' ht hc bP fun ctv doc h' tk hx hsz => ?_
    have nF : H h'.objs.size = none := I.hok.fresh hsz
    have I2 := I.laid (t' := tk) (a := h'.objs.size) (o := LamO h'.objs.size (X.env.qual ++ "<lambda>") L X.env.cells c' dV) (h' := h'.push (PySem.W.kdv_obj "<lambda>" (X.env.qual ++ "<lambda>") L.params (.expr L.body) L.scope (cloFrom X.env.cells L.scope.names []) dV doc ((X.mg "__name__").getD .none) c' ctv)) (fun b u e => Heap.get?_push_of_some _ (hx b u e)) hsz
      ⟨⟨doc, _, ctv, Heap.get?_push_size _ rfl⟩, ⟨_, Heap.get?_push_size _ rfl⟩, fun h1 h2 ⟨a1, a2, a3, z⟩ st => ⟨a1, a2, a3, st _ z⟩⟩
    obtain ⟨rr3, x3⟩ := rr.freeze (o := LamO h'.objs.size (X.env.qual ++ "<lambda>") L X.env.cells c' dV) nF
    refine q _ _ _ _ x3 rr3 ⟨h'.objs.size, c', L, dV, rfl, hok, ?_, ?_, ?_⟩ I2
    · rw [eqc, eqq]; exact upd_same
    · rw [eqq]; exact x3.F _ _ hco
    · rcases hd with z | ⟨y, i, T, a1, a2, a3⟩
      · exact .inl z
      · exact .inr ⟨y, i, T, a1, a2, x3.F _ _ a3⟩
theorem pe_lam {L : LamI} {pos : Pos} {k : Nat} (LK : LamK X g) (hfree : ∀ y ∈ L.scope.names, y.2 = .free → X.env.scope.names.lookup y.1 = some .cell ∨ X.env.scope.names.lookup y.1 = some .free) (hok : g.lamOk k L) (hp : (lamP L.params).isSome = true) : PE X (.Lambda L.params L.body L.scope pos) (tLm g k) := by
  refine ⟨fun pins s σ H Q I ⟨w, h, rr, q⟩ => ?_⟩
  have hfree' : ∀ y ∈ L.scope.names, y.2 = .free → ∃ c, X.env.cells.lookup y.1 = some c := fun y hy e => I.ok.has y.1 (hfree y hy e)
  cases hl : lamP L.params with
  | none => rw [hl] at hp; cases hp
  | some o =>
    obtain ⟨params, body, scope⟩ := L
    cases o with
    | none =>
      have e : params = ⟨[], [], none, [], [], none, []⟩ := by
        unfold lamP at hl
        split at hl
        · assumption
        · cases hl
        · cases hl
      subst e
      refine PySem.W.kla_eval rfl ?_
      rw [makeFunction_eq]
      simp only [List.zip_nil_right, List.filterMap_nil, List.isEmpty_nil, if_true, pure_bind]
      exact lam_tail LK I rr hfree' hok (.inl ⟨hl, rfl⟩) fun w' H' f s' x r v J => ⟨.ref f, H', J, rfl, q w' H' _ x r v⟩
    | some yi =>
      obtain ⟨y, i⟩ := yi
      obtain ⟨p1, p2, p3, e⟩ : ∃ p1 p2 p3, params = ⟨[], [⟨y, none, p1⟩], none, [], [], none, [.Constant (.int i) p2 p3]⟩ := by
        unfold lamP at hl
        split at hl
        · cases hl
        · cases hl
          exact ⟨_, _, _, by assumption⟩
        · cases hl
      subst e
      refine PySem.W.kdv_lam rfl rfl (PySem.W.kdv_all1 (wpAny_Constant_int (PySem.W.kdv_all0 ?_)))
      rw [makeFunction_eq]
      simp only [List.zip_nil_right, List.filterMap_nil, List.isEmpty_nil, List.isEmpty_cons, Bool.false_eq_true, if_false, if_true, pure_bind]
      refine wpAny_bind (wpAny_newTextTuple ?_)
      have I0 := I.tok (s.toks + 1)
      have I1 := I0.laid (t' := s.toks + 1) (a := s.heap.objs.size) (o := .tup [.int i]) (h' := s.heap.push (PySem.W.kdv_tup [.int i s.toks])) (fun b u e => Heap.get?_push_of_some _ e) (Nat.le_refl _)
        ⟨by rw [sizeLine_eq]; exact (by decide : 1 ≤ 16777216), [.int i s.toks], .cons ⟨_, rfl⟩ .nil, ⟨_, Heap.get?_push_size _ rfl, rfl, _, rfl⟩⟩
      have nT : H s.heap.objs.size = none := I.hok.fresh (Nat.le_refl _)
      obtain ⟨rr1, x1⟩ := rr.freeze (o := .tup [.int i]) nT
      exact lam_tail LK I1 rr1 hfree' hok (.inr ⟨y, i, s.heap.objs.size, hl, rfl, upd_same⟩) fun w' H' f s' x r v J => ⟨.ref f, H', J, rfl, q w' H' _ (x1.trans x) r v⟩
end
end Rk

set_option maxHeartbeats 2000000
/-! Rk.La: lambdas called. -/
namespace Rk
open PySem PySem.Spec PyProof.Rows L2
abbrev lamFd (q : Str) (L : LamI) (cl : List (Str × Addr)) (dV doc pm : Value) (c' : Addr) (ctv : Value) : FuncData := PySem.W.kdv_fn "<lambda>" q L.params (.expr L.body) L.scope cl dV doc pm (.ref c') ctv
theorem lam_binds {P : Program} {w : World} {H : Hp} {s : Shared} {L : LamI} {q : Str} {cl : List (Str × Addr)} {dV doc pm ctv : Value} {c' : Addr} (hok : HOk P w H s.heap) (hd : LamD H L dV) :
    ∃ binds, BindsTo s (lamFd q L cl dV doc pm c' ctv) ⟨[], []⟩ binds ∧ (binds = [] ∧ lamP L.params = some none ∨ ∃ y i t, binds = [(y, .int i t)] ∧ lamP L.params = some (some (y, i))) := by
  obtain ⟨params, body, scope⟩ := L
  rcases hd with ⟨h1, h2⟩ | ⟨y, i, T, h1, h2, h3⟩
  · have e : params = ⟨[], [], none, [], [], none, []⟩ := by
      have h1 : lamP params = some none := h1
      unfold lamP at h1
      split at h1
      · rfl
      · cases h1
      · cases h1
    subst e; subst h2
    exact ⟨[], .of_eq rfl, .inl ⟨rfl, h1⟩⟩
  · obtain ⟨p1, p2, p3, e⟩ : ∃ p1 p2 p3, params = ⟨[], [⟨y, none, p1⟩], none, [], [], none, [.Constant (.int i) p2 p3]⟩ := by
      have h1 : lamP params = some (some (y, i)) := h1
      unfold lamP at h1
      split at h1
      · cases h1
      · cases h1
        exact ⟨_, _, _, rfl⟩
      · cases h1
    subst e; subst h2
    obtain ⟨_, its, r, o, ho, hc, n, hd⟩ := hok T _ h3
    cases r with
    | cons r1 r2 =>
      cases r2
      obtain ⟨t, rfl⟩ := r1
      refine ⟨[(y, .int i t)], BindsTo.of_defaults (k := _) rfl ho hd rfl ?_, .inr ⟨y, i, t, rfl, h1⟩⟩
      simp [List.lookup]
/-- a lambda's names: captured ones, globals, its own (the slots ws are then empty) -/
structure LamS2 (N : List Str) (sc scope : Scope) (params : Arguments) (ws : List Nat) : Prop where
  kind : scope.kind = .function
  co : scope.isCoroutine = false
  gen : scope.isGenerator = false
  cell : ∀ y ∈ scope.names, y.2 ≠ .cell
  free : ∀ y ∈ scope.names, y.2 = .free → sc.names.lookup y.1 = some .cell ∨ sc.names.lookup y.1 = some .free
  own : ∀ i y, N[i]? = some y → scope.names.lookup y = some .local → i ∈ ws
  par : ∀ y i, lamP params = some (some (y, i)) → scope.names.lookup y = some .local
def lamS2B (N : List Str) (sc scope : Scope) (params : Arguments) (ws : List Nat) : Bool :=
  decide (scope.kind = .function) && !scope.isCoroutine && !scope.isGenerator && (scope.names.all fun y => !decide (y.2 = .cell) && (!decide (y.2 = .free) || decide (sc.names.lookup y.1 = some .cell) || decide (sc.names.lookup y.1 = some .free))) &&
    ((List.range N.length).all fun i => match N[i]? with
      | some y => !decide (scope.names.lookup y = some .local) || ws.contains i
      | none => true) && (match lamP params with
      | some (some (y, _)) => decide (scope.names.lookup y = some .local)
      | _ => true)
theorem lamS2_by {N : List Str} {sc scope : Scope} {params : Arguments} {ws : List Nat} (h : lamS2B N sc scope params ws = true) : LamS2 N sc scope params ws := by
  unfold lamS2B at h
  simp only [Bool.and_eq_true, Bool.or_eq_true, Bool.not_eq_true', decide_eq_true_eq, decide_eq_false_iff_not, List.all_eq_true] at h
  obtain ⟨⟨⟨⟨⟨h1, h2⟩, h3⟩, h4⟩, h5⟩, h6⟩ := h
  refine ⟨h1, h2, h3, fun y hy => (h4 y hy).1, fun y hy e => ?_, fun i y hi hl => ?_, fun y i hp => ?_⟩
  · rcases (h4 y hy).2 with (z | z) | z
    · exact absurd e z
    · exact .inl z
    · exact .inr z
  · have := h5 i (List.mem_range.mpr (List.getElem?_eq_some_iff.mp hi).1)
    rw [hi] at this
    simp only [Bool.or_eq_true, Bool.not_eq_true', decide_eq_false_iff_not] at this
    rcases this with z | z
    · exact absurd hl z
    · exact List.contains_iff_mem.mp z
  · rw [hp] at h6
    exact of_decide_eq_true h6
abbrev lamEnv2 (X : Cx) (scope : Scope) (L f c' : Addr) : PySem.Env := PySem.W.envX (X.env.qual ++ "<lambda>") scope L f (.ref c') (cloFrom X.env.cells scope.names [])
/-- the context of the lambda's body, entered at s from the frames outer -/
def lamCx2 (X : Cx) (A : Around) (outer : List PySem.Env) (s : Shared) (H : Hp) (E : XK) (scope : Scope) (f c' : Addr) : Cx where
  prog := X.prog
  w := X.w
  K := X.K
  mg := X.mg
  base := X.base
  A := A.deeper (lamEnv2 X scope s.heap.objs.size f c')
  N := X.N
  s_0 := s
  H_0 := H
  env := lamEnv2 X scope s.heap.objs.size f c'
  outer := outer
  stack := lamEnv2 X scope s.heap.objs.size f c' :: outer
  ex := []
  fn := fun _ => false
  calm := true
  pn := []
  xe := fun e s' => wpAny (model X.prog X.w) (A.deeper (lamEnv2 X scope s.heap.objs.size f c')) (leaving (lamEnv2 X scope s.heap.objs.size f c') e) (fun _ s'' => L2.CX X.prog X.w outer H s E e s'') (fun e' s'' => L2.CX X.prog X.w outer H s E e' s'')  s'
/-- what is not told at h lives on at h', untold -/
def Sees (H H' : Hp) (h h' : Heap) : Prop := ∀ b o, h.get? b = some o → H b = none → (∃ sl, h'.get? b = some { o with slots := sl }) ∧ H' b = none
theorem Sees.refl {H : Hp} {h : Heap} : Sees H H h h := fun _ o e n => ⟨⟨o.slots, e⟩, n⟩
theorem Sees.un {H0 H H1 : Hp} {h0 h h1 : Heap} {fs ex : List Addr} (a : Sees H0 H h0 h) (u : Un fs ex H H1 h h1) (hx : ∀ b ∈ ex, h0.objs.size ≤ b) : Sees H0 H1 h0 h1 := fun b o e n => by
  obtain ⟨⟨sl, e1⟩, n1⟩ := a b o e n
  have nx : b ∉ ex := fun hb => absurd (Heap.lt_size e) (Nat.not_lt.mpr (hx b hb))
  obtain ⟨sl2, e2⟩ := u.any e1 n1 nx
  exact ⟨⟨sl2, e2⟩, u.free b _ e1 n1 nx⟩
section
variable {X : Cx} {pins : List (Addr × Obj)} {σ : L2.St} {H HW HZ : Hp} {s sW s1 : Shared}
theorem lam_start3 {A : Around} {outer : List PySem.Env} {E : XK} {scope : Scope} {params : Arguments} {ws : List Nat} {f c' : Addr} {h₁ : Heap} {tk : Nat} {mm : Str → Option Value} (I : Inv X pins σ H s) (L : LamS2 X.N X.env.scope scope params ws) (e0 : Env0 X.prog X.w X.K X.mg X.base A outer s1 HZ) (hd : A.handled = none)
    (un : Sees H HZ s.heap s1.heap) (hns : h₁.Ns s1.heap.objs.size mm) (kp : ∀ b o, s1.heap.get? b = some o → h₁.get? b = some o) :
    Inv (lamCx2 X A outer s1 HZ E scope f c') [] (wipe σ ws) HZ { s1 with heap := h₁, toks := tk } := by
  have hfree : ∀ y ∈ scope.names, y.2 = .free → ∃ c, X.env.cells.lookup y.1 = some c := fun y hy e => I.ok.has y.1 (L.free y hy e)
  have cm : ∀ {y c}, (cloFrom X.env.cells scope.names []).lookup y = some c → X.env.cells.lookup y = some c := fun {y c} e => by
    rcases cloFrom_mem (PySem.mem_of_lookup e) with hm | ⟨h1, h2⟩
    · cases hm
    · obtain ⟨c1, hc⟩ := hfree _ h1 rfl
      have hc : X.env.cells.lookup y = some c1 := hc
      have e2 : c = c1 := by
        rw [h2, hc] <;> rfl
      rw [e2]
      exact hc
  have look : ∀ {y}, scope.names.lookup y = some .free → ∃ c, (cloFrom X.env.cells scope.names []).lookup y = some c := fun {y} hl => by
    have hy : (y, NameKind.free) ∈ scope.names := PySem.mem_of_lookup hl
    exact mem_lookup (cloFrom_has (cells := X.env.cells) (acc := []) hy)
  have cellK : ∀ {c : Addr} {v : Option Value}, H c = none → s.heap.IsCell c v → h₁.IsCell c v := fun {c v} n ⟨o, ho, hd⟩ => by
    obtain ⟨⟨sl, q⟩, _⟩ := un _ _ ho n
    exact ⟨_, kp _ _ q, hd⟩
  have noA : ∀ b : Addr, b ∉ (lamCx2 X A outer s1 HZ E scope f c').ex := fun b z => absurd (show b ∈ ([] : List Addr) from z) (by simp)
  refine ⟨⟨e0.mod, L.kind, rfl, rfl, Nat.le_refl _, fun y z c e1 e2 => I.ok.inj y z c (cm e1) (cm e2), fun y hy => ?_, fun y c z _ => ?_, fun _ => hd, Around.frames_deeper e0.frames, .inr ⟨rfl, rfl⟩, fun b z => absurd z (noA b), e0.bs, e0.bsz, fun b _ _ => noA b,
      fun b z => absurd z (noA b), e0.funs, e0.frf⟩,
    rfl, e0.bare, Un.kept kp, ⟨_, hns, fun i y v e1 e2 e3 => ?_⟩, fun y c e => ?_, e0.hok.fresh (Nat.le_refl _), fun y c e => ?_, fun q hq => absurd (show q ∈ ([] : List (Addr × Obj)) ++ [] from hq) (by simp), e0.hok.kept kp, (wipe_length ..).trans I.len⟩
  · have hy : scope.names.lookup y = some .cell ∨ scope.names.lookup y = some .free := hy
    rcases hy with hy | hy
    · exact absurd rfl (L.cell _ (PySem.mem_of_lookup hy))
    · exact look hy
  · have z : false = true := z
    cases z
  · have e3 : Vis scope y := e3
    have e1 : X.N[i]? = some y := e1
    rcases e3 with k | k | k
    · have hi := L.own i y e1 k
      rw [wipe_in hi] at e2
      split at e2 <;> cases e2
    · exact absurd rfl (L.cell _ (PySem.mem_of_lookup k))
    · obtain ⟨m, hn, hl⟩ := I.loc
      have hvis : Vis X.env.scope y := (L.free _ (PySem.mem_of_lookup k) rfl).elim (fun k => .inr (.inl k)) (fun k => .inr (.inr k))
      have e2 : σ[i]? = some (some v) := by
        by_cases hi : i ∈ ws
        · rw [wipe_in hi] at e2
          split at e2 <;> cases e2
        · rw [wipe_out hi] at e2
          exact e2
      obtain ⟨w', r, q⟩ := hl i y v e1 e2 hvis
      obtain ⟨c2, h2⟩ := look k
      refine ⟨w', r, .inr ⟨.inr k, c2, h2, ?_⟩⟩
      have c1 := cm h2
      rcases q with ⟨k', _⟩ | ⟨_, c3, e', z⟩
      · have k' : X.env.scope.names.lookup y = some .local := k'
        rcases L.free _ (PySem.mem_of_lookup k) rfl with k2 | k2 <;> rw [show X.env.scope.names.lookup y = _ from k2] at k' <;> cases k'
      · rw [c1] at e'
        cases e'
        exact cellK (I.freeC y _ c1) z
  · obtain ⟨w', z⟩ := I.cell y c (cm e)
    exact ⟨w', cellK (I.freeC y c (cm e)) z⟩
  · obtain ⟨v, o, ho, hd⟩ := I.cell y c (cm e)
    exact (un c o ho (I.freeC y c (cm e))).2
/-- x(), in the def that got the lambda: Z is that def's context, entered at s -/
theorem pe_actL {CXg : CXT} {Eg : XK} {Ng : List Str} {qg : Str} {sg : Scope} {gA f c' : Addr} {cdg : Value} {L : LamI} {ws : List Nat} {i : Nat} {a : Str} {pn : List (Addr × Obj)} {xe : Value → Shared → Prop} {W : WX} {E : XK} {tb : TE} {p1 p2 : Pos} {dV : Value} {AW : Around} {oW : List PySem.Env}
    (I : Inv X pins σ H s) (LS : LamS2 X.N X.env.scope L.scope L.params ws)
    (tk : Takes ((cxOf CXg X.prog X.w X.K X.mg X.base Ng qg sg gA cdg AW oW sW HW Eg).tr pn xe) W) (hW : ∀ cls d σ' H', E cls d H' → W cls d σ' H') (hr : (AW.deeper (envOfC qg sg sW.heap.objs.size gA cdg)).depth < recursionLimit) (hdn : AW.handled = none) (sees : Sees H HW s.heap sW.heap)
    (hbody : ∀ (s1 : Shared) (H1 : Hp), PE (lamCx2 X (AW.deeper (envOfC qg sg sW.heap.objs.size gA cdg)) (envOfC qg sg sW.heap.objs.size gA cdg :: oW) s1 H1 E L.scope f c') L.body tb)
    (hN : Ng[i]? = some a) (hv : Vis sg a) (hd : (a == ("__debug__" : Str)) = false) (hcd : (a == ("__classdict__" : Str)) = false) :
    PE ((cxOf CXg X.prog X.w X.K X.mg X.base Ng qg sg gA cdg AW oW sW HW Eg).tr pn xe) (.Call (.Name a p1) [] [] p2)
      (fun σZ HZ Q => σZ[i]? = some (some (.ref f)) ∧ HZ f = some (LamO f (X.env.qual ++ "<lambda>") L X.env.cells c' dV) ∧ HZ c' = some (LamX.CodeO c' (X.env.qual ++ "<lambda>")) ∧ LamD HZ L dV ∧ tb (wipe σ ws) HZ Q) := by
  refine ⟨fun pinsZ sZ σZ HZ Q IZ h => ?_⟩
  obtain ⟨hs, hf, hc, hD, ht⟩ := h
  refine wpAny_Call_Name_kw (thn ((pe_var (pos := p1) (i := i) hN hv hd hcd).run pinsZ sZ σZ HZ (fun v H1 => v = .ref f ∧ H1 = HZ) IZ ⟨.ref f, hs, rfl, rfl⟩) fun u s1 ⟨v, H1, I1, r1, q1⟩ => ?_)
  obtain ⟨ev, eH⟩ := q1
  subst ev
  rw [eH] at I1
  obtain rfl : u = Value.ref f := r1
  obtain ⟨⟨doc, pm, ctv, of1⟩, _, _⟩ := I1.hok f _ hf
  refine PySem.W.callWith_F0 ⟨_, _, _, _, of1⟩ ?_
  have un : Sees H HZ s.heap s1.heap := sees.un (I1.base : Un (frs oW) [] HW HZ sW.heap s1.heap) (fun _ z => nomatch z)
  obtain ⟨⟨oc, vs, t, hoc, hdc, hvc⟩, _, _⟩ := I1.hok c' _ hc
  obtain ⟨binds, hb, hbs⟩ := lam_binds (q := X.env.qual ++ "<lambda>") (cl := cloFrom X.env.cells L.scope.names []) (doc := doc) (pm := pm) (ctv := ctv) (c' := c') I1.hok hD
  have hloc : ∀ x ∈ binds, L.scope.names.lookup x.1 = some .local := fun x hx => by
    rcases hbs with ⟨rfl, _⟩ | ⟨y, i, t, rfl, hp⟩
    · cases hx
    · rw [List.mem_singleton.mp hx]
      exact LS.par y i hp
  have rc : codeAny (model X.prog X.w) (AW.deeper (envOfC qg sg sW.heap.objs.size gA cdg)) (.call (.ref f) ⟨[], []⟩) (CR (L2.CX X.prog X.w) (envOfC qg sg sW.heap.objs.size gA cdg :: oW) X.prog X.w HZ s1 Q E) s1 := by
    refine PySem.W.kla_callFunE hr of1 rfl LS.co LS.gen rfl ⟨c', oc, vs, t, rfl, hoc, hdc, hvc⟩ (hb _ _ _ _ ?_)
    refine wpAny_newFunctionEnv LS.cell hloc (fun h₁ hns hsb => ⟨I1.nolimit.fresh _ hsb, ?_⟩) LS.kind
    show codeAny _ _ (.expr L.body (lamEnv2 X L.scope s1.heap.objs.size f c')) _ _
    have kp : ∀ b o, s1.heap.get? b = some o → h₁.get? b = some o := fun b o e => hsb.extBut b o (Nat.ne_of_lt (Heap.lt_size e)) (Heap.get?_push_of_some _ e)
    have J : Inv (lamCx2 X (AW.deeper (envOfC qg sg sW.heap.objs.size gA cdg)) (envOfC qg sg sW.heap.objs.size gA cdg :: oW) s1 HZ E L.scope f c') [] (wipe σ ws) HZ { s1 with heap := h₁, toks := s1.toks + binds.length } :=
      lam_start3 I LS I1.env0 hdn un hns kp
    refine PySem.W.kla_codeExpr (wpAny_mono ((hbody s1 HZ).run [] _ _ HZ Q J ht) (fun v s' hq => ?_) fun e s' hq => hq)
    obtain ⟨w', H', J', rv, q⟩ := hq
    exact ⟨w', H', J'.os, J'.bare, J'.base, J'.hok, rv, q⟩
  have hx : Passes (L2.CX X.prog X.w) ((cxOf CXg X.prog X.w X.K X.mg X.base Ng qg sg gA cdg AW oW sW HW Eg).tr pn xe) E := passes_call tk hW
  refine wpAny_call (codeAny_mono rc fun r s' hq => ?_)
  cases r with
  | error e => exact hx pinsZ σZ HZ s1 e s' I1 hq
  | ok fl =>
    cases fl with
    | ret u => exact I1.after hq
    | next => exact False.elim hq
    | brk => exact False.elim hq
    | cont => exact False.elim hq
end
end Rk

set_option maxHeartbeats 2000000
/-! Rk.Lb: a lambda asked for its answer or its error. -/
namespace Rk
open PySem PySem.Spec PyProof.Rows L2
/-- what a def promises that is called with the exception that is handled -/
def spX (g : Gi) (call : Cl) (f : Nat) (p : Addr × Obj) (H : Hp) (Q : VK) : Prop := ∃ (w : Wd) (h : AH) (c : Nat) (fs : List (Nat × D)) (dd : Addr) (gs : List (Str × V)), RR g w h H ∧ Zc (.ref (g.ca c)) (some dd) p.2 ∧ (∃ vs, p.2.data = .fields vs) ∧ w.F dd = some (.xd gs) ∧ RVf g w h.nx fs gs ∧ g.xk c ∧
  Post g w h.nx (call.x f c fs h) (fun _ _ _ => False) (PV g Q)
structure FnX (P : Program) (w : World) (K : PySem.W.Frag) (mg : Str → Option Value) (base : Heap) (k : Nat) (f : Addr) (fd : FuncData) (ps : List Str) (sp : Addr × Obj → Hp → VK → Prop) : Prop where
  run : ∀ (A : Around) (outer : List PySem.Env) (s : Shared) (H : Hp) (p : Addr × Obj) (Q : VK), RoomG k A → L2H.PinOk outer H s p → Env0 P w K mg base A outer s H → BindsTo s fd ⟨[.ref p.1], []⟩ (ps.zip [.ref p.1]) → sp p H Q →
    codeAny (model P w) A (.call (.ref f) ⟨[.ref p.1], []⟩) (CR (CXZ false P w) outer P w H s Q (fun _ _ _ => False)) s
/-- the error classes' fields may be read -/
def XkOk (g : Gi) (K : PySem.W.Frag) : Prop := ∀ c, g.xk c → XfC K (g.ca c) ∧ ∀ i, i < g.nn → PySem.W.findIn K (.ref (g.ca c)) (g.an i) = some none
/-- f(e), e the exception that is handled -/
theorem pe_callX {Y : Cx} {k : Nat} {fa : Addr} {fd : FuncData} {ps : List Str} {sp : Addr × Obj → Hp → VK → Prop} {x y : Str} {j : Nat} {p : Addr × Obj} {p1 p2 pos : Pos} (F : FnX Y.prog Y.w Y.K Y.mg Y.base k fa fd ps sp) (hr : RoomG k Y.A) (hp : p ∈ Y.pn) (hg : Gl Y x) (hm : Y.mg x = some (.ref fa)) (hk : PySem.W.keepIn Y.K (.ref fa) = true)
    (hb : ∀ s : Shared, Y.K.In s.heap → BindsTo s fd ⟨[.ref p.1], []⟩ (ps.zip [.ref p.1])) (hdb : (x == ("__debug__" : Str)) = false) (hN : Y.N[j]? = some y) (hv : Vis Y.env.scope y) (hd : (y == ("__debug__" : Str)) = false) (hcd : (y == ("__classdict__" : Str)) = false) :
    PE Y (.Call (.Name x p1) [.Name y p2] [] pos) (fun σ H Q => σ[j]? = some (some (.ref p.1)) ∧ sp p H Q) := by
  refine ⟨fun pins s σ H Q I ⟨hs, h⟩ => ?_⟩
  refine wpAny_Call_Name_kw (ld_glob I hg hm ?_ hdb)
  have pv : PE Y (.Name y p2) (tVar j) := pe_var hN hv hd hcd
  refine PySem.W.callWith_K (h₀ := Y.base) I.ok.mod.kin hk (thn ((pa_cons pv pa_nil).run pos pins s σ H (fun vs H1 => vs = [.ref p.1] ∧ H1 = H) I ⟨_, hs, rfl, rfl⟩) fun us s1 ⟨vs, H1, I1, r, e1, e2⟩ => ⟨I1.kIn, ?_⟩) (by rfl) (by rfl)
  subst e1; subst e2
  cases r with
  | cons r1 r2 =>
    cases r2
    obtain rfl : _ = Value.ref p.1 := r1
    have P1 := I1.pin p (List.mem_append_left _ hp)
    have hpin : L2H.PinOk Y.stack H1 s1 p := ⟨P1.1, P1.2.1, fun hm => (List.mem_cons.mp (I1.stkSub p.1 hm)).elim P1.2.2.1 P1.2.2.2.1, P1.2.2.2.2⟩
    refine wpAny_call (codeAny_mono (F.run Y.A Y.stack s1 H1 p Q hr hpin I1.env0 (hb s1 I1.kIn) h) fun r s' hq => ?_)
    cases r with
    | error e =>
      obtain ⟨_, _, _, _, _, _, _, _, _, _, _, _, z⟩ := hq
      exact z.elim
    | ok fl =>
      cases fl with
      | ret u => exact I1.after hq
      | next => exact False.elim hq
      | brk => exact False.elim hq
      | cont => exact False.elim hq
/-- the text of _law_why -/
def whyT : List Stmt → Option (Str × Str × Str × Str × Str × Str)
  | [.Try [.Return (some (.Tuple [.Constant (.str t) _ _, .Call (.Name a _) [] [] _] _ _)) _] [.ExceptHandler (some (.Tuple [.Name x1 _, .Name x2 _, .Name x3 _] _ _)) (some e) [.Return (some (.Tuple [.Attribute (.Name e1 _) cd _, .Call (.Name lf _) [.Name e2 _] [] _] _ _)) _] _] [] [] _] =>
    if t = ("told" : Str) ∧ e1 = e ∧ e2 = e ∧ cd = ("code" : Str) then some (a, e, x1, x2, x3, lf) else none
  | _ => none
section
variable {X : Cx} {pins : List (Addr × Obj)} {σ : L2.St} {H HW : Hp} {s sW : Shared} {g : Gi} {gG : G} {callm : Cl}
theorem told_eq : stt told = ("told" : Str) := by decide +kernel
theorem wipe_cons {σ : L2.St} {i : Nat} : ∀ {ws : List Nat}, wipe (σ.set i none) ws = (wipe σ ws).set i none
  | [] => rfl
  | v :: vs => by
    unfold wipe
    rw [wipe_cons]
    by_cases e : v = i
    · subst e; rfl
    · exact List.set_comm _ _ (Ne.symm e)
theorem RE.wiped {w : Wd} {n : Nat} : ∀ {ws : List Nat} {env : Env} {σ : L2.St}, RE g w n env σ → RE g w n (ws.foldl (fun e i => e.set i .no) env) (wipe σ ws)
  | [], _, _, r => r
  | v :: vs, env, σ, r => by
    have z := RE.wiped (ws := vs) (r.gone v (o := none))
    rw [wipe_cons] at z
    exact z
/-- what the lambda's frame and text are -/
structure LamAt (X : Cx) (g : Gi) (gG : G) (callm : Cl) (m kl : Nat) (L : LamI) : Prop where
  sc : LamS2 X.N X.env.scope L.scope L.params (gG.lamw kl)
  cells : g.cells = X.env.cells
  qual : g.qual = X.env.qual
  body : ∀ (A : Around) (outer : List PySem.Env) (s1 : Shared) (H1 : Hp) (E : XK) (f c' : Addr), RoomG m (A.deeper (lamEnv2 X L.scope s1.heap.objs.size f c')) → A.handled = none → PE (lamCx2 X A outer s1 H1 E L.scope f c') L.body (tE g (fun _ => E) (evE gG callm true (gG.lam kl)))
/-- _law_why and _law_field as they stand in the text -/
structure WhyAt (P : Program) (w : World) (K : PySem.W.Frag) (mg : Str → Option Value) (base : Heap) (g : Gi) (gG : G) (callm : Cl) (m : Nat) (fw : Addr) (fd : FuncData) (a : Str) : Prop where
  ex : ∃ (qual : Str) (params : Arguments) (body : List Stmt) (scope : Scope) (fdl : FuncData) (psl : List Str) (fl : Addr) (e x1 x2 x3 lf : Str) (C1 C2 C3 : Addr), FunD K "_law_why" qual params body scope [] [] fw fd ∧ FnScope [a, e] [a] scope ∧ whyT body = some (a, e, x1, x2, x3, lf) ∧
    (∀ (s : Shared) (u : Value), K.In s.heap → BindsTo s fd ⟨[u], []⟩ [(a, u)]) ∧ scope.names.lookup a = some .local ∧ scope.names.lookup e = some .local ∧ (∀ y ∈ [x1, x2, x3, lf], scope.names.lookup y = some .globalImplicit) ∧
    (∀ y ∈ [a, e, x1, x2, x3, lf], (y == ("__debug__" : Str)) = false ∧ (y == ("__classdict__" : Str)) = false) ∧ mg x1 = some (.ref C1) ∧ mg x2 = some (.ref C2) ∧ mg x3 = some (.ref C3) ∧ mg lf = some (.ref fl) ∧ PySem.W.keepIn K (.ref fl) = true ∧
    (∀ c, g.xk c → PySem.W.exmAny K (.ref (g.ca c)) [.ref C1, .ref C2, .ref C3] = some true) ∧ FnX P w K mg base m fl fdl psl (spX g callm gG.fld) ∧ (∀ (s : Shared) (u : Value), K.In s.heap → BindsTo s fdl ⟨[u], []⟩ (psl.zip [u]))
  xo : XkOk g K
  nm : NmOk g
  ic : gG.cod < g.nn
  ec : g.an gG.cod = ("code" : Str)
theorem two_line : 2 ≤ sizeLine := by decide
/-- _law_why called with a lambda -/
theorem why_run {m kl : Nat} {fw : Addr} {fd : FuncData} {w : Wd} {h : AH} {env : Env} {Q : VK} {L : LamI} {a : Str} {f c' : Addr} {dV : Value} {A : Around} {outer : List PySem.Env}
    (WA : WhyAt X.prog X.w X.K X.mg X.base g gG callm m fw fd a) (LA : LamAt X g gG callm m kl L)
    (hd : A.depth + 3 * m + 7 < recursionLimit) (hun : A.units + 16 * m + 206 < cLine) (hgd : A.guards = some []) (hcalm : A.handled = none) (I : Inv X pins σ H s) (sees : Sees H HW s.heap sW.heap) (e0 : Env0 X.prog X.w X.K X.mg X.base A outer sW HW) (rr : RR g w h HW) (re : RE g w h.nx env σ)
    (hF : w.F f = some (LamO f (g.qual ++ "<lambda>") L g.cells c' dV)) (hC : w.F c' = some (LamX.CodeO c' (g.qual ++ "<lambda>"))) (hD : LamD w.F L dV)
    (q : Post g w h.nx (whyR gG callm kl env h) (fun _ _ _ => False) (PV g Q)) :
    codeAny (model X.prog X.w) A (.call (.ref fw) ⟨[.ref f], []⟩) (CR (CXZ false X.prog X.w) outer X.prog X.w HW sW Q (fun _ _ _ => False)) sW := by
  obtain ⟨qual, params, body, scope, fdl, psl, fl, e, x1, x2, x3, lf, C1, C2, C3, FW, S, hT, hbind, na, ne, gls, da, m1, m2, m3, ml, kl', hx, FL, hbl⟩ := WA.ex
  have g1 := gls x1 (by simp)
  have g2 := gls x2 (by simp)
  have g3 := gls x3 (by simp)
  have gl := gls lf (by simp)
  obtain ⟨oc, od, dV', kV, doc, pm, an, cdv, ct, osl, rfl, lk, hcd, _, _⟩ := FW.ex
  unfold whyT at hT
  split at hT
  rotate_left
  · cases hT
  rename_i t j1 p1 a' p2 p3 j2 p4 p5 y1 p6 y2 p7 y3 p8 j3 p9 e' e1 p10 cd p11 lf' p12 e2 p13 p14 j4 p15 p16 p17 p18
  split at hT
  rotate_left
  · cases hT
  rename_i hc
  obtain ⟨rfl, rfl, rfl, rfl⟩ := hc
  cases hT
  have eF := LA.cells
  have eQ := LA.qual
  have inK : X.K.In sW.heap := e0.mod.kin.keeps fun b o z => (e0.bs b o z).1
  have noLim : sW.heap.NoLimit := e0.mod.nolimit.keeps fun b o z => (e0.bs b o z).1
  have kinds : ∀ y ∈ [a].zip [Value.ref f], scope.names.lookup y.1 = some .local ∨ (scope.names.lookup y.1 = some .cell ∧ ((cellsFrom (sW.heap.objs.size + 1) scope.names []).lookup y.1).isSome = true) := by
    intro y hy
    rw [List.mem_singleton.mp (show y ∈ [(a, Value.ref f)] from hy)]
    exact .inl na
  refine codeAny_call_function (by omega) (inK _ _ lk) rfl S.co S.gen rfl (PySem.W.codeRec_of inK hcd) (hbind sW (.ref f) inK _ _ _ _ ?_)
  refine wpAny_newFunctionEnv_cells S.kind kinds ?_
  intro envv henv s1 entered
  subst henv
  refine ⟨noLim.keeps entered.toInCall.keep, codeAny_func ?_⟩
  have inv := inv_start (CX := CXZ false X.prog X.w) (E := fun _ _ _ => False) (vs := [.ref f]) S hcalm e0 rfl (.cons rfl .nil) entered
  let Z : Cx := cxOf (CXZ false X.prog X.w) X.prog X.w X.K X.mg X.base [a, e] qual scope fw cdv A outer sW HW (fun _ _ _ => False)
  have nm : ∀ {y : Str} {C : Addr}, scope.names.lookup y = some .globalImplicit → X.mg y = some (.ref C) → (y == ("__debug__" : Str)) = false → Names Z y (.ref C) := fun {y C} h1 h2 h3 => ⟨h1, h3, .inl h2⟩
  have va : Vis scope a := .inl na
  have ve : Vis scope e := .inl ne
  let ts : Addr → Value → Option Addr → TS := fun ad cls d DD σ H => (1 < σ.length → σ[1]? = some (some (.ref ad))) ∧ ∃ (w : Wd) (h : AH) (c : Nat) (fs : List (Nat × D)) (dd : Addr) (gs : List (Str × V)) (cd : D), RR g w h H ∧ cls = .ref (g.ca c) ∧ d = some dd ∧ w.F dd = some (.xd gs) ∧ RVf g w h.nx fs gs ∧ g.xk c ∧ lkN gG.cod fs = some cd ∧
    Post g w h.nx (noexc (callm.x gG.fld c fs h)) (fun _ _ _ => False) (fun w1 h1 H1 v => ∀ x y, RV g w1 h1.nx cd x → RV g w1 h1.nx v y → ∀ p, H1 p = none → DD.rt (.ref p) (upd H1 p (.tup [x, y])))
  let tb : WX → TS := fun W D σZ HZ => ∃ Ech : XK, (∀ cls d σ' H', Ech cls d H' → W cls d σ' H') ∧ tTup (tCons (tC (.str ("told" : Str))) (tCons (fun σZ HZ Q => σZ[0]? = some (some (.ref f)) ∧ HZ f = some (LamO f (X.env.qual ++ "<lambda>") L X.env.cells c' dV) ∧ HZ c' = some (LamX.CodeO c' (X.env.qual ++ "<lambda>")) ∧ LamD HZ L dV ∧ tE g (fun _ => Ech) (evE gG callm true (gG.lam kl)) (wipe σ (gG.lamw kl)) HZ Q) tNil)) σZ HZ D.rt
  have main : PSs Z [.Try [.Return (some (.Tuple [.Constant (.str ("told" : Str)) j1 p1, .Call (.Name a p2) [] [] p3] j2 p4)) p5] [.ExceptHandler (some (.Tuple [.Name x1 p6, .Name x2 p7, .Name x3 p8] j3 p9)) (some e) [.Return (some (.Tuple [.Attribute (.Name e p10) "code" p11, .Call (.Name lf p12) [.Name e p13] [] p14] j4 p15)) p16] p17] [] [] p18] (fun D σ H => tb (wTry X.K [.ref C1, .ref C2, .ref C3] (some 1) ts (fun _ _ _ _ => False) D) D σ H) := by
    refine pss_one (ps_try1 (X := Z) (o := some 1) (no := some e) rfl rfl S.nd ⟨rfl, ne⟩ (tests_tup3 (nm g1 m1 (da x1 (by simp)).1) (nm g2 m2 (da x2 (by simp)).1) (nm g3 m3 (da x3 (by simp)).1)) LamX.takes0 (fun W pn xe tk po => ?_) (fun ad oe cls d pn hz hfl => ?_))
    · refine ⟨fun pinsZ sZ σZ HZ D IZ hZ => ?_⟩
      obtain ⟨Ech, hW, hZ⟩ := hZ
      have act := pe_actL (CXg := CXZ false X.prog X.w) (Eg := fun _ _ _ => False) (Ng := [a, e]) (qg := qual) (sg := scope) (gA := fw) (cdg := cdv) (L := L) (i := 0) (pn := pn) (xe := xe) (dV := dV) (p1 := p2) (p2 := p3) (f := f) (c' := c') I LA.sc tk hW (by show A.depth + 1 < _; omega) hcalm sees
        (fun s1 H1 => LA.body _ _ s1 H1 Ech f c' ⟨by show A.depth + 1 + 1 + 3 * m + 5 < _; omega, by show A.units + 3 + 3 + 16 * m + 200 < _; omega, hgd⟩ hcalm) rfl va (da a (by simp)).1 (da a (by simp)).2
      exact (pss_one (ps_ret (pos := p5) (pe_tup (pa_cons pe_str (pa_cons act pa_nil))))).run pinsZ sZ σZ HZ D IZ hZ
    · refine ⟨fun pinsZ sZ σZ HZ D IZ hZ => ?_⟩
      obtain ⟨h1, w1, h1', c, fs, dd, gs, cd, rr1, rfl, rfl, hdd, hf, xk, hcd', qq⟩ := hZ
      have hl : σZ.length = 2 := IZ.len
      have s1' := h1 (by omega)
      obtain ⟨xof, xno⟩ := WA.xo c xk
      obtain ⟨cv, lkc, rvc⟩ := RVf.look WA.nm WA.ic hf hcd'
      rw [WA.ec] at lkc
      have hno := xno gG.cod WA.ic
      rw [WA.ec] at hno
      have pat : PE (Z.suite ad ((ad, oe) :: pn)) (.Attribute (.Name e p10) ("code" : Str) p11) _ := pe_xf xof hno hz hfl (pe_var (i := 1) rfl ve (da e (by simp)).1 (da e (by simp)).2)
      have pcl : PE (Z.suite ad ((ad, oe) :: pn)) (.Call (.Name lf p12) [.Name e p13] [] p14) _ := pe_callX (x := lf) (y := e) (j := 1) (p := (ad, oe)) FL ⟨by show A.depth + 1 + 3 * m + 5 < _; omega, by show A.units + 3 + 16 * m + 200 < _; omega, hgd⟩ List.mem_cons_self gl ml kl' (fun s => hbl s _) (da lf (by simp)).1 rfl ve (da e (by simp)).1 (da e (by simp)).2
      refine (pss_one (ps_ret (pos := p16) (pe_tup (pa_cons pat (pa_cons pcl pa_nil))))).run pinsZ sZ σZ HZ D IZ ?_
      refine ⟨.ref ad, s1', rfl, rfl, dd, gs, cv, rfl, rr1.sub _ _ hdd, lkc, s1', w1, h1', c, fs, dd, gs, rr1, hz, hfl, hdd, hf, xk, ?_⟩
      refine Post.mono (Post.noexc qq) fun w2 h2 H2 v ex rr2 hv x rx => ⟨two_line, fun p hp => hv cv x (rvc.ext ex) rx p hp⟩
  have hq : tb (wTry X.K [.ref C1, .ref C2, .ref C3] (some 1) ts (fun _ _ _ _ => False) { nx := fun _ H' => Q .non H', rt := Q }) { nx := fun _ H' => Q .non H', rt := Q } (L2.start [a, e] [.ref f]) HW := by
    refine ⟨fun cls d H' => ∃ (w : Wd) (h : AH) (c : Nat) (fs : List (Nat × D)) (dd : Addr) (gs : List (Str × V)) (cd : D), RR g w h H' ∧ cls = .ref (g.ca c) ∧ d = some dd ∧ w.F dd = some (.xd gs) ∧ RVf g w h.nx fs gs ∧ g.xk c ∧ lkN gG.cod fs = some cd ∧
      Post g w h.nx (noexc (callm.x gG.fld c fs h)) (fun _ _ _ => False) (fun w1 h1 H1 v => ∀ x y, RV g w1 h1.nx cd x → RV g w1 h1.nx v y → ∀ p, H1 p = none → Q (.ref p) (upd H1 p (.tup [x, y]))), fun cls d σ' H' hE => ?_, ?_⟩
    · obtain ⟨w1, h1, c, fs, dd, gs, cd, rr1, rfl, rfl, hdd, hf, xk, hcd', qq⟩ := hE
      exact ⟨true, hx c xk, fun _ ad _ => ⟨fun hl => List.getElem?_set_self (by simpa [asS] using hl), w1, h1, c, fs, dd, gs, cd, rr1, rfl, rfl, hdd, hf, xk, hcd', qq⟩, fun z => nomatch z⟩
    · refine ⟨rfl, rr.sub _ _ (by rw [← eF, ← eQ]; exact hF), rr.sub _ _ (by rw [← eQ]; exact hC), ?_, w, _, h, rr, re.wiped, ?_⟩
      · rcases hD with hD | ⟨y, i, T, b1, b2, b3⟩
        · exact .inl hD
        · exact .inr ⟨y, i, T, b1, b2, rr.sub _ _ b3⟩
      · unfold whyR at q
        split at q
        · rename_i v h2 he
          rw [he]
          refine fun w' H' ex rr' x rx => ⟨two_line, fun p hp => ?_⟩
          have ft : RV g _ h2.nx (.tup [.str told, v]) (.ref p) := rv_tup.mpr ⟨p, [.str (stt told), x], rfl, .inl (.inl upd_same), RVs.mk (rv_str.mpr ⟨rfl, by decide⟩) (RVs.mk (rx.ext (rr'.freeze hp).2) RVs.nil)⟩
          rw [← told_eq]
          exact q _ _ (ex.trans (rr'.freeze hp).2) (rr'.freeze hp).1 _ ft
        · rename_i c fs h2 he
          rw [he]
          split at q
          · rename_i cd hcd'
            intro w' H' cls d ex rr' hrx
            obtain ⟨c', fs', dd, gs, hxe, rfl, rfl, hdd, hf, xk⟩ := hrx
            cases hxe
            refine ⟨w', h2, c, fs, dd, gs, cd, rr', rfl, rfl, hdd, hf, xk, hcd', ?_⟩
            refine Post.mono (Post.bind (Post.from q ex)) fun w3 h3 H3 v ex3 rr3 hv x y rx ry p hp => ?_
            have ft : RV g _ h3.nx (.tup [cd, v]) (.ref p) := rv_tup.mpr ⟨p, [x, y], rfl, .inl (.inl upd_same), RVs.mk (rx.ext (rr3.freeze hp).2) (RVs.mk (ry.ext (rr3.freeze hp).2) RVs.nil)⟩
            exact hv _ _ (rr3.freeze hp).2 (rr3.freeze hp).1 _ ft
          · exact q.elim
        · exact q.elim
  refine wpAny_mono (main.run [] s1 _ HW _ inv hq) ?_ fun e s' z => z
  intro fl s' hfl
  cases fl with
  | ret u =>
    obtain ⟨v, σ', H', J, rv, q⟩ := hfl
    exact ⟨v, H', J.os, J.bare, J.base, J.hok, rv, q⟩
  | next =>
    obtain ⟨σ', H', J, q⟩ := hfl
    exact ⟨.non, H', J.os, J.bare, J.base, J.hok, rfl, q⟩
  | brk =>
    obtain ⟨_, _, _, q⟩ := hfl
    exact q.elim
  | cont =>
    obtain ⟨_, _, _, q⟩ := hfl
    exact q.elim
end
end Rk

set_option maxHeartbeats 2000000
/-! Rk.Ld: [f(x) for x in xs], f(x) read with what its block knows of its entry. -/
namespace Rk
open PySem PySem.Spec PyProof.Rows L2
section
variable {X : Cx}
/-- what is known of a block's entry -/
structure Entry (X : Cx) (s : Shared) (H : Hp) (fp : List Addr) : Prop where
  un : Un X.fs X.ex X.H_0 H X.s_0.heap s.heap
  fp : ∀ b ∈ fp, b ∈ X.ex ∨ X.s_0.heap.objs.size ≤ b
theorem pe_lcK {elt tg iter : Expr} {scope : Scope} {own : List (Str × Nat)} {pos : Pos} {wi : TI} {g : TG} {te : TE} (calm : X.calm = true) (nd : X.N.Nodup) (walk : PI X tg iter wi) (ok : BlkOk X.N X.env.scope scope own)
    (tgt : ∀ (s : Shared) (H : Hp) (C : Addr) (cl : List (Str × Addr)) (fp : List Addr), PG (X.blk s H scope (compEnvC scope cl C X.env) fp) tg g)
    (el : ∀ (s : Shared) (H : Hp) (C : Addr) (cl : List (Str × Addr)) (fp : List Addr), Entry X s H fp → PE (X.blk s H scope (compEnvC scope cl C X.env) fp) elt te) (set : ∀ x, foldedSetIterable iter X.env x = pure x := by intro _; rfl) :
    PE X (.ListComp elt [⟨tg, iter, [], 0⟩] scope pos) (tLc wi g tYes te (own.map (·.2))) := by
  refine ⟨fun pins s σ H Q I start => ?_⟩
  rw [eval_ListComp]
  have clo : ∀ y ∈ scope.names, y.2 = .free → ∃ c, X.env.cells.lookup y.1 = some c := fun y hy e => I.ok.has _ (ok.free y hy e)
  refine wpAny_comprehension_free (use := none) rfl set (closure_ok clo) ok.kind (fun y hy e => by rw [ok.uniq y hy, e]) (thn (walk.run pins s σ H _ I start) fun _ _ hx => thn hx fun _ s2 h2 => ?_)
  obtain ⟨it, fp, tn, J, H2, rfl, I2, T, st2, f2, q⟩ := h2
  refine wpAny_newObj_type (newEnv_comp ?_) (by show 0 ≤ sizeLine; decide)
  have Dn : H2 s2.heap.objs.size = none := I2.hok.fresh (Nat.le_refl _)
  obtain ⟨W, ⟨m0, w0⟩, turn⟩ := q _ Dn
  generalize eD : s2.heap.objs.size = D at turn w0 Dn
  generalize e3 : ({ s2 with heap := s2.heap.push { cls := .type "list", data := .seq ([] : List Value).toArray } } : Shared) = s3
  have kp3 : ∀ b o, s2.heap.get? b = some o → s3.heap.get? b = some o := fun b o e => by
    rw [← e3]
    exact Heap.get?_push_of_some _ e
  have sz3 : s2.heap.objs.size < s3.heap.objs.size := by
    rw [← e3]
    show _ < (s2.heap.push _).objs.size
    rw [Heap.size_push]
    exact Nat.lt_succ_self _
  have I3 : Inv X pins σ (upd H2 D (.lst [])) s3 := by
    rw [← e3]
    refine I2.laid (t' := s2.toks) (fun b o e => Heap.get?_push_of_some _ e) (Nat.le_of_eq eD) ⟨Nat.zero_le _, [], 0, .nil, ?_⟩
    rw [← eD]
    exact Heap.get?_push_size _ rfl
  have low : ∀ b ∈ fp, b < s2.heap.objs.size := fun b hb => (T.obj _ _ st2 b hb).elim fun _ e => Heap.lt_size e.1
  have f3 : ∀ b ∈ fp, FpOk X pins (upd H2 D (.lst [])) b ∧ b < s3.heap.objs.size := fun b hb =>
    ⟨⟨by rw [upd_ne (by rw [← eD]; exact Nat.ne_of_lt (low b hb))]; exact (f2 b hb).1, (f2 b hb).2⟩, Nat.lt_trans (low b hb) sz3⟩
  have st3 : tn 0 s3.heap := T.keep _ _ _ st2 fun b _ => kp3 b
  have I4 := block_start I3 ok nd f3
  have known : Entry X s3 (upd H2 D (.lst [])) fp := ⟨I3.base, fun b hb => (f3 b hb).1.2.2.2.1⟩
  have pg := tgt s3 (upd H2 D (.lst [])) s3.heap.objs.size (cellsFrom (s3.heap.objs.size + 1) scope.names (cloFrom X.env.cells scope.names [])) fp
  have pe := el s3 (upd H2 D (.lst [])) s3.heap.objs.size (cellsFrom (s3.heap.objs.size + 1) scope.names (cloFrom X.env.cells scope.names [])) fp known
  have nfp : ∀ b ∈ fp, (upd H2 D (.lst [])) b = none := fun b hb => (f3 b hb).1.1
  show codeAny _ _ (.compStart (.ListComp elt [⟨tg, iter, [], 0⟩] scope pos) 0 (.ref it) (.ref D) (compEnvC scope (cellsFrom (s3.heap.objs.size + 1) scope.names (cloFrom X.env.cells scope.names [])) s3.heap.objs.size X.env)) (compPost (model X.prog X.w) X.A X.xe none _ (.ref D) s3.heap.objs.size) { s3 with heap := pushCells (s3.heap.push { cls := .type "dict", data := .dict #[] }) scope.names }
  have st4 : tn 0 ({ s3 with heap := pushCells (s3.heap.push { cls := .type "dict", data := .dict #[] }) scope.names } : Shared).heap := T.keep _ _ _ st3 fun b _ o e => pushCells_keeps _ _ _ _ (Heap.get?_push_of_some _ e)
  have locals : (compEnvC scope (cellsFrom (s3.heap.objs.size + 1) scope.names (cloFrom X.env.cells scope.names [])) s3.heap.objs.size X.env).locals = s3.heap.objs.size := rfl
  generalize compEnvC scope (cellsFrom (s3.heap.objs.size + 1) scope.names (cloFrom X.env.cells scope.names [])) s3.heap.objs.size X.env = ce at I4 pg pe locals ⊢
  generalize upd H2 D (.lst []) = H3 at I3 I4 pg pe w0 nfp f3
  generalize ({ s3 with heap := pushCells (s3.heap.push { cls := .type "dict", data := .dict #[] }) scope.names } : Shared) = s4 at I4 st4 ⊢
  have stays : ∀ {σ' : L2.St} {H' : Hp} {s' : Shared}, Inv (X.blk s3 H3 scope ce fp) [] σ' H' s' → (∀ b ∈ fp, H' b = none) → ∀ b ∈ fp, FpOk (X.blk s3 H3 scope ce fp) [] H' b := fun {σ' H' s'} I' hn b hb =>
    ⟨hn b hb, (I'.ok.exf b hb).1, I'.ok.exfs b hb, .inl hb, fun x c e => (I'.ok.exf b hb).2 x c e, fun p hp => absurd (show p ∈ ([] : List (Addr × Obj)) ++ [] from hp) (by simp)⟩
  have loop : codeAny (model X.prog X.w) X.A (.compLoop (.ListComp elt [⟨tg, iter, [], 0⟩] scope pos) 0 (.ref it) (.ref D) ce) (compPost (model X.prog X.w) X.A X.xe none (fun v s' => EP X pins σ Q v s') (.ref D) s3.heap.objs.size) s4 := by
    refine compLoop_any (fun n s' => ∃ i H', Inv (X.blk s3 H3 scope ce fp) [] (wipe σ (own.map (·.2))) H' s' ∧ tn i s'.heap ∧ (∀ b ∈ fp, H' b = none) ∧ W i n H') ?_ m0 ⟨0, H3, I4, st4, nfp, w0⟩
    rintro n s5 ⟨i, H5, I5, st5, n5, w5⟩
    rcases turn i n H5 w5 with ⟨stop, qq⟩ | ⟨go, Nx, less, step⟩
    · -- the end: back in the frame
      refine thnF (T.done (X.blk s3 H3 scope ce fp) rfl rfl rfl calm i [] s5 _ H5 (fun _ _ => False) I5 (stays I5 n5) st5 stop) fun r s6 ⟨hr, I6⟩ => ?_
      subst hr
      have I7 : Inv X pins σ H5 s6 := I3.call' (ch := fp) I6.os I6.base I6.hok I6.bare fun b hb =>
        have z := (f3 b hb).1.2
        ⟨z.2.2.1, z.1, z.2.2.2.1, z.2.2.2.2⟩
      obtain ⟨m, hn, _⟩ := I6.loc
      have hn : s6.heap.Ns s3.heap.objs.size m := by rw [← locals]; exact hn
      have nC : H5 s3.heap.objs.size = none := by rw [← locals]; exact I6.free
      refine ⟨m, hn, fun h'' sb => ?_⟩
      obtain ⟨f0, f1, f2', f3', f4, f5⟩ := I3.fpOk (Nat.le_refl _) nC
      exact ⟨.ref D, H5, I7.turned (t' := s6.toks) (fun b o hb e => (sb.2 b hb).trans e) f0 f1 f3' f4 f5, rfl, qq⟩
    · refine thnF (T.item (X.blk s3 H3 scope ce fp) rfl rfl rfl calm i [] s5 _ H5 (fun _ _ => False) I5 (stays I5 n5) st5 go) fun r s6 ⟨u, hr, h6⟩ => ?_
      subst hr
      refine thnF h6 fun _ s7 ⟨x, H7, I7, r7, y7, st7, n7⟩ => ?_
      refine thnF (pg.run _ s7 _ H7 x u _ (I7.pinned (stays I7 n7) (T.obj _ _ st7)) r7 (step x H7 y7)) fun _ s8 ⟨σ8, H8, I8, hw, q8⟩ => ?_
      have len : (wipe σ (own.map (·.2))).length = σ8.length := by rw [← hw, wipe_length]
      have turned : ∀ {s' : Shared} {H' : Hp}, Inv (X.blk s3 H3 scope ce fp) ([] ++ pinsAt fp s7.heap) σ8 H' s' → Nx H' → ∃ m, m < n ∧ ∃ i H', Inv (X.blk s3 H3 scope ce fp) [] (wipe σ (own.map (·.2))) H' s' ∧ tn i s'.heap ∧ (∀ b ∈ fp, H' b = none) ∧ W i m H' := fun {s' H'} I' nx => by
        obtain ⟨m', hm, w'⟩ := less H' nx
        have held : ∀ b ∈ fp, ∀ o, s7.heap.get? b = some o → s'.heap.get? b = some o ∧ H' b = none := fun b hb o e =>
          have z := I'.pin (b, o) (List.mem_append_right _ (List.mem_append_right _ (mem_pinsAt hb e)))
          ⟨z.1, z.2.1⟩
        exact ⟨m', hm, i + 1, H', (I'.unpinned (pins := [])).weak len fun j v e => (wipe_some (hw.symm ▸ e)).1, T.keep _ _ _ st7 fun b hb o e => (held b hb o e).1, fun b hb => (T.obj _ _ st7 b hb).elim fun o e => (held b hb o e.1).2, w'⟩
      refine thnF ((pts_nil (X := X.blk s3 H3 scope ce fp)).run _ s8 σ8 H8 _ I8 q8) fun b s9 ⟨H9, I9, q9⟩ => ?_
      cases b with
      | false => exact turned I9 (by simpa using q9)
      | true =>
        simp only [if_true] at q9 ⊢
        refine thnF (pe.run _ s9 σ8 H9 _ I9 q9) fun z s10 ⟨yv, H10, I10, r10, acc, hD, hz, nx⟩ => ?_
        exact app_ok (X := X.blk s3 H3 scope ce fp) I10 hD hz r10 fun s11 I11 => turned I11 nx
  exact codeAny_compStart_list loop (T.self X.A 0 _ _ _ st4 loop)
end
end Rk

set_option maxHeartbeats 2000000
/-! Rk.Le: a list of lambdas asked. -/
namespace Rk
open PySem PySem.Spec PyProof.Rows L2
/-- the text of _law_whys -/
def whysT : List Stmt → Option (Str × Str × Str × Scope)
  | [.Return (some (.ListComp (.Call (.Name wy _) [.Name d _] [] _) [⟨.Name d1 _, .Name a _, [], 0⟩] sc _)) _] => if d1 = d then some (a, d, wy, sc) else none
  | _ => none
theorem Sees.un2 {H0 H H1 H2 : Hp} {h0 h h1 h2 : Heap} {fs fs' ex : List Addr} (a : Sees H0 H h0 h) (u : Un fs [] H H1 h h1) (v : Un fs' ex H1 H2 h1 h2) (hx : ∀ b ∈ ex, h.objs.size ≤ b) : Sees H0 H2 h0 h2 := fun b o e n => by
  obtain ⟨⟨sl, e1⟩, n1⟩ := a b o e n
  have nx : b ∉ ex := fun hb => absurd (Heap.lt_size e1) (Nat.not_lt.mpr (hx b hb))
  obtain ⟨sl2, e2⟩ := u.any e1 n1 (by simp)
  have n2 := u.free b _ e1 n1 (by simp)
  obtain ⟨sl3, e3⟩ := v.any e2 n2 nx
  exact ⟨⟨sl3, e3⟩, v.free b _ e2 n2 nx⟩
/-- _law_whys as it stands in the text; fw: _law_why -/
structure WhysAt (K : PySem.W.Frag) (mg : Str → Option Value) (fw fs : Addr) (fd : FuncData) (a : Str) : Prop where
  ex : ∃ (qual : Str) (params : Arguments) (body : List Stmt) (scope sc : Scope) (d wy : Str), FunD K "_law_whys" qual params body scope [] [] fs fd ∧ FnScope [a, d] [a] scope ∧ whysT body = some (a, d, wy, sc) ∧
    (∀ (s : Shared) (u : Value), K.In s.heap → BindsTo s fd ⟨[u], []⟩ [(a, u)]) ∧ scope.names.lookup a = some .local ∧ blkC [a, d] scope sc [(d, 1)] = true ∧ (relS sc scope).names.lookup d = some .local ∧ (relS sc scope).names.lookup wy = some .globalImplicit ∧
    (∀ y ∈ [a, d, wy], (y == ("__debug__" : Str)) = false ∧ (y == ("__classdict__" : Str)) = false) ∧ mg wy = some (.ref fw) ∧ PySem.W.keepIn K (.ref fw) = true
section
variable {X : Cx} {pins : List (Addr × Obj)} {σ : L2.St} {H HW : Hp} {s sW : Shared} {g : Gi} {gG : G} {callm : Cl}
/-- the turn's reading -/
def tWhy (X : Cx) (g : Gi) (gG : G) (callm : Cl) (σ : L2.St) (j : Nat) : TE := fun σ' H' Q => ∃ (w : Wd) (h : AH) (env : Env) (k : Nat) (v : V), σ'[j]? = some (some v) ∧ RR g w h H' ∧ RE g w h.nx env σ ∧ LamV g w k v ∧ Post g w h.nx (whyR gG callm k env h) (fun _ _ _ => False) (PV g Q)
/-- _law_why(d) in a block of the frame -/
theorem pe_why {m : Nat} {fw fs : Addr} {fd : FuncData} {a wy d qual : Str} {scope : Scope} {cdv : Value} {A : Around} {outer : List PySem.Env} {N : List Str} {j : Nat} {p1 p2 pos : Pos} {fp : List Addr} {s3 : Shared} {H3 : Hp} {ce : PySem.Env} {sc : Scope}
    (WA : WhyAt X.prog X.w X.K X.mg X.base g gG callm m fw fd a) (LA : ∀ k L, g.lamOk k L → LamAt X g gG callm m k L) (I : Inv X pins σ H s) (sees : Sees H HW s.heap sW.heap)
    (hd : A.depth + 1 + 3 * m + 7 < recursionLimit) (hun : A.units + 3 + 16 * m + 206 < cLine) (hgd : A.guards = some []) (hcalm : A.handled = none)
    (hg : ce.scope.names.lookup wy = some .globalImplicit) (hm : X.mg wy = some (.ref fw)) (hk : PySem.W.keepIn X.K (.ref fw) = true) (hb : ∀ (s : Shared) (u : Value), X.K.In s.heap → BindsTo s fd ⟨[u], []⟩ [(a, u)]) (hN : N[j]? = some d) (hv : Vis ce.scope d)
    (hdd : (d == ("__debug__" : Str)) = false) (hdc : (d == ("__classdict__" : Str)) = false) (hw : (wy == ("__debug__" : Str)) = false)
    (hent : Entry (cxOf (CXZ false X.prog X.w) X.prog X.w X.K X.mg X.base N qual scope fs cdv A outer sW HW (fun _ _ _ => False)) s3 H3 fp) :
    PE ((cxOf (CXZ false X.prog X.w) X.prog X.w X.K X.mg X.base N qual scope fs cdv A outer sW HW (fun _ _ _ => False)).blk s3 H3 sc ce fp) (.Call (.Name wy p1) [.Name d p2] [] pos) (tWhy X g gG callm σ j) := by
  refine ⟨fun pinsY s1 σ1 H1 Q I1 ⟨w, h, env, k, v, hs, rr, re, lv, q⟩ => ?_⟩
  obtain ⟨f, c', L, dV, rfl, ok, h1, h2, h3⟩ := lv
  refine wpAny_Call_Name_kw (ld_glob I1 hg hm ?_ hw)
  have pv : PE ((cxOf (CXZ false X.prog X.w) X.prog X.w X.K X.mg X.base N qual scope fs cdv A outer sW HW (fun _ _ _ => False)).blk s3 H3 sc ce fp) (.Name d p2) (tVar j) := pe_var hN hv hdd hdc
  refine PySem.W.callWith_K (h₀ := X.base) I1.ok.mod.kin hk (thn ((pa_cons pv pa_nil).run pos pinsY s1 σ1 H1 (fun vs H2 => vs = [.ref f] ∧ H2 = H1) I1 ⟨_, hs, rfl, rfl⟩) fun us s2 ⟨vs, H2, I2, r, e1, e2⟩ => ⟨I2.kIn, ?_⟩) (by rfl) (by rfl)
  subst e1; subst e2
  cases r with
  | cons r1 r2 =>
    cases r2
    obtain rfl : _ = Value.ref f := r1
    have sees2 : Sees H H2 s.heap s2.heap := sees.un2 (hent.un : Un _ [] HW H3 sW.heap s3.heap) (I2.base : Un _ fp H3 H2 s3.heap s2.heap) fun b hb => (hent.fp b hb).elim (fun z => nomatch z) id
    refine wpAny_call (codeAny_mono (why_run (X := X) (dV := dV) (c' := c') (Q := Q) WA (LA k L ok) hd hun hgd hcalm I sees2 I2.env0 rr re h1 h2 h3 q) fun r s' hq => ?_)
    cases r with
    | error e =>
      obtain ⟨_, _, _, _, _, _, _, _, _, _, _, _, z⟩ := hq
      exact z.elim
    | ok fl =>
      cases fl with
      | ret u => exact I2.after hq
      | next => exact False.elim hq
      | brk => exact False.elim hq
      | cont => exact False.elim hq
theorem LamVs.len {w : Wd} : ∀ {ks : List Nat} {xs : List V}, LamVs g w ks xs → xs.length = ks.length
  | [], _, h => by
    rw [show _ = [] from h]
    rfl
  | _ :: _, _, ⟨_, _, e, _, r⟩ => by
    rw [e, List.length_cons, List.length_cons, r.len]
theorem LamVs.get {w : Wd} : ∀ {ks : List Nat} {xs : List V} {i k : Nat}, LamVs g w ks xs → ks[i]? = some k → ∃ v, xs[i]? = some v ∧ LamV g w k v
  | [], _, _, _, _, e => by cases e
  | _ :: _, _, 0, _, ⟨x, r, e, h, _⟩, e1 => by
    cases e1
    exact ⟨x, by rw [e]; rfl, h⟩
  | _ :: _, _, i + 1, _, ⟨_, _, e, _, h⟩, e1 => by
    obtain ⟨v, a, b⟩ := LamVs.get h (i := i) e1
    exact ⟨v, by rw [e]; exact a, b⟩
/-- what the loop's turns make -/
theorem whys_turns {al : Addr} {xs : List V} {ks : List Nat} {w : Wd} {h : AH} {env : Env} {Q : VK} {σZ : L2.St} (rr : RR g w h HW) (re : RE g w h.nx env σ) (hal : w.F al = some (.lst xs)) (hl : LamVs g w ks xs) (hsz : xs.length ≤ sizeLine) (h0 : σZ[0]? = some (some (.ref al))) (h1 : 1 < σZ.length)
    (q : Post g w h.nx ((whysR (whyR gG callm) ks env h).bind fun l h => .ok (.lst l) h) (fun _ _ _ => False) (PV g Q)) :
    tLc (iList X.K (tVar 0)) (gName 1) tYes (tWhy X g gG callm σ 1) [1] σZ HW Q := by
  refine ⟨.ref al, h0, al, rfl, ⟨xs, .inl (.inl (rr.sub _ _ hal))⟩, fun D hD => ?_⟩
  obtain ⟨rr1, ext1⟩ := rr.side (o := .lst []) hD
  have zD : w.Z D = none := rr.noZ hD
  have nl := hl.len
  refine ⟨fun i m H => ∃ (w3 : Wd) (h3 : AH) (acc : List Rk.D) (accv : List V), Ext w h.nx w3 h3.nx ∧ RR g w3 h3 H ∧ w3.Z D = some (.lst accv) ∧ RVs g w3 h3.nx acc accv ∧ acc.length = i ∧ m + i = ks.length ∧
      Post g w h.nx ((whysR (whyR gG callm) (ks.drop i) env h3).bind fun l h => .ok (Rk.D.lst (acc ++ l)) h) (fun _ _ _ => False) (PV g Q),
    ⟨ks.length, _, h, [], [], ext1, rr1, upd_same, RVs.nil, rfl, rfl, q⟩, ?_⟩
  rintro i m H3 ⟨w3, h3, acc, accv, ext3, rr3, z3, r3, la, lm, q3⟩
  have hal3 : H3 al = some (.lst xs) := rr3.sub _ _ (ext3.F _ _ hal)
  by_cases hi : i < ks.length
  · refine .inr ?_
    have e1 : ks[i]? = some ks[i] := List.getElem?_eq_getElem hi
    obtain ⟨v, hv, lv⟩ := hl.get e1
    have ed : ks.drop i = ks[i] :: ks.drop (i + 1) := List.drop_eq_getElem_cons hi
    rw [ed] at q3
    unfold whysR at q3
    refine ⟨⟨xs, v, .inl (.inl hal3), hv⟩, fun H' => ∃ m', m' < m ∧ ∃ (w3 : Wd) (h3 : AH) (acc : List Rk.D) (accv : List V), Ext w h.nx w3 h3.nx ∧ RR g w3 h3 H' ∧ w3.Z D = some (.lst accv) ∧ RVs g w3 h3.nx acc accv ∧ acc.length = i + 1 ∧ m' + (i + 1) = ks.length ∧
      Post g w h.nx ((whysR (whyR gG callm) (ks.drop (i + 1)) env h3).bind fun l h => .ok (Rk.D.lst (acc ++ l)) h) (fun _ _ _ => False) (PV g Q), fun H' z => z, fun x' H' y => ?_⟩
    obtain ⟨eH, hx⟩ := y
    subst eH
    have hx := hx xs (.inl (.inl hal3))
    rw [hv] at hx
    cases hx
    refine ⟨by simp [wipe], ?_⟩
    unfold tYes
    refine iteT ?_
    refine ⟨w3, h3, env, _, v, List.getElem?_set_self (by rw [wipe_length]; exact h1), rr3, re.ext ext3, lv.ext ext3.F, ?_⟩
    cases hr : whyR gG callm ks[i] env h3 with
    | stuck => rw [hr] at q3; exact q3.elim
    | exc y h5 => rw [hr] at q3; exact fun w4 H4 cls d e4 rr4 rx => q3 w4 H4 cls d (ext3.trans e4) rr4 rx
    | ok y h5 =>
      rw [hr, bind_ok] at q3
      intro w4 H4 ext4 rr4 yv ry
      have z4 := ext4.Z _ _ z3
      have ext14 := ext3.trans ext4
      refine ⟨accv, (rr4.subz _ _ z4).1, by rw [r3.length]; omega, m - 1, by omega, ⟨w4.m, w4.F, upd w4.Z D (.lst (accv ++ [yv]))⟩, h5, acc ++ [y], accv ++ [yv], ⟨ext14.le, ext14.m, ext14.F, fun a o e => ?_⟩, rr4.side2 z4, upd_same, RVs.noZ ((r3.ext ext4).append (RVs.mk ry RVs.nil)), by rw [List.length_append, la]; rfl, by omega, ?_⟩
      · show upd w4.Z D _ a = some o
        rw [upd_ne (ne_of_none e zD)]
        exact ext14.Z _ _ e
      · cases hr2 : whysR (whyR gG callm) (ks.drop (i + 1)) env h5 with
        | stuck => rw [hr2] at q3; exact q3.elim
        | exc y h6 => rw [hr2] at q3; exact q3
        | ok l h6 =>
          rw [hr2] at q3
          have q3 : Post g w h.nx (.ok (Rk.D.lst (acc ++ y :: l)) h6) (fun _ _ _ => False) (PV g Q) := q3
          show Post g w h.nx (.ok (Rk.D.lst ((acc ++ [y]) ++ l)) h6) _ _
          rw [List.append_assoc]
          exact q3
  · refine .inl ⟨⟨xs, .inl (.inl hal3), by omega⟩, ?_⟩
    rw [List.drop_eq_nil_of_le (by omega)] at q3
    have q3 : Post g w h.nx (.ok (Rk.D.lst (acc ++ [])) h3) (fun _ _ _ => False) (PV g Q) := q3
    rw [List.append_nil] at q3
    refine q3 ⟨w3.m, upd w3.F D (.lst accv), fun a => if a = D then none else w3.Z a⟩ H3 ⟨ext3.le, ext3.m, fun a o e => ?_, fun a o e => ?_⟩ (rr3.sideF z3) _ (rv_lst.mpr ⟨D, accv, rfl, upd_same, RVs.moreF (fun a o e => ?_) r3⟩)
    · show upd w3.F D _ a = some o
      rw [upd_ne (ne_of_none (ext3.F _ _ e) (rr3.subz _ _ z3).2)]
      exact ext3.F _ _ e
    · show (if a = D then none else w3.Z a) = some o
      rw [if_neg (ne_of_none e zD)]
      exact ext3.Z _ _ e
    · rw [upd_ne (ne_of_none e (rr3.subz _ _ z3).2)]
      exact e
/-- _law_whys called with a list of lambdas -/
theorem whys_run {m : Nat} {fw fs : Addr} {fd fds : FuncData} {a a2 : Str} {al : Addr} {xs : List V} {ks : List Nat} {w : Wd} {h : AH} {env : Env} {Q : VK} {A : Around} {outer : List PySem.Env}
    (WA : WhyAt X.prog X.w X.K X.mg X.base g gG callm m fw fd a) (hb : ∀ (s : Shared) (u : Value), X.K.In s.heap → BindsTo s fd ⟨[u], []⟩ [(a, u)]) (WS : WhysAt X.K X.mg fw fs fds a2) (LA : ∀ k L, g.lamOk k L → LamAt X g gG callm m k L)
    (hd : A.depth + 3 * (m + 1) + 5 < recursionLimit) (hun : A.units + 16 * (m + 1) + 200 < cLine) (hgd : A.guards = some []) (hcalm : A.handled = none) (I : Inv X pins σ H s) (sees : Sees H HW s.heap sW.heap) (e0 : Env0 X.prog X.w X.K X.mg X.base A outer sW HW) (rr : RR g w h HW) (re : RE g w h.nx env σ)
    (hal : w.F al = some (.lst xs)) (hl : LamVs g w ks xs) (q : Post g w h.nx ((whysR (whyR gG callm) ks env h).bind fun l h => .ok (.lst l) h) (fun _ _ _ => False) (PV g Q)) :
    codeAny (model X.prog X.w) A (.call (.ref fs) ⟨[.ref al], []⟩) (CR (CXZ false X.prog X.w) outer X.prog X.w HW sW Q (fun _ _ _ => False)) sW := by
  obtain ⟨qual, params, body, scope, sc, d, wy, FW, S, hT, hbind, na, blk, nd, gw, da, mw, kw⟩ := WS.ex
  obtain ⟨oc, od, dV', kV, doc, pm, an, cdv, ct, osl, rfl, lk, hcd, _, _⟩ := FW.ex
  unfold whysT at hT
  split at hT
  rotate_left
  · cases hT
  rename_i wy' p1 d' p2 p3 d1 p4 a' p5 sc' p6 p7
  split at hT
  rotate_left
  · cases hT
  rename_i hc
  subst hc
  cases hT
  have inK : X.K.In sW.heap := e0.mod.kin.keeps fun b o z => (e0.bs b o z).1
  have noLim : sW.heap.NoLimit := e0.mod.nolimit.keeps fun b o z => (e0.bs b o z).1
  have kinds : ∀ y ∈ [a2].zip [Value.ref al], scope.names.lookup y.1 = some .local ∨ (scope.names.lookup y.1 = some .cell ∧ ((cellsFrom (sW.heap.objs.size + 1) scope.names []).lookup y.1).isSome = true) := by
    intro y hy
    rw [List.mem_singleton.mp (show y ∈ [(a2, Value.ref al)] from hy)]
    exact .inl na
  refine codeAny_call_function (by omega) (inK _ _ lk) rfl S.co S.gen rfl (PySem.W.codeRec_of inK hcd) (hbind sW (.ref al) inK _ _ _ _ ?_)
  refine wpAny_newFunctionEnv_cells S.kind kinds ?_
  intro envv henv s1 entered
  subst henv
  refine ⟨noLim.keeps entered.toInCall.keep, codeAny_func ?_⟩
  have inv := inv_start (CX := CXZ false X.prog X.w) (E := fun _ _ _ => False) (vs := [.ref al]) S hcalm e0 rfl (.cons rfl .nil) entered
  have ok := blkOk_by blk
  have hsz : xs.length ≤ sizeLine := (e0.hok al _ (rr.sub _ _ hal)).1
  have main : PSs (cxOf (CXZ false X.prog X.w) X.prog X.w X.K X.mg X.base [a2, d] qual scope fs cdv A outer sW HW (fun _ _ _ => False)) _ _ :=
    pss_one (ps_ret (pos := p7) (pe_lcK (pos := p6) (own := [(d, 1)]) rfl S.nd (pi_list (pe_var (pos := p5) (i := 0) rfl (.inl na) (da a2 (by simp)).1 (da a2 (by simp)).2)) ok
      (fun s H C cl fp => pg_name (pos := p4) (i := 1) S.nd rfl (.inl nd) (.inr nd))
      (fun s3 H3 C cl fp hent => pe_why (p1 := p1) (p2 := p2) (pos := p3) (j := 1) WA LA I sees (by omega) (by omega) hgd hcalm gw mw kw hb rfl (.inl nd) (da d (by simp)).1 (da d (by simp)).2 (da wy (by simp)).1 hent)))
  refine wpAny_mono (main.run [] s1 _ HW { nx := fun _ H' => Q .non H', rt := Q } inv (whys_turns rr re hal hl hsz rfl (Nat.lt_succ_self 1) q)) ?_ fun e s' z => z
  intro fl s' hfl
  cases fl with
  | ret u =>
    obtain ⟨v, σ', H', J, rv, q⟩ := hfl
    exact ⟨v, H', J.os, J.bare, J.base, J.hok, rv, q⟩
  | next =>
    obtain ⟨σ', H', J, q⟩ := hfl
    exact ⟨.non, H', J.os, J.bare, J.base, J.hok, rfl, q⟩
  | brk =>
    obtain ⟨_, _, _, q⟩ := hfl
    exact q.elim
  | cont =>
    obtain ⟨_, _, _, q⟩ := hfl
    exact q.elim
end
end Rk

set_option maxHeartbeats 2000000
/-! Rk.Lf: the rules of errors and lambdas. -/
namespace Rk
open PySem PySem.Spec PyProof.Rows L2
theorem Post.nx {α : Type} {g : Gi} {w : Wd} {n : Nat} {r : Res α} {X X' : XK} {P : Wd → AH → Hp → α → Prop} (q : Post g w n r X P) (h : ∀ x h', r ≠ .exc x h') : Post g w n r X' P := by
  cases r with
  | ok a h1 => exact q
  | exc x h1 => exact absurd rfl (h x h1)
  | stuck => exact q
theorem whyR_nx {gG : G} {call : Cl} {k : Nat} {env : Env} {h : AH} (x : D) (h' : AH) : whyR gG call k env h ≠ .exc x h' := by
  unfold whyR
  split
  · simp
  · split
    · generalize call.x _ _ _ _ = r
      cases r <;> simp [noexc]
    · simp
  · simp
theorem whysR_nx {gG : G} {call : Cl} {env : Env} : ∀ {ks : List Nat} {h : AH} (x : D) (h' : AH), whysR (whyR gG call) ks env h ≠ .exc x h'
  | [], h, x, h' => by
    unfold whysR
    simp
  | k :: ks, h, x, h' => by
    unfold whysR
    cases hr : whyR gG call k env h with
    | ok v h2 =>
      rw [bind_ok]
      cases hs : whysR (whyR gG call) ks env h2 with
      | ok l h3 => simp
      | exc y h3 => exact absurd hs (whysR_nx y h3)
      | stuck => simp
    | exc y h2 => exact absurd hr (whyR_nx y h2)
    | stuck => simp
section
variable {X : Cx} {g : Gi} {gG : G} {c : Bool} {k : Nat} {E : SX'} {W : L2.WX} {call : Cl}
/-- e.f, e the exception that is handled -/
theorem ev_xfld (G : GX g c k X) {i f : Nat} {x : Str} {p1 pos : Pos} (hpn : ∀ p ∈ g.pn, p ∈ X.pn) (xo : XkOk g X.K) (nm : NmOk g) (hf : f < g.nn) (hN : X.N[i]? = some x) (hv : Vis X.env.scope x) (hd : (x == ("__debug__" : Str)) = false) (hcd : (x == ("__classdict__" : Str)) = false) :
    EV X g E (.Attribute (.Name x p1) (g.an f) pos) (fun env h => match env[i]? with
      | some (.exc _ fs) => lift (lkN f fs) h
      | _ => .stuck) := by
  refine EV.of G (PE.mk fun pins s σ H Q I ⟨w, env, h, rr, re, q⟩ => ?_) fun _ => rfl
  dsimp only at q
  split at q
  rotate_left
  · exact q.elim
  rename_i cc fs he
  obtain ⟨d, hd', q⟩ := lift_ok q
  have hi : i < σ.length := by rw [← re.len]; exact (List.getElem?_eq_some_iff.mp he).1
  have eσ : σ[i]? = some σ[i] := List.getElem?_eq_getElem hi
  obtain ⟨a, dd, oe, gs, ho, hpin, hz, hfl, hdd, hfs, xk⟩ := re.at' i _ _ he eσ
  obtain ⟨v, lk, rv⟩ := RVf.look nm hf hfs hd'
  obtain ⟨T, no⟩ := xo cc xk
  refine attr_of (by rfl) (thn ((pe_var (pos := p1) hN hv hd hcd).run pins s σ H (fun v H1 => v = .ref a ∧ H1 = H) I ⟨.ref a, by rw [eσ, ho], rfl, rfl⟩) fun u s1 ⟨v1, H1, I1, r1, e1, e2⟩ => ?_)
  subst e1
  rw [e2] at I1
  obtain rfl : u = Value.ref a := r1
  have ha := (I1.pin (a, oe) (List.mem_append_left _ (hpn _ hpin))).1
  obtain ⟨vs, hd2⟩ := hfl
  have hx : ObjOk X.prog X.w H s1.heap dd (.xd gs) := I1.hok dd _ (rr.sub _ _ hdd)
  obtain ⟨mA, hns, hr⟩ := hx
  obtain ⟨od, ho2, hl⟩ := lookIn_ns hns
  obtain ⟨u2, hu, ru⟩ := RelO.some_of (v := v) (o := mA (g.an f)) (by rw [← lk]; exact hr _)
  have J : PySem.W.InstAt s1.heap a oe (g.ca cc) (some od) := ⟨ha, hz.1, by unfold PySem.W.notCls; rw [hd2] <;> rfl, by rw [hz.2]; exact ho2⟩
  exact HandSPX.exc_get I1.kIn J T.ga T.gg T.exC (PySem.W.findObj_own T.hdC (no f hf) rfl (by rw [hl, hu])) (handed_of ru) ⟨v, H, I1.tok _, ru, q.now rr v rv⟩
/-- an error class of the text -/
structure XcAt (X : Cx) (g : Gi) (gG : G) (kc : Nat) (x : Str) : Prop where
  ex : ∃ (fI : Addr) (code : Str) (fld : Option Str), ExcI X.prog X.K (g.ca kc) fI code fld ∧ (∀ f, fld = some f → f ≠ ("code" : Str)) ∧ PySem.W.subIn X.K (.ref (g.ca kc)) (.type "BaseException") = some true ∧ PySem.W.typeIn X.K (.ref (g.ca kc)) = some (.type "type") ∧ PySem.W.keepIn X.K (.ref (g.ca kc)) = true ∧ X.mg x = some (.ref (g.ca kc)) ∧ g.xk kc ∧
    ∃ cd fo, gG.xcl kc = some (cd, fo) ∧ code = stt cd ∧ okS cd = true ∧ fld = fo.map g.an ∧ ∀ f, fo = some f → f < g.nn
  ic : gG.cod < g.nn
  ec : g.an gG.cod = ("code" : Str)
/-- raise C(..) -/
theorem sv_rse (G : GX g c k X) (hc : X.calm = true) (tk : Takes X W) {kc : Nat} {x : Str} {es : List Expr} {rs : Run (List D)} {p pos pos' : Pos} (XC : XcAt X g gG kc x) (hg : Gl X x) (hdb : (x == ("__debug__" : Str)) = false) (ha : PA X es (tEs g (xw W) rs)) (hns : nsts es = true) (h0 : es = [] → ∀ env h, rs env h = .ok [] h) :
    SV X g W (.Raise (some (.Call (.Name x p) es [] pos)) none pos') (fun env h => (rs env h).bindX env fun l h => lift ((mkX gG kc l).map fun x => .xc x env) h) := by
  obtain ⟨fI, code, fld, XI, hn, hsub, hty, hk, hm, xk, cd, fo, hcl, rfl, okc, hfo, hff⟩ := XC.ex
  refine (ps_raise hc tk (pmk_n (pmk5_x (p := p) (pos := pos) XI (by have := G.dp; omega) hn hsub hty hk hg hm hdb ha hns fun z σ H Q ⟨w, env, h, rr, re, q⟩ => by rw [h0 z] at q; exact q.now rr [] RVs.nil).pmk)).imp fun DD σ H ⟨w, env, h, rr, re, q⟩ => ?_
  refine bXA.step q rr re fun w1 h1 H1 l vs ext rr1 re1 rvs q1 => ?_
  obtain ⟨xx, hx, q1⟩ := lift_ok q1
  obtain ⟨xd, hxd, rfl⟩ := Option.map_eq_some_iff.mp hx
  have sc : ∀ w n, RV g w n (.str cd) (.str (stt cd)) := fun w n => rv_str.mpr ⟨rfl, okc⟩
  have fin : ∀ (fs : List (Nat × D)), xd = .exc kc fs → (∀ w n, Ext w1 h1.nx w n → RVf g w n fs (xFs (stt cd) fld vs)) → ∀ d, H1 d = none → W (.ref (g.ca kc)) (some d) σ (upd H1 d (.xd (xFs (stt cd) fld vs))) := fun fs e1 e2 d hd => by
    subst e1
    obtain ⟨rr2, ext2⟩ := rr1.freeze (o := .xd (xFs (stt cd) fld vs)) hd
    exact q1 _ _ ext2 rr2 σ _ _ (re1.ext ext2) ⟨kc, fs, d, _, rfl, rfl, rfl, upd_same, e2 _ _ ext2, xk⟩
  unfold mkX at hxd
  rw [hcl] at hxd
  cases fo with
  | none =>
    have hfo : fld = none := hfo
    subst hfo
    cases l with
    | nil =>
      cases hxd
      rw [rvs_nil.mp rvs]
      refine ⟨rfl, fun d hd => ?_⟩
      rw [rvs_nil.mp rvs] at fin
      exact fin _ rfl (fun w n e => rvf_cons.mpr ⟨_, _, by rw [XC.ec]; rfl, XC.ic, sc _ _, rvf_nil.mpr rfl⟩) d hd
    | cons _ _ => cases hxd
  | some f =>
    have hfo : fld = some (g.an f) := hfo
    subst hfo
    cases l with
    | nil => cases hxd
    | cons v r =>
      cases r with
      | cons _ _ => cases hxd
      | nil =>
        cases hxd
        obtain ⟨u, r2, rfl, rv, r3⟩ := rvs_cons.mp rvs
        have r3 := rvs_nil.mp r3
        subst r3
        refine ⟨⟨u, rfl⟩, fun d hd => ?_⟩
        exact fin _ rfl (fun w n e => rvf_cons.mpr ⟨_, _, by rw [XC.ec]; rfl, XC.ic, sc _ _, rvf_cons.mpr ⟨u, [], rfl, hff f rfl, rv.ext e, rvf_nil.mpr rfl⟩⟩) d hd
end
end Rk

set_option maxHeartbeats 2000000
/-! Rk.Lg: the rules of lambdas. -/
namespace Rk
open PySem PySem.Spec PyProof.Rows L2
/-- the lambdas of a list display -/
def chLs (lamB : Nat → LamI → Bool) : List Nat → List Expr → Bool
  | [], [] => true
  | k :: ks, .Lambda p b s _ :: es => lamB k ⟨p, b, s⟩ && chLs lamB ks es
  | _, _ => false
/-- what the frame knows of its lambdas' texts -/
structure LamCk (X : Cx) (g : Gi) (lamB : Nat → LamI → Bool) : Prop where
  lk : LamK X g
  ok : ∀ k L, lamB k L = true → g.lamOk k L
  free : ∀ k L, lamB k L = true → ∀ y ∈ L.scope.names, y.2 = .free → X.env.scope.names.lookup y.1 = some .cell ∨ X.env.scope.names.lookup y.1 = some .free
  par : ∀ k L, lamB k L = true → (lamP L.params).isSome = true
def tLms (g : Gi) (ks : List Nat) : TA := fun σ H Q => ∃ w h, RR g w h H ∧ ∀ w' H' vs, Ext w h.nx w' h.nx → RR g w' h H' → LamVs g w' ks vs → Q vs H'
section
variable {X : Cx} {g : Gi} {gG : G} {c : Bool} {k : Nat} {E : SX'} {W : L2.WX} {call : Cl} {lamB : Nat → LamI → Bool}
theorem pa_lams (C : LamCk X g lamB) : ∀ {ks : List Nat} {es : List Expr}, chLs lamB ks es = true → PA X es (tLms g ks)
  | [], [], _ => pa_nil.imp fun σ H Q ⟨w, h, rr, q⟩ => q w H [] (Ext.refl _ _) rr rfl
  | [], _ :: _, z => by unfold chLs at z; cases z
  | k :: ks, [], z => by unfold chLs at z; cases z
  | k :: ks, e :: es, z => by
    unfold chLs at z
    split at z
    · cases ‹_ = []›
    · rename_i k' ks' p b s pos es' e1 e2
      cases e1; cases e2
      rw [Bool.and_eq_true] at z
      have hL := pe_lam (L := ⟨p, b, s⟩) (pos := pos) C.lk (C.free _ _ z.1) (C.ok _ _ z.1) (C.par _ _ z.1)
      refine (pa_cons hL (pa_lams C z.2)).imp fun σ H Q ⟨w, h, rr, q⟩ => ?_
      exact ⟨w, h, rr, fun w1 H1 v x1 rr1 lv => ⟨w1, h, rr1, fun w2 H2 vs x2 rr2 lvs => q w2 H2 (v :: vs) (x1.trans x2) rr2 ⟨v, vs, rfl, lv.ext x2.F, lvs⟩⟩⟩
    · cases z
theorem chLs_len : ∀ {ks : List Nat} {es : List Expr}, chLs lamB ks es = true → es.length = ks.length
  | [], [], _ => rfl
  | [], _ :: _, z => by unfold chLs at z; cases z
  | k :: ks, [], z => by unfold chLs at z; cases z
  | k :: ks, e :: es, z => by
    unfold chLs at z
    split at z
    · cases ‹_ = []›
    · rename_i k' ks' p b s pos es' e1 e2
      cases e1; cases e2
      rw [Bool.and_eq_true] at z
      show es.length + 1 = ks.length + 1
      rw [chLs_len z.2]
    · cases z
/-- the list of lambdas -/
def tLl (g : Gi) (ks : List Nat) : TE := fun σ H Q => ∃ w h, RR g w h H ∧ ∀ w' H' p vs, Ext w h.nx w' h.nx → RR g w' h H' → w'.F p = some (.lst vs) → LamVs g w' ks vs → Q (.ref p) H'
theorem LamVs.len' {w : Wd} : ∀ {ks : List Nat} {xs : List V}, LamVs g w ks xs → xs.length = ks.length := fun h => LamVs.len h
theorem pe_lams (C : LamCk X g lamB) {ks : List Nat} {es : List Expr} {pos : Pos} (h : chLs lamB ks es = true) (hl : ks.length ≤ sizeLine) : PE X (.List es pos) (tLl g ks) :=
  (pe_lst (pa_lams C h)).imp fun σ H Q ⟨w, h, rr, q⟩ => ⟨w, h, rr, fun w' H' vs x rr' lv => ⟨by rw [lv.len]; exact hl, fun p hp => q _ _ p vs (x.trans (rr'.freeze hp).2) (rr'.freeze hp).1 upd_same (lv.ext (rr'.freeze hp).2.F)⟩⟩
/-- name = [lambda: .., ..] -/
theorem sv_lasg (G : GX g c k X) (C : LamCk X g lamB) {i : Nat} {x : Str} {ks : List Nat} {es : List Expr} {p1 p2 pos : Pos} (h : chLs lamB ks es = true) (hl : ks.length ≤ sizeLine) (hi : X.N[i]? = some x) (hx : Loc X.env.scope x) (hf : X.fn x = true ∨ X.env.scope.names.lookup x = some .local) :
    SV X g W (.Assign [.Name x p1] (.List es p2) pos) (fun env h => .ok (.nx (env.set i (.lams ks))) h) :=
  (ps_set G.nd hi hx (pe_lams C h hl) rfl hf).imp fun DD σ H ⟨w, env, h, rr, re, q⟩ => ⟨w, h, rr, fun w' H' p vs x rr' hp lv => q w' H' x rr' _ ((re.ext x).setS i ⟨p, vs, rfl, hp, lv⟩)⟩
theorem LamVs.app {w : Wd} : ∀ {ks js : List Nat} {xs ys : List V}, LamVs g w ks xs → LamVs g w js ys → LamVs g w (ks ++ js) (xs ++ ys)
  | [], _, _, _, h, h2 => by
    rw [show _ = [] from h]
    exact h2
  | _ :: _, _, _, _, ⟨v, r, e, h, h1⟩, h2 => ⟨v, _, by rw [e]; rfl, h, LamVs.app h1 h2⟩
/-- name = name + [lambda: .., ..] -/
theorem sv_ladd (G : GX g c k X) (C : LamCk X g lamB) {i : Nat} {x : Str} {ks : List Nat} {es : List Expr} {p1 p2 p3 p4 pos : Pos} (h : chLs lamB ks es = true) (hl : ks.length ≤ 1000) (hi : X.N[i]? = some x) (hv : Vis X.env.scope x) (hx : Loc X.env.scope x) (hf : X.fn x = true ∨ X.env.scope.names.lookup x = some .local)
    (hd : (x == ("__debug__" : Str)) = false) (hcd : (x == ("__classdict__" : Str)) = false) :
    SV X g W (.Assign [.Name x p1] (.BinOp (.Name x p2) .Add (.List es p3) p4) pos) (fun env h => match lamsOf env i with
      | some js => if js.length ≤ 1000 then .ok (.nx (env.set i (.lams (js ++ ks)))) h else .stuck
      | none => .stuck) := by
  refine (ps_set G.nd hi hx (pe_op op_cat (pe_var (pos := p2) hi hv hd hcd) (pe_lams (pos := p3) C h (Nat.le_trans hl (by decide)))) rfl hf).imp fun DD σ H ⟨w, env, h, rr, re, q⟩ => ?_
  dsimp only at q
  split at q
  rotate_left
  · exact q.elim
  rename_i js hjs
  obtain ⟨hjl, q⟩ := if_ok q
  unfold lamsOf at hjs
  split at hjs
  rotate_left
  · cases hjs
  rename_i js' he
  cases hjs
  have hi' : i < σ.length := by rw [← re.len]; exact (List.getElem?_eq_some_iff.mp he).1
  have eσ : σ[i]? = some σ[i] := List.getElem?_eq_getElem hi'
  obtain ⟨a, xs, ho, ha, lv⟩ := re.at' i _ _ he eσ
  refine ⟨.ref a, by rw [eσ, ho], w, h, rr, fun w' H' p vs x rr' hp lv' => ?_⟩
  refine ⟨a, p, xs, vs, rfl, rfl, rr'.sub _ _ (x.F _ _ ha), rr'.sub _ _ hp, ?_, fun p2 hp2 => ?_⟩
  · rw [lv.len, lv'.len]
    have : (2000 : Nat) ≤ sizeLine := by decide
    omega
  · obtain ⟨rr2, x2⟩ := rr'.freeze (o := .lst (xs ++ vs)) hp2
    exact q _ _ (x.trans x2) rr2 _ ((re.ext (x.trans x2)).setS i ⟨p2, _, rfl, upd_same, LamVs.app (lv.ext (x.trans x2).F) (lv'.ext x2.F)⟩)
/-- what the frame needs to ask its lambdas -/
structure WhyCx (X : Cx) (g : Gi) (gG : G) (call : Cl) (k : Nat) (wx wsx : Str) : Prop where
  low : (∀ kl env h, call.why kl env h = .stuck) ∨ ∃ (m : Nat) (callm : Cl) (fw fs : Addr) (fd fds : FuncData) (a a2 : Str), k = m + 1 ∧ call.why = whyR gG callm ∧ X.mg wx = some (.ref fw) ∧ PySem.W.keepIn X.K (.ref fw) = true ∧ X.mg wsx = some (.ref fs) ∧ PySem.W.keepIn X.K (.ref fs) = true ∧
    WhyAt X.prog X.w X.K X.mg X.base g gG callm m fw fd a ∧ WhysAt X.K X.mg fw fs fds a2 ∧ ∀ kl L, g.lamOk kl L → LamAt X g gG callm m kl L
theorem call_ret {pins : List (Addr × Obj)} {σ : L2.St} {H : Hp} {s : Shared} {Q : VK} {fa : Addr} {us : List Value} (I : Inv X pins σ H s) (h : codeAny (model X.prog X.w) X.A (.call (.ref fa) ⟨us, []⟩) (CR (CXZ false X.prog X.w) X.stack X.prog X.w H s Q (fun _ _ _ => False)) s) :
    wpAny (model X.prog X.w) X.A (PySem.call (.ref fa) us) (EP X pins σ Q) X.xe s := by
  refine wpAny_call (codeAny_mono h fun r s' hq => ?_)
  cases r with
  | error e =>
    obtain ⟨_, _, _, _, _, _, _, _, _, _, _, _, z⟩ := hq
    exact z.elim
  | ok fl =>
    cases fl with
    | ret u => exact I.after hq
    | next => exact False.elim hq
    | brk => exact False.elim hq
    | cont => exact False.elim hq
/-- _law_whys(e), e a list of lambdas -/
theorem ev_whys (G : GX g true k X) {wx wsx : Str} (WC : WhyCx X g gG call k wx wsx) {e : Expr} {te : TE} {p1 pos : Pos} {run : Run (List Nat)} (hg : Gl X wsx) (hdb : (wsx == ("__debug__" : Str)) = false) (he : PE X e te)
    (hs : starEach [e] X.env = (false, eval e X.env) :: starEach [] X.env)
    (hte : ∀ w env h σ H ks, RR g w h H → RE g w h.nx env σ → (∃ h', run env h = .ok ks h') → ∀ Q, (∀ w' H' p vs, Ext w h.nx w' h.nx → RR g w' h H' → w'.F p = some (.lst vs) → LamVs g w' ks vs → Q (.ref p) H') → te σ H Q)
    (hst : ∀ env h, run env h = .stuck ∨ ∃ k0 ks, run env h = .ok (k0 :: ks) h) :
    EV X g E (.Call (.Name wsx p1) [e] [] pos) (fun env h => (run env h).bind fun ks h => (whysR call.why ks env h).bind fun l h => .ok (.lst l) h) := by
  refine EV.of G (PE.mk fun pins s σ H Q I ⟨w, env, h, rr, re, q⟩ => ?_) fun _ => rfl
  dsimp only at q
  rcases hst env h with hr | ⟨k0, ks, hr⟩
  · rw [hr] at q
    exact q.elim
  rw [hr, bind_ok] at q
  rcases WC.low with hw | ⟨m, callm, fw, fs, fd, fds, a, a2, rfl, hw, mw, kw, ms, ks', WA, WS, LA⟩
  · unfold whysR at q
    rw [hw] at q
    exact q.elim
  · rw [hw] at q
    have q := q.nx (X' := fun _ _ _ => False) fun x h' z => by
      cases hz : whysR (whyR gG callm) (k0 :: ks) env h with
      | ok l h1 => rw [hz] at z; cases z
      | exc y h1 => exact whysR_nx y h1 hz
      | stuck => rw [hz] at z; cases z
    refine wpAny_Call_Name_kw (ld_glob I hg ms ?_ hdb)
    refine PySem.W.callWith_K (h₀ := X.base) I.ok.mod.kin ks' (thn ((pa_cons he pa_nil hs).run pos pins s σ H (fun vs H1 => ∃ w1 p xs, vs = [.ref p] ∧ Ext w h.nx w1 h.nx ∧ RR g w1 h H1 ∧ w1.F p = some (.lst xs) ∧ LamVs g w1 (k0 :: ks) xs) I ?_) fun us s1 ⟨vs, H1, I1, r, w1, p, xs, e1, x1, rr1, hp, lv⟩ => ⟨I1.kIn, ?_⟩) hs (by rfl)
    · exact hte w env h σ H (k0 :: ks) rr re ⟨h, hr⟩ _ fun w' H' p vs x rr' hp lv => ⟨w', p, vs, rfl, x, rr', hp, lv⟩
    · subst e1
      cases r with
      | cons r1 r2 =>
        cases r2
        obtain rfl : _ = Value.ref p := r1
        obtain ⟨_, _, _, _, _, _, _, _, _, _, _, _, _, _, _, _, _, _, hb, _⟩ := WA.ex
        exact call_ret I1 (whys_run (X := X) (A := X.A) (outer := X.stack) WA hb WS LA G.dp G.un G.gd (I1.ok.hd (G.calm rfl)) I1 Sees.refl I1.env0 rr1 (re.ext x1) hp lv (Post.from q x1))
theorem ev_whysl (G : GX g true k X) (C : LamCk X g lamB) {wx wsx : Str} (WC : WhyCx X g gG call k wx wsx) {k0 : Nat} {ks : List Nat} {es : List Expr} {p1 p2 pos : Pos} (h : chLs lamB (k0 :: ks) es = true) (hl : (k0 :: ks).length ≤ sizeLine) (hg : Gl X wsx) (hdb : (wsx == ("__debug__" : Str)) = false) :
    EV X g E (.Call (.Name wsx p1) [.List es p2] [] pos) (fun env h => (whysR call.why (k0 :: ks) env h).bind fun l h => .ok (.lst l) h) :=
  ev_whys (run := fun _ h => .ok (k0 :: ks) h) G WC hg hdb (pe_lams C h hl) rfl (fun w env h σ H js rr re hr Q q => by
    obtain ⟨h', hr⟩ := hr
    cases hr
    exact ⟨w, h, rr, q⟩) fun env h => .inr ⟨k0, ks, rfl⟩
theorem ev_whysv (G : GX g true k X) {wx wsx x : Str} (WC : WhyCx X g gG call k wx wsx) {i : Nat} {p1 p2 pos : Pos} (hg : Gl X wsx) (hdb : (wsx == ("__debug__" : Str)) = false) (hN : X.N[i]? = some x) (hv : Vis X.env.scope x) (hd : (x == ("__debug__" : Str)) = false) (hcd : (x == ("__classdict__" : Str)) = false) :
    EV X g E (.Call (.Name wsx p1) [.Name x p2] [] pos) (fun env h => match lamsOf env i with
      | some (k :: ks) => (whysR call.why (k :: ks) env h).bind fun l h => .ok (.lst l) h
      | _ => .stuck) := by
  have q := ev_whys (E := E) (p1 := p1) (pos := pos) (e := .Name x p2) (run := fun env h => match lamsOf env i with
      | some (k :: ks) => .ok (k :: ks) h
      | _ => .stuck) G WC hg hdb (pe_var (pos := p2) hN hv hd hcd) rfl (fun w env h σ H js rr re hr Q q => by
    obtain ⟨h', hr⟩ := hr
    split at hr
    rotate_left
    · cases hr
    rename_i k ks hl
    cases hr
    unfold lamsOf at hl
    split at hl
    rotate_left
    · cases hl
    rename_i js he
    cases hl
    have hi' : i < σ.length := by rw [← re.len]; exact (List.getElem?_eq_some_iff.mp he).1
    have eσ : σ[i]? = some σ[i] := List.getElem?_eq_getElem hi'
    obtain ⟨a, xs, ho, ha, lv⟩ := re.at' i _ _ he eσ
    exact ⟨.ref a, by rw [eσ, ho], q w H a xs (Ext.refl _ _) rr ha lv⟩) fun env h => by
      split
      · exact .inr ⟨_, _, rfl⟩
      · exact .inl rfl
  have e : (fun (env : Env) (h : AH) => (match lamsOf env i with
      | some (k :: ks) => (.ok (k :: ks) h : Res (List Nat))
      | _ => .stuck).bind fun ks h => (whysR call.why ks env h).bind fun l h => .ok (D.lst l) h) = fun env h => match lamsOf env i with
      | some (k :: ks) => (whysR call.why (k :: ks) env h).bind fun l h => .ok (D.lst l) h
      | _ => .stuck := by
    funext env h
    cases lamsOf env i with
    | none => rfl
    | some l => cases l <;> rfl
  exact e ▸ q
/-- _law_why(lambda: ..) -/
theorem ev_why (G : GX g true k X) (C : LamCk X g lamB) {wx wsx : Str} (WC : WhyCx X g gG call k wx wsx) {kl : Nat} {es : List Expr} {p1 pos : Pos} (h : chLs lamB [kl] es = true) (hg : Gl X wx) (hdb : (wx == ("__debug__" : Str)) = false) :
    EV X g E (.Call (.Name wx p1) es [] pos) (fun env h => call.why kl env h) := by
  obtain ⟨p, b, sc, lpos, rfl⟩ : ∃ p b sc lpos, es = [.Lambda p b sc lpos] := by
    unfold chLs at h
    split at h
    · cases ‹[kl] = []›
    · rename_i ks' p b sc lpos es' e1
      cases e1
      rw [Bool.and_eq_true] at h
      cases es' with
      | nil => exact ⟨p, b, sc, lpos, rfl⟩
      | cons _ _ => have z := h.2; unfold chLs at z; cases z
    · cases h
  refine EV.of G (PE.mk fun pins s σ H Q I ⟨w, env, h1, rr, re, q⟩ => ?_) fun _ => rfl
  dsimp only at q
  rcases WC.low with hw | ⟨m, callm, fw, fs, fd, fds, a, a2, rfl, hw, mw, kw, ms, ks', WA, WS, LA⟩
  · rw [hw] at q
    exact q.elim
  · rw [hw] at q
    have q := q.nx (X' := fun _ _ _ => False) whyR_nx
    refine wpAny_Call_Name_kw (ld_glob I hg mw ?_ hdb)
    refine PySem.W.callWith_K (h₀ := X.base) I.ok.mod.kin kw (thn ((pa_lams C h).run pos pins s σ H (fun vs H1 => ∃ w1, Ext w h1.nx w1 h1.nx ∧ RR g w1 h1 H1 ∧ LamVs g w1 [kl] vs) I ?_) fun us s1 ⟨vs, H1, I1, r, w1, x1, rr1, lv⟩ => ⟨I1.kIn, ?_⟩) (by rfl) (by rfl)
    · exact ⟨w, h1, rr, fun w' H' vs x rr' lv => ⟨w', x, rr', lv⟩⟩
    · obtain ⟨v, r0, e1, ⟨f, c', L, dV, rfl, ok, f1, f2, f3⟩, e2⟩ := lv
      have e2 : r0 = [] := e2
      subst e2; subst e1
      cases r with
      | cons r1 r2 =>
        cases r2
        obtain rfl : _ = Value.ref f := r1
        have dp := G.dp
        have un := G.un
        exact call_ret I1 (why_run (X := X) (A := X.A) (outer := X.stack) WA (LA kl L ok) (by omega) (by omega) G.gd (I1.ok.hd (G.calm rfl)) I1 Sees.refl I1.env0 rr1 (re.ext x1) f1 f2 f3 (Post.from q x1))
end
end Rk

set_option maxHeartbeats 2000000
/-! Rk.Lh: a frame's own part; a def that gets the exception that is handled. -/
namespace Rk
open PySem PySem.Spec PyProof.Rows L2
/-- g with what a frame adds -/
def Gi.at (g : Gi) (pn : List (Addr × Obj)) (cells : List (Str × Addr)) (qual : Str) (lamOk : Nat → LamI → Prop) (me : Option Addr := none) : Gi := { g with pn := pn, cells := cells, qual := qual, lamOk := lamOk, me := me }
section
variable {g : Gi} {pn : List (Addr × Obj)} {cells : List (Str × Addr)} {qual : Str} {lamOk : Nat → LamI → Prop} {me : Option Addr} {w : Wd} {n : Nat}
mutual
theorem rv_at' : ∀ (d : D) (v : V), RV (g.at pn cells qual lamOk me) w n d v ↔ RV g w n d v
  | .non, v => by unfold RV; exact Iff.rfl
  | .bl _, v => by unfold RV; exact Iff.rfl
  | .int _, v => by unfold RV; exact Iff.rfl
  | .str _, v => by unfold RV; exact Iff.rfl
  | .tup l, v => by
    unfold RV
    exact exists_congr fun a => exists_congr fun xs => and_congr_right fun _ => and_congr Iff.rfl (rvs_at' l xs)
  | .lst l, v => by
    unfold RV
    exact exists_congr fun a => exists_congr fun xs => and_congr_right fun _ => and_congr_right fun _ => rvs_at' l xs
  | .scr l, v => by unfold RV; exact Iff.rfl
  | .ref k, v => by unfold RV; exact Iff.rfl
  | .ins c fs, v => by
    unfold RV
    exact and_congr Iff.rfl (exists_congr fun a => exists_congr fun dx => exists_congr fun gs => and_congr_right fun _ => and_congr Iff.rfl (and_congr_right fun _ => rvf_at' fs gs))
  | .dct _, v => by unfold RV; exact Iff.rfl
  | .set _, v => by unfold RV; exact Iff.rfl
  | .exc _ _, v => by unfold RV; exact Iff.rfl
theorem rvs_at' : ∀ (l : List D) (xs : List V), RVs (g.at pn cells qual lamOk me) w n l xs ↔ RVs g w n l xs
  | [], xs => by unfold RVs; exact Iff.rfl
  | d :: l, xs => by
    unfold RVs
    exact exists_congr fun x => exists_congr fun r => and_congr_right fun _ => and_congr (rv_at' d x) (rvs_at' l r)
theorem rvf_at' : ∀ (l : List (Nat × D)) (xs : List (Str × V)), RVf (g.at pn cells qual lamOk me) w n l xs ↔ RVf g w n l xs
  | [], xs => by unfold RVf; exact Iff.rfl
  | (i, d) :: l, xs => by
    unfold RVf
    exact exists_congr fun x => exists_congr fun r => and_congr Iff.rfl (and_congr Iff.rfl (and_congr (rv_at' d x) (rvf_at' l r)))
end
theorem rv_at : RV (g.at pn cells qual lamOk me) = RV g := by
  funext w n d v
  exact propext (rv_at' d v)
theorem rvs_at : RVs (g.at pn cells qual lamOk me) = RVs g := by
  funext w n d v
  exact propext (rvs_at' d v)
theorem rvf_at : RVf (g.at pn cells qual lamOk me) = RVf g := by
  funext w n d v
  exact propext (rvf_at' d v)
theorem rc_at : RC (g.at pn cells qual lamOk me) = RC g := by
  funext w n H a c
  cases c with
  | no => rfl
  | lst l => unfold RC; simp only [rvs_at]
  | ins c fs => unfold RC; simp only [rvf_at]; rfl
  | dct l => rfl
theorem rr_at : RR (g.at pn cells qual lamOk me) = RR g := by
  funext w h H
  refine propext ⟨fun r => ⟨r.sub, r.subz, fun k hk => by have q := r.cell k hk; rw [rc_at] at q; exact q, r.inj, r.oc, r.tabs⟩, fun r => ⟨r.sub, r.subz, fun k hk => by rw [rc_at]; exact r.cell k hk, r.inj, r.oc, r.tabs⟩⟩
theorem rx_at : RX (g.at pn cells qual lamOk me) = RX g := by
  funext w n x cls d H
  unfold RX
  rw [rvf_at]
  rfl
theorem post_at {α : Type} {r : Res α} {X : XK} {P : Wd → AH → Hp → α → Prop} : Post (g.at pn cells qual lamOk me) w n r X P = Post g w n r X P := by
  cases r with
  | ok a h => unfold Post; rw [rr_at]
  | exc x h => unfold Post; rw [rr_at, rx_at]
  | stuck => rfl
theorem spF_at {call : Cl} {c : Bool} {f : Nat} : spF (g.at pn cells qual lamOk me) call c f = spF g call c f := by
  funext vs H Q E
  unfold spF PV
  simp only [rr_at, rvs_at, post_at, rv_at]
theorem spX_at {call : Cl} {f : Nat} : spX (g.at pn cells qual lamOk me) call f = spX g call f := by
  funext p H Q
  unfold spX PV
  simp only [rr_at, rvf_at, post_at, rv_at]
  rfl
theorem kb_at {f n : Nat} {ks : List Str} {sel : List Nat} (h : KB g f n ks sel) : KB (g.at pn cells qual lamOk me) f n ks sel := ⟨h.bind⟩
end
section
variable {P : Program} {w : World} {K : PySem.W.Frag} {mg : Str → Option Value} {base : Heap}
theorem fnx_of {k : Nat} {x qual y : Str} {params : Arguments} {body : List Stmt} {scope : Scope} {f : Addr} {fd : FuncData} {N : List Str} {sp : Addr × Obj → Hp → VK → Prop} (F : FunD K x qual params body scope [] [] f fd) (S : FnScope N [y] scope)
    (hbody : ∀ (cdv : Value) (A : Around) (outer : List PySem.Env) (s : Shared) (H : Hp) (p : Addr × Obj) (Q : VK), RoomG k (A.deeper (envOfC qual scope s.heap.objs.size f cdv)) → sp p H Q →
      ∃ t, PSs (L2H.cxH (CXZ false P w) P w K mg base N qual scope f cdv A outer s H (fun _ _ _ => False) p) body t ∧ t { nx := fun _ H' => Q .non H', rt := Q } (L2.start N [.ref p.1]) H) : FnX P w K mg base (k + 1) f fd [y] sp := by
  obtain ⟨oc, od, dV, kV, doc, pm, an, cdv, ct, osl, rfl, lk, hcd, _, _⟩ := F.ex
  constructor
  intro A outer s H p Q room hpin e0 hb hsp
  have KX : K.In s.heap := e0.mod.kin.keeps fun b o e => (e0.bs b o e).1
  have lim : s.heap.NoLimit := e0.mod.nolimit.keeps fun b o e => (e0.bs b o e).1
  have kinds : ∀ q ∈ [y].zip [Value.ref p.1], scope.names.lookup q.1 = some .local ∨ (scope.names.lookup q.1 = some .cell ∧ ((cellsFrom (s.heap.objs.size + 1) scope.names []).lookup q.1).isSome = true) := by
    intro q hq
    rw [List.mem_singleton.mp (show q ∈ [(y, Value.ref p.1)] from hq)]
    rcases S.par y (List.mem_singleton.mpr rfl) with z | z
    · exact .inl z
    · exact .inr ⟨z, PySem.W.cellsFrom_some _ _ _ (.inl z)⟩
  refine codeAny_call_function (by have := room.dp; omega) (KX _ _ lk) rfl S.co S.gen rfl (PySem.W.codeRec_of KX hcd) (hb _ _ _ _ ?_)
  refine wpAny_newFunctionEnv_cells S.kind kinds ?_
  intro env henv s1 entered
  subst henv
  refine ⟨lim.keeps entered.toInCall.keep, codeAny_func ?_⟩
  obtain ⟨t, ht, hq⟩ := hbody cdv A outer s H p Q (room.deeper _) hsp
  have inv := L2H.inv_startH (CX := CXZ false P w) (E := fun _ _ _ => False) (vs := [.ref p.1]) S hpin e0 rfl (.cons rfl .nil) entered
  refine wpAny_mono (ht.run [] s1 _ H _ inv hq) ?_ fun e s' z => z
  intro fl s' hfl
  cases fl with
  | ret u =>
    obtain ⟨v, σ', H', J, rv, q⟩ := hfl
    exact ⟨v, H', J.os, J.bare, J.base, J.hok, rv, q⟩
  | next =>
    obtain ⟨σ', H', J, q⟩ := hfl
    exact ⟨.non, H', J.os, J.bare, J.base, J.hok, rfl, q⟩
  | brk =>
    obtain ⟨_, _, _, q⟩ := hfl
    exact q.elim
  | cont =>
    obtain ⟨_, _, _, q⟩ := hfl
    exact q.elim
end
end Rk

set_option maxHeartbeats 1000000
/-! Rk.L: the text is the evaluator's program: a check and its meaning. -/
namespace Rk
open PySem PySem.Spec PyProof.Rows L2
structure Tb where
  fnm : List (Str × Nat)
  gnm : List (Str × Nat)
  bnm : List Str
  kbs : List (Nat × Nat × List Str × List Nat)
  c : Bool
  xnm : List (Str × Nat)
  ann : List Str
  wx : Str
  wsx : Str
  lamB : Nat → LamI → Bool
  clm : List (Str × Nat)
  mnm : List Str
  kbm : List (Nat × Nat × List Str × List Nat)
  kbc : List (Nat × Nat × List Str × List Nat)
  kst : List (Nat × Nat × Nat × List Str × List Nat)
  kva : List (Nat × Nat)
  cva : List Nat
  kca : List (Nat × List Str × List Nat)
  fls : List Nat
  cns : List (Nat × Nat)
/-- a frame's names; whether lambdas may be made there -/
structure Nm where
  ns : List (Str × NameKind)
  lam : Bool
def glb' (nm : Nm) (x : Str) : Bool := decide (nm.ns.lookup x = some .globalImplicit) && !(x == ("__debug__" : Str))
def visb (nm : Nm) (x : Str) : Bool := (decide (nm.ns.lookup x = some .local) || decide (nm.ns.lookup x = some .cell) || decide (nm.ns.lookup x = some .free)) && !(x == ("__debug__" : Str)) && !(x == ("__classdict__" : Str))
def locb (nm : Nm) (x : Str) : Bool := decide (nm.ns.lookup x = some .local) || decide (nm.ns.lookup x = some .cell)
def blt (tb : Tb) (nm : Nm) (x : Str) : Bool := glb' nm x && tb.bnm.contains x
def slot (N : List Str) (i : Nat) (x : Str) : Bool := decide (N[i]? = some x)
def tnC (N : List Str) (nm : Nm) : List Nat → List Expr → Bool
  | [], [] => true
  | i :: is, .Name x _ :: es => slot N i x && locb nm x && tnC N nm is es
  | _, _ => false
def tgC (N : List Str) (nm : Nm) (tg : List Nat) (e : Expr) : Bool := match e with
  | .Name x _ => (match tg with
    | [i] => slot N i x && locb nm x
    | _ => false)
  | .Tuple es _ _ => decide (2 ≤ tg.length) && tnC N nm tg es
  | _ => false
def ownOf (N : List Str) (tg : List Nat) : List (Str × Nat) := tg.filterMap fun i => N[i]?.map (·, i)
/-- a block's names: what it captures of its def's cells are cells -/
def relN (nm : Nm) (names : List (Str × NameKind)) : Nm := ⟨names.map fun (n, k) => if (k == .free && ScopeKind.function == .function && nm.ns.lookup n == some .cell) then (n, .cell) else (n, k), false⟩
def isTup : Expr → Bool
  | .Tuple .. => true
  | _ => false
section
variable (tb : Tb) (N : List Str)
mutual
def chE : E → Nm → Expr → Bool
  | .var i, nm, e => match e with
    | .Name x _ => slot N i x && visb nm x
    | _ => false
  | .cst d, _, e => match e with
    | .Constant cc _ _ => (match cstOf cc with
      | some d' => dsame d' d
      | none => false)
    | _ => false
  | .glb n, nm, e => match e with
    | .Name x _ => decide (tb.gnm.lookup x = some n) && glb' nm x
    | _ => false
  | .bin o a b, nm, e => match e with
    | .BinOp a' o' b' _ => decide (o' = o) && chE a nm a' && chE b nm b'
    | _ => false
  | .neg a, nm, e => match e with
    | .UnaryOp .USub a' _ => chE a nm a'
    | _ => false
  | .not a, nm, e => match e with
    | .UnaryOp .Not a' _ => chE a nm a'
    | _ => false
  | .and es, nm, e => match e with
    | .BoolOp .And l _ => !l.isEmpty && chEs es nm l
    | _ => false
  | .or es, nm, e => match e with
    | .BoolOp .Or l _ => !l.isEmpty && chEs es nm l
    | _ => false
  | .ife t a b, nm, e => match e with
    | .IfExp t' a' b' _ => chE t nm t' && chE a nm a' && chE b nm b'
    | _ => false
  | .cmp o a b, nm, e => match e with
    | .Compare a' [o'] [b'] _ => decide (o' = o) && chE a nm a' && chE b nm b' && nset b'
    | _ => false
  | .cmp2 o1 o2 a b d, nm, e => match e with
    | .Compare a' [o1', o2'] [b', d'] _ => decide (o1' = o1) && decide (o2' = o2) && chE a nm a' && chE b nm b' && chE d nm d' && nset d'
    | _ => false
  | .isn a, nm, e => match e with
    | .Compare a' [.Is] [.Constant .none _ _] _ => chE a nm a'
    | _ => false
  | .isnn a, nm, e => match e with
    | .Compare a' [.IsNot] [.Constant .none _ _] _ => chE a nm a'
    | _ => false
  | .tup es, nm, e => match e with
    | .Tuple l _ _ => nsts l && chEs es nm l
    | _ => false
  | .lst es, nm, e => match e with
    | .List l _ => nsts l && chEs es nm l
    | _ => false
  | .hls es, nm, e => match e with
    | .List l _ => nsts l && chEs es nm l
    | _ => false
  | .tupf es fl, nm, e => match e with
    | .Tuple l _ _ => chDs es fl nm l
    | _ => false
  | .lstf es fl, nm, e => match e with
    | .List l _ => chDs es fl nm l
    | _ => false
  | .idx a i, nm, e => match e with
    | .Subscript a' i' _ => nsl i' && chE a nm a' && chE i nm i'
    | _ => false
  | .slc a lo hi, nm, e => match e with
    | .Subscript a' (.Slice l' h' none _) _ => chE a nm a' && chOp lo nm l' && chOp hi nm h'
    | _ => false
  | .cal f args kws sel, nm, e => match e with
    | .Call (.Name x _) l ks _ => tb.c && decide (tb.fnm.lookup x = some f) && glb' nm x && nsts l && chEs args nm l && (match kwn ks with
      | some kn => tb.kbs.contains (f, l.length, kn, sel) && chKs kws nm ks
      | none => false)
    | _ => false
  | .bi b a, nm, e => match e with
    | .Call (.Name x _) [a'] [] _ => tb.c && decide (x = bname b) && blt tb nm x && nst a' && chE a nm a'
    | _ => false
  | .isi a k, nm, e => match e with
    | .Call (.Name x _) [a', .Name y _] [] _ => decide (x = ("isinstance" : Str)) && blt tb nm x && ksimple k && decide (y = Str.ofString (kname k)) && blt tb nm y && nst a' && chE a nm a'
    | .Call (.Name x _) [a', .Tuple [.Name y _, .Name z _] _ _] [] _ => decide (x = ("isinstance" : Str)) && blt tb nm x && decide (k = .seq) && decide (y = ("list" : Str)) && blt tb nm y && decide (z = ("tuple" : Str)) && blt tb nm z && nst a' && chE a nm a'
    | _ => false
  | .mt m o a, nm, e => match e with
    | .Call (.Attribute o' at' p3) [a'] [] pos => decide (at' = mname m) && nst a' && nsuper o' && decide (p3.endLine = pos.line) && chE o nm o' && chE a nm a'
    | _ => false
  | .mm m o args, nm, e => match e with
    | .Call (.Attribute o' at' p3) (a' :: l) [] pos => decide (at' = mmN m) && nsts (a' :: l) && decide ((a' :: l).length < 30) && nsuper o' && decide (p3.endLine = pos.line) && chE o nm o' && chEs args nm (a' :: l)
    | _ => false
  | .same i j, nm, e => match e with
    | .BoolOp .And [.Compare (.Name x1 _) [.Eq] [.Name y1 _] _, .Compare (.Call (.Name r1 _) [.Name x2 _] [] _) [.Eq] [.Call (.Name r2 _) [.Name y2 _] [] _] _] _ =>
      slot N i x1 && slot N j y1 && visb nm x1 && visb nm y1 && decide (x2 = x1) && decide (y2 = y1) && decide (r1 = ("repr" : Str)) && decide (r2 = ("repr" : Str)) && blt tb nm r1
    | _ => false
  | .cmpr elt tg it ifs, nm, e => match e with
    | .ListComp elt' [⟨tg', it', ifs', 0⟩] sc _ => tb.c && blkC N ⟨.function, nm.ns, false, false, []⟩ sc (ownOf N tg) && tgC N ⟨sc.names, false⟩ tg tg' && nset it' && chIt it nm tg' it' && decide (ifs'.length ≤ 1) && chEs ifs (relN nm sc.names) ifs' && chE elt (relN nm sc.names) elt'
    | _ => false
  | .xfld i f, nm, e => match e with
    | .Attribute (.Name x _) at' _ => slot N i x && visb nm x && decide (tb.ann[f]? = some at')
    | _ => false
  | .xcal _ _, _, _ => false
  | .why kl, nm, e => match e with
    | .Call (.Name x _) es [] _ => tb.c && nm.lam && decide (x = tb.wx) && glb' nm x && chLs tb.lamB [kl] es
    | _ => false
  | .whysl ks, nm, e => match e with
    | .Call (.Name x _) [.List es _] [] _ => tb.c && nm.lam && decide (x = tb.wsx) && glb' nm x && !ks.isEmpty && decide (ks.length ≤ 1000) && chLs tb.lamB ks es
    | _ => false
  | .whysv i, nm, e => match e with
    | .Call (.Name x _) [.Name y _] [] _ => tb.c && nm.lam && decide (x = tb.wsx) && glb' nm x && slot N i y && visb nm y
    | _ => false
  | .cav f kf args fl, nm, e => match e with
    | .Call (.Name x _) l [] _ => tb.c && decide (tb.fnm.lookup x = some f) && glb' nm x && nsts l && tb.kva.contains (f, kf) && chDs args fl nm l
    | _ => false
  | .fld a f, nm, e => match e with
    | .Attribute a' at' _ => tb.c && decide (tb.ann[f]? = some at') && tb.fls.contains f && nsuper a' && chE a nm a'
    | _ => false
  | .con kk f, nm, e => match e with
    | .Attribute (.Name x _) at' _ => decide (tb.clm.lookup x = some kk) && glb' nm x && decide (tb.ann[f]? = some at') && tb.cns.contains (kk, f)
    | _ => false
  | .mk kk args kws sel, nm, e => match e with
    | .Call (.Name x _) l ks _ => tb.c && decide (tb.clm.lookup x = some kk) && glb' nm x && nsts l && chEs args nm l && (match kwn ks with
      | some kn => tb.kbc.contains (kk, l.length, kn, sel) && chKs kws nm ks
      | none => false)
    | _ => false
  | .mkv kk args fl, nm, e => match e with
    | .Call (.Name x _) [.Starred a' _] [] _ => tb.c && decide (tb.clm.lookup x = some kk) && glb' nm x && tb.cva.contains kk && (match args, fl with
      | .cons a .nil, [true] => chE a nm a'
      | _, _ => false)
    | .Call (.Name x _) l [] _ => tb.c && decide (tb.clm.lookup x = some kk) && glb' nm x && tb.cva.contains kk && nsts l && chDs args fl nm l
    | _ => false
  | .mth o m args kws sel, nm, e => match e with
    | .Call (.Attribute o' at' p3) l ks pos => tb.c && decide (tb.mnm[m]? = some at') && nsuper o' && decide (p3.endLine = pos.line) && nsts l && decide (l.length + ks.length + 1 < 30) && chE o nm o' && chEs args nm l && (match kwn ks with
      | some kn => tb.kbm.contains (m, l.length, kn, sel) && chKs kws nm ks
      | none => false)
    | _ => false
  | .stt kk m args kws sel, nm, e => match e with
    | .Call (.Attribute (.Name x _) at' p3) l ks pos => tb.c && decide (tb.clm.lookup x = some kk) && glb' nm x && decide (tb.mnm[m]? = some at') && decide (p3.endLine = pos.line) && nsts l && decide (l.length + ks.length + 1 < 30) && chEs args nm l && (match kwn ks with
      | some kn => tb.kst.contains (kk, m, l.length, kn, sel) && chKs kws nm ks
      | none => false)
    | _ => false
  | .isc a kk, nm, e => match e with
    | .Call (.Name x _) [a', .Name y _] [] _ => decide (x = ("isinstance" : Str)) && blt tb nm x && decide (tb.clm.lookup y = some kk) && glb' nm y && nst a' && chE a nm a'
    | _ => false
  | .dun d o args, nm, e => match e with
    | .Call (.Name x _) [o'] [] _ => tb.c && ((decide (d = .len) && decide (x = ("len" : Str))) || (decide (d = .repr) && decide (x = ("repr" : Str)))) && blt tb nm x && nst o' && chE o nm o' && (match args with
      | .nil => true
      | _ => false)
    | .Compare o' [op] [b'] _ => tb.c && ((decide (d = .eq) && decide (op = .Eq)) || (decide (d = .ne) && decide (op = .NotEq))) && nset b' && chE o nm o' && (match args with
      | .cons b .nil => chE b nm b'
      | _ => false)
    | _ => false
  | .fst es, nm, e => match e with
    | .JoinedStr (v1 :: v2 :: l) _ => chFs es nm (v1 :: v2 :: l)
    | _ => false
  | .cao o args kws sel, nm, e => match e with
    | .Call fe l ks _ => tb.c && callee fe && nsts l && chE o nm fe && chEs args nm l && (match kwn ks with
      | some kn => tb.kca.contains (l.length, kn, sel) && chKs kws nm ks
      | none => false)
    | _ => false
  | .hlst a, nm, e => match e with
    | .Call (.Name x _) [a'] [] _ => decide (x = ("list" : Str)) && blt tb nm x && nst a' && chE a nm a'
    | _ => false
  | .frz a, nm, e => match e with
    | .Call f l ks pos => chE a nm (.Call f l ks pos)
    | _ => false
  | .clr a, nm, e => match e with
    | .Call (.Attribute a' at' p3) [] [] pos => decide (at' = ("clear" : Str)) && nsuper a' && decide (p3.endLine = pos.line) && chE a nm a'
    | _ => false
def chFs : Es → Nm → List Expr → Bool
  | .nil, _, l => match l with
    | [] => true
    | _ => false
  | .cons t r, nm, l => match l with
    | .Constant (.str s) _ _ :: l => (match t with
      | .cst (.str z) => okS z && decide (s = stt z)
      | _ => false) && chFs r nm l
    | .FormattedValue e' j none _ :: l => decide (j = -1) && chE t nm e' && chFs r nm l
    | _ => false
def chEs : Es → Nm → List Expr → Bool
  | .nil, _, l => match l with
    | [] => true
    | _ => false
  | .cons e r, nm, l => match l with
    | e' :: r' => chE e nm e' && chEs r nm r'
    | _ => false
def chDs : Es → List Bool → Nm → List Expr → Bool
  | .nil, fl, _, l => match fl, l with
    | [], [] => true
    | _, _ => false
  | .cons e r, fl, nm, l => match fl, l with
    | false :: fl, e' :: r' => nst e' && chE e nm e' && chDs r fl nm r'
    | true :: fl, .Starred e' _ :: r' => chE e nm e' && chDs r fl nm r'
    | _, _ => false
def chKs : Es → Nm → List Keyword → Bool
  | .nil, _, l => match l with
    | [] => true
    | _ => false
  | .cons e r, nm, l => match l with
    | ⟨_, e', _⟩ :: r' => chE e nm e' && chKs r nm r'
    | _ => false
def chOp : Op → Nm → Option Expr → Bool
  | .no, _, l => match l with
    | none => true
    | _ => false
  | .so e, nm, l => match l with
    | some e' => chE e nm e'
    | _ => false
def chIt : It → Nm → Expr → Expr → Bool
  | .seq e, nm, _, e' => chE e nm e'
  | .rng a, nm, _, e' => match e' with
    | .Call (.Name x _) [a'] [] _ => decide (x = ("range" : Str)) && blt tb nm x && nst a' && chE a nm a'
    | _ => false
  | .rng2 a b, nm, _, e' => match e' with
    | .Call (.Name x _) [a', b'] [] _ => decide (x = ("range" : Str)) && blt tb nm x && nst a' && nst b' && chE a nm a' && chE b nm b'
    | _ => false
  | .enum a, nm, tg, e' => match e' with
    | .Call (.Name x _) [a'] [] _ => decide (x = ("enumerate" : Str)) && blt tb nm x && nst a' && isTup tg && chE a nm a'
    | _ => false
  | .zip a b, nm, tg, e' => match e' with
    | .Call (.Name x _) [a', b'] [] _ => decide (x = ("zip" : Str)) && blt tb nm x && nst a' && nst b' && isTup tg && chE a nm a' && chE b nm b'
    | _ => false
end
mutual
def chS : S → Nm → Stmt → Bool
  | .expr t, nm, st => match st with
    | .Expr e _ => ncp e && chE tb N t nm e
    | _ => false
  | .asg i t, nm, st => match st with
    | .Assign [.Name x _] e _ => slot N i x && locb nm x && chE tb N t nm e && (ncp e || (match t with
      | .cmpr .. => true
      | _ => false))
    | _ => false
  | .asgt is t, nm, st => match st with
    | .Assign [.Tuple es _ _] e _ => tb.c && decide (2 ≤ is.length) && tnC N nm is es && chE tb N t nm e && ncp e && (match e with
      | .Tuple vs _ _ => swOk vs && (match swE nm.ns es vs with
        | none => true
        | some l => decide (is.Nodup) && (match t with
          | .tup _ => true
          | _ => false) && decide (l = es.filterMap fun | .Name x _ => some x | _ => none) && es.all (fun | .Name x _ => decide (nm.ns.lookup x = some .local) | _ => true) && decide (es.length = vs.length) && (decide (es.length = 2) || decide (es.length = 3)))
      | _ => true)
    | _ => false
  | .aug i o t, nm, st => match st with
    | .AugAssign (.Name x _) o' e _ => decide (o' = o) && (decide (o = .Add) || decide (o = .Sub)) && slot N i x && locb nm x && chE tb N t nm e
    | _ => false
  | .ret t, nm, st => match st with
    | .Return (some e) _ => chE tb N t nm e
    | _ => false
  | .retn, _, st => match st with
    | .Return none _ => true
    | _ => false
  | .ifs t a b, nm, st => match st with
    | .If e p q _ => chE tb N t nm e && chSs a nm p && chSs b nm q
    | _ => false
  | .for tg it b, nm, st => match st with
    | .For tg' it' body [] _ => tb.c && tgC N nm tg tg' && nset it' && chIt tb N it nm tg' it' && chSs b nm body
    | _ => false
  | .whl t b, nm, st => match st with
    | .While e body [] _ => chE tb N t nm e && chSs b nm body
    | _ => false
  | .brk, _, st => match st with
    | .Break _ => true
    | _ => false
  | .cnt, _, st => match st with
    | .Continue _ => true
    | _ => false
  | .pass, _, st => match st with
    | .Pass _ => true
    | .Expr (.Constant (.str _) _ _) _ => true
    | _ => false
  | .never, _, _ => true
  | .seti o i t, nm, st => match st with
    | .Assign [.Subscript o' i' _] e _ => nsl i' && ncp e && chE tb N t nm e && chE tb N o nm o' && chE tb N i nm i'
    | _ => false
  | .rse kc es, nm, st => match st with
    | .Raise (some (.Call (.Name x _) l [] _)) none _ => tb.c && decide (tb.xnm.lookup x = some kc) && glb' nm x && nsts l && chEs tb N es nm l
    | _ => false
  | .try1 .., _, _ => false
  | .lasg i ks, nm, st => match st with
    | .Assign [.Name x _] (.List es _) _ => tb.c && nm.lam && slot N i x && locb nm x && decide (ks.length ≤ 1000) && chLs tb.lamB ks es
    | _ => false
  | .ladd i ks, nm, st => match st with
    | .Assign [.Name x _] (.BinOp (.Name y _) .Add (.List es _) _) _ => tb.c && nm.lam && slot N i x && decide (y = x) && locb nm x && visb nm x && decide (ks.length ≤ 1000) && chLs tb.lamB ks es
    | _ => false
def chSs : Ss → Nm → List Stmt → Bool
  | .nil, _, l => match l with
    | [] => true
    | _ => false
  | .cons s r, nm, l => match l with
    | s' :: r' => chS s nm s' && chSs r nm r'
    | _ => false
end
/-- an __init__'s text -/
def chB : List BI → Nm → List Stmt → Bool
  | [], _, l => l.isEmpty
  | .reg s :: r, nm, l => match l with
    | s' :: l => chS tb N s nm s' && chB r nm l
    | _ => false
  | .sto f t :: r, nm, l => match l with
    | .Assign [.Attribute (.Name x _) at' _] e _ :: l => slot N 0 x && visb nm x && decide (tb.ann[f]? = some at') && tb.fls.contains f && ncp e && chE tb N t nm e && chB r nm l
    | _ => false
end
end Rk

set_option maxHeartbeats 2000000
/-! Rk.M: what the check means. -/
namespace Rk
open PySem PySem.Spec PyProof.Rows L2
/-- what is known of the classes -/
structure ClsCx (X : Cx) (g : Gi) (gG : G) (tb : Tb) (call : Cl) (k : Nat) : Prop where
  mg : ∀ x kk, tb.clm.lookup x = some kk → X.mg x = some (.ref (g.cb kk))
  fl : tb.c = true → ∀ i, tb.fls.contains i = true → AtOk X g gG call k i
  mt : ∀ m n ks sel, tb.kbm.contains (m, n, ks, sel) = true → ∀ mn, tb.mnm[m]? = some mn → tb.c = true → MtOk X g gG call tb.c k m n mn ks sel
  mkk : ∀ x kk, tb.clm.lookup x = some kk → ∀ n ks sel, tb.kbc.contains (kk, n, ks, sel) = true → tb.c = true → MkOk X g gG call k kk n ks sel x
  mv : ∀ x kk, tb.clm.lookup x = some kk → tb.cva.contains kk = true → tb.c = true → MvOk X g call k kk x
  va : ∀ f kf, tb.kva.contains (f, kf) = true → VarB (g.fd f) (g.fps f) kf ∧ (g.fps f).length = kf + 1
  cn : ∀ kk f, tb.cns.contains (kk, f) = true → ∃ mc, ClX.CRead X.K (g.cb kk) mc ∧ ∃ v u, ClX.CVal X.K (g.cb kk) mc (g.an f) v u ∧ ∀ w n, RV g w n (gG.clc kk f) v
  st : ∀ kk m n ks sel, tb.kst.contains (kk, m, n, ks, sel) = true → ∀ mn, tb.mnm[m]? = some mn → tb.c = true → ∀ f, gG.sta kk m = some f → ClX.CRead X.K (g.cb kk) (.type "type") ∧ (∃ p, SMet X.K (g.cb kk) mn p (g.fa f)) ∧ FnG false X.prog X.w X.K X.mg X.base k tb.c (g.fa f) (g.fd f) (g.fps f) (spF g call tb.c f) ∧
    PySem.W.keepIn X.K (.ref (g.fa f)) = true ∧ KB g f n ks sel ∧ (g.fps f).length = sel.length ∧ ∀ w n, RVs g w n (gG.dfl f) (g.fdv f)
  ic : ∀ x kk, tb.clm.lookup x = some kk → (∀ j, j < g.nc → IsC X.K (g.cb j) ∧ PySem.W.kitOne X.K (.ref (g.cb j)) (.ref (g.cb kk)) = some (gG.isa j kk)) ∧ ∀ t ∈ (["NoneType", "bool", "int", "str", "tuple", "list"] : List String), PySem.W.kitOne X.K (.type t) (.ref (g.cb kk)) = some false
  ca : ∀ n ks sel, tb.kca.contains (n, ks, sel) = true → tb.c = true → CaOk X g gG call tb.c k n ks sel
  du : tb.c = true → DuOk X g gG call k .len "__len__" 1 ∧ DuOk X g gG call k .repr "__repr__" 1 ∧ EqOk X g gG call k false ∧ EqOk X g gG call k true
theorem ClsCx.to {X Y : Cx} {g : Gi} {gG : G} {tb : Tb} {call : Cl} {k : Nat} (C : ClsCx X g gG tb call k) (hK : Y.K = X.K) (hp : Y.prog = X.prog) (hw : Y.w = X.w) (hm : Y.mg = X.mg) (hb : Y.base = X.base) : ClsCx Y g gG tb call k := by
  have lo : ∀ f, LowF X g call k f → LowF Y g call k f := fun f h => by unfold LowF at h ⊢; rw [hp, hw, hK, hm, hb]; exact h
  refine ⟨fun x kk e => by rw [hm]; exact C.mg x kk e, fun hc i e => ?_, fun m n ks sel e mn e2 hc => ?_, fun x kk e n ks sel e2 hc => ?_, fun x kk e e2 hc => ?_, C.va, fun kk f e => by rw [hK]; exact C.cn kk f e, fun kk m n ks sel e mn e2 hc f e3 => ?_, fun x kk e => by rw [hK]; exact C.ic x kk e, fun n ks sel e hc => ?_, fun hc => ?_⟩
  · have A := C.fl hc i e
    exact ⟨A.lt, fun kk h => by rw [hK]; exact A.cls kk h, fun kk h => by rw [hK]; exact A.fld kk h, fun kk d h => by rw [hK]; exact A.con kk d h, fun kk p h => by
      obtain ⟨a, b, c, d⟩ := A.prp kk p h
      rw [hK]
      exact ⟨a, b, c, lo _ d⟩⟩
  · have A := C.mt m n ks sel e mn e2 hc
    exact ⟨A.no, fun kk f h => by rw [hp, hw, hK, hm, hb]; exact A.ok kk f h⟩
  · have A := C.mkk x kk e n ks sel e2 hc
    exact ⟨by rw [hm]; exact A.mg, by rw [hK]; exact A.kp, A.df, by rw [hp, hw, hK, hm, hb]; exact A.ok⟩
  · have A := C.mv x kk e e2 hc
    exact ⟨by rw [hm]; exact A.mg, by rw [hK]; exact A.kp, by rw [hp, hw, hK, hm, hb]; exact A.ok⟩
  · rw [hp, hw, hK, hm, hb]; exact C.st kk m n ks sel e mn e2 hc f e3
  · have A := C.ca n ks sel e hc
    exact ⟨fun kk f h => by rw [hp, hw, hK, hm, hb]; exact A.ok kk f h⟩
  · obtain ⟨a, b, c, d⟩ := C.du hc
    refine ⟨⟨fun kk f h => ?_⟩, ⟨fun kk f h => ?_⟩, ⟨fun kk f h => ?_⟩, ⟨fun kk f h => ?_⟩⟩
    · obtain ⟨q1, q2, q3, q4⟩ := a.ok kk f h; rw [hK]; exact ⟨q1, q2, lo _ q3, q4⟩
    · obtain ⟨q1, q2, q3, q4⟩ := b.ok kk f h; rw [hK]; exact ⟨q1, q2, lo _ q3, q4⟩
    · obtain ⟨q1, q2, q3, q4⟩ := c.ok kk f h; rw [hK]; exact ⟨q1, q2, lo _ q3, q4⟩
    · obtain ⟨q1, q2, q3, q4⟩ := d.ok kk f h; rw [hK]; exact ⟨q1, q2, lo _ q3, q4⟩
structure CK (X : Cx) (g : Gi) (gG : G) (tb : Tb) (N : List Str) (call : Cl) (k : Nat) (nm : Nm) : Prop where
  gx : GX g tb.c k X
  hN : X.N = N
  nms : X.env.scope.names = nm.ns
  kind : X.env.scope.kind = .function
  calm : tb.c = true → X.calm = true
  pn : ∀ p ∈ g.pn, p ∈ X.pn
  pn0 : tb.c = true → g.pn = []
  fm : ∀ x f, tb.fnm.lookup x = some f → X.mg x = some (.ref (g.fa f)) ∧ PySem.W.keepIn X.K (.ref (g.fa f)) = true
  gm : ∀ x n, tb.gnm.lookup x = some n → ∃ v u, X.mg x = some u ∧ RelV v u ∧ ∀ w m, RV g w m (gG.glb n) v
  bm : ∀ x, tb.bnm.contains x = true → X.mg x = none
  kb : ∀ f n ks sel, tb.kbs.contains (f, n, ks, sel) = true → KB g f n ks sel ∧ (g.fps f).length = sel.length
  df : ∀ f w n, RVs g w n (gG.dfl f) (g.fdv f)
  calls : tb.c = true → ∀ x f, tb.fnm.lookup x = some f → FnG false X.prog X.w X.K X.mg X.base k tb.c (g.fa f) (g.fd f) (g.fps f) (spF g call tb.c f)
  an : ∀ i x, tb.ann[i]? = some x → g.an i = x ∧ i < g.nn
  xo : XkOk g X.K
  nmk : NmOk g
  xc : ∀ x kc, tb.xnm.lookup x = some kc → XcAt X g gG kc x
  lm : nm.lam = true → tb.c = true → LamCk X g tb.lamB ∧ WhyCx X g gG call k tb.wx tb.wsx
  cl : ClsCx X g gG tb call k
section
variable {X : Cx} {g : Gi} {gG : G} {tb : Tb} {N : List Str} {call : Cl} {k : Nat} {nm : Nm}
theorem CK.blk (C : CK X g gG tb N call k nm) (hc : tb.c = true) (s : Shared) (H : Hp) (scope : Scope) (hk : scope.kind = .function) (L : Addr) (cl : List (Str × Addr)) (fp : List Addr) : CK (X.blk s H scope (compEnvC scope cl L X.env) fp) g gG tb N call k (relN nm scope.names) where
  gx := ⟨C.gx.K, C.gx.calm, C.gx.dp, C.gx.un, C.gx.gd, C.gx.nd⟩
  hN := C.hN
  nms := by
    show (relS scope X.env.scope).names = _
    unfold relS relN
    rw [C.kind, C.nms]
  kind := by show (relS scope X.env.scope).kind = _; exact hk
  calm := C.calm
  pn := fun p hp => by rw [C.pn0 hc] at hp; cases hp
  pn0 := C.pn0
  fm := C.fm
  gm := C.gm
  bm := C.bm
  kb := C.kb
  df := C.df
  calls := C.calls
  an := C.an
  xo := C.xo
  nmk := C.nmk
  xc := fun x kc e => have q := C.xc x kc e; ⟨q.ex, q.ic, q.ec⟩
  lm := fun z => nomatch z
  cl := C.cl.to rfl rfl rfl rfl rfl
theorem CK.gl (C : CK X g gG tb N call k nm) {x : Str} (h : glb' nm x = true) : Gl X x ∧ (x == ("__debug__" : Str)) = false := by
  unfold glb' at h
  rw [Bool.and_eq_true, decide_eq_true_eq] at h
  refine ⟨?_, by simpa using h.2⟩
  show X.env.scope.names.lookup x = _
  rw [C.nms]; exact h.1
theorem CK.bl (C : CK X g gG tb N call k nm) {x : Str} (h : blt tb nm x = true) : Gl X x ∧ X.mg x = none := by
  unfold blt at h
  rw [Bool.and_eq_true] at h
  exact ⟨(C.gl h.1).1, C.bm x h.2⟩
theorem CK.vis (C : CK X g gG tb N call k nm) {x : Str} (h : visb nm x = true) : Vis X.env.scope x ∧ (x == ("__debug__" : Str)) = false ∧ (x == ("__classdict__" : Str)) = false := by
  unfold visb at h
  simp only [Bool.and_eq_true, Bool.or_eq_true, decide_eq_true_eq] at h
  refine ⟨?_, by simpa using h.1.2, by simpa using h.2⟩
  unfold Vis
  rw [C.nms]
  rcases h.1.1 with (z | z) | z
  · exact .inl z
  · exact .inr (.inl z)
  · exact .inr (.inr z)
/-- which names may be stored -/
def LocF (X : Cx) (nm : Nm) : Prop := ∀ x, locb nm x = true → L2.Loc X.env.scope x ∧ (X.fn x = true ∨ X.env.scope.names.lookup x = some .local)
theorem CK.locD (C : CK X g gG tb N call k nm) (hf : ∀ x, X.fn x = true) : LocF X nm := by
  intro x h
  unfold locb at h
  rw [Bool.or_eq_true, decide_eq_true_eq, decide_eq_true_eq] at h
  unfold L2.Loc
  rw [C.nms]
  exact ⟨h, .inl (hf x)⟩
theorem CK.locB (C : CK X g gG tb N call k nm) (s : Shared) (H : Hp) (scope : Scope) (L : Addr) (cl : List (Str × Addr)) (fp : List Addr) : LocF (X.blk s H scope (compEnvC scope cl L X.env) fp) ⟨scope.names, false⟩ := by
  intro x h
  unfold locb at h
  rw [Bool.or_eq_true, decide_eq_true_eq, decide_eq_true_eq] at h
  have hs : (X.blk s H scope (compEnvC scope cl L X.env) fp).env.scope = relS scope X.env.scope := rfl
  unfold L2.Loc
  rw [hs]
  rcases h with z | z
  · have q := lookup_relS_keep (sc := X.env.scope) (by decide) z
    exact ⟨.inl q, .inr q⟩
  · have q := lookup_relS_keep (sc := X.env.scope) (by decide) z
    exact ⟨.inr q, .inl (by show (scope.names.lookup x == some .cell) = true; rw [z]; rfl)⟩
theorem CK.sl (C : CK X g gG tb N call k nm) {i : Nat} {x : Str} (h : slot N i x = true) : X.N[i]? = some x := by
  rw [C.hN]
  unfold slot at h
  exact of_decide_eq_true h
theorem CK.tn (C : CK X g gG tb N call k nm) {nm' : Nm} (hl : LocF X nm') : ∀ {is : List Nat} {es : List Expr}, tnC N nm' is es = true → TN X es is
  | [], [], _ => .nil
  | [], _ :: _, h => by unfold tnC at h; cases h
  | _ :: _, [], h => by unfold tnC at h; cases h
  | i :: is, e :: es, h => by
    unfold tnC at h
    split at h
    · rename_i e0; cases e0
    · rename_i e1 e2
      cases e1; cases e2
      simp only [Bool.and_eq_true] at h
      obtain ⟨l1, l2⟩ := hl _ h.1.2
      exact .cons (C.sl h.1.1) l1 l2 (C.tn hl h.2)
    · cases h
theorem CK.tg (C : CK X g gG tb N call k nm) (hc : tb.c = true) {nm' : Nm} (hl : LocF X nm') {tg : List Nat} {e : Expr} (h : tgC N nm' tg e = true) : PG X e (tG g tg) := by
  unfold tgC at h
  split at h
  · split at h
    · rw [Bool.and_eq_true] at h
      obtain ⟨l1, l2⟩ := hl _ h.2
      exact gv_one C.gx.nd (C.sl h.1) l1 l2
    · cases h
  · rw [Bool.and_eq_true, decide_eq_true_eq] at h
    exact gv_tup C.gx (C.calm hc) (C.tn hl h.2) h.1
  · cases h
theorem tnC_some : ∀ {is : List Nat} {es : List Expr}, tnC N nm is es = true → ∀ i ∈ is, ∃ x, N[i]? = some x
  | [], _, _, i, hi => by cases hi
  | _ :: _, [], h, _, _ => by unfold tnC at h; cases h
  | i :: is, e :: es, h, j, hj => by
    unfold tnC at h
    split at h
    · rename_i e0; cases e0
    · rename_i e1 e2
      cases e1; cases e2
      simp only [Bool.and_eq_true] at h
      rcases List.mem_cons.mp hj with rfl | hj
      · exact ⟨_, of_decide_eq_true h.1.1⟩
      · exact tnC_some h.2 j hj
    · cases h
theorem tgC_some {tg : List Nat} {e : Expr} (h : tgC N nm tg e = true) : ∀ i ∈ tg, ∃ x, N[i]? = some x := by
  unfold tgC at h
  split at h
  · split at h
    · rw [Bool.and_eq_true] at h
      intro i hi
      rcases List.mem_cons.mp hi with rfl | hi
      · exact ⟨_, of_decide_eq_true h.1⟩
      · cases hi
    · cases h
  · rw [Bool.and_eq_true] at h
    exact tnC_some h.2
  · cases h
theorem own_sub {tg : List Nat} : ∀ i ∈ (ownOf N tg).map (·.2), i ∈ tg := by
  intro i hi
  obtain ⟨p, hp, rfl⟩ := List.mem_map.mp hi
  obtain ⟨j, hj, e⟩ := List.mem_filterMap.mp hp
  obtain ⟨x, _, rfl⟩ := Option.map_eq_some_iff.mp e
  exact hj
theorem own_sup {tg : List Nat} (h : ∀ i ∈ tg, ∃ x, N[i]? = some x) : ∀ i ∈ tg, i ∈ (ownOf N tg).map (·.2) := by
  intro i hi
  obtain ⟨x, hx⟩ := h i hi
  exact List.mem_map.mpr ⟨(x, i), List.mem_filterMap.mpr ⟨i, hi, by rw [hx]; rfl⟩, rfl⟩
def lenEs : Es → Nat
  | .nil => 0
  | .cons _ r => lenEs r + 1
theorem evEs_len (call : Cl) (c : Bool) : ∀ (t : Es) (env : Env) (h : AH) (l : List D) (h' : AH), evEs gG call c t env h = .ok l h' → l.length = lenEs t
  | .nil, env, h, l, h', e => by unfold evEs at e; cases e; rfl
  | .cons a r, env, h, l, h', e => by
    unfold evEs at e
    cases ha : evE gG call c a env h with
    | ok x h1 =>
      rw [ha, bind_ok] at e
      cases hr : evEs gG call c r env h1 with
      | ok m h2 =>
        rw [hr, bind_ok] at e
        cases e
        rw [List.length_cons, evEs_len call c r _ _ _ _ hr]
        rfl
      | _ => rw [hr] at e; cases e
    | _ => rw [ha] at e; cases e
theorem chEs_len : ∀ {t : Es} {l : List Expr}, chEs tb N t nm l = true → lenEs t = l.length
  | .nil, [], _ => rfl
  | .nil, _ :: _, h => by unfold chEs at h; cases h
  | .cons _ _, [], h => by unfold chEs at h; cases h
  | .cons a r, e :: l, h => by
    unfold chEs at h
    rw [Bool.and_eq_true] at h
    show lenEs r + 1 = l.length + 1
    rw [chEs_len h.2]
theorem chKs_len : ∀ {t : Es} {l : List Keyword} {ks : List Str}, chKs tb N t nm l = true → kwn l = some ks → lenEs t = ks.length
  | .nil, [], ks, _, e => by cases e; rfl
  | .nil, _ :: _, _, h, _ => by unfold chKs at h; cases h
  | .cons _ _, [], _, h, _ => by unfold chKs at h; cases h
  | .cons a r, ⟨some n, e, p⟩ :: l, ks, h, hk => by
    unfold chKs at h
    rw [Bool.and_eq_true] at h
    obtain ⟨js, h1, rfl⟩ := Option.map_eq_some_iff.mp (show (kwn l).map (n :: ·) = some ks from hk)
    show lenEs r + 1 = js.length + 1
    rw [chKs_len h.2 h1]
  | .cons a r, ⟨none, e, p⟩ :: l, ks, h, hk => by cases hk
theorem evDs_len (call : Cl) (c : Bool) : ∀ (t : Es) (fl : List Bool) (ls : List Expr), nsts ls = true → chDs tb N t fl nm ls = true → ∀ (env : Env) (h : AH) (l : List D) (h' : AH), evDs gG call c t fl env h = .ok l h' → l.length = ls.length
  | .nil, fl, ls, hn, hc, env, h, l, h', e => by
    unfold chDs at hc
    split at hc
    · unfold evDs at e; cases e; rfl
    · cases hc
  | .cons a r, fl, ls, hn, hc, env, h, l, h', e => by
    unfold chDs at hc
    split at hc
    · rename_i fl e' r'
      rw [Bool.and_eq_true] at hc
      unfold nsts at hn
      rw [List.all_cons, Bool.and_eq_true] at hn
      unfold evDs at e
      cases ha : evE gG call c a env h with
      | ok x h1 =>
        rw [ha, bind_ok] at e
        dsimp only at e
        cases hr : evDs gG call c r fl env h1 with
        | ok m h2 =>
          rw [hr, bind_ok] at e
          cases e
          rw [List.length_cons, List.length_cons, evDs_len call c r fl r' hn.2 hc.2 _ _ _ _ hr]
        | _ => rw [hr] at e; cases e
      | _ => rw [ha] at e; cases e
    · unfold nsts at hn
      rw [List.all_cons, Bool.and_eq_true] at hn
      exact absurd hn.1 (by unfold nst; exact Bool.false_ne_true)
    · cases hc
theorem evDs_nil {call : Cl} {c : Bool} {t : Es} {fl : List Bool} (h : chDs tb N t fl nm [] = true) (env : Env) (a : AH) : evDs gG call c t fl env a = .ok [] a := by
  cases t with
  | nil => unfold evDs; rfl
  | cons x r =>
    unfold chDs at h
    split at h
    · rename_i e; cases e
    · rename_i e; cases e
    · cases h
theorem mk_ok {o : CmpOp} {e : Expr} (h : nset e = true) : behindInMarks o e = false := by
  cases e <;> first
    | rfl
    | cases h
theorem takesE0 {X : Cx} : Takes X (fun cls d σ H => E0 σ cls d H) := takes0
mutual
theorem chE_ok : ∀ (t : E) {X : Cx} {nm : Nm} (C : CK X g gG tb N call k nm) {E : SX'} (tk : Takes X (fun cls d σ H => E σ cls d H)) (e : Expr), chE tb N t nm e = true → EV X g E e (evE gG call tb.c t)
  | .var i, X, nm, C, E, tk, e, h => by
    unfold chE at h
    split at h
    · rw [Bool.and_eq_true] at h
      obtain ⟨v1, v2, v3⟩ := C.vis h.2
      exact ev_var C.gx (C.sl h.1) v1 v2 v3
    · cases h
  | .cst d, X, nm, C, E, tk, e, h => by
    unfold chE at h
    split at h
    · split at h
      · rename_i d' hd
        have := dsame_eq _ _ h
        subst this
        exact ev_cst C.gx hd
      · cases h
    · cases h
  | .glb n, X, nm, C, E, tk, e, h => by
    unfold chE at h
    split at h
    · rw [Bool.and_eq_true, decide_eq_true_eq] at h
      obtain ⟨v, u, h1, h2, h3⟩ := C.gm _ _ h.1
      obtain ⟨g1, g2⟩ := C.gl h.2
      exact ev_glb C.gx g1 h1 h2 h3 g2
    · cases h
  | .bin o a b, X, nm, C, E, tk, e, h => by
    unfold chE at h
    split at h
    · simp only [Bool.and_eq_true, decide_eq_true_eq] at h
      obtain ⟨⟨rfl, h1⟩, h2⟩ := h
      exact ev_bin C.gx (chE_ok a C tk _ h1) (chE_ok b C tk _ h2)
    · cases h
  | .neg a, X, nm, C, E, tk, e, h => by
    unfold chE at h
    split at h
    · exact ev_neg C.gx (chE_ok a C tk _ h)
    · cases h
  | .not a, X, nm, C, E, tk, e, h => by
    unfold chE at h
    split at h
    · exact ev_not C.gx (chE_ok a C tk _ h)
    · cases h
  | .and es, X, nm, C, E, tk, e, h => by
    unfold chE at h
    split at h
    · rw [Bool.and_eq_true] at h
      exact (chAnd_ok es C tk _ (by intro z; rw [z] at h; exact absurd h.1 (by decide)) h.2).ev
    · cases h
  | .or es, X, nm, C, E, tk, e, h => by
    unfold chE at h
    split at h
    · rw [Bool.and_eq_true] at h
      exact (chOr_ok es C tk _ (by intro z; rw [z] at h; exact absurd h.1 (by decide)) h.2).ev
    · cases h
  | .ife t a b, X, nm, C, E, tk, e, h => by
    unfold chE at h
    split at h
    · simp only [Bool.and_eq_true] at h
      exact ev_ife C.gx (chE_ok t C tk _ h.1.1) (chE_ok a C tk _ h.1.2) (chE_ok b C tk _ h.2)
    · cases h
  | .cmp o a b, X, nm, C, E, tk, e, h => by
    unfold chE at h
    split at h
    · simp only [Bool.and_eq_true, decide_eq_true_eq] at h
      obtain ⟨⟨⟨rfl, h1⟩, h2⟩, h3⟩ := h
      exact ev_cmp C.gx (chE_ok a C tk _ h1) (chE_ok b C tk _ h2) (mk_ok h3)
    · cases h
  | .cmp2 o1 o2 a b d, X, nm, C, E, tk, e, h => by
    unfold chE at h
    split at h
    · simp only [Bool.and_eq_true, decide_eq_true_eq] at h
      obtain ⟨⟨⟨⟨⟨rfl, rfl⟩, h1⟩, h2⟩, h3⟩, h4⟩ := h
      exact ev_cmp2 C.gx (chE_ok a C tk _ h1) (chE_ok b C tk _ h2) (chE_ok d C tk _ h3) (mk_ok h4)
    · cases h
  | .isn a, X, nm, C, E, tk, e, h => by
    unfold chE at h
    split at h
    · exact ev_isn C.gx (chE_ok a C tk _ h)
    · cases h
  | .isnn a, X, nm, C, E, tk, e, h => by
    unfold chE at h
    split at h
    · exact ev_isnn C.gx (chE_ok a C tk _ h)
    · cases h
  | .tup es, X, nm, C, E, tk, e, h => by
    unfold chE at h
    split at h
    · rw [Bool.and_eq_true] at h
      exact ev_tup C.gx (chEs_ok es C tk _ h.1 h.2)
    · cases h
  | .lst es, X, nm, C, E, tk, e, h => by
    unfold chE at h
    split at h
    · rw [Bool.and_eq_true] at h
      exact ev_lst C.gx (chEs_ok es C tk _ h.1 h.2)
    · cases h
  | .hls es, X, nm, C, E, tk, e, h => by
    unfold chE at h
    split at h
    · rw [Bool.and_eq_true] at h
      exact ev_hls C.gx (chEs_ok es C tk _ h.1 h.2)
    · cases h
  | .tupf es fl, X, nm, C, E, tk, e, h => by
    unfold chE at h
    split at h
    · exact ev_tup C.gx (chDs_ok es fl C tk _ h)
    · cases h
  | .lstf es fl, X, nm, C, E, tk, e, h => by
    unfold chE at h
    split at h
    · exact ev_lst C.gx (chDs_ok es fl C tk _ h)
    · cases h
  | .idx a i, X, nm, C, E, tk, e, h => by
    unfold chE at h
    split at h
    · simp only [Bool.and_eq_true] at h
      exact ev_idx C.gx (chE_ok a C tk _ h.1.2) (chE_ok i C tk _ h.2) h.1.1
    · cases h
  | .slc a lo hi, X, nm, C, E, tk, e, h => by
    unfold chE at h
    split at h
    · simp only [Bool.and_eq_true] at h
      exact ev_slc C.gx (chE_ok a C tk _ h.1.1) (chOp_ok lo C tk _ h.1.2) (chOp_ok hi C tk _ h.2)
    · cases h
  | .cal f args kws sel, X, nm, C, E, tk, e, h => by
    unfold chE at h
    split at h
    · simp only [Bool.and_eq_true, decide_eq_true_eq] at h
      obtain ⟨⟨⟨⟨⟨hc, h1⟩, h2⟩, h3⟩, h4⟩, h5⟩ := h
      split at h5
      · rename_i kn hkn
        rw [Bool.and_eq_true] at h5
        obtain ⟨m1, m2⟩ := C.fm _ _ h1
        obtain ⟨g1, g2⟩ := C.gl h2
        obtain ⟨b1, b2⟩ := C.kb _ _ _ _ h5.1
        refine ev_cal (z := false) C.gx (C.calls hc _ _ h1) g1 m1 m2 g2 b1 b2 (C.df f) tk h3 hkn (chEs_ok args C tk _ h3 h4) (chKs_ok kws C tk _ h5.2) (fun z env h => ?_) (fun env h l h' z => ?_) (fun env h l h' z => ?_)
        · subst z
          cases args with
          | nil => unfold evEs; rfl
          | cons a r => unfold chEs at h4; cases h4
        · rw [evEs_len _ _ _ _ _ _ _ z, chEs_len h4]
        · rw [evEs_len _ _ _ _ _ _ _ z, chKs_len h5.2 hkn]
      · cases h5
    · cases h
  | .bi b a, X, nm, C, E, tk, e, h => by
    unfold chE at h
    split at h
    · simp only [Bool.and_eq_true, decide_eq_true_eq] at h
      obtain ⟨⟨⟨⟨hc, rfl⟩, h1⟩, h2⟩, h3⟩ := h
      obtain ⟨g1, g2⟩ := C.bl h1
      exact ev_bi C.gx hc b g1 g2 h2 (chE_ok a C tk _ h3)
    · cases h
  | .isi a kk, X, nm, C, E, tk, e, h => by
    unfold chE at h
    split at h
    · simp only [Bool.and_eq_true, decide_eq_true_eq] at h
      obtain ⟨⟨⟨⟨⟨⟨rfl, h1⟩, h2⟩, rfl⟩, h3⟩, h4⟩, h5⟩ := h
      obtain ⟨g1, g2⟩ := C.bl h1
      obtain ⟨g3, g4⟩ := C.bl h3
      exact ev_isi C.gx h2 g1 g2 g3 g4 h4 (chE_ok a C tk _ h5)
    · simp only [Bool.and_eq_true, decide_eq_true_eq] at h
      obtain ⟨⟨⟨⟨⟨⟨⟨⟨rfl, h1⟩, rfl⟩, rfl⟩, h3⟩, rfl⟩, h4⟩, h5⟩, h6⟩ := h
      obtain ⟨g1, g2⟩ := C.bl h1
      obtain ⟨g3, g4⟩ := C.bl h3
      obtain ⟨g5, g6⟩ := C.bl h4
      exact ev_isiT C.gx g1 g2 g3 g4 g5 g6 h5 (chE_ok a C tk _ h6)
    · cases h
  | .mt m o a, X, nm, C, E, tk, e, h => by
    unfold chE at h
    split at h
    · simp only [Bool.and_eq_true, decide_eq_true_eq] at h
      obtain ⟨⟨⟨⟨⟨rfl, h1⟩, h2⟩, h3⟩, h4⟩, h5⟩ := h
      cases m with
      | join => exact ev_join C.gx (chE_ok o C tk _ h4) (chE_ok a C tk _ h5) h1 h2 (by rw [h3]; exact beq_self_eq_true _)
      | rstrip => exact ev_rstrip C.gx (chE_ok o C tk _ h4) (chE_ok a C tk _ h5) h1 h2 (by rw [h3]; exact beq_self_eq_true _)
      | index => exact ev_index C.gx (chE_ok o C tk _ h4) (chE_ok a C tk _ h5) h1 h2 (by rw [h3]; exact beq_self_eq_true _)
      | split => exact ev_split C.gx (chE_ok o C tk _ h4) (chE_ok a C tk _ h5) h1 h2 (by rw [h3]; exact beq_self_eq_true _)
    · cases h
  | .mm m o args, X, nm, C, E, tk, e, h => by
    unfold chE at h
    split at h
    · simp only [Bool.and_eq_true, decide_eq_true_eq] at h
      obtain ⟨⟨⟨⟨⟨⟨rfl, h1⟩, h2⟩, h3⟩, h4⟩, h5⟩, h6⟩ := h
      exact ev_mm C.gx m (chE_ok o C tk _ h5) (chEs_ok args C tk _ h1 h6) h1 h2 h3 (by rw [h4]; exact beq_self_eq_true _)
    · cases h
  | .same i j, X, nm, C, E, tk, e, h => by
    unfold chE at h
    split at h
    · simp only [Bool.and_eq_true, decide_eq_true_eq] at h
      obtain ⟨⟨⟨⟨⟨⟨⟨⟨h1, h2⟩, h3⟩, h4⟩, rfl⟩, rfl⟩, rfl⟩, rfl⟩, h5⟩ := h
      obtain ⟨g1, g2⟩ := C.bl h5
      obtain ⟨a1, a2, a3⟩ := C.vis h3
      obtain ⟨b1, b2, b3⟩ := C.vis h4
      exact ev_same C.gx (C.sl h1) (C.sl h2) a1 b1 a2 a3 b2 b3 g1 g2
    · cases h
  | .cmpr elt tg it ifs, X, nm, C, E, tk, e, h => by
    unfold chE at h
    split at h
    · rename_i elt' tg' it' ifs' sc pos
      simp only [Bool.and_eq_true, decide_eq_true_eq] at h
      obtain ⟨⟨⟨⟨⟨⟨⟨hc, h1⟩, h2⟩, h3⟩, h4⟩, h5⟩, h6⟩, h7⟩ := h
      have ok : BlkOk X.N X.env.scope sc (ownOf N tg) := by
        refine blkOk_by ?_
        rw [C.hN]
        unfold blkC at h1 ⊢
        rw [C.nms]
        exact h1
      have hif : ∀ (s : Shared) (H : Hp) (L : Addr) (cl : List (Str × Addr)) (fp : List Addr), PTs (X.blk s H sc (compEnvC sc cl L X.env) fp) ifs' (tB' g E0 (evIfs gG call tb.c ifs)) := fun s H L cl fp => by
        cases ifs with
        | nil =>
          cases ifs' with
          | nil => exact ⟨fun pins s σ H Q I ⟨w, env, h, rr, re, q⟩ => pts_nil.run pins s σ H Q I (by unfold evIfs at q; exact q.now rr)⟩
          | cons _ _ => unfold chEs at h6; cases h6
        | cons a r =>
          cases ifs' with
          | nil => unfold chEs at h6; cases h6
          | cons a' r' =>
            have e2 : r' = [] := List.eq_nil_of_length_eq_zero (by simp at h5; exact congrArg List.length h5)
            subst e2
            unfold chEs at h6
            rw [Bool.and_eq_true] at h6
            have z := (chE_ok a (C.blk hc s H sc ok.kind L cl fp) takesE0 _ h6.1).pt
            refine ⟨fun pins s σ H Q I q => (pts_one z).run pins s σ H Q I ?_⟩
            obtain ⟨w, env, h, rr, re, q⟩ := q
            exact ⟨w, env, h, rr, re, by unfold evIfs at q; exact q⟩
      exact ev_cmpr C.gx (C.calm hc) (chIt_ok it C tk tg' it' h4) ok own_sub (own_sup (tgC_some h2)) (fun s H L cl fp => (C.blk hc s H sc ok.kind L cl fp).tg hc (C.locB s H sc L cl fp) h2) hif (fun s H L cl fp => (chE_ok elt (C.blk hc s H sc ok.kind L cl fp) takesE0 _ h7).pe) h3
    · cases h
  | .xfld i f, X, nm, C, E, tk, e, h => by
    unfold chE at h
    split at h
    · simp only [Bool.and_eq_true, decide_eq_true_eq] at h
      obtain ⟨⟨h1, h2⟩, h3⟩ := h
      obtain ⟨v1, v2, v3⟩ := C.vis h2
      obtain ⟨rfl, hf⟩ := C.an _ _ h3
      exact ev_xfld C.gx C.pn C.xo C.nmk hf (C.sl h1) v1 v2 v3
    · cases h
  | .xcal _ _, X, nm, C, E, tk, e, h => by unfold chE at h; cases h
  | .why kl, X, nm, C, E, tk, e, h => by
    unfold chE at h
    split at h
    · simp only [Bool.and_eq_true, decide_eq_true_eq] at h
      obtain ⟨⟨⟨⟨hc, h1⟩, rfl⟩, h3⟩, h4⟩ := h
      obtain ⟨LC, WC⟩ := C.lm h1 hc
      obtain ⟨g1, g2⟩ := C.gl h3
      exact ev_why (hc ▸ C.gx) LC WC h4 g1 g2
    · cases h
  | .whysl ks, X, nm, C, E, tk, e, h => by
    unfold chE at h
    split at h
    · simp only [Bool.and_eq_true, decide_eq_true_eq] at h
      obtain ⟨⟨⟨⟨⟨⟨hc, h1⟩, rfl⟩, h3⟩, h4⟩, h5⟩, h6⟩ := h
      obtain ⟨LC, WC⟩ := C.lm h1 hc
      obtain ⟨g1, g2⟩ := C.gl h3
      cases ks with
      | nil => exact absurd h4 (by simp)
      | cons k0 ks => exact ev_whysl (hc ▸ C.gx) LC WC h6 (Nat.le_trans h5 (by decide)) g1 g2
    · cases h
  | .whysv i, X, nm, C, E, tk, e, h => by
    unfold chE at h
    split at h
    · simp only [Bool.and_eq_true, decide_eq_true_eq] at h
      obtain ⟨⟨⟨⟨⟨hc, h1⟩, rfl⟩, h3⟩, h4⟩, h5⟩ := h
      obtain ⟨LC, WC⟩ := C.lm h1 hc
      obtain ⟨g1, g2⟩ := C.gl h3
      obtain ⟨v1, v2, v3⟩ := C.vis h5
      exact ev_whysv (hc ▸ C.gx) WC g1 g2 (C.sl h4) v1 v2 v3
    · cases h
  | .cav f kf args fl, X, nm, C, E, tk, e, h => by
    unfold chE at h
    split at h
    · simp only [Bool.and_eq_true, decide_eq_true_eq] at h
      obtain ⟨⟨⟨⟨⟨hc, h1⟩, h2⟩, h3⟩, h4⟩, h5⟩ := h
      obtain ⟨m1, m2⟩ := C.fm _ _ h1
      obtain ⟨g1, g2⟩ := C.gl h2
      obtain ⟨v1, v2⟩ := C.cl.va _ _ h4
      have F := C.calls hc _ _ h1
      have G := C.gx
      rw [hc] at F G ⊢
      refine ev_cav G F v1 v2 g1 m1 m2 g2 tk h3 (by have := chDs_ok args fl C tk _ h5; rw [hc] at this; exact this) (fun z env h => ?_) (evDs_len _ _ args fl _ h3 h5)
      subst z
      exact evDs_nil h5 env h
    · cases h
  | .fld a f, X, nm, C, E, tk, e, h => by
    unfold chE at h
    split at h
    · simp only [Bool.and_eq_true, decide_eq_true_eq] at h
      obtain ⟨⟨⟨⟨hc, h1⟩, h2⟩, h3⟩, h4⟩ := h
      obtain ⟨rfl, hf⟩ := C.an _ _ h1
      have ha := chE_ok a C tk _ h4
      have G := C.gx
      have A := C.cl.fl hc f h2
      rw [hc] at ha G ⊢
      exact ev_fld G C.nmk A h3 ha
    · cases h
  | .con kk f, X, nm, C, E, tk, e, h => by
    unfold chE at h
    split at h
    · simp only [Bool.and_eq_true, decide_eq_true_eq] at h
      obtain ⟨⟨⟨h1, h2⟩, h3⟩, h4⟩ := h
      obtain ⟨g1, g2⟩ := C.gl h2
      obtain ⟨rfl, hf⟩ := C.an _ _ h3
      obtain ⟨mc, cr, hv⟩ := C.cl.cn _ _ h4
      exact ev_con C.gx g1 (C.cl.mg _ _ h1) g2 cr hv
    · cases h
  | .mk kk args kws sel, X, nm, C, E, tk, e, h => by
    unfold chE at h
    split at h
    · simp only [Bool.and_eq_true, decide_eq_true_eq] at h
      obtain ⟨⟨⟨⟨⟨hc, h1⟩, h2⟩, h3⟩, h4⟩, h5⟩ := h
      split at h5
      · rename_i kn hkn
        rw [Bool.and_eq_true] at h5
        obtain ⟨g1, g2⟩ := C.gl h2
        have M := C.cl.mkk _ _ h1 _ _ _ h5.1 hc
        have ha := chEs_ok args C tk _ h3 h4
        have hk := chKs_ok kws C tk _ h5.2
        have G := C.gx
        rw [hc] at ha hk G ⊢
        refine ev_mk G M g1 g2 tk h3 hkn ha hk (fun z env h => ?_) (fun env h l h' z => ?_) (fun env h l h' z => ?_)
        · subst z
          cases args with
          | nil => unfold evEs; rfl
          | cons a r => unfold chEs at h4; cases h4
        · rw [evEs_len _ _ _ _ _ _ _ z, chEs_len h4]
        · rw [evEs_len _ _ _ _ _ _ _ z, chKs_len h5.2 hkn]
      · cases h5
    · cases h
  | .mkv kk args fl, X, nm, C, E, tk, e, h => by
    unfold chE at h
    split at h
    · simp only [Bool.and_eq_true, decide_eq_true_eq] at h
      obtain ⟨⟨⟨⟨hc, h1⟩, h2⟩, h3⟩, h4⟩ := h
      split at h4
      · rename_i a
        obtain ⟨g1, g2⟩ := C.gl h2
        have M := C.cl.mv _ _ h1 h3 hc
        have ha := chE_ok a C tk _ h4
        have G := C.gx
        rw [hc] at ha G ⊢
        have er : evE gG call true (.mkv kk (.cons a .nil) [true]) = fun env h => (evE gG call true a env h).bind fun y h => match y with
          | .lst l => if l.length ≤ line then call.make kk [.tup l] h else .stuck
          | .tup l => if l.length ≤ line then call.make kk [.tup l] h else .stuck
          | _ => .stuck := by
          funext env h
          conv => lhs; unfold evE evDs
          rw [bind_assoc]
          refine bind_congr fun y h => ?_
          dsimp only
          cases y with
          | lst l => show ((evDs gG call true .nil [] env h).bind _).bind _ = _; unfold evDs; rw [bind_ok, bind_ok, List.append_nil]
          | tup l => show ((evDs gG call true .nil [] env h).bind _).bind _ = _; unfold evDs; rw [bind_ok, bind_ok, List.append_nil]
          | _ => rfl
        rw [er]
        exact ev_mks G M g1 g2 tk ha
      · cases h4
    · simp only [Bool.and_eq_true, decide_eq_true_eq] at h
      obtain ⟨⟨⟨⟨⟨hc, h1⟩, h2⟩, h3⟩, h4⟩, h5⟩ := h
      obtain ⟨g1, g2⟩ := C.gl h2
      have M := C.cl.mv _ _ h1 h3 hc
      have ha := chDs_ok args fl C tk _ h5
      have G := C.gx
      rw [hc] at ha G ⊢
      refine ev_mkv G M g1 g2 tk h4 ha (fun z env h => ?_) (evDs_len _ _ args fl _ h4 h5)
      subst z
      exact evDs_nil h5 env h
    · cases h
  | .mth o m args kws sel, X, nm, C, E, tk, e, h => by
    unfold chE at h
    split at h
    · simp only [Bool.and_eq_true, decide_eq_true_eq] at h
      obtain ⟨⟨⟨⟨⟨⟨⟨⟨hc, h1⟩, h2⟩, h3⟩, h4⟩, h5⟩, h6⟩, h7⟩, h8⟩ := h
      split at h8
      · rename_i kn hkn
        rw [Bool.and_eq_true] at h8
        have M := C.cl.mt _ _ _ _ h8.1 _ h1 hc
        have ho := chE_ok o C tk _ h6
        have ha := chEs_ok args C tk _ h4 h7
        have hk := chKs_ok kws C tk _ h8.2
        refine ev_mth C.gx M tk h2 (by rw [h3]; exact beq_self_eq_true _) h4 hkn h5 ho ha hk (fun z env h => ?_) (fun env h l h' z => ?_) (fun env h l h' z => ?_)
        · subst z
          cases args with
          | nil => unfold evEs; rfl
          | cons a r => unfold chEs at h7; cases h7
        · rw [evEs_len _ _ _ _ _ _ _ z, chEs_len h7]
        · rw [evEs_len _ _ _ _ _ _ _ z, chKs_len h8.2 hkn]
      · cases h8
    · cases h
  | .stt kk m args kws sel, X, nm, C, E, tk, e, h => by
    unfold chE at h
    split at h
    · simp only [Bool.and_eq_true, decide_eq_true_eq] at h
      obtain ⟨⟨⟨⟨⟨⟨⟨⟨hc, h1⟩, h2⟩, h3⟩, h4⟩, h5⟩, h6⟩, h7⟩, h8⟩ := h
      split at h8
      · rename_i kn hkn
        rw [Bool.and_eq_true] at h8
        obtain ⟨g1, g2⟩ := C.gl h2
        have S := C.cl.st _ _ _ _ _ h8.1 _ h3 hc
        have ha := chEs_ok args C tk _ h5 h7
        have hk := chKs_ok kws C tk _ h8.2
        cases hs : gG.sta kk m with
        | none =>
          have er : evE gG call tb.c (.stt kk m args kws sel) = fun _ _ => .stuck := by
            funext env h
            unfold evE
            rw [hs]
          rw [er]
          exact EV.stuck
        | some f =>
          obtain ⟨s1, ⟨p, s2⟩, s3, s4, s5, s6, s7⟩ := S f hs
          have er : evE gG call tb.c (.stt kk m args kws sel) = fun env h => (evEs gG call tb.c args env h).bind fun l h => (evEs gG call tb.c kws env h).bind fun r h => (match pick sel (l ++ r ++ gG.dfl f) with
            | some vs => call.f tb.c f vs h
            | none => .stuck) := by
            funext env h
            conv => lhs; unfold evE
            rw [hs]
            all_goals rfl
          rw [er]
          refine ev_stt C.gx g1 (C.cl.mg _ _ h1) g2 s1 s2 s3 s4 s5 s6 s7 tk (by rw [h4]; exact beq_self_eq_true _) h5 hkn h6 ha hk (fun z env h => ?_) (fun env h l h' z => ?_) (fun env h l h' z => ?_)
          · subst z
            cases args with
            | nil => unfold evEs; rfl
            | cons a r => unfold chEs at h7; cases h7
          · rw [evEs_len _ _ _ _ _ _ _ z, chEs_len h7]
          · rw [evEs_len _ _ _ _ _ _ _ z, chKs_len h8.2 hkn]
      · cases h8
    · cases h
  | .isc a kk, X, nm, C, E, tk, e, h => by
    unfold chE at h
    split at h
    · simp only [Bool.and_eq_true, decide_eq_true_eq] at h
      obtain ⟨⟨⟨⟨⟨rfl, h1⟩, h2⟩, h3⟩, h4⟩, h5⟩ := h
      obtain ⟨g1, g2⟩ := C.bl h1
      obtain ⟨g3, g4⟩ := C.gl h3
      obtain ⟨i1, i2⟩ := C.cl.ic _ _ h2
      exact ev_isc (isa := fun j => gG.isa j kk) C.gx g1 g2 g3 (C.cl.mg _ _ h2) g4 h4 i1 i2 (chE_ok a C tk _ h5)
    · cases h
  | .dun d o args, X, nm, C, E, tk, e, h => by
    unfold chE at h
    split at h
    · simp only [Bool.and_eq_true, Bool.or_eq_true, decide_eq_true_eq] at h
      obtain ⟨⟨⟨⟨⟨hc, h1⟩, h2⟩, h3⟩, h4⟩, h5⟩ := h
      obtain ⟨g1, g2⟩ := C.bl h2
      obtain ⟨d1, d2, _, _⟩ := C.cl.du hc
      have ho := chE_ok o C tk _ h4
      have G := C.gx
      rw [hc] at ho G ⊢
      cases args with
      | cons _ _ => cases h5
      | nil =>
        have er : evE gG call true (.dun d o .nil) = fun env h => (evE gG call true o env h).bind fun x h => match x with
          | .ins kk fs => (match gG.dmt kk d with
            | some f => if duArg d [] then (noexc (call.pr f [.ins kk fs] h)).bind fun v h => dunR d v h else .stuck
            | none => .stuck)
          | _ => .stuck := by
          funext env h
          conv => lhs; unfold evE
          refine bind_congr fun x h => ?_
          cases x with
          | ins kk fs =>
            dsimp only
            cases gG.dmt kk d with
            | none => rfl
            | some f => show (evEs gG call true .nil env h).bind _ = _; unfold evEs; rfl
          | _ => rfl
        rw [er]
        rcases h1 with ⟨rfl, rfl⟩ | ⟨rfl, rfl⟩
        · exact ev_du1 G (fun EE => by rw [if_pos rfl]; exact call_lenO G d1) (.inl ⟨rfl, rfl⟩) g1 g2 h3 ho
        · exact ev_du1 G (fun EE => by rw [if_neg (fun z => nomatch z)]; exact call_reprO G d2) (.inr ⟨rfl, rfl⟩) g1 g2 h3 ho
    · simp only [Bool.and_eq_true, Bool.or_eq_true, decide_eq_true_eq] at h
      obtain ⟨⟨⟨⟨hc, h1⟩, h2⟩, h3⟩, h4⟩ := h
      obtain ⟨_, _, d3, d4⟩ := C.cl.du hc
      split at h4
      · rename_i b
        have ho := chE_ok o C tk _ h3
        have hb := chE_ok b C tk _ h4
        have G := C.gx
        rw [hc] at ho hb G ⊢
        have er : ∀ ne, evE gG call true (.dun (eqD ne) o (.cons b .nil)) = eqoR gG call ne (evE gG call true o) (evE gG call true b) := fun ne => by
          funext env h
          conv => lhs; unfold evE
          unfold eqoR
          refine bind_congr fun x h => ?_
          cases x with
          | ins kk fs =>
            dsimp only
            cases gG.dmt kk (eqD ne) with
            | none => rfl
            | some f =>
              have e0 : evEs gG call true (.cons b .nil) env h = (evE gG call true b env h).bind fun y h => .ok [y] h := by
                unfold evEs
                refine bind_congr fun y h => ?_
                unfold evEs
                rfl
              show (evEs gG call true (.cons b .nil) env h).bind _ = _
              rw [e0]
          | _ => rfl
        rcases h1 with ⟨rfl, rfl⟩ | ⟨rfl, rfl⟩
        · exact (er false) ▸ ev_eqo (ne := false) G d3 ho hb (mk_ok h2)
        · exact (er true) ▸ ev_eqo (ne := true) G d4 ho hb (mk_ok h2)
      · cases h4
    · cases h
  | .fst es, X, nm, C, E, tk, e, h => by
    unfold chE at h
    split at h
    · exact ev_fst C.gx (chFs_ok es C tk _ h)
    · cases h
  | .cao o args kws sel, X, nm, C, E, tk, e, h => by
    unfold chE at h
    split at h
    · simp only [Bool.and_eq_true] at h
      obtain ⟨⟨⟨⟨⟨hc, h1⟩, h2⟩, h3⟩, h4⟩, h5⟩ := h
      split at h5
      · rename_i kn hkn
        rw [Bool.and_eq_true] at h5
        have M := C.cl.ca _ _ _ h5.1 hc
        have ho := chE_ok o C tk _ h3
        have ha := chEs_ok args C tk _ h2 h4
        have hk := chKs_ok kws C tk _ h5.2
        refine ev_cao2 C.gx M tk h1 h2 hkn ho ha hk (fun z env h => ?_) (fun env h l h' z => ?_) (fun env h l h' z => ?_)
        · subst z
          cases args with
          | nil => unfold evEs; rfl
          | cons a r => unfold chEs at h4; cases h4
        · rw [evEs_len _ _ _ _ _ _ _ z, chEs_len h4]
        · rw [evEs_len _ _ _ _ _ _ _ z, chKs_len h5.2 hkn]
      · cases h5
    · cases h
  | .hlst a, X, nm, C, E, tk, e, h => by
    unfold chE at h
    split at h
    · simp only [Bool.and_eq_true, decide_eq_true_eq] at h
      obtain ⟨⟨⟨rfl, h1⟩, h2⟩, h3⟩ := h
      obtain ⟨g1, g2⟩ := C.bl h1
      exact ev_hlst C.gx g1 g2 h2 (chE_ok a C tk _ h3)
    · cases h
  | .frz a, X, nm, C, E, tk, e, h => by
    unfold chE at h
    split at h
    · exact ev_frz C.gx (chE_ok a C tk _ h)
    · cases h
  | .clr a, X, nm, C, E, tk, e, h => by
    unfold chE at h
    split at h
    · simp only [Bool.and_eq_true, decide_eq_true_eq] at h
      obtain ⟨⟨⟨rfl, h1⟩, h2⟩, h3⟩ := h
      exact ev_clr C.gx (chE_ok a C tk _ h3) h1 (by rw [h2]; exact beq_self_eq_true _)
    · cases h
theorem chFs_ok : ∀ (t : Es) {X : Cx} {nm : Nm} (C : CK X g gG tb N call k nm) {E : SX'} (tk : Takes X (fun cls d σ H => E σ cls d H)) (l : List Expr), chFs tb N t nm l = true → FJ X g E l (fun acc => evFs gG call tb.c t acc)
  | .nil, X, nm, C, E, tk, l, h => by
    unfold chFs at h
    split at h
    · have er : (fun acc => evFs gG call tb.c .nil acc) = fun acc _ h => .ok (.str acc) h := by
        funext acc env h
        unfold evFs
        rfl
      rw [er]
      exact fj_nil
    · cases h
  | .cons t r, X, nm, C, E, tk, l, h => by
    have er : (fun acc => evFs gG call tb.c (.cons t r) acc) = fmtR (evE gG call tb.c t) (fun acc => evFs gG call tb.c r acc) := by
      funext acc env h
      conv => lhs; unfold evFs
      rfl
    rw [er]
    unfold chFs at h
    split at h
    · rename_i s _ _ l
      rw [Bool.and_eq_true] at h
      split at h
      · rename_i z
        simp only [Bool.and_eq_true, decide_eq_true_eq] at h
        obtain ⟨⟨h1, rfl⟩, h2⟩ := h
        have e0 : evE gG call tb.c (.cst (.str z)) = fun _ h => .ok (.str (stt z).cps.toList) h := by
          funext env h
          unfold evE
          rfl
        rw [e0]
        exact fj_cst (s0 := stt z) h1 C.gx (chFs_ok r C tk _ h2)
      · cases h.1
    · simp only [Bool.and_eq_true, decide_eq_true_eq] at h
      obtain ⟨⟨rfl, h1⟩, h2⟩ := h
      exact fj_fmt (chE_ok t C tk _ h1) (chFs_ok r C tk _ h2)
    · cases h
theorem chEs_ok : ∀ (t : Es) {X : Cx} {nm : Nm} (C : CK X g gG tb N call k nm) {E : SX'} (tk : Takes X (fun cls d σ H => E σ cls d H)) (l : List Expr), nsts l = true → chEs tb N t nm l = true → PA X l (tEs g E (evEs gG call tb.c t))
  | .nil, X, nm, C, E, tk, l, hn, h => by
    cases l with
    | nil => exact av_nil
    | cons _ _ => unfold chEs at h; cases h
  | .cons a r, X, nm, C, E, tk, l, hn, h => by
    cases l with
    | nil => unfold chEs at h; cases h
    | cons a' l =>
      unfold chEs at h
      rw [Bool.and_eq_true] at h
      unfold nsts at hn
      rw [List.all_cons, Bool.and_eq_true] at hn
      exact av_cons hn.1 (chE_ok a C tk _ h.1).pe (chEs_ok r C tk _ hn.2 h.2)
theorem chDs_ok : ∀ (t : Es) (fl : List Bool) {X : Cx} {nm : Nm} (C : CK X g gG tb N call k nm) {E : SX'} (tk : Takes X (fun cls d σ H => E σ cls d H)) (l : List Expr), chDs tb N t fl nm l = true → PA X l (tEs g E (evDs gG call tb.c t fl))
  | .nil, fl, X, nm, C, E, tk, l, h => by
    unfold chDs at h
    split at h
    · exact av_nil
    · cases h
  | .cons a r, fl, X, nm, C, E, tk, l, h => by
    unfold chDs at h
    split at h
    · rw [Bool.and_eq_true, Bool.and_eq_true] at h
      exact av_cons h.1.1 (chE_ok a C tk _ h.1.2).pe (chDs_ok r _ C tk _ h.2)
    · rw [Bool.and_eq_true] at h
      exact av_star C.gx (chE_ok a C tk _ h.1).pe (chDs_ok r _ C tk _ h.2)
    · cases h
theorem chKs_ok : ∀ (t : Es) {X : Cx} {nm : Nm} (C : CK X g gG tb N call k nm) {E : SX'} (tk : Takes X (fun cls d σ H => E σ cls d H)) (l : List Keyword), chKs tb N t nm l = true → PK X l (tEs g E (evEs gG call tb.c t))
  | .nil, X, nm, C, E, tk, l, h => by
    cases l with
    | nil => exact kv_nil
    | cons _ _ => unfold chKs at h; cases h
  | .cons a r, X, nm, C, E, tk, l, h => by
    cases l with
    | nil => unfold chKs at h; cases h
    | cons a' l =>
      obtain ⟨n0, e0, p0⟩ := a'
      unfold chKs at h
      rw [Bool.and_eq_true] at h
      exact kv_cons (chE_ok a C tk _ h.1).pe (chKs_ok r C tk _ h.2)
theorem chAnd_ok : ∀ (t : Es) {X : Cx} {nm : Nm} (C : CK X g gG tb N call k nm) {E : SX'} (tk : Takes X (fun cls d σ H => E σ cls d H)) (l : List Expr), l ≠ [] → chEs tb N t nm l = true → BV X g E .And l (evAnd gG call tb.c t)
  | .nil, X, nm, C, E, tk, l, hn, h => by
    cases l with
    | nil => exact absurd rfl hn
    | cons _ _ => unfold chEs at h; cases h
  | .cons a r, X, nm, C, E, tk, l, hn, h => by
    cases l with
    | nil => exact absurd rfl hn
    | cons a' l =>
      unfold chEs at h
      rw [Bool.and_eq_true] at h
      have ha := chE_ok a C tk _ h.1
      have hr := chAnd_ok r C tk l
      cases l with
      | nil =>
        cases r with
        | nil => exact bv_one ha .And
        | cons _ _ => have z := h.2; unfold chEs at z; cases z
      | cons b' l =>
        cases r with
        | nil => have z := h.2; unfold chEs at z; cases z
        | cons b r => exact bv_and C.gx ha (hr (fun z => nomatch z) h.2)
theorem chOr_ok : ∀ (t : Es) {X : Cx} {nm : Nm} (C : CK X g gG tb N call k nm) {E : SX'} (tk : Takes X (fun cls d σ H => E σ cls d H)) (l : List Expr), l ≠ [] → chEs tb N t nm l = true → BV X g E .Or l (evOr gG call tb.c t)
  | .nil, X, nm, C, E, tk, l, hn, h => by
    cases l with
    | nil => exact absurd rfl hn
    | cons _ _ => unfold chEs at h; cases h
  | .cons a r, X, nm, C, E, tk, l, hn, h => by
    cases l with
    | nil => exact absurd rfl hn
    | cons a' l =>
      unfold chEs at h
      rw [Bool.and_eq_true] at h
      have ha := chE_ok a C tk _ h.1
      have hr := chOr_ok r C tk l
      cases l with
      | nil =>
        cases r with
        | nil => exact bv_one ha .Or
        | cons _ _ => have z := h.2; unfold chEs at z; cases z
      | cons b' l =>
        cases r with
        | nil => have z := h.2; unfold chEs at z; cases z
        | cons b r => exact bv_or C.gx ha (hr (fun z => nomatch z) h.2)
theorem chOp_ok : ∀ (t : Op) {X : Cx} {nm : Nm} (C : CK X g gG tb N call k nm) {E : SX'} (tk : Takes X (fun cls d σ H => E σ cls d H)) (l : Option Expr), chOp tb N t nm l = true → PO X l (tO' g E (evOp gG call tb.c t))
  | .no, X, nm, C, E, tk, l, h => by
    unfold chOp at h
    split at h
    · exact ov_no
    · cases h
  | .so a, X, nm, C, E, tk, l, h => by
    unfold chOp at h
    split at h
    · exact ov_so (chE_ok a C tk _ h)
    · cases h
theorem chIt_ok : ∀ (t : It) {X : Cx} {nm : Nm} (C : CK X g gG tb N call k nm) {E : SX'} (tk : Takes X (fun cls d σ H => E σ cls d H)) (tg e : Expr), chIt tb N t nm tg e = true → PI X tg e (tI g E (evIt gG call tb.c t))
  | .seq a, X, nm, C, E, tk, tg, e, h => by
    unfold chIt at h
    exact iv_seq C.gx (chE_ok a C tk _ h)
  | .rng a, X, nm, C, E, tk, tg, e, h => by
    unfold chIt at h
    split at h
    · simp only [Bool.and_eq_true, decide_eq_true_eq] at h
      obtain ⟨⟨⟨rfl, h1⟩, h2⟩, h3⟩ := h
      obtain ⟨g1, g2⟩ := C.bl h1
      exact iv_rng C.gx g1 g2 (chE_ok a C tk _ h3) h2
    · cases h
  | .rng2 a b, X, nm, C, E, tk, tg, e, h => by
    unfold chIt at h
    split at h
    · simp only [Bool.and_eq_true, decide_eq_true_eq] at h
      obtain ⟨⟨⟨⟨⟨rfl, h1⟩, h2⟩, h3⟩, h4⟩, h5⟩ := h
      obtain ⟨g1, g2⟩ := C.bl h1
      exact iv_rng2 C.gx g1 g2 (chE_ok a C tk _ h4) (chE_ok b C tk _ h5) h2 h3
    · cases h
  | .enum a, X, nm, C, E, tk, tg, e, h => by
    unfold chIt at h
    split at h
    · simp only [Bool.and_eq_true, decide_eq_true_eq] at h
      obtain ⟨⟨⟨⟨rfl, h1⟩, h2⟩, h3⟩, h4⟩ := h
      obtain ⟨g1, g2⟩ := C.bl h1
      unfold isTup at h3
      split at h3
      · exact iv_enum C.gx g1 g2 (chE_ok a C tk _ h4) h2
      · cases h3
    · cases h
  | .zip a b, X, nm, C, E, tk, tg, e, h => by
    unfold chIt at h
    split at h
    · simp only [Bool.and_eq_true, decide_eq_true_eq] at h
      obtain ⟨⟨⟨⟨⟨⟨rfl, h1⟩, h2⟩, h3⟩, h4⟩, h5⟩, h6⟩ := h
      obtain ⟨g1, g2⟩ := C.bl h1
      unfold isTup at h4
      split at h4
      · exact iv_zip C.gx g1 g2 (chE_ok a C tk _ h5) (chE_ok b C tk _ h6) h2 h3
      · cases h4
    · cases h
end
end
end Rk

set_option maxHeartbeats 2000000
/-! Rk.N: statements, defs, the law's end. -/
namespace Rk
open PySem PySem.Spec PyProof.Rows L2
structure SK (X : Cx) (g : Gi) (gG : G) (tb : Tb) (N : List Str) (call : Cl) (k : Nat) (nm : Nm) (W : L2.WX) : Prop extends CK X g gG tb N call k nm where
  fn : ∀ x, X.fn x = true
  po : PassesOwn (model X.prog X.w) X.A X.env X.xe
  tk : Takes X W
section
variable {X : Cx} {g : Gi} {gG : G} {tb : Tb} {N : List Str} {call : Cl} {k : Nat} {nm : Nm} {W : L2.WX}
theorem SK.tk' (C : SK X g gG tb N call k nm W) : Takes X (fun cls d σ H => xw W σ cls d H) := C.tk
theorem SK.lf (C : SK X g gG tb N call k nm W) : LocF X nm := C.toCK.locD C.fn
/-- name = [..] -/
theorem chAsgc (C : SK X g gG tb N call k nm W) {i : Nat} {x : Str} {px pos : Pos} {elt : E} {tg : List Nat} {it : It} {ifs : Es} {e : Expr} (hi : slot N i x = true) (hx : locb nm x = true) (h : chE tb N (.cmpr elt tg it ifs) nm e = true) :
    SV X g W (.Assign [.Name x px] e pos) (evS gG call tb.c (.asg i (.cmpr elt tg it ifs))) := by
  obtain ⟨l1, l2⟩ := C.lf _ hx
  unfold chE at h
  split at h
  · rename_i elt' tg' it' ifs' sc pos'
    simp only [Bool.and_eq_true, decide_eq_true_eq] at h
    obtain ⟨⟨⟨⟨⟨⟨⟨hc, h1⟩, h2⟩, h3⟩, h4⟩, h5⟩, h6⟩, h7⟩ := h
    have ok : BlkOk X.N X.env.scope sc (ownOf N tg) := by
      refine blkOk_by ?_
      rw [C.hN]
      unfold blkC at h1 ⊢
      rw [C.nms]
      exact h1
    have hif : ∀ (s : Shared) (H : Hp) (L : Addr) (cl : List (Str × Addr)) (fp : List Addr), PTs (X.blk s H sc (compEnvC sc cl L X.env) fp) ifs' (tB' g E0 (evIfs gG call tb.c ifs)) := fun s H L cl fp => by
      cases ifs with
      | nil =>
        cases ifs' with
        | nil => exact ⟨fun pins s σ H Q I ⟨w, env, h, rr, re, q⟩ => pts_nil.run pins s σ H Q I (by unfold evIfs at q; exact q.now rr)⟩
        | cons _ _ => unfold chEs at h6; cases h6
      | cons a r =>
        cases ifs' with
        | nil => unfold chEs at h6; cases h6
        | cons a' r' =>
          have e2 : r' = [] := List.eq_nil_of_length_eq_zero (by simp at h5; exact congrArg List.length h5)
          subst e2
          unfold chEs at h6
          rw [Bool.and_eq_true] at h6
          have z := (chE_ok a (C.toCK.blk hc s H sc ok.kind L cl fp) takesE0 _ h6.1).pt
          refine ⟨fun pins s σ H Q I q => (pts_one z).run pins s σ H Q I ?_⟩
          obtain ⟨w, env, h, rr, re, q⟩ := q
          exact ⟨w, env, h, rr, re, by unfold evIfs at q; exact q⟩
    exact sv_asgc C.gx (C.calm hc) C.kind (C.sl hi) l1 l2 (chIt_ok it C.toCK C.tk' tg' it' h4) ok own_sub (own_sup (tgC_some h2)) (fun s H L cl fp => (C.toCK.blk hc s H sc ok.kind L cl fp).tg hc (C.toCK.locB s H sc L cl fp) h2) hif (fun s H L cl fp => (chE_ok elt (C.toCK.blk hc s H sc ok.kind L cl fp) takesE0 _ h7).pe) h3
  · cases h
theorem tn_nm : ∀ {es : List Expr} {is : List Nat}, TN X es is → True := fun _ => trivial
mutual
theorem chS_ok : ∀ (t : S) (C : SK X g gG tb N call k nm W) (st : Stmt), chS tb N t nm st = true → SV X g W st (evS gG call tb.c t)
  | .expr t, C, st, h => by
    unfold chS at h
    split at h
    · rw [Bool.and_eq_true] at h
      exact sv_expr (chE_ok t C.toCK C.tk' _ h.2) h.1
    · cases h
  | .asg i t, C, st, h => by
    unfold chS at h
    split at h
    · simp only [Bool.and_eq_true] at h
      obtain ⟨⟨⟨h1, h2⟩, h3⟩, h4⟩ := h
      rw [Bool.or_eq_true] at h4
      rcases h4 with h4 | h4
      · obtain ⟨l1, l2⟩ := C.lf _ h2
        exact sv_asg C.gx (C.sl h1) l1 l2 (chE_ok t C.toCK C.tk' _ h3) h4
      · split at h4
        · exact chAsgc C h1 h2 h3
        · cases h4
    · cases h
  | .asgt is t, C, st, h => by
    unfold chS at h
    split at h
    · simp only [Bool.and_eq_true, decide_eq_true_eq] at h
      obtain ⟨⟨⟨⟨⟨hc, h1⟩, h2⟩, h3⟩, h4⟩, h5⟩ := h
      have tn := C.toCK.tn C.lf h2
      have he := chE_ok t C.toCK C.tk' _ h3
      split at h5
      · rename_i es k1 p1 e pos vs k2 p2
        simp only [Bool.and_eq_true] at h5
        obtain ⟨h6, h7⟩ := h5
        split at h7
        · rename_i hw
          exact sv_asgtC C.gx (C.calm hc) C.kind tn h1 he h6 (by rw [C.nms]; exact hw)
        · rename_i l hw
          simp only [Bool.and_eq_true, decide_eq_true_eq, Bool.or_eq_true] at h7
          obtain ⟨⟨⟨⟨⟨h8, h9⟩, h10⟩, h11⟩, h12⟩, h13⟩ := h7
          split at h9
          · rename_i es'
            unfold chE at h3
            rw [Bool.and_eq_true] at h3
            refine sv_par C.gx (C.calm hc) C.kind tn h8 (chEs_ok es' C.toCK C.tk' _ h3.1 h3.2) h6 (by rw [C.nms]; exact hw) (fun e0 he0 x p e1 => ?_) (fun _ _ => h10) h12 h13
            rw [List.all_eq_true] at h11
            have := h11 _ he0
            rw [e1] at this
            rw [C.nms]
            exact of_decide_eq_true this
          · cases h9
      · rename_i hne
        refine sv_asgt C.gx (C.calm hc) tn h1 he h4 ?_
        unfold isT
        split
        · rename_i a1 a2 a3
          exact absurd rfl (hne a1 a2 a3)
        · rfl
    · cases h
  | .aug i o t, C, st, h => by
    unfold chS at h
    split at h
    · simp only [Bool.and_eq_true, decide_eq_true_eq, Bool.or_eq_true] at h
      obtain ⟨⟨⟨⟨rfl, h1⟩, h2⟩, h3⟩, h4⟩ := h
      obtain ⟨l1, l2⟩ := C.lf _ h3
      exact sv_aug C.gx h1 (C.sl h2) l1 l2 (chE_ok t C.toCK C.tk' _ h4)
    · cases h
  | .ret t, C, st, h => by
    unfold chS at h
    split at h
    · exact sv_ret (chE_ok t C.toCK C.tk' _ h)
    · cases h
  | .retn, C, st, h => by
    unfold chS at h
    split at h
    · exact sv_retn
    · cases h
  | .ifs t a b, C, st, h => by
    unfold chS at h
    split at h
    · simp only [Bool.and_eq_true] at h
      exact sv_if (chE_ok t C.toCK C.tk' _ h.1.1) (chSs_ok a C _ h.1.2) (chSs_ok b C _ h.2)
    · cases h
  | .for tg it b, C, st, h => by
    unfold chS at h
    split at h
    · simp only [Bool.and_eq_true] at h
      exact sv_for (C.calm h.1.1.1.1) C.po (chIt_ok it C.toCK C.tk' _ _ h.1.2) (C.toCK.tg h.1.1.1.1 C.lf h.1.1.1.2) (chSs_ok b C _ h.2) h.1.1.2
    · cases h
  | .whl t b, C, st, h => by
    unfold chS at h
    split at h
    · rw [Bool.and_eq_true] at h
      exact sv_whl C.po (chE_ok t C.toCK C.tk' _ h.1) (chSs_ok b C _ h.2)
    · cases h
  | .brk, C, st, h => by
    unfold chS at h
    split at h
    · exact sv_brk
    · cases h
  | .cnt, C, st, h => by
    unfold chS at h
    split at h
    · exact sv_cnt
    · cases h
  | .pass, C, st, h => by
    unfold chS at h
    split at h
    · exact sv_pass
    · exact sv_doc
    · cases h
  | .never, C, st, h => sv_never
  | .seti o i t, C, st, h => by
    unfold chS at h
    split at h
    · simp only [Bool.and_eq_true] at h
      obtain ⟨⟨⟨⟨h1, h2⟩, h3⟩, h4⟩, h5⟩ := h
      exact sv_seti (chE_ok t C.toCK C.tk' _ h3) (chE_ok o C.toCK C.tk' _ h4) (chE_ok i C.toCK C.tk' _ h5) h2 h1
    · cases h
  | .rse kc es, C, st, h => by
    unfold chS at h
    split at h
    · simp only [Bool.and_eq_true, decide_eq_true_eq] at h
      obtain ⟨⟨⟨⟨hc, h1⟩, h2⟩, h3⟩, h4⟩ := h
      obtain ⟨g1, g2⟩ := C.gl h2
      refine sv_rse C.gx (C.calm hc) C.tk (C.xc _ _ h1) g1 g2 (chEs_ok es C.toCK C.tk' _ h3 h4) h3 fun z env h => ?_
      subst z
      cases es with
      | nil => unfold evEs; rfl
      | cons a r => unfold chEs at h4; cases h4
    · cases h
  | .try1 .., C, st, h => by unfold chS at h; cases h
  | .lasg i ks, C, st, h => by
    unfold chS at h
    split at h
    · simp only [Bool.and_eq_true, decide_eq_true_eq] at h
      obtain ⟨⟨⟨⟨⟨hc, h0⟩, h1⟩, h2⟩, h3⟩, h4⟩ := h
      obtain ⟨l1, l2⟩ := C.lf _ h2
      exact sv_lasg C.gx (C.lm h0 hc).1 h4 (Nat.le_trans h3 (by decide)) (C.sl h1) l1 l2
    · cases h
  | .ladd i ks, C, st, h => by
    unfold chS at h
    split at h
    · simp only [Bool.and_eq_true, decide_eq_true_eq] at h
      obtain ⟨⟨⟨⟨⟨⟨⟨hc, h0⟩, h1⟩, rfl⟩, h2⟩, h5⟩, h3⟩, h4⟩ := h
      obtain ⟨l1, l2⟩ := C.lf _ h2
      obtain ⟨v1, v2, v3⟩ := C.toCK.vis h5
      exact sv_ladd C.gx (C.lm h0 hc).1 h4 h3 (C.sl h1) v1 l1 l2 v2 v3
    · cases h
theorem chSs_ok : ∀ (t : Ss) (C : SK X g gG tb N call k nm W) (st : List Stmt), chSs tb N t nm st = true → SVs X g W st (evSs gG call tb.c t)
  | .nil, C, st, h => by
    cases st with
    | nil => exact svs_nil
    | cons _ _ => unfold chSs at h; cases h
  | .cons a r, C, st, h => by
    cases st with
    | nil => unfold chSs at h; cases h
    | cons s st =>
      unfold chSs at h
      rw [Bool.and_eq_true] at h
      exact svs_cons (chS_ok a C _ h.1) (chSs_ok r C _ h.2)
end
end
/-! ### a def by its body -/
def stos : List BI → List Nat
  | [] => []
  | .reg _ :: r => stos r
  | .sto f _ :: r => f :: stos r
section
variable {X : Cx} {g : Gi} {gG : G} {tb : Tb} {N : List Str} {call : Cl} {k kk : Nat} {nm : Nm} {EE : XK} {x dx : Addr}
/-- an __init__'s text runs as its parts -/
theorem chB_ok (hc : tb.c = true) (hme : g.me = some x) (cl : Cls X.K (g.cb kk)) : ∀ (t : List BI) (C : SK X g gG tb N call k nm (fun cls d _ H => EE cls d H)) (l : List Stmt), (∀ i ∈ stos t, gG.atr kk i = .fld) → chB tb N t nm l = true → PSs X l (tBI g EE kk x dx fun env fs h => evB gG call tb.c t env fs h)
  | [], C, l, hf, h => by
    unfold chB at h
    cases l with
    | nil =>
      have er : (fun env fs h => evB gG call tb.c [] env fs h) = fun _ fs h => .ok fs h := by
        funext env fs h
        unfold evB
        rfl
      rw [er]
      exact bi_nil
    | cons _ _ => cases h
  | .reg s :: r, C, l, hf, h => by
    unfold chB at h
    cases l with
    | nil => cases h
    | cons st l =>
      dsimp only at h
      rw [Bool.and_eq_true] at h
      have er : (fun env fs h => evB gG call tb.c (.reg s :: r) env fs h) = fun env fs h => (noexc (evS gG call tb.c s env h)).bind fun f h => match f with
          | .nx e => if isMe e then evB gG call tb.c r e fs h else .stuck
          | .xc x _ => .exc x h
          | _ => .stuck := by
        funext env fs h
        conv => lhs; unfold evB
        all_goals rfl
      rw [er]
      exact bi_reg (chS_ok s C st h.1) (chB_ok hc hme cl r C l (fun i hi => hf i (by unfold stos; exact hi)) h.2)
  | .sto f t :: r, C, l, hf, h => by
    unfold chB at h
    split at h
    · simp only [Bool.and_eq_true, decide_eq_true_eq] at h
      obtain ⟨⟨⟨⟨⟨⟨h1, h2⟩, h3⟩, h4⟩, h5⟩, h6⟩, h7⟩ := h
      obtain ⟨v1, v2, v3⟩ := C.toCK.vis h2
      obtain ⟨rfl, hlt⟩ := C.an _ _ h3
      have A := C.cl.fl hc f h4
      have er : (fun env fs h => evB gG call tb.c (.sto f t :: r) env fs h) = fun env fs h => (evE gG call tb.c t env h).bind fun d h => if fs.length < 900 then evB gG call tb.c r env (putN f d fs) h else .stuck := by
        funext env fs h
        conv => lhs; unfold evB
        skip
      rw [er]
      exact bi_sto C.gx C.nmk hlt (C.toCK.sl h1) v1 v2 v3 hme cl (A.fld kk (hf f (by unfold stos; exact List.mem_cons_self))) (chE_ok t C.toCK C.tk' _ h6) h5 (chB_ok hc hme cl r C _ (fun i hi => hf i (by unfold stos; exact List.mem_cons_of_mem _ hi)) h7)
    · cases h
end
section
variable {P : Program} {w : World} {K : PySem.W.Frag} {mg : Str → Option Value} {base : Heap}
theorem fn_ofG {k : Nat} {x qual : Str} {params : Arguments} {body : List Stmt} {scope : Scope} {dvs : List V} {kws : List (Str × V)} {f : Addr} {fd : FuncData} {N ps : List Str} {sp : Sp} (F : FunD K x qual params body scope dvs kws f fd) (S : FnScope N ps scope)
    (hbody : ∀ (cdv : Value) (A : Around) (outer : List PySem.Env) (s : Shared) (H : Hp) (vs : List V) (Q : VK) (E : XK), fd.code = cdv → RoomG k (A.deeper (envOfC qual scope s.heap.objs.size f cdv)) → A.handled = none → vs.length = ps.length → sp vs H Q E →
      ∃ t, PSs (cxOf (L2.CX P w) P w K mg base N qual scope f cdv A outer s H E) body t ∧ t { nx := fun _ H' => Q .non H', rt := Q } (start N vs) H) : FnG false P w K mg base (k + 1) true f fd ps sp := by
  obtain ⟨oc, od, dV, kV, doc, pm, an, cdv, ct, osl, rfl, lk, hcd, _, _⟩ := F.ex
  constructor
  intro A outer s H args Q E G room calm e0 hb hsp
  have hcalm := calm rfl
  have inK : K.In s.heap := e0.mod.kin.keeps fun b o e => (e0.bs b o e).1
  have hdep : A.depth < recursionLimit := by have := room.dp; omega
  refine codeAny_call_function hdep (inK _ _ lk) rfl S.co S.gen rfl (PySem.W.codeRec_of inK hcd) (hb _ _ _ ?_)
  intro s2 H2 vs us e2 un ho hx rel hlen hg
  have noLim : s2.heap.NoLimit := e0.mod.nolimit.keeps fun b o e => (e2.bs b o e).1
  have kinds : ∀ y ∈ ps.zip us, scope.names.lookup y.1 = some .local ∨ (scope.names.lookup y.1 = some .cell ∧ ((cellsFrom (s2.heap.objs.size + 1) scope.names []).lookup y.1).isSome = true) := by
    intro y hy
    have hm : y.1 ∈ ps := (List.of_mem_zip (a := y.1) (b := y.2) hy).1
    rcases S.par y.1 hm with z | z
    · left; exact z
    · right; exact ⟨z, PySem.W.cellsFrom_some _ _ _ (.inl z)⟩
  refine wpAny_newFunctionEnv_cells S.kind kinds ?_
  intro env henv s1 entered
  subst henv
  refine ⟨noLim.keeps entered.toInCall.keep, codeAny_func ?_⟩
  obtain ⟨t, ht, hq⟩ := hbody cdv A outer s2 H2 vs Q E rfl (room.deeper _) hcalm hlen (hsp _ _ hg)
  have inv := inv_start (CX := L2.CX P w) (E := E) S hcalm e2 hlen rel entered
  refine wpAny_mono (ht.run [] s1 (start N vs) H2 _ inv hq) ?_ fun e s' z => wpAny_mono z (fun _ s'' z => hx e s'' z) fun e' s'' z => hx e' s'' z
  intro fl s' hfl
  cases fl with
  | ret u =>
    obtain ⟨v, σ', H', J, rv, q⟩ := hfl
    exact ⟨v, H', J.os.trans ho, J.bare, un.trans J.base, J.hok, rv, q⟩
  | next =>
    obtain ⟨σ', H', J, q⟩ := hfl
    exact ⟨.non, H', J.os.trans ho, J.bare, un.trans J.base, J.hok, rfl, q⟩
  | brk =>
    obtain ⟨_, _, _, q⟩ := hfl
    exact q.elim
  | cont =>
    obtain ⟨_, _, _, q⟩ := hfl
    exact q.elim
end
/-- a def's result by its body's -/
theorem fin_post {g : Gi} {w : Wd} {n : Nat} {r : Res Fl} {E : XK} {Q : VK} (q : Post g w n (fin r) E (PV g Q)) : Post g w n r NoX (PF g (fun cls d _ H => E cls d H) { nx := fun _ H' => Q .non H', rt := Q }) := by
  cases r with
  | stuck => exact q
  | exc x h => exact q.elim
  | ok f h =>
    cases f with
    | nx e => exact fun w' H' ext rr σ re => q w' H' ext rr _ (rv_non.mpr rfl)
    | rt d => exact fun w' H' ext rr => q w' H' ext rr
    | bk e => exact q.elim
    | ct e => exact q.elim
    | xc x e => exact fun w' H' ext rr σ cls d re rx => q w' H' cls d ext rr rx
end Rk

set_option maxHeartbeats 2000000
/-! Rk.O: the law's call. -/
namespace Rk
open PySem PySem.Spec PyProof.Rows L2
section
variable {P : Program} {w : World} {K : PySem.W.Frag} {mg mb : Str → Option Value} {k : Nat} {fa a : Addr} {fd : FuncData} {x : Str} {sp : Sp} {s : Shared} {us : List Value} {ns : List Int}
/-- the heap's part that is told of: the script, if it is no object of the module; the tables of code objects -/
def scrH (K : PySem.W.Frag) (a : Addr) (us : List Value) (ns : List Int) (cs : List (Addr × Addr)) : Hp := fun b =>
  if b ∈ cs.map (·.2) then some (.tbl #[]) else if b = a ∧ K.lookup a = none then some (.frz { cls := .type "list", data := .seq us.toArray } (.lst (ns.map V.int))) else none
variable {cs : List (Addr × Addr)}
theorem scrH_some {b : Addr} {u : HO} (h : scrH K a us ns cs b = some u) : (b ∈ cs.map (·.2) ∧ u = .tbl #[]) ∨ b = a ∧ K.lookup a = none ∧ u = .frz { cls := .type "list", data := .seq us.toArray } (.lst (ns.map V.int)) := by
  unfold scrH at h
  by_cases hb : b ∈ cs.map (·.2)
  · rw [if_pos hb] at h
    cases h
    exact .inl ⟨hb, rfl⟩
  · rw [if_neg hb] at h
    obtain ⟨⟨h1, h2⟩, h3⟩ := opt_if h
    exact .inr ⟨h1, h2, h3.symm⟩
/-- the tables as they stand at the head's end -/
structure Tabs0 (K : PySem.W.Frag) (h : Heap) (cs : List (Addr × Addr)) : Prop where
  at_ : ∀ p ∈ cs, h.get? p.2 = some { cls := .none, data := .fields #[] }
  nk : ∀ p ∈ cs, K.lookup p.2 = none
  hd : ∀ p ∈ cs, PySem.W.CodeHd h p.1 p.2
theorem Tabs0.noa (T : Tabs0 K s.heap cs) (ha : s.heap.get? a = some { cls := .type "list", data := .seq us.toArray }) : a ∉ cs.map (·.2) := fun z => by
  obtain ⟨p, hp, e⟩ := List.mem_map.mp z
  have q := T.at_ p hp
  rw [e, ha] at q
  have z' : Data.seq us.toArray _ = Data.fields #[] := congrArg Obj.data (Option.some.inj q)
  cases z'
theorem scrH_sq (T : Tabs0 K s.heap cs) (KX : K.In s.heap) (ha : s.heap.get? a = some { cls := .type "list", data := .seq us.toArray }) (hi : IntsAre us ns) (hl : ns.length ≤ sizeLine) : SqL K (scrH K a us ns cs) a (ns.map V.int) := by
  have rel := vals_ints hi
  have len := hi.length
  cases hk : K.lookup a with
  | none =>
    refine .inl (.inr ⟨{ cls := .type "list", data := .seq us.toArray }, ?_⟩)
    unfold scrH
    rw [if_neg (T.noa ha)]
    exact if_pos ⟨rfl, hk⟩
  | some o =>
    have e := KX a o hk
    rw [ha] at e
    have e := Option.some.inj e
    subst e
    refine .inr ⟨_, us.toArray, _, hk, rfl, rfl, rfl, ?_, ?_⟩
    · rw [List.size_toArray, len]; exact hl
    · simpa using rel
theorem scrH_ok (T : Tabs0 K s.heap cs) (ha : s.heap.get? a = some { cls := .type "list", data := .seq us.toArray }) (hi : IntsAre us ns) (hl : ns.length ≤ sizeLine) : HOk P w (scrH K a us ns cs) s.heap := by
  intro b u hb
  rcases scrH_some hb with ⟨hm, rfl⟩ | ⟨rfl, _, rfl⟩
  · obtain ⟨p, hp, e⟩ := List.mem_map.mp hm
    rw [← e]
    exact T.at_ p hp
  · refine ⟨ha, ?_, us, _, vals_ints hi, ha⟩
    rw [List.length_map]
    exact hl
/-- the ground below the law's call -/
theorem scr_env (T : Tabs0 K s.heap cs) (KX : K.In s.heap) (hns : s.heap.Ns mainGlobals mg) (hb : s.heap.Ns builtinsNs mb) (hbb : ∀ x : Str, x ≠ "__name__" → mb x = bootBuiltins x) (hlim : s.heap.NoLimit) (hg : s.gens = #[])
    (hbm : ∃ (bm : Addr) (ob : Obj), mg "__builtins__" = some (.ref bm) ∧ bm ≠ builtinsNs ∧ s.heap.get? bm = some ob ∧ ob.cls = .type "module" ∧ ob.dict = some builtinsNs ∧ ob.data = .plain)
    (ha : s.heap.get? a = some { cls := .type "list", data := .seq us.toArray }) (hi : IntsAre us ns) (hl : ns.length ≤ sizeLine) :
    Env0 P w K mg (hidT s.heap (scrH K a us ns cs)) callerA [] s (scrH K a us ns cs) ∧ ∀ p ∈ cs, LamX.TabB (hidT s.heap (scrH K a us ns cs)) mg p.1 p.2 := by
  have seen : ∀ {b : Addr} {o : Obj}, s.heap.get? b = some o → (b = a → K.lookup a ≠ none) → b ∉ cs.map (·.2) → (hidT s.heap (scrH K a us ns cs)).get? b = some o := by
    intro b o hb hne hnt
    refine hidT_get hb ?_
    cases q : scrH K a us ns cs b with
    | none => rfl
    | some u =>
      rcases scrH_some q with ⟨hm, _⟩ | ⟨h1, h2, _⟩
      · exact absurd hm hnt
      · exact absurd h2 (hne h1)
  -- an object of another form is no table and no script
  have other : ∀ {b : Addr} {o : Obj}, s.heap.get? b = some o → (∀ vs n, o.data ≠ .seq vs n) → o.data ≠ .fields #[] → (hidT s.heap (scrH K a us ns cs)).get? b = some o := fun {b o} e h1 h2 => by
    refine seen e (fun z => ?_) fun z => ?_
    · rw [z, ha] at e
      cases e
      exact (h1 _ _ rfl).elim
    · obtain ⟨p, hp, e'⟩ := List.mem_map.mp z
      have q := T.at_ p hp
      rw [e', e] at q
      cases q
      exact (h2 rfl).elim
  have names : ∀ {b : Addr} {m : Str → Option Value}, s.heap.Ns b m → (hidT s.heap (scrH K a us ns cs)).Ns b m := by
    rintro b m ⟨o, es, ep, h1, h2, h3⟩
    exact ⟨o, es, ep, other h1 (fun vs n z => by rw [h2] at z; cases z) (fun z => by rw [h2] at z; cases z), h2, h3⟩
  have kin : K.In (hidT s.heap (scrH K a us ns cs)) := fun b o hb => seen (KX b o hb) (fun hba hn => by
    rw [hba, hn] at hb
    cases hb) fun z => by
    obtain ⟨p, hp, e⟩ := List.mem_map.mp z
    rw [← e, T.nk p hp] at hb
    cases hb
  obtain ⟨mc, c1, c2⟩ := hlim
  refine ⟨{ frames := rfl, mod := { kin := kin, glob := names hns, blt := ⟨mb, names hb, hbb⟩, nolimit := ⟨mc, names c1, c2⟩ }, bs := fun b o hb => of_hidT hb, bsz := Nat.le_of_eq (hidT_size _ _), funs := trivial, frf := fun b hb => absurd (show b ∈ ([] : List Addr) from hb) (by simp), hok := scrH_ok T ha hi hl, bare := .of_eq hg }, fun p hp => ⟨?_, ?_, fun z => ?_⟩⟩
  · obtain ⟨o, us', file, tf, flags, tg, inF, text, tt, e1, r1, r2, r3, r4⟩ := T.hd p hp
    refine ⟨o, us', file, tf, flags, tg, inF, text, tt, other e1 (fun vs n z => ?_) (fun z => ?_), r1, r2, r3, r4⟩
    · rw [r2] at z; cases z
    · rw [r2] at z
      cases z
      simp at r3
  · obtain ⟨bm, ob, b1, b2, b3, b4, b5, b6⟩ := hbm
    refine ⟨bm, ob, b1, b2, fun q => ?_, fun q => ?_, other b3 (fun vs n z => by rw [b6] at z; cases z) (fun z => by rw [b6] at z; cases z), b4, b5, b6⟩
    · obtain ⟨o, es, ep, e, hd, _⟩ := hns
      rw [q, e] at b3
      cases b3
      rw [hd] at b6
      cases b6
    · rw [q, T.at_ p hp] at b3
      cases b3
      cases b6
  · obtain ⟨o, es, ep, e, hd, _⟩ := hns
    rw [z, T.at_ p hp] at e
    cases e
    cases hd
theorem lawG (T : Tabs0 K s.heap cs) (KX : K.In s.heap) (hns : s.heap.Ns mainGlobals mg) (hb : s.heap.Ns builtinsNs mb) (hbb : ∀ x : Str, x ≠ "__name__" → mb x = bootBuiltins x) (hlim : s.heap.NoLimit) (hg : s.gens = #[])
    (hbm : ∃ (bm : Addr) (ob : Obj), mg "__builtins__" = some (.ref bm) ∧ bm ≠ builtinsNs ∧ s.heap.get? bm = some ob ∧ ob.cls = .type "module" ∧ ob.dict = some builtinsNs ∧ ob.data = .plain)
    (ha : s.heap.get? a = some { cls := .type "list", data := .seq us.toArray }) (hi : IntsAre us ns) (hl : ns.length ≤ sizeLine) (room : RoomG k callerA)
    (F : ∀ base : Heap, K.In base → base.Ns mainGlobals mg → (∀ p ∈ cs, LamX.TabB base mg p.1 p.2) → FnG false P w K mg base k true fa fd [x] sp) (bind : ∀ (s : Shared) (u : Value), BindsTo s fd ⟨[u], []⟩ [(x, u)])
    (hsp : ∀ H : Hp, (∀ p ∈ cs, H p.2 = some (.tbl #[])) → SqL K H a (ns.map V.int) → sp [.ref a] H (fun v _ => v = .bl true) fun _ _ _ => False) :
    codeAny (model P w) callerA (.call (.ref fa) ⟨[.ref a], []⟩) (fun r s' => r = .ok (.ret (.bool true)) ∧ OldK s.heap s'.heap ∧ s'.os = s.os ∧ AllBare s'.gens) s := by
  obtain ⟨e0, tb⟩ := scr_env (P := P) (w := w) T KX hns hb hbb hlim hg hbm ha hi hl
  have fn := F _ e0.mod.kin e0.mod.glob tb
  have tabH : ∀ p ∈ cs, scrH K a us ns cs p.2 = some (.tbl #[]) := fun p hp => if_pos (List.mem_map.mpr ⟨p, hp, rfl⟩)
  refine codeAny_mono (fn.run callerA [] s _ ⟨[.ref a], []⟩ [.ref a] [.ref a] _ _ room (fun _ => rfl) e0 rfl (bind s (.ref a)) (.cons rfl .nil) (hsp _ tabH (scrH_sq T KX ha hi hl))) ?_
  intro r s' h
  cases r with
  | error e =>
    obtain ⟨_, _, _, _, _, _, _, _, _, _, _, _, z⟩ := h
    exact z.elim
  | ok fl =>
    cases fl with
    | next => exact h.elim
    | brk => exact h.elim
    | cont => exact h.elim
    | ret u =>
      obtain ⟨v, H', os, bare, un, ok', rel, q⟩ := h
      have q : v = .bl true := q
      rw [q] at rel
      have rel : u = Value.bool true := rel
      have key : ∀ b o, b ∉ cs.map (·.2) → s.heap.get? b = some o → s'.heap.get? b = some o := fun b o nb hbo => by
        cases q : scrH K a us ns cs b with
        | none => exact un.keep b o hbo q (fun z => absurd (show b ∈ ([] : List Addr) from z) (by simp)) (by simp)
        | some u =>
          rcases scrH_some q with ⟨hm, _⟩ | ⟨e1, e2, e3⟩
          · exact absurd hm nb
          · rw [e3] at q
            obtain ⟨k1, _⟩ := ok' b _ (un.frzs b _ _ q)
            rw [e1, ha] at hbo
            have e := Option.some.inj hbo
            rw [← e]
            exact k1
      have grown : ∀ p ∈ cs, ∃ more : Array Value, s'.heap.get? p.2 = some { cls := .none, data := .fields more } := fun p hp => by
        obtain ⟨more, z⟩ := un.tbls p.2 #[] (tabH p hp)
        exact ⟨_, ok' p.2 _ z⟩
      refine ⟨by rw [rel], ⟨fun b o e => ?_, fun b o e => ?_⟩, os, bare⟩
      · by_cases hb : b ∈ cs.map (·.2)
        · obtain ⟨p, hp, ep⟩ := List.mem_map.mp hb
          obtain ⟨more, hm⟩ := grown p hp
          rw [← ep] at e ⊢
          rw [T.at_ p hp] at e
          cases e
          exact .inr (.inl ⟨((T.hd p hp).tab (T.at_ p hp)).isCodeTable, rfl, #[], more, rfl, by rw [Array.empty_append]; exact hm⟩)
        · exact .inl (key b o hb e)
      · by_cases hb : b ∈ cs.map (·.2)
        · obtain ⟨p, hp, ep⟩ := List.mem_map.mp hb
          obtain ⟨more, hm⟩ := grown p hp
          rw [← ep]
          exact ⟨_, hm⟩
        · exact ⟨o, key b o hb e⟩
end
/-- a law's end -/
theorem walkG {l : PySem.W.OpenLaw} {n k : Nat} {q : Program} {loose : List Str} {XP : (Str → Option Value) → Heap → Prop} {YP : World → Heap → Prop} {d : DefRec} {x : Str}
    (most : l.most = some n) (small : n ≤ sizeLine) (nodef : d.params.defaults = []) (room : RoomG k callerA)
    (F : ∀ (w : World) (mg : Str → Option Value) (fa : Addr) (h : Heap), YP w h → h.Ns mainGlobals mg → mg d.name = some (.ref fa) →
      ∃ (K : PySem.W.Frag) (cs : List (Addr × Addr)) (fd : FuncData) (sp : Sp), K.In h ∧ Tabs0 K h cs ∧ (∀ (s : Shared) (u : Value), BindsTo s fd ⟨[u], []⟩ [(x, u)]) ∧
        (∀ (H : Hp) (a : Addr) (ns : List Int), ns.length ≤ n → (∀ p ∈ cs, H p.2 = some (.tbl #[])) → SqL K H a (ns.map V.int) → sp [.ref a] H (fun v _ => v = .bl true) fun _ _ _ => False) ∧
        ∀ base : Heap, K.In base → base.Ns mainGlobals mg → (∀ p ∈ cs, LamX.TabB base mg p.1 p.2) → FnG false l.prog w K mg base k true fa fd [x] sp) :
    PySem.W.WalkO q loose XP YP l.row.toRowW d [] (fun f vs => PySem.call f vs) := by
  refine Att.attach_call most nodef ?_
  intro w s₀ s₁ mg mb fa o pm cd doc a us ns ground told ho hd hcd hmg hobj hints hlen hg
  obtain ⟨K, cs, fd, sp, kin, T, bind, hsp, fn⟩ := F w mg fa _ told ground.T.g hmg
  exact lawG T kin ground.T.g ground.T.b ground.T.builtins ground.T.nolimit hg ground.T.bmain hobj hints (Nat.le_trans hlen small) room fn bind fun H hH hS => hsp H a ns hlen hH hS
end Rk

set_option maxHeartbeats 2000000
/-! Rk.Pa: error classes as the head leaves them. -/
namespace Rk
open PySem PySem.Spec PyProof.Rows L2
/-- the built-in class below an error class -/
inductive EBk where
  | val | look | idx
  deriving DecidableEq
def EBk.B : EBk → String
  | .val => "ValueError"
  | .look => "LookupError"
  | .idx => "IndexError"
def EBk.new : EBk → String
  | .val => "ValueError.__new__"
  | .look => "LookupError.__new__"
  | .idx => "IndexError.__new__"
def EBk.init : EBk → String
  | .val => "ValueError.__init__"
  | .look => "LookupError.__init__"
  | .idx => "IndexError.__init__"
def EBk.bm : EBk → List Value
  | .val => [.type "ValueError", .type "Exception", .type "BaseException", .type "object"]
  | .look => [.type "LookupError", .type "Exception", .type "BaseException", .type "object"]
  | .idx => [.type "IndexError", .type "LookupError", .type "Exception", .type "BaseException", .type "object"]
theorem exb_ok : ∀ b : EBk, ExB b.B b.new b.init b.bm
  | .val => ⟨PySem.F.excBase_ValueError, PySem.F.store_ValueError, PySem.W.kxs_ValueError⟩
  | .look => ⟨PySem.F.excBase_LookupError, PySem.F.store_LookupError, PySem.W.kxs_LookupError⟩
  | .idx => ⟨PySem.F.excBase_IndexError, PySem.F.store_IndexError, PySem.W.kxs_IndexError⟩
/-- an error class: its name, its __init__, the code and the field that it lays -/
structure XE where
  name : Str
  base : EBk
  qual : Str
  params : Arguments
  body : List Stmt
  scope : Scope
  code : List Nat
  fld : Option Nat
abbrev FnXV : Type := Option (Str × Str × Arguments × FuncBody × Scope × Addr × List Str × Addr)
def fnX (K : PySem.W.Frag) (f : Addr) : FnXV := match K.lookup f with
  | some ⟨_, _, .func fd, _⟩ => some (fd.name, fd.qualname, fd.params, fd.body, fd.scope, fd.globals, fd.closure.map (·.1), fd.builtins)
  | _ => none
def XE.val (x : XE) : FnXV := some ("__init__", x.qual, x.params, .stmts x.body, x.scope, mainGlobals, ["__class__"], builtinsNs)
/-- what the text alone says -/
def XE.txt (an : List Str) (prog : Program) (x : XE) : Bool :=
  decide ((prog.main.scope.names.lookup ("super" : Str)).isSome = false) && decide (x.scope.names.lookup ("super" : Str) = some .globalImplicit) && decide (x.scope.names.lookup ("__class__" : Str) = some .free) && decide (x.scope.names.lookup ("self" : Str) = some .local) && decide (x.scope.kind = .function) &&
    decide (x.scope.isCoroutine = false) && decide (x.scope.isGenerator = false) && (x.scope.names.all fun y => decide (y.2 ≠ .cell)) && decide (xinit x.body = some (stt x.code, x.fld.bind fun i => an[i]?)) && okS x.code &&
    (match (x.params.posonlyargs ++ x.params.args).head? with
      | some ar => decide (ar.arg = ("self" : Str))
      | none => false) &&
    (match x.fld with
      | none => true
      | some i => (match an[i]? with
        | some f => decide (x.scope.names.lookup f = some .local) && decide (f ≠ ("code" : Str))
        | none => false))
/-- its values come to its parameters -/
def XE.binds (an : List Str) (x : XE) : Prop := ∀ (kV doc pm : Value) (a0 : Option Addr) (cda : Addr) (ct : Value) (cc : Addr),
  (∀ i f, x.fld = some i → an[i]? = some f → ∀ u v : Value, bindArgs (PySem.W.ksFn "__init__" x.qual x.params x.body x.scope .none kV doc pm a0 (.ref cda) ct cc) ⟨[u, v], []⟩ = pure [(("self" : Str), u), (f, v)]) ∧
    (x.fld = none → ∀ u : Value, bindArgs (PySem.W.ksFn "__init__" x.qual x.params x.body x.scope .none kV doc pm a0 (.ref cda) ct cc) ⟨[u], []⟩ = pure [(("self" : Str), u)])
def isNone' : Value → Bool
  | .none => true
  | _ => false
/-- what is read of the heap's part -/
def xeB (prog : Program) (K : PySem.W.Frag) (C fI : Addr) (b : EBk) (fld : Option Str) : Bool :=
  PySem.W.excInitIn K C b.bm b.new && PySem.W.excOver K C b.bm && decide (PySem.W.ks_superIn K C C "__init__" = some (some (.builtin b.init))) && decide (PySem.W.subIn K (.ref C) (.type b.B) = some true) &&
    decide (PySem.W.findIn K (.ref C) "__init__" = some (some (.ref fI))) && decide (PySem.W.typeIn K (.ref fI) = some (.type "function")) &&
    (match K.lookup fI with
      | some ⟨_, _, .func fd, _⟩ => isNone' fd.defaults && (match fd.code with
          | .ref cda => PySem.W.codeIn K (.ref cda) fd.qualname && (match K.lookup cda with
            | some ⟨_, _, .fields vs, _⟩ => (match (vs[2]? : Option Value) with
              | some (.str file _) => (prog.main.file : Str) == file
              | _ => false)
            | _ => false)
          | _ => false) && (match fd.closure with
          | [(_, cc)] => (match K.lookup cc with
            | some ⟨_, _, .cell (some (.ref C')), _⟩ => decide (C' = C)
            | _ => false)
          | _ => false)
      | _ => false) &&
    decide (PySem.W.nsIn K mainGlobals "super" = some none) && decide (PySem.W.nsIn K cStatics "thirdparty.any" = some none) && decide (PySem.W.takerIn K C "code" = some none) && (match fld with
      | some f => decide (PySem.W.takerIn K C f = some none)
      | none => true) &&
    (match PySem.W.clsIn K C with
      | some cd => cd.hasDict
      | none => false) && decide (PySem.W.mroIn K C (.ref C) = some true) && decide (PySem.W.findIn K (.ref C) "__setattr__" = some (some (.builtin "object.__setattr__"))) &&
    decide (PySem.W.subIn K (.ref C) (.type "BaseException") = some true) && decide (PySem.W.typeIn K (.ref C) = some (.type "type")) && PySem.W.keepIn K (.ref C) && xfB K C
theorem xe_ok {prog : Program} {K : PySem.W.Frag} {C fI : Addr} {x : XE} {an : List Str} (ht : x.txt an prog = true) (hb : x.binds an) (hv : fnX K fI = x.val) (h : xeB prog K C fI x.base (x.fld.bind fun i => an[i]?) = true) :
    ExcI prog K C fI (stt x.code) (x.fld.bind fun i => an[i]?) ∧ PySem.W.subIn K (.ref C) (.type "BaseException") = some true ∧ PySem.W.typeIn K (.ref C) = some (.type "type") ∧ PySem.W.keepIn K (.ref C) = true ∧ XfC K C := by
  unfold XE.txt at ht
  simp only [Bool.and_eq_true, decide_eq_true_eq, List.all_eq_true] at ht
  obtain ⟨⟨⟨⟨⟨⟨⟨⟨⟨⟨⟨t1, t2⟩, t3⟩, t4⟩, t5⟩, t6⟩, t7⟩, t8⟩, t9⟩, t10⟩, t11⟩, t12⟩ := ht
  unfold xeB at h
  simp only [Bool.and_eq_true, decide_eq_true_eq] at h
  obtain ⟨⟨⟨⟨⟨⟨⟨⟨⟨⟨⟨⟨⟨⟨⟨⟨⟨h1, h2⟩, h3⟩, h4⟩, h5⟩, h6⟩, h7⟩, h8⟩, h9⟩, h10⟩, h11⟩, h12⟩, h13⟩, h14⟩, h15⟩, h16⟩, h17⟩, h18⟩ := h
  refine ⟨?_, h15, h16, h17, xfB_ok h18⟩
  unfold fnX at hv
  cases hk : K.lookup fI with
  | none => rw [hk] at h7; cases h7
  | some o =>
    obtain ⟨oc, od, dt, osl⟩ := o
    rw [hk] at h7 hv
    cases dt with
    | func fd =>
      obtain ⟨n1, n2, n3, n4, n5, n6, n7, n8, n9, n10, n11, n12, n13, n14, n15⟩ := fd
      have e2 : (some (n1, n2, n3, n4, n5, n6, n7.map (·.1), n15) : FnXV) = (some ("__init__", x.qual, x.params, FuncBody.stmts x.body, x.scope, mainGlobals, ["__class__"], builtinsNs) : FnXV) := hv
      simp only [Option.some.injEq, Prod.mk.injEq] at e2
      obtain ⟨rfl, rfl, rfl, rfl, rfl, rfl, e7, rfl⟩ := e2
      dsimp only at h7
      simp only [Bool.and_eq_true] at h7
      obtain ⟨⟨k1, k2⟩, k3⟩ := h7
      obtain rfl : n8 = .none := by cases n8 <;> first | rfl | cases k1
      split at k2
      rotate_left
      · cases k2
      rename_i cda
      rw [Bool.and_eq_true] at k2
      obtain ⟨k4, k5⟩ := k2
      split at k5
      rotate_left
      · cases k5
      rename_i c1 c2 vs c4 hcda
      split at k5
      rotate_left
      · cases k5
      rename_i file tf hvs
      split at k3
      rotate_left
      · cases k3
      rename_i cn cc
      obtain rfl : cn = ("__class__" : Str) := by injection e7
      split at k3
      rotate_left
      · cases k3
      rename_i cl cld C' csl hcc
      have eC : C' = C := of_decide_eq_true k3
      subst eC
      exact {
        base := ⟨_, _, _, _, exb_ok x.base, h1, h2, h3, h4⟩
        iC := h5
        tI := h6
        fn := ⟨oc, od, osl, _, _, _, _, n9, n10, n11, n12, cda, cc, n14, _, _, vs, _, file, tf, _, _, _, hk, k4, hcda, hvs, k5, hcc, t1, t2, t3, t4, t5, t6, t7, t8, t9, by
          cases hh : (x.params.posonlyargs ++ x.params.args).head? with
          | none => rw [hh] at t11; cases t11
          | some ar => rw [hh] at t11; exact ⟨ar, rfl, of_decide_eq_true t11⟩, fun f e => by
          cases hf : x.fld with
          | none => rw [hf] at e; cases e
          | some i =>
            rw [hf] at e t12
            have e : an[i]? = some f := e
            dsimp only at t12
            rw [e] at t12
            simp only [Bool.and_eq_true, decide_eq_true_eq] at t12
            exact ⟨t12.1, (hb _ _ _ _ _ _ _).1 i f hf e⟩, fun e => by
          cases hf : x.fld with
          | none => exact (hb _ _ _ _ _ _ _).2 hf
          | some i =>
            rw [hf] at e t12
            have e : an[i]? = none := e
            dsimp only at t12
            rw [e] at t12
            cases t12⟩
        nsS := h8
        opq := h9
        tkC := h10
        tkF := fun f e => by rw [e] at h11; exact of_decide_eq_true h11
        cls := by
          cases hc : PySem.W.clsIn K C' with
          | none => rw [hc] at h12; cases h12
          | some cd => rw [hc] at h12; exact ⟨cd, rfl, h12⟩
        mro := h13
        sa := h14 }
    | _ => cases h7
end Rk

set_option maxHeartbeats 2000000
/-! Rk.Pb: the whole program; what the head says of it. -/
namespace Rk
open PySem PySem.Spec PyProof.Rows L2
/-- where a def is found: a name of the module; a method, a property, a static method of a class -/
inductive Wh where
  | glo | mth (c m : Str) | prp (c f : Str) | sta (c m : Str)
  deriving DecidableEq
/-- a default's value -/
def dvD : He.Dv → D
  | .bl b => .bl b
  | .int i => .int i
  | .str x => .str x.cps.toList
  | _ => .non
def dvOk : He.Dv → Bool
  | .non => true
  | .bl _ => true
  | .int _ => true
  | .str x => okS x.cps.toList
  | _ => false
def dfD (d : He.DefD) : List D := (d.dfl ++ d.kwd.map (·.2)).map dvD
def dfOk (d : He.DefD) : Bool := (d.dfl ++ d.kwd.map (·.2)).all dvOk
def dfV (K : PySem.W.Frag) (d : He.DefD) : List V := d.dvs K ++ (d.kws K).map (·.2)
theorem dv_rv {K : PySem.W.Frag} {g : Gi} {w : Wd} {n : Nat} {v : He.Dv} (h : dvOk v = true) : RV g w n (dvD v) (v.v K) := by
  cases v with
  | non => exact rv_non.mpr rfl
  | bl b => exact rv_bl.mpr rfl
  | int i => exact rv_int.mpr rfl
  | str x => exact rv_str.mpr ⟨by show V.str x = V.str ⟨x.cps.toList.toArray⟩; rw [Array.toArray_toList], h⟩
  | _ => cases h
theorem dvs_rv {K : PySem.W.Frag} {g : Gi} {w : Wd} {n : Nat} : ∀ {l : List He.Dv}, l.all dvOk = true → RVs g w n (l.map dvD) (l.map (He.Dv.v K))
  | [], _ => RVs.nil
  | v :: l, h => by
    rw [List.all_cons, Bool.and_eq_true] at h
    exact RVs.mk (dv_rv h.1) (dvs_rv h.2)
theorem df_rv {K : PySem.W.Frag} {g : Gi} {w : Wd} {n : Nat} {d : He.DefD} (h : dfOk d = true) : RVs g w n (dfD d) (dfV K d) := by
  have e : dfV K d = (d.dfl ++ d.kwd.map (·.2)).map (He.Dv.v K) := by
    unfold dfV He.DefD.dvs He.DefD.kws
    rw [List.map_append, List.map_map, List.map_map]
    rfl
  rw [e]
  exact dvs_rv h
/-- one def: where it stands, its slots, its parameters, its text in our small language, whether it makes lambdas -/
structure DE where
  dd : He.DefD
  N : List Str
  ps : List Str
  fn : FnD
  lam : Bool
  wh : Wh
/-- one class: its name, its __init__ (slots, parameters, text, whether it takes any number), its attributes, methods, special and static methods, its constants, the classes above it -/
structure CE where
  name : Str
  dd : He.DefD
  N : List Str
  ps : List Str
  ct : CtD
  va : Bool
  ats : List At
  mts : List (Option Nat)
  dms : List (Du × Nat)
  sts : List (Option Nat)
  cns : List (Nat × D)
  isa : List Bool
/-- _law_why and _law_whys -/
structure WhyD where
  why : He.DefD
  a : Str
  e : Str
  x1 : Str
  x2 : Str
  x3 : Str
  lf : Str
  whys : He.DefD
  a2 : Str
  d : Str
  wy : Str
  sc : Scope
structure Pg where
  ds : List DE
  gs : List (Str × D)
  bs : List Str
  kb : List (Nat × Nat × List Str × List Nat)
  an : List Str
  xs : List XE
  lams : List (E × List Nat)
  why : Option WhyD
  fld : Nat
  cs' : List CE
  mn : List Str
  kbm : List (Nat × Nat × List Str × List Nat)
  kbc : List (Nat × Nat × List Str × List Nat)
  kst : List (Nat × Nat × Nat × List Str × List Nat)
  kva : List (Nat × Nat)
  kca : List (Nat × List Str × List Nat)
def nums : Nat → List Str → List (Str × Nat)
  | _, [] => []
  | k, x :: r => (x, k) :: nums (k + 1) r
theorem nums_at : ∀ {l : List Str} {k i : Nat} {x : Str}, (nums k l).lookup x = some i → ∃ j, i = k + j ∧ l[j]? = some x
  | [], _, _, _, h => by cases h
  | y :: r, k, i, x, h => by
    unfold nums at h
    rw [List.lookup_cons] at h
    cases e : x == y with
    | true =>
      rw [e] at h
      cases h
      exact ⟨0, rfl, by rw [eq_of_beq e]; rfl⟩
    | false =>
      rw [e] at h
      obtain ⟨j, h1, h2⟩ := nums_at h
      exact ⟨j + 1, by omega, by simpa using h2⟩
/-- the module's own defs by their names -/
def fnms : Nat → List DE → List (Str × Nat)
  | _, [] => []
  | k, d :: r => if d.wh = .glo then (d.dd.name, k) :: fnms (k + 1) r else fnms (k + 1) r
theorem fnms_at : ∀ {l : List DE} {k i : Nat} {x : Str}, (fnms k l).lookup x = some i → ∃ j d, i = k + j ∧ l[j]? = some d ∧ d.dd.name = x ∧ d.wh = .glo
  | [], _, _, _, h => by cases h
  | d :: r, k, i, x, h => by
    unfold fnms at h
    by_cases hw : d.wh = .glo
    · rw [if_pos hw, List.lookup_cons] at h
      cases e : x == d.dd.name with
      | true =>
        rw [e] at h
        cases h
        exact ⟨0, d, rfl, rfl, (eq_of_beq e).symm, hw⟩
      | false =>
        rw [e] at h
        obtain ⟨j, d', h1, h2, h3⟩ := fnms_at h
        exact ⟨j + 1, d', by omega, by simpa using h2, h3⟩
    · rw [if_neg hw] at h
      obtain ⟨j, d', h1, h2, h3⟩ := fnms_at h
      exact ⟨j + 1, d', by omega, by simpa using h2, h3⟩
def flsOf (cs : List CE) (n : Nat) : List Nat := (List.range n).filter fun i => cs.any fun c => match c.ats[i]? with
  | some .no => false
  | some _ => true
  | none => false
def vasOf : Nat → List CE → List Nat
  | _, [] => []
  | k, c :: r => if c.va then k :: vasOf (k + 1) r else vasOf (k + 1) r
def cnsOf : Nat → List CE → List (Nat × Nat)
  | _, [] => []
  | k, c :: r => c.cns.map (fun q => (k, q.1)) ++ cnsOf (k + 1) r
def noLam : Nat → LamI → Bool := fun _ _ => false
def Pg.tb (p : Pg) (c : Bool) (lamB : Nat → LamI → Bool) : Tb := ⟨fnms 0 p.ds, nums 0 (p.gs.map (·.1)), p.bs, p.kb, c, nums 0 (p.xs.map (·.name)), p.an, (p.why.map (·.why.name)).getD "", (p.why.map (·.whys.name)).getD "", lamB, nums 0 (p.cs'.map (·.name)), p.mn, p.kbm, p.kbc, p.kst, p.kva, vasOf 0 p.cs', p.kca, flsOf p.cs' p.an.length, cnsOf 0 p.cs'⟩
def Pg.G (p : Pg) : G := ⟨fun f => p.ds[f]?.map (·.fn), fun n => ((p.gs[n]?).map (·.2)).getD .non, fun f => ((p.ds[f]?).map fun d => dfD d.dd).getD [], fun k => ((p.lams[k]?).map (·.1)).getD (.cst .non), fun k => ((p.lams[k]?).map (·.2)).getD [], p.fld, 0, fun c => (p.xs[c]?).map fun x => (x.code, x.fld), fun _ _ => false, fun c i => ((p.cs'[c]?).bind fun c => c.ats[i]?).getD .no, fun c m => (p.cs'[c]?).bind fun c => (c.mts[m]?).getD none, fun c d => (p.cs'[c]?).bind fun c => c.dms.lookup d, fun c m => (p.cs'[c]?).bind fun c => (c.sts[m]?).getD none,
  fun c => (p.cs'[c]?).map (·.ct), fun c => ((p.cs'[c]?).map fun c => dfD c.dd).getD [], fun j c => ((p.cs'[j]?).bind fun j => j.isa[c]?).getD false, fun c i => ((p.cs'[c]?).bind fun c => c.cns.lookup i).getD .non⟩
/-- a lambda's text -/
def lamCk (p : Pg) (d : DE) (k : Nat) (L : LamI) : Bool := match p.lams[k]? with
  | some (t, ws) => lamS2B d.N d.dd.scope L.scope L.params ws && (lamP L.params).isSome && chE (p.tb true noLam) d.N t ⟨L.scope.names, false⟩ L.body
  | none => false
def faG (q : Str × D) : He.Fa := match q.2 with
  | .str s => .str q.1 (stt s)
  | .int i => .int q.1 i
  | _ => .free q.1
def WhyD.fa (w : WhyD) : List He.Fa := [.glo w.why.name, .glo w.whys.name, .glo w.x1, .glo w.x2, .glo w.x3]
def Pg.whyFa (p : Pg) : List He.Fa := match p.why with
  | some w => w.fa
  | none => []
def Pg.whyDs (p : Pg) : List He.DefD := match p.why with
  | some w => [w.why, w.whys]
  | none => []
def DE.fa (d : DE) : List He.Fa := if d.wh = .glo then [.glo d.dd.name] else []
def CE.fa (c : CE) : List He.Fa := [.glo c.name, .cls c.name, .mkr c.name]
def Pg.fa (p : Pg) : List He.Fa := p.ds.flatMap DE.fa ++ p.gs.map faG ++ p.bs.map .free ++ p.xs.map (fun x => .glo x.name) ++ p.cs'.flatMap CE.fa ++ p.whyFa
def Pg.defs (p : Pg) : List He.DefD := p.cs'.map (·.dd) ++ p.whyDs
def scopeC (N ps : List Str) (sc : Scope) : Bool :=
  decide (sc.kind = .function) && decide (sc.isCoroutine = false) && decide (sc.isGenerator = false) && decide N.Nodup && decide (N.take ps.length = ps) &&
    ps.all (fun x => decide (sc.names.lookup x = some .local) || decide (sc.names.lookup x = some .cell)) && sc.names.all fun y => decide (y.2 ≠ .free)
theorem scopeC_ok {N ps : List Str} {sc : Scope} (h : scopeC N ps sc = true) : FnScope N ps sc := by
  unfold scopeC at h
  simp only [Bool.and_eq_true, decide_eq_true_eq, List.all_eq_true, Bool.or_eq_true] at h
  obtain ⟨⟨⟨⟨⟨⟨h1, h2⟩, h3⟩, h4⟩, h5⟩, h6⟩, h7⟩ := h
  exact ⟨h1, h2, h3, h4, h5, h6, h7⟩
def plainD (d : He.DefD) : Bool := d.dfl.isEmpty && d.kwd.isEmpty && decide (d.at_ = (d.name, none))
def plainM (d : DE) : Bool := dfOk d.dd && (!d.lam || (decide (d.wh = .glo) && decide (d.dd.at_ = (d.dd.name, none))))
def DE.ok (p : Pg) (d : DE) : Bool :=
  plainM d && scopeC d.N d.ps d.dd.scope && decide (d.fn.np = d.ps.length) && decide (d.fn.nb = d.N.length) && chSs (p.tb true (lamCk p d)) d.N d.fn.body ⟨d.dd.scope.names, d.lam⟩ d.dd.body
def ixA (n : Nat) : At → Bool
  | .prp q => decide (q < n)
  | _ => true
def ixO (n : Nat) : Option Nat → Bool
  | some q => decide (q < n)
  | none => true
/-- a class names defs of the program -/
def CE.ix (n : Nat) (c : CE) : Bool := c.ats.all (ixA n) && c.mts.all (ixO n) && c.sts.all (ixO n) && c.dms.all fun q => decide (q.2 < n)
/-- a class's own text -/
def CE.ok (p : Pg) (c : CE) : Bool :=
  dfOk c.dd && decide (c.dd.at_ = (c.name, some ("__init__" : Str))) && scopeC c.N c.ps c.dd.scope && decide (c.ct.np + 1 = c.ps.length) && decide (c.ct.nb = c.N.length) && decide (c.ps.length ≤ c.N.length) && chB (p.tb true noLam) c.N c.ct.items ⟨c.dd.scope.names, false⟩ c.dd.body && ((stos c.ct.items).all fun i => match c.ats[i]? with
    | some .fld => true
    | _ => false) && c.ix p.ds.length && (!c.va || decide (c.ps.length = 2))
def gOk (q : Str × D) : Bool := match q.2 with
  | .str s => okS s
  | .int _ => true
  | _ => false
def gl1 (sc : Scope) (y : Str) : Bool := decide (sc.names.lookup y = some .globalImplicit)
def notD (y : Str) : Bool := !(y == ("__debug__" : Str)) && !(y == ("__classdict__" : Str))
def WhyD.ok (w : WhyD) : Bool :=
  plainD w.why && plainD w.whys && decide (w.why.name = ("_law_why" : Str)) && decide (w.whys.name = ("_law_whys" : Str)) && scopeC [w.a, w.e] [w.a] w.why.scope && decide (whyT w.why.body = some (w.a, w.e, w.x1, w.x2, w.x3, w.lf)) &&
    decide (w.why.scope.names.lookup w.a = some .local) && decide (w.why.scope.names.lookup w.e = some .local) && ([w.x1, w.x2, w.x3, w.lf].all (gl1 w.why.scope)) && ([w.a, w.e, w.x1, w.x2, w.x3, w.lf].all notD) &&
    scopeC [w.a2, w.d] [w.a2] w.whys.scope && decide ((whysT w.whys.body).map (fun q => (q.1, q.2.1, q.2.2.1)) = some (w.a2, w.d, w.wy)) && decide (w.wy = w.why.name) && decide (w.whys.scope.names.lookup w.a2 = some .local) && ([w.a2, w.d, w.wy].all notD) &&
    (match whysT w.whys.body with
      | some (_, _, _, sc) => blkC [w.a2, w.d] w.whys.scope sc [(w.d, 1)] && decide ((relS sc w.whys.scope).names.lookup w.d = some .local) && decide ((relS sc w.whys.scope).names.lookup w.wy = some .globalImplicit)
      | none => false)
def Pg.whyOk (p : Pg) : Bool := match p.why with
  | none => p.ds.all fun d => !d.lam
  | some w => w.ok && (match p.ds[p.fld]? with
    | some d => d.dd.dfl.isEmpty && d.dd.kwd.isEmpty && decide (d.wh = .glo) && decide (d.dd.name = w.lf) && decide (d.ps.length = 1) && chSs (p.tb false noLam) d.N d.fn.body ⟨d.dd.scope.names, false⟩ d.dd.body
    | none => false)
def Pg.ok (p : Pg) (prog : Program) : Bool := p.ds.all (DE.ok p) && p.gs.all gOk && decide p.an.Nodup && decide (p.an[0]? = some ("code" : Str)) && p.xs.all (XE.txt p.an prog) && p.cs'.all (CE.ok p) && p.mn.all (fun m => !p.an.contains m) && p.whyOk
/-- a call's values, behind m given ones, come to the parameters -/
def bndP (d : He.DefD) (ps : List Str) (m n : Nat) (ks : List Str) (sel : List Nat) : Prop := ps.length = sel.length + m ∧
  ∀ (K : PySem.W.Frag) (f : Addr) (fd : FuncData), FunD K d.name d.qual d.params d.body d.scope (d.dvs K) (d.kws K) f fd → ∃ ds, Vals (dfV K d) ds ∧
    ∀ (s : Shared) (pre us ws vs : List Value), K.In s.heap → pre.length = m → us.length = n → ws.length = ks.length → pick sel (us ++ ws ++ ds) = some vs → BindsTo s fd ⟨pre ++ us, ks.zip ws⟩ (ps.zip (pre ++ vs))
abbrev bndD (d : He.DefD) (ps : List Str) (n : Nat) (ks : List Str) (sel : List Nat) : Prop := bndP d ps 0 n ks sel
abbrev bndC (d : He.DefD) (ps : List Str) (n : Nat) (ks : List Str) (sel : List Nat) : Prop := bndP d ps 1 n ks sel
abbrev KBd (d : DE) (n : Nat) (ks : List Str) (sel : List Nat) : Prop := bndD d.dd d.ps n ks sel
theorem dvs_nil {K : PySem.W.Frag} {d : He.DefD} (h : d.dfl = []) : d.dvs K = [] := by unfold He.DefD.dvs; rw [h]; rfl
theorem kws_nil {K : PySem.W.Frag} {d : He.DefD} (h : d.kwd = []) : d.kws K = [] := by unfold He.DefD.kws; rw [h]; rfl
section
variable {d : He.DefD} {ps ks : List Str} {m n : Nat} {sel : List Nat}
theorem bnd_pure (hd : d.dfl = []) (hk : d.kwd = []) (hl : ps.length = sel.length + m) (h : ∀ (kV doc pm : Value) (an : Option Addr) (cdv ct : Value) (pre us ws : List Value), pre.length = m → us.length = n → ws.length = ks.length →
    ∃ vs, pick sel (us ++ ws) = some vs ∧ bindArgs (PySem.W.fnOf d.name d.qual d.params d.body d.scope .none kV doc pm an cdv ct) ⟨pre ++ us, ks.zip ws⟩ = pure (ps.zip (pre ++ vs))) : bndP d ps m n ks sel := by
  refine ⟨hl, fun K f fd F => ?_⟩
  obtain ⟨oc, od, dV, kV, doc, pm, an, cdv, ct, osl, rfl, lk, hcd, hD, hK⟩ := F.ex
  rcases hD with ⟨_, rfl⟩ | ⟨e, _⟩
  · refine ⟨[], by unfold dfV; rw [dvs_nil hd, kws_nil hk]; exact .nil, fun s pre us ws vs _ l0 l1 l2 hp => ?_⟩
    rw [List.append_nil] at hp
    obtain ⟨vs', h5, h6⟩ := h kV doc pm an cdv ct pre us ws l0 l1 l2
    rw [hp] at h5
    cases h5
    exact .of_eq h6
  · exact absurd (dvs_nil hd) e
theorem bnd_both (hd : d.dfl ≠ []) (hk : d.kwd ≠ []) (hl : ps.length = sel.length + m) (h : ∀ (T D : Addr) (doc pm : Value) (an : Option Addr) (cdv ct : Value) (pre us ws its kvs : List Value), pre.length = m → us.length = n → ws.length = ks.length → its.length = d.dfl.length → kvs.length = d.kwd.length →
    ∃ vs, pick sel (us ++ ws ++ (its ++ kvs)) = some vs ∧ ∃ k l, bindArgs (PySem.W.fnOf d.name d.qual d.params d.body d.scope (.ref T) (.ref D) doc pm an cdv ct) ⟨pre ++ us, ks.zip ws⟩ = seqItems? (.ref T) >>= k ∧ (∀ q ∈ l, q ∈ (d.kwd.map (·.1)).zip kvs) ∧ KwChain D l (k (some its.toArray)) (ps.zip (pre ++ vs))) : bndP d ps m n ks sel := by
  refine ⟨hl, fun K f fd F => ?_⟩
  obtain ⟨oc, od, dV, kV, doc, pm, an, cdv, ct, osl, rfl, lk, hcd, hD, hK⟩ := F.ex
  have nd : d.dvs K ≠ [] := fun z => hd (List.map_eq_nil_iff.mp z)
  have nk : d.kws K ≠ [] := fun z => hk (List.map_eq_nil_iff.mp z)
  rcases hD with ⟨e, _⟩ | ⟨_, T, o, its, z, rfl, lT, oT, rT⟩
  · exact absurd e nd
  · rcases hK with e | ⟨D, rfl, hq⟩
    · exact absurd e nk
    · obtain ⟨kvs, hlk, rk, hks⟩ := kwd_vals hq
      refine ⟨its ++ kvs, vals_app rT rk, fun s pre us ws vs X l0 l1 l2 hp => ?_⟩
      have li : its.length = d.dfl.length := by rw [← rT.length]; exact List.length_map _
      have lkk : kvs.length = d.kwd.length := by rw [hlk]; exact List.length_map _
      obtain ⟨vs', h5, k, l, e1, e2, e3⟩ := h T D doc pm an cdv ct pre us ws its kvs l0 l1 l2 li lkk
      rw [hp] at h5
      cases h5
      have en : (d.kws K).map (·.1) = d.kwd.map (·.1) := by unfold He.DefD.kws; rw [List.map_map]; rfl
      refine BindsTo.of_looks fun M => ?_
      rw [e1]
      exact looks_items X lT oT (KwChain.looks X (fun q hq => hks q (by rw [en]; exact e2 q hq)) e3)
theorem bnd_kw (hd : d.dfl = []) (hk : d.kwd ≠ []) (hl : ps.length = sel.length + m) (h : ∀ (D : Addr) (doc pm : Value) (an : Option Addr) (cdv ct : Value) (pre us ws kvs : List Value), pre.length = m → us.length = n → ws.length = ks.length → kvs.length = d.kwd.length →
    ∃ vs, pick sel (us ++ ws ++ kvs) = some vs ∧ ∃ l, (∀ q ∈ l, q ∈ (d.kwd.map (·.1)).zip kvs) ∧ KwChain D l (bindArgs (PySem.W.fnOf d.name d.qual d.params d.body d.scope .none (.ref D) doc pm an cdv ct) ⟨pre ++ us, ks.zip ws⟩) (ps.zip (pre ++ vs))) : bndP d ps m n ks sel := by
  refine ⟨hl, fun K f fd F => ?_⟩
  obtain ⟨oc, od, dV, kV, doc, pm, an, cdv, ct, osl, rfl, lk, hcd, hD, hK⟩ := F.ex
  have nk : d.kws K ≠ [] := fun z => hk (List.map_eq_nil_iff.mp z)
  rcases hD with ⟨_, rfl⟩ | ⟨e, _⟩
  · rcases hK with e | ⟨D, rfl, hq⟩
    · exact absurd e nk
    · obtain ⟨kvs, hlk, rk, hks⟩ := kwd_vals hq
      refine ⟨kvs, by unfold dfV; rw [dvs_nil hd]; exact rk, fun s pre us ws vs X l0 l1 l2 hp => ?_⟩
      have lkk : kvs.length = d.kwd.length := by rw [hlk]; exact List.length_map _
      obtain ⟨vs', h5, l, e2, e3⟩ := h D doc pm an cdv ct pre us ws kvs l0 l1 l2 lkk
      rw [hp] at h5
      cases h5
      have en : (d.kws K).map (·.1) = d.kwd.map (·.1) := by unfold He.DefD.kws; rw [List.map_map]; rfl
      exact BindsTo.of_looks fun M => KwChain.looks X (fun q hq => hks q (by rw [en]; exact e2 q hq)) e3
  · exact absurd (dvs_nil hd) e
/-- leftovers become a tuple -/
def bndV (d : He.DefD) (ps : List Str) (n : Nat) : Prop := ps.length = n + 1 ∧ ∀ (K : PySem.W.Frag) (f : Addr) (fd : FuncData), FunD K d.name d.qual d.params d.body d.scope (d.dvs K) (d.kws K) f fd → VarB fd ps n
theorem bndV_pure (hd : d.dfl = []) (hl : ps.length = n + 1) (h : ∀ (kV doc pm : Value) (an : Option Addr) (cdv ct : Value) (us rest : List Value), us.length = n → bindArgs (PySem.W.fnOf d.name d.qual d.params d.body d.scope .none kV doc pm an cdv ct) ⟨us ++ rest, []⟩ = (newTuple rest >>= fun t => pure (ps.zip (us ++ [t])))) : bndV d ps n := by
  refine ⟨hl, fun K f fd F us rest hu => ?_⟩
  obtain ⟨oc, od, dV, kV, doc, pm, an, cdv, ct, osl, rfl, lk, hcd, hD, hK⟩ := F.ex
  rcases hD with ⟨_, rfl⟩ | ⟨e, _⟩
  · exact h kV doc pm an cdv ct us rest hu
  · exact absurd (dvs_nil hd) e
end
def Pg.kbOk (p : Pg) : Prop := ∀ q ∈ p.kb, ∃ d, p.ds[q.1]? = some d ∧ KBd d q.2.1 q.2.2.1 q.2.2.2
def bind1 (d : He.DefD) (a : Str) : Prop := ∀ (kV doc pm : Value) (an : Option Addr) (cdv ct u : Value), bindArgs (PySem.W.fnOf d.name d.qual d.params d.body d.scope .none kV doc pm an cdv ct) ⟨[u], []⟩ = pure [(a, u)]
/-- the functions that stand for a method's name -/
def Pg.mtd (p : Pg) (m f : Nat) : Prop := ∃ c ∈ p.cs', c.mts[m]? = some (some f)
structure Pg.bdC (p : Pg) : Prop where
  mt : ∀ q ∈ p.kbm, ∀ f d, p.mtd q.1 f → p.ds[f]? = some d → bndD d.dd d.ps (q.2.1 + 1) q.2.2.1 q.2.2.2
  mkk : ∀ q ∈ p.kbc, ∀ c, p.cs'[q.1]? = some c → bndC c.dd c.ps q.2.1 q.2.2.1 q.2.2.2
  mv : ∀ c ∈ p.cs', c.va = true → bndV c.dd c.ps 1
  va : ∀ q ∈ p.kva, ∃ d, p.ds[q.1]? = some d ∧ bndV d.dd d.ps q.2
  st : ∀ q ∈ p.kst, ∀ c f d, p.cs'[q.1]? = some c → c.sts[q.2.1]? = some (some f) → p.ds[f]? = some d → bndD d.dd d.ps q.2.2.1 q.2.2.2.1 q.2.2.2.2
  ca : ∀ q ∈ p.kca, ∀ c ∈ p.cs', ∀ f d, c.dms.lookup .call = some f → p.ds[f]? = some d → bndD d.dd d.ps (q.1 + 1) q.2.1 q.2.2
  one : ∀ c ∈ p.cs', ∀ f d, (c.dms.lookup .len = some f ∨ c.dms.lookup .repr = some f ∨ At.prp f ∈ c.ats) → p.ds[f]? = some d → bndD d.dd d.ps 1 [] [0]
  two : ∀ c ∈ p.cs', ∀ f d, (c.dms.lookup .eq = some f ∨ c.dms.lookup .ne = some f) → p.ds[f]? = some d → bndD d.dd d.ps 2 [] [0, 1]
structure Pg.bd (p : Pg) : Prop where
  kb : p.kbOk
  cl : p.bdC
  xb : ∀ x ∈ p.xs, x.binds p.an
  wb : ∀ w, p.why = some w → bind1 w.why w.a ∧ bind1 w.whys w.a2 ∧ ∀ d, p.ds[p.fld]? = some d → ∀ (kV doc pm : Value) (an : Option Addr) (cdv ct u : Value), bindArgs (PySem.W.fnOf d.dd.name d.dd.qual d.dd.params d.dd.body d.dd.scope .none kV doc pm an cdv ct) ⟨[u], []⟩ = pure (d.ps.zip [u])
/-! ### what is read of the heap -/
def codeAd (K : PySem.W.Frag) (q : Str × Option Str) : Addr := match K.lookup (He.fAd K q) with
  | some ⟨_, _, .func fd, _⟩ => (match fd.code with
    | .ref c => c
    | _ => 0)
  | _ => 0
def tabAd (K : PySem.W.Frag) (c : Addr) : Addr := match K.lookup c with
  | some ⟨_, _, .fields vs, _⟩ => (match (vs[11]? : Option Value) with
    | some (.ref P) => P
    | _ => 0)
  | _ => 0
def Pg.cs (p : Pg) (K : PySem.W.Frag) : List (Addr × Addr) := (p.ds.filter (·.lam)).map fun d => (codeAd K d.dd.at_, tabAd K (codeAd K d.dd.at_))
def Pg.tabs (p : Pg) (K : PySem.W.Frag) : List (Addr × Str) := (p.ds.filter (·.lam)).map fun d => (tabAd K (codeAd K d.dd.at_), (d.dd.qual ++ ".<locals>.") ++ "<lambda>")
def strip (Kf : PySem.W.Frag) (T : List Addr) : PySem.W.Frag := Kf.filter fun q => !T.contains q.1
theorem strip_in {Kf : PySem.W.Frag} {T : List Addr} {h : Heap} (X : Kf.In h) : (strip Kf T).In h := by
  intro a o e
  refine X a o ?_
  unfold strip at e
  clear X
  induction Kf with
  | nil => cases e
  | cons q r ih =>
    obtain ⟨b, ob⟩ := q
    rw [List.filter_cons] at e
    by_cases hab : a = b
    · subst hab
      by_cases hT : T.contains a
      · rw [if_neg (by simpa using hT)] at e
        exfalso
        have : ∀ l : PySem.W.Frag, (l.filter fun q => !T.contains q.1).lookup a ≠ some o := by
          intro l
          induction l with
          | nil => exact fun z => nomatch z
          | cons q r ih =>
            rw [List.filter_cons]
            split
            · rename_i hq
              obtain ⟨c, oc⟩ := q
              rw [List.lookup_cons]
              have : (a == c) = false := by
                cases z : a == c with
                | false => rfl
                | true => rw [← eq_of_beq z, hT] at hq; cases hq
              rw [this]
              exact ih
            · exact ih
        exact this r e
      · rw [if_pos (by simpa using hT), List.lookup_cons, beq_self_eq_true] at e
        show List.lookup a ((a, ob) :: r) = _
        rw [List.lookup_cons, beq_self_eq_true]
        exact e
    · have hb : (a == b) = false := by simpa using hab
      show List.lookup a ((b, ob) :: r) = _
      rw [List.lookup_cons, hb]
      split at e
      · rw [List.lookup_cons, hb] at e
        exact ih e
      · exact ih e
def isTab : Option Obj → Bool
  | some ⟨.none, none, .fields vs, sl⟩ => vs.isEmpty && sl.isEmpty
  | _ => false
theorem isTab_ok {o : Option Obj} (h : isTab o = true) : o = some { cls := .none, data := .fields #[] } := by
  unfold isTab at h
  split at h
  · rename_i vs sl
    rw [Bool.and_eq_true] at h
    rw [Array.isEmpty_iff.mp h.1, Array.isEmpty_iff.mp h.2]
  · cases h
def crefB (K : PySem.W.Frag) (q : Str × Option Str) : Bool := match K.lookup (He.fAd K q) with
  | some ⟨_, _, .func fd, _⟩ => (match fd.code with
    | .ref _ => true
    | _ => false)
  | _ => false
def Pg.tabB (p : Pg) (Kf K : PySem.W.Frag) : Bool := ((p.ds.filter (·.lam)).all fun d => crefB K d.dd.at_) && ((p.cs K).all fun q => isTab (Kf.lookup q.2) && (K.lookup q.2).isNone && PySem.W.codeHdIn K q.1 q.2) &&
  ((p.tabs K).all fun q => (p.tabs K).all fun r => !decide (q.1 = r.1) || decide (q.2 = r.2))
def iniAd (K : PySem.W.Frag) (x : XE) : Addr := He.ma K (He.ga K x.name) "__init__"
def Pg.xB (p : Pg) (prog : Program) (K : PySem.W.Frag) : Bool := p.xs.all fun x => xeB prog K (He.ga K x.name) (iniAd K x) x.base (x.fld.bind fun i => p.an[i]?) && (p.an.all fun i => decide (PySem.W.findIn K (.ref (He.ga K x.name)) i = some none)) &&
  (match p.why with
    | some w => decide (PySem.W.exmAny K (.ref (He.ga K x.name)) [.ref (He.ga K w.x1), .ref (He.ga K w.x2), .ref (He.ga K w.x3)] = some true)
    | none => true)
/-! ### defs by where they stand -/
def propGet (K : PySem.W.Frag) (C : Addr) (f : Str) : Addr := match PySem.W.recIn K (He.ma K C f) "property" with
  | some (.ref g :: _) => g
  | _ => 0
def DE.ad (K : PySem.W.Frag) (d : DE) : Addr := match d.wh with
  | .glo => He.ga K d.dd.name
  | .mth c m => He.ma K (He.ga K c) m
  | .prp c f => propGet K (He.ga K c) f
  | .sta c m => He5.wf K (He.ga K c) "staticmethod" m
def fnAtA (K : PySem.W.Frag) (a : Addr) : He.FnW := match K.lookup a with
  | some ⟨_, _, .func fd, _⟩ => some (fd.name, fd.qualname, fd.params, fd.body, fd.scope, fd.globals, fd.closure, fd.builtins)
  | _ => none
def okAtA (K : PySem.W.Frag) (a : Addr) (d : He.DefD) : Bool := PySem.W.keepIn K (.ref a) && (match K.lookup a with
  | some ⟨_, _, .func fd, _⟩ => PySem.W.codeIn K fd.code d.qual && (He.dflB K fd.defaults (d.dvs K) && He.kwdB K fd.kwdefaults (d.kws K))
  | _ => false)
theorem funD_at {K : PySem.W.Frag} {a : Addr} {d : He.DefD} (e : fnAtA K a = d.val) (c : okAtA K a d = true) : ∃ fd, FunD K d.name d.qual d.params d.body d.scope (d.dvs K) (d.kws K) a fd := by
  unfold okAtA at c
  rw [Bool.and_eq_true] at c
  obtain ⟨hkeep, c⟩ := c
  unfold fnAtA at e
  cases hl : K.lookup a with
  | none => rw [hl] at c; cases c
  | some ob =>
    obtain ⟨o1, o2, dat, o4⟩ := ob
    rw [hl] at c e
    cases dat with
    | func fd =>
      obtain ⟨m1, m2, m3, m4, m5, m6, m7, m8, m9, m10, m11, m12, m13, m14, m15⟩ := fd
      have e : (some (m1, m2, m3, m4, m5, m6, m7, m15) : He.FnW) = (some (d.name, d.qual, d.params, FuncBody.stmts d.body, d.scope, mainGlobals, [], builtinsNs) : He.FnW) := e
      simp only [Option.some.injEq, Prod.mk.injEq] at e
      obtain ⟨rfl, rfl, rfl, rfl, rfl, rfl, rfl, rfl⟩ := e
      dsimp only at c
      simp only [Bool.and_eq_true] at c
      exact ⟨_, ⟨o1, o2, m8, m9, m10, m11, m12, m13, m14, o4, rfl, hl, c.1, He.dflB_ok c.2.1, He.kwdB_ok c.2.2⟩, hkeep⟩
    | _ => cases c
def conV : D → Option V
  | .int i => some (.int i)
  | .str s => if okS s then some (.str (stt s)) else none
  | .bl b => some (.bl b)
  | _ => none
def sameA (v : Option (Option Value)) (a : Addr) : Bool := He.eqO v (some (some (.ref a)))
def dadr (p : Pg) (K : PySem.W.Frag) (f : Nat) : Addr := match p.ds[f]? with
  | some d => d.ad K
  | none => 0
def atB (p : Pg) (K : PySem.W.Frag) (C : Addr) (f : Str) : At → Bool
  | .no => true
  | .fld => He.eqO (PySem.W.findIn K (.ref C) f) (some none)
  | .con d => (match conV d, PySem.W.findIn K (.ref C) f with
    | some v, some (some u) => He.relB v u && He.eqO (PySem.W.specialIn K u "__get__") (some none) && !PySem.W.copiedNames.contains f
    | _, _ => false)
  | .prp q => (match PySem.W.findIn K (.ref C) f with
    | some (some (.ref pa)) => He.eqO (PySem.W.specialIn K (.ref pa) "__get__") (some (some (.builtin "property.__get__"))) && decide (PySem.W.takesIn K (.ref pa) = some true) && (match PySem.W.recIn K pa "property" with
      | some (.ref g :: _) => decide (g = dadr p K q)
      | _ => false)
    | _ => false)
def atsB (p : Pg) (K : PySem.W.Frag) (C : Addr) : List Str → List At → Bool
  | _, [] => true
  | [], _ :: _ => false
  | f :: fs, a :: r => atB p K C f a && atsB p K C fs r
def mtB (p : Pg) (K : PySem.W.Frag) (C : Addr) (m : Str) (f : Nat) : Bool := sameA (PySem.W.findIn K (.ref C) m) (dadr p K f) && PySem.W.isFn K (.ref (dadr p K f)) && PySem.W.keepIn K (.ref (dadr p K f))
def mtsB (p : Pg) (K : PySem.W.Frag) (C : Addr) : List Str → List (Option Nat) → Bool
  | _, [] => true
  | [], _ :: _ => false
  | m :: ms, none :: r => mtsB p K C ms r
  | m :: ms, some f :: r => mtB p K C m f && mtsB p K C ms r
def stB (p : Pg) (K : PySem.W.Frag) (C : Addr) (m : Str) (f : Nat) : Bool := He5.wrapB K C "staticmethod" "staticmethod.__get__" m && decide (He5.wf K C "staticmethod" m = dadr p K f) && PySem.W.keepIn K (.ref (dadr p K f))
def stsB (p : Pg) (K : PySem.W.Frag) (C : Addr) : List Str → List (Option Nat) → Bool
  | _, [] => true
  | [], _ :: _ => false
  | m :: ms, none :: r => stsB p K C ms r
  | m :: ms, some f :: r => stB p K C m f && stsB p K C ms r
def duN : Du → Str
  | .len => "__len__" | .repr => "__repr__" | .eq => "__eq__" | .ne => "__eq__" | .bool => "__bool__" | .has => "__contains__" | .call => "__call__"
def duB (p : Pg) (K : PySem.W.Frag) (C : Addr) (q : Du × Nat) : Bool := sameA (PySem.W.findIn K (.ref C) (duN q.1)) (dadr p K q.2) && PySem.W.isFn K (.ref (dadr p K q.2)) && PySem.W.fnIn K (dadr p K q.2) && (match q.1 with
  | .ne => He.eqO (PySem.W.findIn K (.ref C) "__ne__") (some (some (.builtin "object.__ne__")))
  | _ => true)
def cnB (p : Pg) (K : PySem.W.Frag) (C : Addr) (q : Nat × D) : Bool := match p.an[q.1]?, conV q.2 with
  | some f, some v => (match PySem.W.findCls K (.ref C) (.type "type") f with
    | some (.val u) => He.relB v u
    | _ => false)
  | _, _ => false
def isB (p : Pg) (K : PySem.W.Frag) (C : Addr) : List CE → List Bool → Bool
  | [], [] => true
  | c :: cs, b :: bs => decide (PySem.W.kitOne K (.ref C) (.ref (He.ga K c.name)) = some b) && PySem.W.notFirst K C (.ref (He.ga K c.name)) && isB p K C cs bs
  | _, _ => false
def ceB (p : Pg) (K : PySem.W.Frag) (c : CE) : Bool := atsB p K (He.ga K c.name) p.an c.ats && mtsB p K (He.ga K c.name) p.mn c.mts && stsB p K (He.ga K c.name) p.mn c.sts && c.dms.all (duB p K (He.ga K c.name)) && c.cns.all (cnB p K (He.ga K c.name)) && isB p K (He.ga K c.name) p.cs' c.isa &&
  PySem.W.readsIn K (He.ga K c.name) (.type "type") && He.eqO (PySem.W.specialIn K (.ref (He.ga K c.name)) "__getattribute__") (some (some (.builtin "type.__getattribute__"))) &&
  He.eqO (PySem.W.findIn K (.ref (He.ga K c.name)) "__class__") (some (some (.builtin "object.__class__"))) && He.eqO (PySem.W.specialIn K (.builtin "object.__class__") "__get__") (some (some (.builtin "getset_descriptor.__get__"))) && decide (PySem.W.takesIn K (.builtin "object.__class__") = some true) && decide (PySem.W.mroIn K (He.ga K c.name) (.type "object") = some true) &&
  tys6.all (fun t => decide (PySem.W.kitOne K (.type t) (.ref (He.ga K c.name)) = some false) && PySem.W.notFirst K (He.ga K c.name) (.type t))
abbrev AlF : Type := (Bool × List He.FnW) × Bool × List FnXV × Bool × List He.FnW
def Pg.K (p : Pg) (Kf : PySem.W.Frag) : PySem.W.Frag := strip Kf ((p.cs Kf).map (·.2))
def obsF (p : Pg) (prog : Program) (Kf : PySem.W.Frag) : AlF := (He.obsD p.fa p.defs (p.K Kf), p.xB prog (p.K Kf) && p.tabB Kf (p.K Kf), p.xs.map (fun x => fnX (p.K Kf) (iniAd (p.K Kf) x)), (p.ds.all fun d => okAtA (p.K Kf) (d.ad (p.K Kf)) d.dd) && p.cs'.all (ceB p (p.K Kf)), p.ds.map fun d => fnAtA (p.K Kf) (d.ad (p.K Kf)))
def valF (p : Pg) : AlF := (He.valD p.defs, true, p.xs.map XE.val, true, p.ds.map (·.dd.val))
def asF (g : Addr → Option Obj) : Nat → List Addr
  | 0 => [mainGlobals, cStatics]
  | n + 1 => He.growD g (asF g n)
def obsFG (n : Nat) (p : Pg) (prog : Program) (g : Addr → Option Obj) : AlF := obsF p prog (He.frG g (asF g n))
def hookF (n : Nat) (p : Pg) (prog : Program) : PySem.W.Hook where
  α := AlF
  obs := fun s => obsFG n p prog s.heap.get?
  val := fun _ => valF p
  says := fun _ h => ∃ Kf : PySem.W.Frag, Kf.In h ∧ obsF p prog Kf = valF p
  of := fun _ _ e => ⟨_, He.frG_in, e⟩
  keeps := fun _ _ _ ⟨K, hK, c⟩ k => ⟨K, PySem.W.Frag.In.keeps hK k, c⟩
theorem obsFG_eq {n : Nat} {p : Pg} {prog : Program} {g : Addr → Option Obj} {s : Shared} (h : ∀ a, g a = s.heap.get? a) : obsFG n p prog g = (hookF n p prog).obs s := by
  have e : g = s.heap.get? := funext h
  rw [e] <;> rfl
/-- what the head says -/
structure Says (p : Pg) (prog : Program) (K : PySem.W.Frag) (h : Heap) : Prop where
  inK : K.In h
  d : He.SaysD p.fa p.defs K
  x : ∀ x ∈ p.xs, xeB prog K (He.ga K x.name) (iniAd K x) x.base (x.fld.bind fun i => p.an[i]?) = true ∧ fnX K (iniAd K x) = x.val ∧ (∀ i ∈ p.an, PySem.W.findIn K (.ref (He.ga K x.name)) i = some none) ∧
    ∀ w, p.why = some w → PySem.W.exmAny K (.ref (He.ga K x.name)) [.ref (He.ga K w.x1), .ref (He.ga K w.x2), .ref (He.ga K w.x3)] = some true
  tab : Tabs0 K h (p.cs K)
  cref : ∀ d ∈ p.ds, d.lam = true → crefB K d.dd.at_ = true
  tnd : ∀ q ∈ p.tabs K, ∀ r ∈ p.tabs K, q.1 = r.1 → q.2 = r.2
  de : ∀ d ∈ p.ds, okAtA K (d.ad K) d.dd = true ∧ fnAtA K (d.ad K) = d.dd.val
  ce : ∀ c ∈ p.cs', ceB p K c = true
theorem says_of {p : Pg} {prog : Program} {Kf : PySem.W.Frag} {h : Heap} (X : Kf.In h) (e : obsF p prog Kf = valF p) : Says p prog (p.K Kf) h := by
  have e1 : He.obsD p.fa p.defs (p.K Kf) = He.valD p.defs := congrArg (fun z : AlF => z.1) e
  have e2 : (p.xB prog (p.K Kf) && p.tabB Kf (p.K Kf)) = true := congrArg (fun z : AlF => z.2.1) e
  have e3 : p.xs.map (fun x => fnX (p.K Kf) (iniAd (p.K Kf) x)) = p.xs.map XE.val := congrArg (fun z : AlF => z.2.2.1) e
  have e6 : ((p.ds.all fun d => okAtA (p.K Kf) (d.ad (p.K Kf)) d.dd) && p.cs'.all (ceB p (p.K Kf))) = true := congrArg (fun z : AlF => z.2.2.2.1) e
  have e7 : p.ds.map (fun d => fnAtA (p.K Kf) (d.ad (p.K Kf))) = p.ds.map (·.dd.val) := congrArg (fun z : AlF => z.2.2.2.2) e
  rw [Bool.and_eq_true] at e6
  obtain ⟨e4, e5⟩ := Bool.and_eq_true_iff.mp e2
  have inK : (p.K Kf).In h := strip_in X
  generalize p.K Kf = K at *
  unfold Pg.tabB at e5
  simp only [Bool.and_eq_true, List.all_eq_true, Bool.or_eq_true, Bool.not_eq_true', decide_eq_true_eq, decide_eq_false_iff_not] at e5
  obtain ⟨⟨t1, t2⟩, t3⟩ := e5
  refine ⟨inK, e1, fun x hx => ?_, ⟨fun q hq => ?_, fun q hq => ?_, fun q hq => ?_⟩, fun d hd hl => t1 d (List.mem_filter.mpr ⟨hd, hl⟩), fun q hq r hr z => (t3 q hq r hr).elim (fun n => absurd z n) id, fun d hd => ⟨List.all_eq_true.mp e6.1 d hd, List.map_inj_left.mp e7 d hd⟩, fun c hc => List.all_eq_true.mp e6.2 c hc⟩
  · unfold Pg.xB at e4
    have q := List.all_eq_true.mp e4 x hx
    simp only [Bool.and_eq_true, List.all_eq_true, decide_eq_true_eq] at q
    refine ⟨q.1.1, List.map_inj_left.mp e3 x hx, q.1.2, fun w hw => ?_⟩
    have q := q.2
    rw [hw] at q
    exact of_decide_eq_true q
  · exact X _ _ (isTab_ok (t2 q hq).1.1)
  · exact Option.isNone_iff_eq_none.mp (t2 q hq).1.2
  · exact PySem.W.codeHd_of_K inK (t2 q hq).2
end Rk

set_option maxHeartbeats 4000000
/-! Rk.P: every def keeps its promise. -/
namespace Rk
open PySem PySem.Spec PyProof.Rows L2
section
variable {P : Program} {w : World} {K : PySem.W.Frag} {h : Heap} {mg : Str → Option Value} {p : Pg}
theorem faOk (S : Says p P K h) {f : He.Fa} (hf : f ∈ p.fa) : f.ok K = true := by
  obtain ⟨i, hi, e⟩ := List.mem_iff_getElem.mp hf
  exact S.d.fact i (by rw [List.getElem?_eq_getElem hi, e])
theorem plainD_ok {d : He.DefD} (h : plainD d = true) : d.dvs K = [] ∧ d.kws K = [] ∧ d.at_ = (d.name, none) := by
  unfold plainD at h
  simp only [Bool.and_eq_true, decide_eq_true_eq] at h
  refine ⟨?_, ?_, h.2⟩
  · unfold He.DefD.dvs
    rw [List.isEmpty_iff.mp h.1.1]
    rfl
  · unfold He.DefD.kws
    rw [List.isEmpty_iff.mp h.1.2]
    rfl
theorem funD_of (S : Says p P K h) {d : He.DefD} (hd : d ∈ p.defs) (hp : plainD d = true) : ∃ fd, FunD K d.name d.qual d.params d.body d.scope [] [] (He.ga K d.name) fd := by
  obtain ⟨i, hi, e⟩ := List.mem_iff_getElem.mp hd
  obtain ⟨fd, F⟩ := S.d.def_ i (d := d) (by rw [List.getElem?_eq_getElem hi, e])
  obtain ⟨e1, e2, e3⟩ := plainD_ok (K := K) hp
  have e3 : He.fAd K d.at_ = He.ga K d.name := by rw [e3]; rfl
  rw [e1, e2, e3] at F
  exact ⟨fd, F⟩
theorem okParts (ok : p.ok P = true) : (∀ d ∈ p.ds, DE.ok p d = true) ∧ (∀ q ∈ p.gs, gOk q = true) ∧ p.an.Nodup ∧ p.an[0]? = some ("code" : Str) ∧ (∀ x ∈ p.xs, XE.txt p.an P x = true) ∧ (∀ c ∈ p.cs', CE.ok p c = true) ∧ (∀ m ∈ p.mn, (!p.an.contains m) = true) ∧ p.whyOk = true := by
  unfold Pg.ok at ok
  simp only [Bool.and_eq_true, decide_eq_true_eq] at ok
  obtain ⟨⟨⟨⟨⟨⟨⟨h1, h2⟩, h3⟩, h4⟩, h5⟩, h6⟩, h7⟩, h8⟩ := ok
  exact ⟨List.all_eq_true.mp h1, List.all_eq_true.mp h2, h3, h4, List.all_eq_true.mp h5, List.all_eq_true.mp h6, List.all_eq_true.mp h7, h8⟩
theorem deOk (ok : p.ok P = true) {f : Nat} {d : DE} (hd : p.ds[f]? = some d) : plainM d = true ∧ FnScope d.N d.ps d.dd.scope ∧ d.fn.np = d.ps.length ∧ d.fn.nb = d.N.length ∧ chSs (p.tb true (lamCk p d)) d.N d.fn.body ⟨d.dd.scope.names, d.lam⟩ d.dd.body = true := by
  have q := (okParts ok).1 d (List.mem_of_getElem? hd)
  unfold DE.ok at q
  simp only [Bool.and_eq_true, decide_eq_true_eq] at q
  obtain ⟨⟨⟨⟨h0, h1⟩, h2⟩, h3⟩, h4⟩ := q
  exact ⟨h0, scopeC_ok h1, h2, h3, h4⟩
theorem plainM_ok {d : DE} (h : plainM d = true) : dfOk d.dd = true ∧ (d.lam = true → d.wh = .glo ∧ d.dd.at_ = (d.dd.name, none)) := by
  unfold plainM at h
  simp only [Bool.and_eq_true, Bool.or_eq_true, decide_eq_true_eq] at h
  obtain ⟨h1, h3⟩ := h
  refine ⟨h1, fun hl => ?_⟩
  rcases h3 with h3 | h3
  · rw [hl] at h3; cases h3
  · exact h3
theorem funD_de (S : Says p P K h) {f : Nat} {d : DE} (hd : p.ds[f]? = some d) : ∃ fd, FunD K d.dd.name d.dd.qual d.dd.params d.dd.body d.dd.scope (d.dd.dvs K) (d.dd.kws K) (d.ad K) fd := by
  obtain ⟨c, e⟩ := S.de d (List.mem_of_getElem? hd)
  exact funD_at e c
open Classical in
noncomputable def fdOf (p : Pg) (K : PySem.W.Frag) (f : Nat) : FuncData := match p.ds[f]? with
  | some d => if h : ∃ fd, FunD K d.dd.name d.dd.qual d.dd.params d.dd.body d.dd.scope (d.dd.dvs K) (d.dd.kws K) (d.ad K) fd then Classical.choose h else default
  | none => default
noncomputable def giOf (p : Pg) (K : PySem.W.Frag) : Gi where
  K := K
  ca := fun c => He.ga K (((p.xs[c]?).map (·.name)).getD "")
  an := fun i => (p.an[i]?).getD ""
  nn := p.an.length
  fa := fun f => dadr p K f
  fd := fdOf p K
  fps := fun f => ((p.ds[f]?).map (·.ps)).getD []
  fdv := fun f => ((p.ds[f]?).map fun d => dfV K d.dd).getD []
  pn := []
  tabs := p.tabs K
  cells := []
  qual := ""
  lamOk := fun _ _ => False
  xk := fun c => c < p.xs.length
  cb := fun c => He.ga K (((p.cs'[c]?).map (·.name)).getD "")
  nc := p.cs'.length
  cdv := fun c => ((p.cs'[c]?).map fun c => dfV K c.dd).getD []
  me := none
theorem fdOf_ok (S : Says p P K h) (ok : p.ok P = true) {f : Nat} {d : DE} (hd : p.ds[f]? = some d) : FunD K d.dd.name d.dd.qual d.dd.params d.dd.body d.dd.scope (d.dd.dvs K) (d.dd.kws K) (d.ad K) (fdOf p K f) := by
  have h := funD_de S hd
  unfold fdOf
  rw [hd]
  dsimp only
  rw [dif_pos h]
  exact Classical.choose_spec h
theorem gi_fa {f : Nat} {d : DE} (hd : p.ds[f]? = some d) : (giOf p K).fa f = d.ad K := by
  show dadr p K f = _
  unfold dadr
  rw [hd]
theorem ad_glo {d : DE} (h : d.wh = .glo) : d.ad K = He.ga K d.dd.name := by
  unfold DE.ad
  rw [h]
theorem glo_fa {d : DE} {f : Nat} (hd : p.ds[f]? = some d) (h : d.wh = .glo) : He.Fa.glo d.dd.name ∈ p.fa := by
  refine List.mem_append_left _ (List.mem_append_left _ (List.mem_append_left _ (List.mem_append_left _ (List.mem_append_left _ (List.mem_flatMap.mpr ⟨d, List.mem_of_getElem? hd, ?_⟩)))))
  unfold DE.fa
  rw [if_pos h]
  exact List.mem_singleton.mpr rfl
theorem cls_fa {c : CE} (hc : c ∈ p.cs') {f : He.Fa} (hf : f ∈ c.fa) : f ∈ p.fa := List.mem_append_left _ (List.mem_append_right _ (List.mem_flatMap.mpr ⟨c, hc, hf⟩))
theorem exc_fa {x : XE} (hx : x ∈ p.xs) : He.Fa.glo x.name ∈ p.fa := List.mem_append_left _ (List.mem_append_left _ (List.mem_append_right _ (List.mem_map.mpr ⟨x, hx, rfl⟩)))
theorem gi_ps {f : Nat} {d : DE} (hd : p.ds[f]? = some d) : (giOf p K).fps f = d.ps := by
  show ((p.ds[f]?).map (·.ps)).getD [] = _
  rw [hd]; rfl
theorem gi_cb {c : Nat} {x : CE} (hx : p.cs'[c]? = some x) : (giOf p K).cb c = He.ga K x.name := by
  show He.ga K (((p.cs'[c]?).map (·.name)).getD "") = _
  rw [hx]; rfl
theorem gi_ca {c : Nat} {x : XE} (hx : p.xs[c]? = some x) : (giOf p K).ca c = He.ga K x.name := by
  show He.ga K (((p.xs[c]?).map (·.name)).getD "") = _
  rw [hx]; rfl
theorem gi_an {i : Nat} {x : Str} (hx : p.an[i]? = some x) : (giOf p K).an i = x := by
  show (p.an[i]?).getD "" = _
  rw [hx]; rfl
theorem xAt {l : List XE} {x : Str} {f : Nat} (e : (nums 0 (l.map (·.name))).lookup x = some f) : ∃ d, l[f]? = some d ∧ d.name = x := by
  obtain ⟨j, rfl, h⟩ := nums_at e
  rw [Nat.zero_add]
  rw [List.getElem?_map] at h
  exact Option.map_eq_some_iff.mp h
theorem gi_nm (ok : p.ok P = true) : NmOk (giOf p K) := by
  have ndd := (okParts ok).2.2.1
  intro i j hi hj e
  have hi : i < p.an.length := hi
  have hj : j < p.an.length := hj
  rw [gi_an (List.getElem?_eq_getElem hi), gi_an (List.getElem?_eq_getElem hj)] at e
  exact (List.getElem_inj ndd).mp e
theorem gi_cod (ok : p.ok P = true) : p.G.cod < (giOf p K).nn ∧ (giOf p K).an p.G.cod = ("code" : Str) := by
  have e := (okParts ok).2.2.2.1
  exact ⟨(List.getElem?_eq_some_iff.mp e).1, gi_an e⟩
theorem xeAll (S : Says p P K h) (ok : p.ok P = true) (bd : p.bd) {c : Nat} {x : XE} (hx : p.xs[c]? = some x) :
    ExcI P K ((giOf p K).ca c) (iniAd K x) (stt x.code) (x.fld.bind fun i => p.an[i]?) ∧ PySem.W.subIn K (.ref ((giOf p K).ca c)) (.type "BaseException") = some true ∧ PySem.W.typeIn K (.ref ((giOf p K).ca c)) = some (.type "type") ∧ PySem.W.keepIn K (.ref ((giOf p K).ca c)) = true ∧ XfC K ((giOf p K).ca c) := by
  have hm := List.mem_of_getElem? hx
  obtain ⟨h1, h2, _⟩ := S.x x hm
  rw [gi_ca hx]
  exact xe_ok ((okParts ok).2.2.2.2.1 x hm) (bd.xb x hm) h2 h1
theorem gi_xo (S : Says p P K h) (ok : p.ok P = true) (bd : p.bd) : XkOk (giOf p K) K := by
  intro c hc
  have hc : c < p.xs.length := hc
  have hx := List.getElem?_eq_getElem hc
  refine ⟨(xeAll S ok bd hx).2.2.2.2, fun i hi => ?_⟩
  have hi : i < p.an.length := hi
  have ha := List.getElem?_eq_getElem hi
  rw [gi_ca hx, gi_an ha]
  exact (S.x _ (List.mem_of_getElem? hx)).2.2.1 _ (List.mem_of_getElem? ha)
theorem gi_dv {f : Nat} {d : DE} (hd : p.ds[f]? = some d) : (giOf p K).fdv f = dfV K d.dd := by
  show ((p.ds[f]?).map fun d => dfV K d.dd).getD [] = _
  rw [hd]; rfl
theorem g_dfl {f : Nat} {d : DE} (hd : p.ds[f]? = some d) : p.G.dfl f = dfD d.dd := by
  show ((p.ds[f]?).map fun d => dfD d.dd).getD [] = _
  rw [hd]; rfl
theorem df_ok (ok : p.ok P = true) (f : Nat) (w : Wd) (n : Nat) : RVs (giOf p K) w n (p.G.dfl f) ((giOf p K).fdv f) := by
  cases hd : p.ds[f]? with
  | none =>
    show RVs _ w n (((p.ds[f]?).map fun d => dfD d.dd).getD []) (((p.ds[f]?).map fun d => dfV K d.dd).getD [])
    rw [hd]
    exact RVs.nil
  | some d =>
    rw [gi_dv hd, g_dfl hd]
    exact df_rv (plainM_ok (deOk ok hd).1).1
theorem bndD_ok {f : Nat} {d : DE} {n : Nat} {ks : List Str} {sel : List Nat} (S : Says p P K h) (ok : p.ok P = true) (hd : p.ds[f]? = some d) (hb : bndD d.dd d.ps n ks sel) : KB (giOf p K) f n ks sel ∧ ((giOf p K).fps f).length = sel.length := by
  obtain ⟨h2, h3⟩ := hb
  obtain ⟨ds, v, q⟩ := h3 K _ _ (fdOf_ok S ok hd)
  refine ⟨⟨ds, by rw [gi_dv hd]; exact v, fun s us ws vs X l1 l2 hp => ?_⟩, by rw [gi_ps hd]; exact h2⟩
  rw [gi_ps hd]
  exact q s [] us ws vs X rfl l1 l2 hp
theorem bndV_ok {f : Nat} {d : DE} {n : Nat} (S : Says p P K h) (ok : p.ok P = true) (hd : p.ds[f]? = some d) (hb : bndV d.dd d.ps n) : VarB ((giOf p K).fd f) ((giOf p K).fps f) n ∧ ((giOf p K).fps f).length = n + 1 := by
  obtain ⟨h2, h3⟩ := hb
  rw [gi_ps hd]
  exact ⟨h3 K _ _ (fdOf_ok S ok hd), h2⟩
theorem bind1_ok {d : He.DefD} {a : Str} {f : Addr} {fd : FuncData} (F : FunD K d.name d.qual d.params d.body d.scope [] [] f fd) (b : bind1 d a) (s : Shared) (u : Value) : BindsTo s fd ⟨[u], []⟩ [(a, u)] := by
  obtain ⟨oc, od, dV, kV, doc, pm, an, cdv', ct, osl, rfl, lk, hcd, hD, hK⟩ := F.ex
  rcases hD with ⟨_, rfl⟩ | ⟨e, _⟩
  · exact .of_eq (b kV doc pm an cdv' ct u)
  · exact absurd rfl e
theorem kbAll (S : Says p P K h) (ok : p.ok P = true) (bd : p.bd) {f n : Nat} {ks : List Str} {sel : List Nat} (e : p.kb.contains (f, n, ks, sel) = true) : KB (giOf p K) f n ks sel ∧ ((giOf p K).fps f).length = sel.length := by
  obtain ⟨d', h1, h2⟩ := bd.kb _ (List.contains_iff_mem.mp e)
  exact bndD_ok S ok h1 h2
/-- the promises of the defs at a depth -/
def Prom (p : Pg) (P : Program) (w : World) (K : PySem.W.Frag) (mg : Str → Option Value) (base : Heap) (k : Nat) : Prop :=
  ∀ f d, p.ds[f]? = some d → FnG false P w K mg base k true ((giOf p K).fa f) ((giOf p K).fd f) ((giOf p K).fps f) (spF (giOf p K) (cN p.G k) true f)
/-- the ground of a check -/
theorem ckOf {X : Cx} {k : Nat} {N : List Str} {nm : Nm} {c : Bool} {lamB : Nat → LamI → Bool} {pn : List (Addr × Obj)} {cells : List (Str × Addr)} {qual : Str} {lamOk : Nat → LamI → Prop} {me : Option Addr} (S : Says p X.prog X.K h) (ns : h.Ns mainGlobals X.mg) (ok : p.ok X.prog = true) (bd : p.bd) (pr : Prom p X.prog X.w X.K X.mg X.base k)
    (room : RoomG k X.A) (nd : X.N.Nodup) (hN : X.N = N) (nms : X.env.scope.names = nm.ns) (kind : X.env.scope.kind = .function) (calm : c = true → X.calm = true) (hpn : ∀ q ∈ pn, q ∈ X.pn) (hpn0 : c = true → pn = [])
    (lm : nm.lam = true → c = true → LamCk X ((giOf p X.K).at pn cells qual lamOk me) lamB ∧ WhyCx X ((giOf p X.K).at pn cells qual lamOk me) p.G (cN p.G k) k (p.tb c lamB).wx (p.tb c lamB).wsx)
    (cl : ClsCx X ((giOf p X.K).at pn cells qual lamOk me) p.G (p.tb c lamB) (cN p.G k) k) :
    CK X ((giOf p X.K).at pn cells qual lamOk me) p.G (p.tb c lamB) N (cN p.G k) k nm where
  gx := ⟨rfl, calm, room.dp, room.un, room.gd, nd⟩
  hN := hN
  nms := nms
  kind := kind
  calm := calm
  pn := hpn
  pn0 := hpn0
  fm := fun x f' e => by
    obtain ⟨j, d', rfl, h1, rfl, hw⟩ := fnms_at e
    rw [Nat.zero_add]
    have e3 : ((giOf p X.K).at pn cells qual lamOk me).fa j = He.ga X.K d'.dd.name := (gi_fa h1).trans (ad_glo hw)
    rw [e3]
    refine ⟨He.glo_ok S.inK ns (faOk S (glo_fa h1 hw)), ?_⟩
    have := (fdOf_ok S ok h1).kp
    rw [ad_glo hw] at this
    exact this
  gm := fun x m e => by
    obtain ⟨j, rfl, hj⟩ := nums_at e
    rw [Nat.zero_add]
    rw [List.getElem?_map] at hj
    obtain ⟨⟨x', dd⟩, h1, rfl⟩ := Option.map_eq_some_iff.mp hj
    have hm := List.mem_of_getElem? h1
    have fok := faOk S (f := faG (x', dd)) (List.mem_append_left _ (List.mem_append_left _ (List.mem_append_left _ (List.mem_append_left _ (List.mem_append_right _ (List.mem_map.mpr ⟨_, hm, rfl⟩))))))
    have g1 := (okParts ok).2.1 _ hm
    have eg : p.G.glb j = dd := by show ((p.gs[j]?).map (·.2)).getD .non = _; rw [h1]; rfl
    rw [eg]
    cases dd with
    | str z =>
      obtain ⟨t, ht⟩ := He.str_ok S.inK ns fok
      exact ⟨.str (stt z), _, ht, ⟨t, rfl⟩, fun _ _ => rv_str.mpr ⟨rfl, g1⟩⟩
    | int i =>
      obtain ⟨t, ht⟩ := He.int_ok S.inK ns fok
      exact ⟨.int i, _, ht, ⟨t, rfl⟩, fun _ _ => rv_int.mpr rfl⟩
    | _ => cases g1
  bm := fun x e => He.free_ok S.inK ns (faOk S (List.mem_append_left _ (List.mem_append_left _ (List.mem_append_left _ (List.mem_append_right _ (List.mem_map.mpr ⟨x, List.contains_iff_mem.mp e, rfl⟩))))))
  kb := fun f n ks sel e => by
    obtain ⟨h1, h2⟩ := kbAll S ok bd e
    exact ⟨kb_at h1, h2⟩
  df := fun f w n => by rw [rvs_at]; exact df_ok ok f w n
  calls := fun hc x f' e => by
    obtain ⟨j, d', rfl, h1, _, _⟩ := fnms_at e
    rw [Nat.zero_add]
    rw [spF_at]
    have hc : (p.tb c lamB).c = true := hc
    rw [hc]
    exact pr j d' h1
  an := fun i x e => ⟨gi_an (K := X.K) e, (List.getElem?_eq_some_iff.mp e).1⟩
  xo := gi_xo S ok bd
  nmk := gi_nm (K := X.K) ok
  xc := fun x kc e => by
    obtain ⟨d', h1, rfl⟩ := xAt e
    obtain ⟨q1, q2, q3, q4, q5⟩ := xeAll S ok bd h1
    obtain ⟨c1, c2⟩ := gi_cod (K := X.K) ok
    have hm := List.mem_of_getElem? h1
    have tx : XE.txt p.an X.prog d' = true := (okParts ok).2.2.2.2.1 _ hm
    unfold XE.txt at tx
    simp only [Bool.and_eq_true, decide_eq_true_eq] at tx
    have okc := tx.1.1.2
    have tf := tx.2
    have efld : (d'.fld.bind fun i => p.an[i]?) = d'.fld.map ((giOf p X.K).at pn cells qual lamOk me).an := by
      cases hf : d'.fld with
      | none => rfl
      | some i =>
        rw [hf] at tf
        show p.an[i]? = some ((giOf p X.K).an i)
        cases ha : p.an[i]? with
        | none => dsimp only at tf; rw [ha] at tf; cases tf
        | some y => rw [gi_an (p := p) (K := X.K) ha]
    refine ⟨⟨iniAd X.K d', stt d'.code, d'.fld.bind fun i => p.an[i]?, q1, fun f e => ?_, q2, q3, q4, ?_, (List.getElem?_eq_some_iff.mp h1).1, d'.code, d'.fld, ?_, rfl, okc, efld, fun f e => ?_⟩, c1, c2⟩
    · cases hf : d'.fld with
      | none => rw [hf] at e; cases e
      | some i =>
        rw [hf] at e tf
        have e : p.an[i]? = some f := e
        dsimp only at tf
        rw [e] at tf
        simp only [Bool.and_eq_true, decide_eq_true_eq] at tf
        exact tf.2
    · have e3 : ((giOf p X.K).at pn cells qual lamOk me).ca kc = He.ga X.K d'.name := gi_ca h1
      rw [e3]
      exact He.glo_ok S.inK ns (faOk S (exc_fa hm))
    · show (p.xs[kc]?).map (fun x => (x.code, x.fld)) = _
      rw [h1]; rfl
    · rw [e] at tf
      dsimp only at tf
      cases ha : p.an[f]? with
      | none => rw [ha] at tf; cases tf
      | some y => exact (List.getElem?_eq_some_iff.mp ha).1
  lm := lm
  cl := cl
end
end Rk

set_option maxHeartbeats 4000000
/-! Rk.Pe: what a check knows of the classes. -/
namespace Rk
open PySem PySem.Spec PyProof.Rows L2
section
variable {g : Gi} {pn : List (Addr × Obj)} {cells : List (Str × Addr)} {qual : Str} {lamOk : Nat → LamI → Prop} {me : Option Addr}
theorem spP_at {call : Cl} {f : Nat} : spP (g.at pn cells qual lamOk me) call f = spP g call f := by
  funext vs H Q E
  unfold spP PV
  simp only [rr_at, rvs_at, post_at, rv_at]
theorem spI_at {call : Cl} {f : Nat} : spI (g.at pn cells qual lamOk me) call f = spI g call f := by
  funext vs H Q E
  unfold spI PV
  simp only [rr_at, rvs_at, post_at, rv_at]
  rfl
end
theorem conV_ok {d : D} {v : V} (h : conV d = some v) {g : Gi} {w : Wd} {n : Nat} : RV g w n d v := by
  unfold conV at h
  split at h
  · cases h; exact rv_int.mpr rfl
  · split at h
    · rename_i hs
      cases h
      exact rv_str.mpr ⟨rfl, hs⟩
    · cases h
  · cases h; exact rv_bl.mpr rfl
  · cases h
theorem sameA_ok {v : Option (Option Value)} {a : Addr} (h : sameA v a = true) : v = some (some (.ref a)) := He.eqO_ok h
section
variable {p : Pg} {K : PySem.W.Frag} {C : Addr}
theorem atsB_at : ∀ {fs : List Str} {l : List At} {i : Nat} {a : At}, atsB p K C fs l = true → l[i]? = some a → ∃ f, fs[i]? = some f ∧ atB p K C f a = true
  | _, [], _, _, _, h => by cases h
  | [], _ :: _, _, _, h, _ => by unfold atsB at h; cases h
  | f :: fs, a :: r, i, b, h, e => by
    unfold atsB at h
    rw [Bool.and_eq_true] at h
    cases i with
    | zero => cases e; exact ⟨f, rfl, h.1⟩
    | succ i =>
      obtain ⟨f', h1, h2⟩ := atsB_at h.2 (i := i) (a := b) (by simpa using e)
      exact ⟨f', by simpa using h1, h2⟩
theorem mtsB_at : ∀ {fs : List Str} {l : List (Option Nat)} {i : Nat} {f : Nat}, mtsB p K C fs l = true → l[i]? = some (some f) → ∃ m, fs[i]? = some m ∧ mtB p K C m f = true
  | _, [], _, _, _, h => by cases h
  | [], _ :: _, _, _, h, _ => by unfold mtsB at h; cases h
  | m :: ms, a :: r, i, b, h, e => by
    have h2 : mtsB p K C ms r = true ∧ (∀ f, a = some f → mtB p K C m f = true) := by
      cases a with
      | none => unfold mtsB at h; exact ⟨h, fun _ z => nomatch z⟩
      | some f =>
        unfold mtsB at h
        rw [Bool.and_eq_true] at h
        exact ⟨h.2, fun f' z => by cases z; exact h.1⟩
    cases i with
    | zero => cases e; exact ⟨m, rfl, h2.2 _ rfl⟩
    | succ i =>
      obtain ⟨f', h1, h3⟩ := mtsB_at h2.1 (i := i) (f := b) (by simpa using e)
      exact ⟨f', by simpa using h1, h3⟩
theorem stsB_at : ∀ {fs : List Str} {l : List (Option Nat)} {i : Nat} {f : Nat}, stsB p K C fs l = true → l[i]? = some (some f) → ∃ m, fs[i]? = some m ∧ stB p K C m f = true
  | _, [], _, _, _, h => by cases h
  | [], _ :: _, _, _, h, _ => by unfold stsB at h; cases h
  | m :: ms, a :: r, i, b, h, e => by
    have h2 : stsB p K C ms r = true ∧ (∀ f, a = some f → stB p K C m f = true) := by
      cases a with
      | none => unfold stsB at h; exact ⟨h, fun _ z => nomatch z⟩
      | some f =>
        unfold stsB at h
        rw [Bool.and_eq_true] at h
        exact ⟨h.2, fun f' z => by cases z; exact h.1⟩
    cases i with
    | zero => cases e; exact ⟨m, rfl, h2.2 _ rfl⟩
    | succ i =>
      obtain ⟨f', h1, h3⟩ := stsB_at h2.1 (i := i) (f := b) (by simpa using e)
      exact ⟨f', by simpa using h1, h3⟩
theorem isB_at : ∀ {cs : List CE} {l : List Bool} {i : Nat} {c : CE}, isB p K C cs l = true → cs[i]? = some c → ∃ b, l[i]? = some b ∧ PySem.W.kitOne K (.ref C) (.ref (He.ga K c.name)) = some b ∧ PySem.W.notFirst K C (.ref (He.ga K c.name)) = true
  | [], _, _, _, _, h => by cases h
  | _ :: _, [], _, _, h, _ => by unfold isB at h; cases h
  | c :: cs, b :: r, i, c', h, e => by
    unfold isB at h
    simp only [Bool.and_eq_true, decide_eq_true_eq] at h
    cases i with
    | zero => cases e; exact ⟨b, rfl, h.1.1, h.1.2⟩
    | succ i =>
      obtain ⟨b', h1, h2⟩ := isB_at h.2 (i := i) (c := c') (by simpa using e)
      exact ⟨b', by simpa using h1, h2⟩
/-- what the head says of a class -/
structure CeX (p : Pg) (K : PySem.W.Frag) (C : Addr) (c : CE) : Prop where
  ats : atsB p K C p.an c.ats = true
  mts : mtsB p K C p.mn c.mts = true
  sts : stsB p K C p.mn c.sts = true
  dms : ∀ q ∈ c.dms, duB p K C q = true
  cns : ∀ q ∈ c.cns, cnB p K C q = true
  isa : isB p K C p.cs' c.isa = true
  cr : ClX.CRead K C (.type "type")
  ha : PySem.W.findIn K (.ref C) "__class__" = some (some (.builtin "object.__class__"))
  hn : PySem.W.specialIn K (.builtin "object.__class__") "__get__" = some (some (.builtin "getset_descriptor.__get__"))
  tk : PySem.W.takesIn K (.builtin "object.__class__") = some true
  hm : PySem.W.mroIn K C (.type "object") = some true
  ty : ∀ t ∈ tys6, PySem.W.kitOne K (.type t) (.ref C) = some false ∧ PySem.W.notFirst K C (.type t) = true
theorem ceB_ok {c : CE} (h : ceB p K c = true) : CeX p K (He.ga K c.name) c := by
  unfold ceB at h
  simp only [Bool.and_eq_true, decide_eq_true_eq, List.all_eq_true] at h
  obtain ⟨⟨⟨⟨⟨⟨⟨⟨⟨⟨⟨⟨h1, h2⟩, h3⟩, h4⟩, h5⟩, h6⟩, h7⟩, h8⟩, h9⟩, h10⟩, h11⟩, h12⟩, h13⟩ := h
  exact ⟨h1, h2, h3, h4, h5, h6, ⟨h7, He.eqO_ok h8⟩, He.eqO_ok h9, He.eqO_ok h10, h11, h12, h13⟩
end
section
variable {P : Program} {w : World} {K : PySem.W.Frag} {h : Heap} {mg : Str → Option Value} {p : Pg} {base : Heap}
theorem vasOf_at : ∀ {l : List CE} {k i : Nat}, i ∈ vasOf k l → ∃ j c, i = k + j ∧ l[j]? = some c ∧ c.va = true
  | [], _, _, h => by cases h
  | c :: r, k, i, h => by
    unfold vasOf at h
    have rec_ : i ∈ vasOf (k + 1) r → ∃ j d, i = k + j ∧ (c :: r)[j]? = some d ∧ d.va = true := fun h => by
      obtain ⟨j, d, h1, h2, h3⟩ := vasOf_at h
      exact ⟨j + 1, d, by omega, by simpa using h2, h3⟩
    split at h
    · rename_i hv
      rcases List.mem_cons.mp h with h | h
      · exact ⟨0, c, h, rfl, hv⟩
      · exact rec_ h
    · exact rec_ h
theorem cnsOf_at : ∀ {l : List CE} {k i f : Nat}, (i, f) ∈ cnsOf k l → ∃ j c d, i = k + j ∧ l[j]? = some c ∧ (f, d) ∈ c.cns
  | [], _, _, _, h => by cases h
  | c :: r, k, i, f, h => by
    unfold cnsOf at h
    rcases List.mem_append.mp h with h | h
    · obtain ⟨⟨f', d⟩, h1, h2⟩ := List.mem_map.mp h
      cases h2
      exact ⟨0, c, d, rfl, rfl, h1⟩
    · obtain ⟨j, c', d, h1, h2, h3⟩ := cnsOf_at h
      exact ⟨j + 1, c', d, by omega, by simpa using h2, h3⟩
theorem look_mem {α β : Type} [BEq α] [LawfulBEq α] : ∀ {l : List (α × β)} {a : α} {b : β}, l.lookup a = some b → (a, b) ∈ l
  | [], _, _, h => by cases h
  | (x, y) :: r, a, b, h => by
    rw [List.lookup_cons] at h
    cases e : a == x with
    | true =>
      rw [e] at h
      cases h
      rw [eq_of_beq e]
      exact List.mem_cons_self
    | false =>
      rw [e] at h
      exact List.mem_cons_of_mem _ (look_mem h)
theorem cAt {l : List CE} {x : Str} {f : Nat} (e : (nums 0 (l.map (·.name))).lookup x = some f) : ∃ d, l[f]? = some d ∧ d.name = x := by
  obtain ⟨j, rfl, h⟩ := nums_at e
  rw [Nat.zero_add]
  rw [List.getElem?_map] at h
  exact Option.map_eq_some_iff.mp h
/-- the promises of the defs one level below -/
def PromL (p : Pg) (P : Program) (w : World) (K : PySem.W.Frag) (mg : Str → Option Value) (base : Heap) (k : Nat) : Prop :=
  ∀ f d, p.ds[f]? = some d → (∀ ds h, (cN p.G k).pr f ds h = .stuck) ∨ ∃ n, k = n + 1 ∧ FnG false P w K mg base n true ((giOf p K).fa f) ((giOf p K).fd f) ((giOf p K).fps f) (spP (giOf p K) (cN p.G k) f)
/-- .. of what fills new objects -/
def PromI (p : Pg) (P : Program) (w : World) (K : PySem.W.Frag) (mg : Str → Option Value) (base : Heap) (k : Nat) : Prop :=
  ∀ kk c, p.cs'[kk]? = some c → (∀ vs h, (cN p.G k).make kk vs h = .stuck) ∨ ∃ j fd, k = j + 1 ∧ FunD K c.dd.name c.dd.qual c.dd.params c.dd.body c.dd.scope (c.dd.dvs K) (c.dd.kws K) (He.ma K (He.ga K c.name) "__init__") fd ∧ FnG false P w K mg base j true (He.ma K (He.ga K c.name) "__init__") fd c.ps (spI (giOf p K) (cN p.G k) kk)
theorem mem_of {α : Type} {l : List α} {i : Nat} {a : α} (h : l[i]? = some a) : a ∈ l := List.mem_of_getElem? h
theorem low0 : PromL p P w K mg base 0 := fun _ _ _ => .inl fun _ _ => rfl
theorem lowS {n : Nat} (pr : Prom p P w K mg base n) : PromL p P w K mg base (n + 1) := fun f d hd => .inr ⟨n, rfl, pr f d hd⟩
theorem ini0 : PromI p P w K mg base 0 := fun _ _ _ => .inl fun _ _ => rfl

theorem dAt {f : Nat} (h : f < p.ds.length) : ∃ d, p.ds[f]? = some d := ⟨_, List.getElem?_eq_getElem h⟩
/-- a class's own text -/
structure CeT (p : Pg) (P : Program) (K : PySem.W.Frag) (c : CE) : Prop where
  df : dfOk c.dd = true
  sc : FnScope c.N c.ps c.dd.scope
  np : c.ct.np + 1 = c.ps.length
  nb : c.ct.nb = c.N.length
  le : c.ps.length ≤ c.N.length
  ck : chB (p.tb true noLam) c.N c.ct.items ⟨c.dd.scope.names, false⟩ c.dd.body = true
  st : ∀ i ∈ stos c.ct.items, c.ats[i]? = some .fld
  ia : ∀ q, At.prp q ∈ c.ats → ∃ d, p.ds[q]? = some d
  im : ∀ q, some q ∈ c.mts → ∃ d, p.ds[q]? = some d
  is : ∀ q, some q ∈ c.sts → ∃ d, p.ds[q]? = some d
  id : ∀ q ∈ c.dms, ∃ d, p.ds[q.2]? = some d
  va : c.va = true → c.ps.length = 2
theorem ceT (ok : p.ok P = true) {c : CE} (hc : c ∈ p.cs') : CeT p P K c := by
  have q := (okParts ok).2.2.2.2.2.1 c hc
  unfold CE.ok at q
  simp only [Bool.and_eq_true, decide_eq_true_eq] at q
  obtain ⟨⟨⟨⟨⟨⟨⟨⟨⟨q1, q3⟩, q4⟩, q5⟩, q6⟩, q7⟩, q8⟩, q9⟩, q10⟩, q11⟩ := q
  unfold CE.ix at q10
  simp only [Bool.and_eq_true, List.all_eq_true, decide_eq_true_eq] at q10
  obtain ⟨⟨⟨i1, i2⟩, i3⟩, i4⟩ := q10
  refine ⟨q1, scopeC_ok q4, q5, q6, q7, q8, fun i hi => ?_, fun q hq => ?_, fun q hq => ?_, fun q hq => ?_, fun q hq => dAt (i4 q hq), fun hv => ?_⟩
  · have z := List.all_eq_true.mp q9 i hi
    split at z
    · rename_i e; exact e
    · cases z
  · have z := i1 _ hq
    exact dAt (of_decide_eq_true z)
  · have z := i2 _ hq
    exact dAt (of_decide_eq_true z)
  · have z := i3 _ hq
    exact dAt (of_decide_eq_true z)
  · rw [hv] at q11
    simpa using q11
/-- what a check knows of the classes -/
theorem cls_cx {X : Cx} {k : Nat} {c : Bool} {lamB : Nat → LamI → Bool} {pn : List (Addr × Obj)} {cells : List (Str × Addr)} {qual : Str} {lamOk : Nat → LamI → Prop} {me : Option Addr} (S : Says p X.prog X.K h) (ns : h.Ns mainGlobals X.mg) (ok : p.ok X.prog = true) (bd : p.bd)
    (pr : c = true → Prom p X.prog X.w X.K X.mg X.base k) (lo : c = true → PromL p X.prog X.w X.K X.mg X.base k) (mk : c = true → PromI p X.prog X.w X.K X.mg X.base k) :
    ClsCx X ((giOf p X.K).at pn cells qual lamOk me) p.G (p.tb c lamB) (cN p.G k) k := by
  have ceX : ∀ {kk : Nat} {x : CE}, p.cs'[kk]? = some x → CeX p X.K (((giOf p X.K).at pn cells qual lamOk me).cb kk) x := fun {kk x} hx => by
    have e : ((giOf p X.K).at pn cells qual lamOk me).cb kk = He.ga X.K x.name := gi_cb hx
    rw [e]
    exact ceB_ok (S.ce x (mem_of hx))
  have clsX : ∀ {kk : Nat} {x : CE}, p.cs'[kk]? = some x → Cls X.K (((giOf p X.K).at pn cells qual lamOk me).cb kk) := fun {kk x} hx => by
    have e : ((giOf p X.K).at pn cells qual lamOk me).cb kk = He.ga X.K x.name := gi_cb hx
    rw [e]
    exact He.cls_ok (faOk S (cls_fa (mem_of hx) (by simp [CE.fa])))
  have mkrX : ∀ {kk : Nat} {x : CE}, p.cs'[kk]? = some x → Mk X.K (((giOf p X.K).at pn cells qual lamOk me).cb kk) (He.ma X.K (He.ga X.K x.name) "__init__") := fun {kk x} hx => by
    have e : ((giOf p X.K).at pn cells qual lamOk me).cb kk = He.ga X.K x.name := gi_cb hx
    rw [e]
    exact He.mkr_ok (faOk S (cls_fa (mem_of hx) (by simp [CE.fa])))
  have nmX : ∀ x kk, (p.tb c lamB).clm.lookup x = some kk → ∃ cc, p.cs'[kk]? = some cc ∧ cc.name = x := fun x kk e => cAt e
  have hmg : ∀ x kk, (p.tb c lamB).clm.lookup x = some kk → X.mg x = some (.ref (((giOf p X.K).at pn cells qual lamOk me).cb kk)) := fun x kk e => by
    obtain ⟨cc, h1, rfl⟩ := nmX x kk e
    have e : ((giOf p X.K).at pn cells qual lamOk me).cb kk = He.ga X.K cc.name := gi_cb h1
    rw [e]
    exact He.glo_ok S.inK ns (faOk S (cls_fa (mem_of h1) (by simp [CE.fa])))
  have prX : c = true → ∀ f d, p.ds[f]? = some d → FnG false X.prog X.w X.K X.mg X.base k c (((giOf p X.K).at pn cells qual lamOk me).fa f) (((giOf p X.K).at pn cells qual lamOk me).fd f) (((giOf p X.K).at pn cells qual lamOk me).fps f) (spF ((giOf p X.K).at pn cells qual lamOk me) (cN p.G k) c f) := fun hc f d hd => by
    rw [spF_at, hc]
    exact pr hc f d hd
  have loX : c = true → ∀ f d, p.ds[f]? = some d → LowF X ((giOf p X.K).at pn cells qual lamOk me) (cN p.G k) k f := fun hc f d hd => by
    unfold LowF
    rw [spP_at]
    exact lo hc f d hd
  have nmk := gi_nm (K := X.K) ok
  have oneX : ∀ {f : Nat} {d : DE} {n : Nat} {ks : List Str} {sel : List Nat}, p.ds[f]? = some d → bndD d.dd d.ps n ks sel → KB ((giOf p X.K).at pn cells qual lamOk me) f n ks sel ∧ (((giOf p X.K).at pn cells qual lamOk me).fps f).length = sel.length := fun hd hb => by
    obtain ⟨q1, q2⟩ := bndD_ok S ok hd hb
    exact ⟨kb_at q1, q2⟩
  have dsOf : ∀ {f : Nat}, PySem.W.keepIn X.K (.ref (dadr p X.K f)) = true → PySem.W.isFn X.K (.ref (dadr p X.K f)) = true → True := fun _ _ => trivial
  refine ⟨hmg, fun hc i hi => ?_, fun m n ks sel e mn e2 hc => ?_, fun x kk e n ks sel e2 hc => ?_, fun x kk e e2 hc => ?_, fun f kf e => ?_, fun kk f e => ?_, fun kk m n ks sel e mn e2 hc f e3 => ?_, fun x kk e => ?_, fun n ks sel e hc => ?_, fun hc => ?_⟩
  · have hc : c = true := hc
    have hi : i ∈ flsOf p.cs' p.an.length := List.contains_iff_mem.mp hi
    unfold flsOf at hi
    rw [List.mem_filter] at hi
    have lt : i < p.an.length := List.mem_range.mp hi.1
    have ean : ((giOf p X.K).at pn cells qual lamOk me).an i = (p.an[i]?).getD "" := rfl
    have atr : ∀ kk, p.G.atr kk i = ((p.cs'[kk]?).bind fun c => c.ats[i]?).getD .no := fun kk => rfl
    have get : ∀ kk, p.G.atr kk i ≠ .no → ∃ cc, p.cs'[kk]? = some cc ∧ cc.ats[i]? = some (p.G.atr kk i) ∧ atB p X.K (((giOf p X.K).at pn cells qual lamOk me).cb kk) (((giOf p X.K).at pn cells qual lamOk me).an i) (p.G.atr kk i) = true := fun kk hn => by
      cases hx : p.cs'[kk]? with
      | none => rw [atr, hx] at hn; exact absurd rfl hn
      | some cc =>
        cases ha : cc.ats[i]? with
        | none => rw [atr, hx] at hn; simp only [Option.bind_some] at hn; rw [ha] at hn; exact absurd rfl hn
        | some a =>
          have ea : p.G.atr kk i = a := by rw [atr, hx]; simp only [Option.bind_some]; rw [ha]; rfl
          obtain ⟨f, h1, h2⟩ := atsB_at (ceX hx).ats ha
          rw [ea]
          refine ⟨cc, rfl, ha, ?_⟩
          rw [ean, h1]
          exact h2
    refine ⟨lt, fun kk hk => ?_, fun kk hk => ?_, fun kk d hk => ?_, fun kk q hk => ?_⟩
    · obtain ⟨cc, h1, _⟩ := get kk (fun z => by rw [z] at hk; exact hk)
      exact clsX h1
    · obtain ⟨cc, h1, _, h2⟩ := get kk (fun z => by rw [z] at hk; cases hk)
      rw [hk] at h2
      exact He.eqO_ok h2
    · obtain ⟨cc, h1, _, h2⟩ := get kk (fun z => by rw [z] at hk; cases hk)
      rw [hk] at h2
      unfold atB at h2
      dsimp only at h2
      split at h2
      · rename_i v u hv hu
        simp only [Bool.and_eq_true, Bool.not_eq_true'] at h2
        exact ⟨v, u, ⟨hu, He.relB_ok h2.1.1, He.eqO_ok h2.1.2, h2.2⟩, fun w n => conV_ok hv⟩
      · cases h2
    · obtain ⟨cc, h1, h3, h2⟩ := get kk (fun z => by rw [z] at hk; cases hk)
      rw [hk] at h2 h3
      unfold atB at h2
      dsimp only at h2
      split at h2
      · rename_i pa hpa
        simp only [Bool.and_eq_true, decide_eq_true_eq] at h2
        obtain ⟨⟨g1, g2⟩, g3⟩ := h2
        split at g3
        · rename_i gg rest hrec
          have g3 := of_decide_eq_true g3
          subst g3
          obtain ⟨d, hd⟩ := (ceT (K := X.K) ok (mem_of h1)).ia q (mem_of h3)
          obtain ⟨k1, k2⟩ := oneX hd (bd.cl.one cc (mem_of h1) q d (.inr (.inr (mem_of h3))) hd)
          exact ⟨⟨pa, ⟨hpa, He.eqO_ok g1, g2, rest, hrec⟩⟩, k1, k2, loX hc q d hd⟩
        · cases g3
      · cases h2
  · have hc : c = true := hc
    have hmn : p.mn[m]? = some mn := e2
    have mem := List.contains_iff_mem.mp e
    refine ⟨fun i hi z => ?_, fun kk f hk => ?_⟩
    · have hi : i < p.an.length := hi
      have q := (okParts ok).2.2.2.2.2.2.1 mn (mem_of hmn)
      have ha := List.getElem?_eq_getElem hi
      have e0 : ((giOf p X.K).at pn cells qual lamOk me).an i = p.an[i] := gi_an (K := X.K) ha
      rw [e0] at z
      rw [← z, List.contains_iff_mem.mpr (mem_of ha)] at q
      cases q
    · have hk : ((p.cs'[kk]?).bind fun c => (c.mts[m]?).getD none) = some f := hk
      obtain ⟨cc, h1, h2⟩ := Option.bind_eq_some_iff.mp hk
      have h3 : cc.mts[m]? = some (some f) := by
        cases z : cc.mts[m]? with
        | none => rw [z] at h2; cases h2
        | some o => rw [z] at h2; exact congrArg some h2
      obtain ⟨d, hd⟩ := (ceT (K := X.K) ok (mem_of h1)).im f (mem_of h3)
      obtain ⟨mn', h4, h5⟩ := mtsB_at (ceX h1).mts h3
      rw [hmn] at h4
      cases h4
      unfold mtB at h5
      simp only [Bool.and_eq_true] at h5
      obtain ⟨k1, k2⟩ := oneX hd (bd.cl.mt _ mem f d ⟨cc, mem_of h1, h3⟩ hd)
      exact ⟨clsX h1, ⟨sameA_ok h5.1.1, h5.1.2, h5.2⟩, hc ▸ prX hc f d hd, k1, k2, fun w n => by rw [rvs_at]; exact df_ok ok f w n⟩
  · have hc : c = true := hc
    obtain ⟨cc, h1, rfl⟩ := nmX x kk e
    have mem := List.contains_iff_mem.mp e2
    have mkr := mkrX h1
    have ecv : ((giOf p X.K).at pn cells qual lamOk me).cdv kk = dfV X.K cc.dd := by show ((p.cs'[kk]?).map fun c => dfV X.K c.dd).getD [] = _; rw [h1]; rfl
    have ecd : p.G.cdf kk = dfD cc.dd := by show ((p.cs'[kk]?).map fun c => dfD c.dd).getD [] = _; rw [h1]; rfl
    refine ⟨hmg _ kk e, mkr.kp, fun w n => by rw [rvs_at, ecd, ecv]; exact df_rv (ceT (K := X.K) ok (mem_of h1)).df, ?_⟩
    rcases mk hc kk cc h1 with st | ⟨j, fd, rfl, F, G⟩
    · exact .inl st
    · obtain ⟨b1, b2⟩ := bd.cl.mkk _ mem cc h1
      rw [← spI_at (pn := pn) (cells := cells) (qual := qual) (lamOk := lamOk) (me := me)] at G
      obtain ⟨ds, v, q⟩ := b2 _ _ _ F
      exact .inr ⟨j, _, fd, cc.ps, rfl, mkr, G, b1, ds, by rw [ecv]; exact v, fun s a us ws vs X0 l1 l2 hp => q s [a] us ws vs X0 rfl l1 l2 hp⟩
  · have hc : c = true := hc
    obtain ⟨cc, h1, rfl⟩ := nmX x kk e
    have mem : kk ∈ vasOf 0 p.cs' := List.contains_iff_mem.mp e2
    obtain ⟨j0, c0, ej, h2, hv⟩ := vasOf_at mem
    obtain rfl : kk = j0 := by omega
    rw [h1] at h2
    cases h2
    have mkr := mkrX h1
    refine ⟨hmg _ kk e, mkr.kp, ?_⟩
    rcases mk hc kk cc h1 with st | ⟨j, fd, rfl, F, G⟩
    · exact .inl st
    · obtain ⟨b1, b2⟩ := bd.cl.mv cc (mem_of h1) hv
      rw [← spI_at (pn := pn) (cells := cells) (qual := qual) (lamOk := lamOk) (me := me)] at G
      exact .inr ⟨j, _, fd, cc.ps, rfl, mkr, G, b1, b2 _ _ _ F⟩
  · obtain ⟨d, h1, h2⟩ := bd.cl.va _ (List.contains_iff_mem.mp e)
    exact bndV_ok S ok h1 h2
  · have mem : (kk, f) ∈ cnsOf 0 p.cs' := List.contains_iff_mem.mp e
    obtain ⟨j, cc, d, ej, h1, h2⟩ := cnsOf_at mem
    obtain rfl : kk = j := by omega
    have hq := (ceX h1).cns _ h2
    refine ⟨.type "type", (ceX h1).cr, ?_⟩
    cases hl : cc.cns.lookup f with
    | none =>
      exfalso
      have : ∀ l : List (Nat × D), (f, d) ∈ l → l.lookup f ≠ none := by
        intro l
        induction l with
        | nil => intro z; cases z
        | cons q r ih =>
          intro z e
          obtain ⟨a, b⟩ := q
          rw [List.lookup_cons] at e
          cases e1 : f == a with
          | true => rw [e1] at e; cases e
          | false =>
            rw [e1] at e
            rcases List.mem_cons.mp z with z | z
            · cases z; rw [beq_self_eq_true] at e1; cases e1
            · exact ih z e
      exact this _ h2 hl
    | some d' =>
      have hq := (ceX h1).cns _ (look_mem hl)
      have ec : p.G.clc kk f = d' := by
        show ((p.cs'[kk]?).bind fun c => c.cns.lookup f).getD .non = _
        rw [h1]
        simp only [Option.bind_some]
        rw [hl]
        rfl
      rw [ec]
      unfold cnB at hq
      dsimp only at hq
      split at hq
      · rename_i y v hy hv
        split at hq
        · rename_i u hu
          refine ⟨v, u, ⟨?_, He.relB_ok hq⟩, fun w n => conV_ok hv⟩
          have e0 : ((giOf p X.K).at pn cells qual lamOk me).an f = y := gi_an (K := X.K) hy
          rw [e0]
          exact hu
        · cases hq
      · cases hq
  · have hc : c = true := hc
    have hmn : p.mn[m]? = some mn := e2
    have mem := List.contains_iff_mem.mp e
    have hk : ((p.cs'[kk]?).bind fun c => (c.sts[m]?).getD none) = some f := e3
    obtain ⟨cc, h1, h2⟩ := Option.bind_eq_some_iff.mp hk
    have h3 : cc.sts[m]? = some (some f) := by
      cases z : cc.sts[m]? with
      | none => rw [z] at h2; cases h2
      | some o => rw [z] at h2; exact congrArg some h2
    obtain ⟨d, hd⟩ := (ceT (K := X.K) ok (mem_of h1)).is f (mem_of h3)
    obtain ⟨mn', h4, h5⟩ := stsB_at (ceX h1).sts h3
    rw [hmn] at h4
    cases h4
    unfold stB at h5
    simp only [Bool.and_eq_true, decide_eq_true_eq] at h5
    obtain ⟨k1, k2⟩ := oneX hd (bd.cl.st _ mem cc f d h1 h3 hd)
    obtain ⟨w1, rest, w2⟩ := He5.wrapB_ok h5.1.1
    rw [h5.1.2] at w2
    exact ⟨(ceX h1).cr, ⟨_, w1, rest, w2⟩, hc ▸ prX hc f d hd, h5.2, k1, k2, fun w n => by rw [rvs_at]; exact df_ok ok f w n⟩
  · obtain ⟨cc, h1, rfl⟩ := nmX x kk e
    refine ⟨fun j hj => ?_, fun t ht => ((ceX h1).ty t ht).1⟩
    have hj : j < p.cs'.length := hj
    have hx := List.getElem?_eq_getElem hj
    obtain ⟨b, h2, h3, _⟩ := isB_at (ceX hx).isa h1
    refine ⟨⟨clsX hx, (ceX hx).ha, (ceX hx).hn, (ceX hx).tk, (ceX hx).hm⟩, ?_⟩
    have e1 : p.G.isa j kk = b := by
      show ((p.cs'[j]?).bind fun j => j.isa[kk]?).getD false = _
      rw [hx]
      simp only [Option.bind_some]
      rw [h2]
      rfl
    have e2 : ((giOf p X.K).at pn cells qual lamOk me).cb kk = He.ga X.K cc.name := gi_cb h1
    rw [e1, e2]
    exact h3
  · have hc : c = true := hc
    refine ⟨fun kk f hk => ?_⟩
    have hk : ((p.cs'[kk]?).bind fun c => c.dms.lookup .call) = some f := hk
    obtain ⟨cc, h1, h2⟩ := Option.bind_eq_some_iff.mp hk
    obtain ⟨d, hd⟩ := (ceT (K := X.K) ok (mem_of h1)).id _ (look_mem h2)
    have hq := (ceX h1).dms _ (look_mem h2)
    unfold duB at hq
    simp only [Bool.and_eq_true] at hq
    obtain ⟨k1, k2⟩ := oneX hd (bd.cl.ca _ (List.contains_iff_mem.mp e) cc (mem_of h1) f d h2 hd)
    exact ⟨⟨sameA_ok hq.1.1.1, hq.1.1.2, hq.1.2⟩, hc ▸ prX hc f d hd, k1, k2, fun w n => by rw [rvs_at]; exact df_ok ok f w n⟩
  · have hc : c = true := hc
    have get : ∀ (dd : Du) kk f, p.G.dmt kk dd = some f → ∃ cc d, p.cs'[kk]? = some cc ∧ cc.dms.lookup dd = some f ∧ p.ds[f]? = some d ∧ duB p X.K (((giOf p X.K).at pn cells qual lamOk me).cb kk) (dd, f) = true := fun dd kk f hk => by
      have hk : ((p.cs'[kk]?).bind fun c => c.dms.lookup dd) = some f := hk
      obtain ⟨cc, h1, h2⟩ := Option.bind_eq_some_iff.mp hk
      obtain ⟨d, hd⟩ := (ceT (K := X.K) ok (mem_of h1)).id _ (look_mem h2)
      exact ⟨cc, d, h1, h2, hd, (ceX h1).dms _ (look_mem h2)⟩
    refine ⟨⟨fun kk f hk => ?_⟩, ⟨fun kk f hk => ?_⟩, ⟨fun kk f hk => ?_⟩, ⟨fun kk f hk => ?_⟩⟩
    · obtain ⟨cc, d, h1, h2, hd, hq⟩ := get _ kk f hk
      unfold duB at hq
      simp only [Bool.and_eq_true] at hq
      obtain ⟨k1, k2⟩ := oneX hd (bd.cl.one cc (mem_of h1) f d (.inl h2) hd)
      exact ⟨sameA_ok hq.1.1.1, hq.1.1.2, loX hc f d hd, k1, k2⟩
    · obtain ⟨cc, d, h1, h2, hd, hq⟩ := get _ kk f hk
      unfold duB at hq
      simp only [Bool.and_eq_true] at hq
      obtain ⟨k1, k2⟩ := oneX hd (bd.cl.one cc (mem_of h1) f d (.inr (.inl h2)) hd)
      exact ⟨sameA_ok hq.1.1.1, hq.1.1.2, loX hc f d hd, k1, k2⟩
    · obtain ⟨cc, d, h1, h2, hd, hq⟩ := get _ kk f hk
      unfold duB at hq
      simp only [Bool.and_eq_true] at hq
      obtain ⟨k1, k2⟩ := oneX hd (bd.cl.two cc (mem_of h1) f d (.inl h2) hd)
      refine ⟨sameA_ok hq.1.1.1, hq.1.1.2, loX hc f d hd, k1, k2, (fun z => absurd z (by decide)), fun t ht => ((ceX h1).ty t ht).2, fun j hj => ?_⟩
      have hj : j < p.cs'.length := hj
      have hx := List.getElem?_eq_getElem hj
      obtain ⟨b, _, _, h3⟩ := isB_at (ceX h1).isa hx
      have e2 : ((giOf p X.K).at pn cells qual lamOk me).cb j = He.ga X.K (p.cs'[j]).name := gi_cb hx
      rw [e2]
      exact h3
    · obtain ⟨cc, d, h1, h2, hd, hq⟩ := get _ kk f hk
      unfold duB at hq
      simp only [Bool.and_eq_true] at hq
      obtain ⟨k1, k2⟩ := oneX hd (bd.cl.two cc (mem_of h1) f d (.inr h2) hd)
      refine ⟨sameA_ok hq.1.1.1, hq.1.1.2, loX hc f d hd, k1, k2, fun _ => ⟨(ceX h1).hm, He.eqO_ok hq.2⟩, fun t ht => ((ceX h1).ty t ht).2, fun j hj => ?_⟩
      have hj : j < p.cs'.length := hj
      have hx := List.getElem?_eq_getElem hj
      obtain ⟨b, _, _, h3⟩ := isB_at (ceX h1).isa hx
      have e2 : ((giOf p X.K).at pn cells qual lamOk me).cb j = He.ga X.K (p.cs'[j]).name := gi_cb hx
      rw [e2]
      exact h3
end
end Rk

set_option maxHeartbeats 4000000
/-! Rk.Pc: every def keeps its promise at every depth. -/
namespace Rk
open PySem PySem.Spec PyProof.Rows L2
section
variable {P : Program} {w : World} {K : PySem.W.Frag} {h : Heap} {mg : Str → Option Value} {p : Pg} {base : Heap}
theorem re_start {g : Gi} {w : Wd} {n : Nat} {ds : List D} {vs : List V} {N : List Str} (r : RVs g w n ds vs) (m : Nat) (hm : m = N.length - vs.length) : RE g w n (ds.map .v ++ List.replicate m .no) (L2.start N vs) := by
  unfold L2.start
  refine ⟨?_, fun i d o e1 e2 => ?_⟩
  · rw [List.length_append, List.length_append, List.length_map, List.length_map, List.length_replicate, List.length_replicate, r.length, hm, r.length]
  · by_cases hi : i < ds.length
    · rw [List.getElem?_append_left (by simpa using hi), List.getElem?_map] at e1
      obtain ⟨d', h1, h2⟩ := Option.map_eq_some_iff.mp e1
      cases h2
      obtain ⟨v, h3, h4⟩ := r.get h1
      rw [List.getElem?_append_left (by rw [List.length_map, r.length]; exact hi), List.getElem?_map, h3] at e2
      cases e2
      exact ⟨v, rfl, h4⟩
    · rw [List.getElem?_append_right (by simpa using hi), List.getElem?_replicate] at e1
      split at e1
      · cases e1; trivial
      · cases e1
theorem pv_at {g : Gi} {pn : List (Addr × Obj)} {cells : List (Str × Addr)} {qual : Str} {lamOk : Nat → LamI → Prop} {me : Option Addr} {Q : VK} : PV (g.at pn cells qual lamOk me) Q = PV g Q := by
  unfold PV
  simp only [rv_at]
theorem one_of {ps : List Str} (h : ps.length = 1) : ∃ y, ps = [y] := by
  match ps, h with
  | [y], _ => exact ⟨y, rfl⟩
theorem fld_ok (ok : p.ok P = true) {W : WhyD} (hw : p.why = some W) : W.ok = true ∧ ∃ d, p.ds[p.fld]? = some d ∧ d.dd.dfl = [] ∧ d.dd.kwd = [] ∧ d.wh = .glo ∧ d.dd.name = W.lf ∧ d.ps.length = 1 ∧ chSs (p.tb false noLam) d.N d.fn.body ⟨d.dd.scope.names, false⟩ d.dd.body = true := by
  have q := (okParts ok).2.2.2.2.2.2.2
  unfold Pg.whyOk at q
  rw [hw] at q
  simp only [Bool.and_eq_true] at q
  refine ⟨q.1, ?_⟩
  have q := q.2
  split at q
  · rename_i d hd
    simp only [Bool.and_eq_true, decide_eq_true_eq] at q
    exact ⟨d, hd, List.isEmpty_iff.mp q.1.1.1.1.1, List.isEmpty_iff.mp q.1.1.1.1.2, q.1.1.1.2, q.1.1.2, q.1.2, q.2⟩
  · cases q
/-- _law_field called with the exception that is handled -/
theorem fnx_prom (S : Says p P K h) (ns : h.Ns mainGlobals mg) (ok : p.ok P = true) (bd : p.bd) {W : WhyD} (hw : p.why = some W) :
    ∀ (m : Nat), (∀ j, j ≤ m → Prom p P w K mg base j) → FnX P w K mg base m ((giOf p K).fa p.fld) ((giOf p K).fd p.fld) ((giOf p K).fps p.fld) (spX (giOf p K) (cN p.G m) p.fld)
  | 0, _ => ⟨fun A outer s H q Q _ _ _ _ hsp => by
      obtain ⟨w, h, c, fs, dd, gs, _, _, _, _, _, _, q⟩ := hsp
      exact q.elim⟩
  | m + 1, pr => by
    obtain ⟨wok, d, hd, hdf, hkw, hwh, hname, hlen, hch⟩ := fld_ok ok hw
    have F := fdOf_ok S ok hd
    rw [dvs_nil hdf, kws_nil hkw] at F
    obtain ⟨hpl, Sc, hnp, hnb, _⟩ := deOk ok hd
    obtain ⟨y, hy⟩ := one_of hlen
    rw [gi_fa hd, gi_ps hd, hy]
    rw [hy] at Sc
    refine fnx_of F Sc fun cdv A outer s H q Q room hsp => ?_
    obtain ⟨wd, h1, c, fs, dd, gs, rr, hz, hfl, hdd, hf, xk, q1⟩ := hsp
    refine ⟨tS ((giOf p K).at [q] [] "" fun _ _ => False) (fun cls d _ H => False) (evSs p.G (cN p.G m) (p.tb false noLam).c d.fn.body), ?_, ?_⟩
    · refine chSs_ok (k := m) (N := d.N) (nm := ⟨d.dd.scope.names, false⟩) d.fn.body ?_ _ hch
      exact { toCK := ckOf (X := L2H.cxH (CXZ false P w) P w K mg base d.N d.dd.qual d.dd.scope ((d.ad K)) cdv A outer s H (fun _ _ _ => False) q) S ns ok bd (pr m (Nat.le_succ m)) room Sc.nd rfl rfl Sc.kind (fun z => nomatch z) (fun q' hq => hq) (fun z => nomatch z) (fun z => nomatch z) (cls_cx S ns ok bd (fun z => nomatch z) (fun z => nomatch z) (fun z => nomatch z))
              fn := fun _ => rfl
              po := passes_of rfl
              tk := takes_of (E := fun _ _ _ => False) rfl rfl rfl rfl }
    · have eg : p.G.fn p.fld = some d.fn := by show (p.ds[p.fld]?).map (·.fn) = _; rw [hd]; rfl
      have q1 : Post (giOf p K) wd h1.nx ((cN p.G (m + 1)).x p.fld c fs h1) (fun _ _ _ => False) (PV (giOf p K) Q) := q1
      have e1 : (cN p.G (m + 1)).x p.fld c fs h1 = fin (evSs p.G (cN p.G m) false d.fn.body (.exc c fs :: List.replicate (d.fn.nb - 1) .no) h1) := by
        show (match p.G.fn p.fld with
          | some fd => if fd.np = 1 then fin (evSs p.G (cN p.G m) false fd.body (.exc c fs :: List.replicate (fd.nb - 1) .no) h1) else .stuck
          | none => .stuck) = _
        rw [eg]
        dsimp only
        rw [if_pos (by rw [hnp, hy]; rfl)]
      rw [e1] at q1
      refine ⟨wd, .exc c fs :: List.replicate (d.fn.nb - 1) .no, h1, by rw [rr_at]; exact rr, ⟨?_, fun i sl o e1 e2 => ?_⟩, fin_post (E := fun _ _ _ => False) (by rw [post_at, pv_at]; exact q1)⟩
      · have : d.N.length ≥ 1 := by
          have := congrArg List.length Sc.pre
          rw [List.length_take] at this
          have : min 1 d.N.length = 1 := this
          omega
        unfold L2.start
        simp only [List.length_cons, List.length_replicate, List.length_append, List.length_map, List.length_nil]
        rw [hnb]
        omega
      · cases i with
        | zero =>
          cases e1
          have e2 : some (some (V.ref q.1)) = some o := e2
          cases e2
          exact ⟨q.1, dd, q.2, gs, rfl, List.mem_singleton.mpr rfl, hz, hfl, hdd, by rw [rvf_at]; exact hf, xk⟩
        | succ i =>
          rw [List.getElem?_cons_succ, List.getElem?_replicate] at e1
          split at e1
          · cases e1; trivial
          · cases e1
theorem glo_mem {W : WhyD} (hw : p.why = some W) {f : He.Fa} (hf : f ∈ W.fa) : f ∈ p.fa := List.mem_append_right _ (by unfold Pg.whyFa; rw [hw]; exact hf)
theorem def_mem {W : WhyD} (hw : p.why = some W) {d : He.DefD} (hf : d = W.why ∨ d = W.whys) : d ∈ p.defs := List.mem_append_right _ (by unfold Pg.whyDs; rw [hw]; rcases hf with rfl | rfl <;> simp)
/-- what asks lambdas, as a frame sees it -/
theorem why_at (S : Says p P K h) (ns : h.Ns mainGlobals mg) (ok : p.ok P = true) (bd : p.bd) {W : WhyD} (hw : p.why = some W) {m : Nat} (pr : ∀ j, j ≤ m → Prom p P w K mg base j) (pn : List (Addr × Obj)) (cells : List (Str × Addr)) (qual : Str) (lamOk : Nat → LamI → Prop) (me : Option Addr) :
    ∃ (fw fs : Addr) (fd fds : FuncData), mg W.why.name = some (.ref fw) ∧ PySem.W.keepIn K (.ref fw) = true ∧ mg W.whys.name = some (.ref fs) ∧ PySem.W.keepIn K (.ref fs) = true ∧
      WhyAt P w K mg base ((giOf p K).at pn cells qual lamOk me) p.G (cN p.G m) m fw fd W.a ∧ WhysAt K mg fw fs fds W.a2 := by
  obtain ⟨wok, d, hd, hdf, hkw, hwh, hname, hlen, _⟩ := fld_ok ok hw
  obtain ⟨b1, b2, b3⟩ := bd.wb W hw
  unfold WhyD.ok at wok
  simp only [Bool.and_eq_true, decide_eq_true_eq, List.all_eq_true] at wok
  obtain ⟨⟨⟨⟨⟨⟨⟨⟨⟨⟨⟨⟨⟨⟨⟨w1, w2⟩, w3⟩, w4⟩, w5⟩, w6⟩, w7⟩, w8⟩, w9⟩, w10⟩, w11⟩, w12⟩, w13⟩, w14⟩, w15⟩, w16⟩ := wok
  obtain ⟨fd, F⟩ := funD_of S (def_mem hw (.inl rfl)) w1
  obtain ⟨fds, Fs⟩ := funD_of S (def_mem hw (.inr rfl)) w2
  have gm : ∀ {x : Str}, He.Fa.glo x ∈ W.fa → mg x = some (.ref (He.ga K x)) := fun hx => He.glo_ok S.inK ns (faOk S (glo_mem hw hx))
  have nD : ∀ {y : Str}, notD y = true → (y == ("__debug__" : Str)) = false ∧ (y == ("__classdict__" : Str)) = false := fun hy => by
    unfold notD at hy
    simpa using hy
  have F' := fdOf_ok S ok hd
  rw [dvs_nil hdf, kws_nil hkw] at F'
  obtain ⟨y, hy⟩ := one_of hlen
  have hlf : mg W.lf = some (.ref ((giOf p K).fa p.fld)) := by
    rw [gi_fa hd, ad_glo hwh, ← hname]
    exact He.glo_ok S.inK ns (faOk S (glo_fa hd hwh))
  have eW : W.why.name = ("_law_why" : Str) := w3
  have eWs : W.whys.name = ("_law_whys" : Str) := w4
  refine ⟨He.ga K W.why.name, He.ga K W.whys.name, fd, fds, gm (by simp [WhyD.fa]), F.kp, gm (by simp [WhyD.fa]), Fs.kp, ⟨?_, gi_xo S ok bd, gi_nm (K := K) ok, (gi_cod (K := K) ok).1, (gi_cod (K := K) ok).2⟩, ⟨?_⟩⟩
  · refine ⟨W.why.qual, W.why.params, W.why.body, W.why.scope, (giOf p K).fd p.fld, (giOf p K).fps p.fld, (giOf p K).fa p.fld, W.e, W.x1, W.x2, W.x3, W.lf, He.ga K W.x1, He.ga K W.x2, He.ga K W.x3, eW ▸ F, scopeC_ok w5, w6, fun s u _ => bind1_ok F b1 s u, w7, w8, fun y hy => ?_, fun y hy => nD (w10 y hy), gm (by simp [WhyD.fa]), gm (by simp [WhyD.fa]), gm (by simp [WhyD.fa]), hlf, ?_, fun c hc => ?_, ?_, fun s u _ => ?_⟩
    · have q := w9 y hy
      unfold gl1 at q
      exact of_decide_eq_true q
    · rw [gi_fa hd]
      exact F'.kp
    · have hc : c < p.xs.length := hc
      have hx := List.getElem?_eq_getElem hc
      have e3 : ((giOf p K).at pn cells qual lamOk me).ca c = He.ga K (p.xs[c]).name := gi_ca hx
      rw [e3]
      exact (S.x _ (List.mem_of_getElem? hx)).2.2.2 W hw
    · have e4 : ((giOf p K).at pn cells qual lamOk me) = ((giOf p K).at pn cells qual lamOk me) := rfl
      rw [spX_at]
      exact fnx_prom S ns ok bd hw m pr
    · rw [gi_ps hd]
      obtain ⟨oc, od, dV, kV, doc, pm, an, cdv', ct, osl, hfd, lk, hcd, hD, hK⟩ := F'.ex
      have hfd : (giOf p K).fd p.fld = _ := hfd
      rw [hfd]
      rcases hD with ⟨_, rfl⟩ | ⟨e, _⟩
      · exact .of_eq (b3 d hd kV doc pm an cdv' ct u)
      · exact absurd rfl e
  · split at w16
    rotate_left
    · cases w16
    rename_i q1 q2 q3 sc hT
    rw [hT] at w12
    simp only [Option.map_some, Option.some.injEq, Prod.mk.injEq] at w12
    obtain ⟨rfl, rfl, rfl⟩ := w12
    simp only [Bool.and_eq_true, decide_eq_true_eq] at w16
    exact ⟨W.whys.qual, W.whys.params, W.whys.body, W.whys.scope, sc, W.d, W.wy, eWs ▸ Fs, scopeC_ok w11, hT, fun s u _ => bind1_ok Fs b2 s u, w14, w16.1.1, w16.1.2, w16.2, fun y hy => nD (w15 y hy), by rw [w13]; exact gm (by simp [WhyD.fa]), F.kp⟩
end
end Rk

set_option maxHeartbeats 4000000
/-! Rk.Pd: the law's promise. -/
namespace Rk
open PySem PySem.Spec PyProof.Rows L2
section
variable {P : Program} {w : World} {K : PySem.W.Frag} {h : Heap} {mg : Str → Option Value} {p : Pg} {base : Heap}
theorem lamCk_ok {d : DE} {k : Nat} {L : LamI} (hk : lamCk p d k L = true) : LamS2 d.N d.dd.scope L.scope L.params (p.G.lamw k) ∧ (lamP L.params).isSome = true ∧ chE (p.tb true noLam) d.N (p.G.lam k) ⟨L.scope.names, false⟩ L.body = true := by
  unfold lamCk at hk
  split at hk
  · rename_i t ws hl
    simp only [Bool.and_eq_true] at hk
    have e1 : p.G.lamw k = ws := by show ((p.lams[k]?).map (·.2)).getD [] = _; rw [hl]; rfl
    have e2 : p.G.lam k = t := by show ((p.lams[k]?).map (·.1)).getD _ = _; rw [hl]; rfl
    rw [e1, e2]
    exact ⟨lamS2_by hk.1.1, hk.1.2, hk.2⟩
  · cases hk
theorem isRef {v : Value} (h : (match v with
    | .ref _ => true
    | _ => false) = true) : ∃ c, v = .ref c := by
  cases v <;> first | exact ⟨_, rfl⟩ | cases h
theorem nolam_of (ok : p.ok P = true) (hw : p.why = none) {d : DE} (hd : d ∈ p.ds) : d.lam = false := by
  have q := (okParts ok).2.2.2.2.2.2.2
  unfold Pg.whyOk at q
  rw [hw] at q
  have z := List.all_eq_true.mp q d hd
  simpa using z
/-- all promises at a depth -/
def All (p : Pg) (P : Program) (w : World) (K : PySem.W.Frag) (mg : Str → Option Value) (base : Heap) (k : Nat) : Prop := Prom p P w K mg base k ∧ PromL p P w K mg base k ∧ PromI p P w K mg base k
theorem fn_none {k : Nat} {x qual : Str} {params : Arguments} {body : List Stmt} {scope : Scope} {dvs : List V} {kws : List (Str × V)} {f : Addr} {fd : FuncData} {N ps : List Str} {sp : Sp} (F : FunD K x qual params body scope dvs kws f fd) (S : FnScope N ps scope) (no : ∀ vs H Q E, sp vs H Q E → False) : FnG false P w K mg base k true f fd ps sp := by
  obtain ⟨oc, od, dV, kV, doc, pm, an, cdv, ct, osl, rfl, lk, hcd, _, _⟩ := F.ex
  constructor
  intro A outer s H args Q E G room calm e0 hb hsp
  have inK : K.In s.heap := e0.mod.kin.keeps fun b o e => (e0.bs b o e).1
  have hdep : A.depth < recursionLimit := by have := room.dp; omega
  refine codeAny_call_function hdep (inK _ _ lk) rfl S.co S.gen rfl (PySem.W.codeRec_of inK hcd) (hb _ _ _ ?_)
  intro s2 H2 vs us e2 un ho hx rel hlen hg
  exact (no _ _ _ _ (hsp _ _ hg)).elim
theorem re_startM {g : Gi} {w : Wd} {n : Nat} {ds : List D} {vs : List V} {N : List Str} {x : Addr} (hx : g.me = some x) (r : RVs g w n ds vs) (m : Nat) (hm : m = N.length - (vs.length + 1)) : RE g w n (.me :: (ds.map .v ++ List.replicate m .no)) (L2.start N (.ref x :: vs)) := by
  unfold L2.start
  refine ⟨?_, fun i d o e1 e2 => ?_⟩
  · simp only [List.length_cons, List.length_append, List.length_map, List.length_replicate, r.length, hm]
    omega
  · cases i with
    | zero =>
      cases e1
      cases e2
      exact ⟨x, hx, rfl⟩
    | succ i =>
      rw [List.getElem?_cons_succ] at e1
      rw [List.map_cons, List.cons_append, List.getElem?_cons_succ] at e2
      by_cases hi : i < ds.length
      · rw [List.getElem?_append_left (by simpa using hi), List.getElem?_map] at e1
        obtain ⟨d', h1, h2⟩ := Option.map_eq_some_iff.mp e1
        cases h2
        obtain ⟨v, h3, h4⟩ := r.get h1
        rw [List.getElem?_append_left (by rw [List.length_map, r.length]; exact hi), List.getElem?_map, h3] at e2
        cases e2
        exact ⟨v, rfl, h4⟩
      · rw [List.getElem?_append_right (by simpa using hi), List.getElem?_replicate] at e1
        split at e1
        · cases e1; trivial
        · cases e1
theorem funD_ce (S : Says p P K h) (ok : p.ok P = true) {c : CE} (hc : c ∈ p.cs') : ∃ fd, FunD K c.dd.name c.dd.qual c.dd.params c.dd.body c.dd.scope (c.dd.dvs K) (c.dd.kws K) (He.ma K (He.ga K c.name) "__init__") fd := by
  obtain ⟨i, hi, e⟩ := List.mem_iff_getElem.mp (show c.dd ∈ p.defs from List.mem_append_left _ (List.mem_map.mpr ⟨c, hc, rfl⟩))
  obtain ⟨fd, F⟩ := S.d.def_ i (d := c.dd) (by rw [List.getElem?_eq_getElem hi, e])
  have T := ceT (K := K) ok hc
  have q := (okParts ok).2.2.2.2.2.1 c hc
  unfold CE.ok at q
  simp only [Bool.and_eq_true, decide_eq_true_eq] at q
  have ea := q.1.1.1.1.1.1.1.1.2
  have e3 : He.fAd K c.dd.at_ = He.ma K (He.ga K c.name) "__init__" := by rw [ea]; rfl
  rw [e3] at F
  exact ⟨fd, F⟩
/-- what fills new objects -/
theorem ini_step (S : Says p P K h) (ns : h.Ns mainGlobals mg) (ok : p.ok P = true) (bd : p.bd) (i : Nat) (pr : All p P w K mg base i) : PromI p P w K mg base (i + 2) := by
  intro kk c hkk
  have hc := mem_of hkk
  have T := ceT (K := K) ok hc
  obtain ⟨fd, F⟩ := funD_ce S ok hc
  refine .inr ⟨i + 1, fd, rfl, F, ?_⟩
  have Sc := T.sc
  refine fn_ofG F Sc fun cdv A outer s H vs Q E hcdv room calm hlen hsp => ?_
  obtain ⟨wd, ds, h1, x, dx, us, rfl, fx, fdx, zx, zdx, hne, rr, rvs, q⟩ := hsp
  let X : Cx := cxOf (L2.CX P w) P w K mg base c.N c.dd.qual c.dd.scope (He.ma K (He.ga K c.name) "__init__") cdv A outer s H E
  have kc : kk < p.cs'.length := (List.getElem?_eq_some_iff.mp hkk).1
  have cl : Cls X.K (((giOf p K).at [] X.env.cells X.env.qual (fun _ _ => False) (some x)).cb kk) := by
    have e : ((giOf p K).at [] X.env.cells X.env.qual (fun _ _ => False) (some x)).cb kk = He.ga K c.name := gi_cb hkk
    rw [e]
    exact He.cls_ok (faOk S (cls_fa hc (by simp [CE.fa])))
  refine ⟨tBI ((giOf p K).at [] X.env.cells X.env.qual (fun _ _ => False) (some x)) E kk x dx fun env fs h => evB p.G (cN p.G i) true c.ct.items env fs h, ?_, ?_⟩
  · refine chB_ok (k := i) (tb := p.tb true noLam) (N := c.N) (nm := ⟨c.dd.scope.names, false⟩) (X := X) rfl rfl cl c.ct.items ?_ _ (fun j hj => ?_) T.ck
    · exact { toCK := ckOf (X := X) S ns ok bd pr.1 room Sc.nd rfl rfl Sc.kind (fun _ => rfl) (fun _ z => absurd z (by simp)) (fun _ => rfl) (fun z => nomatch z) (cls_cx S ns ok bd (fun _ => pr.1) (fun _ => pr.2.1) (fun _ => pr.2.2))
              fn := fun _ => rfl
              po := passes_of rfl
              tk := takes_of (E := E) rfl rfl rfl rfl }
    · show ((p.cs'[kk]?).bind fun c => c.ats[j]?).getD .no = .fld
      rw [hkk]
      simp only [Option.bind_some]
      rw [T.st j hj]
      rfl
  · have eg : p.G.ctr kk = some c.ct := by show (p.cs'[kk]?).map (·.ct) = _; rw [hkk]; rfl
    have e1 : (cN p.G (i + 2)).make kk ds h1 = if ds.length = c.ct.np then (evB p.G (cN p.G i) true c.ct.items (.me :: (ds.map .v ++ List.replicate (c.ct.nb - (c.ct.np + 1)) .no)) [] h1).bind fun fs h => .ok (.ins kk fs) h else .stuck := by
      show mkR p.G (cN p.G i) kk ds h1 = _
      unfold mkR
      rw [eg]
    rw [e1] at q
    obtain ⟨hl, q⟩ := if_ok q
    refine ⟨wd, _, h1, [], [], ⟨fx, fdx, zx, zdx, hne, kc, by rw [rr_at]; exact rr⟩, re_startM rfl (by rw [rvs_at]; exact rvs) (c.ct.nb - (c.ct.np + 1)) ?_, rfl, (by rw [rvf_at]; exact rvf_nil.mpr rfl), ?_⟩
    · rw [T.nb, rvs.length, hl]
    · rw [post_at]
      refine (Post.bind q).mono fun w3 h3 H3 fs ext rr3 q3 rv σ' => ?_
      rw [rv_at] at rv
      exact q3.now rr3 _ rv rfl
theorem prom_step (S : Says p P K h) (ns : h.Ns mainGlobals mg) (ok : p.ok P = true) (bd : p.bd) (tb : ∀ q ∈ p.cs K, LamX.TabB base mg q.1 q.2) (n : Nat) (pr : ∀ j, j ≤ n → All p P w K mg base j) : Prom p P w K mg base (n + 1) := by
  intro f d hd
  have F := fdOf_ok S ok hd
  obtain ⟨hpl, Sc, hnp, hnb, hch⟩ := deOk ok hd
  rw [gi_fa hd, gi_ps hd]
  refine fn_ofG F Sc fun cdv A outer s H vs Q E hcdv room calm hlen hsp => ?_
  obtain ⟨wd, ds, h1, rr, rvs, q⟩ := hsp
  have hX : ∃ X : Cx, X = cxOf (L2.CX P w) P w K mg base d.N d.dd.qual d.dd.scope (d.ad K) cdv A outer s H E := ⟨_, rfl⟩
  let X : Cx := cxOf (L2.CX P w) P w K mg base d.N d.dd.qual d.dd.scope (d.ad K) cdv A outer s H E
  let lo : Nat → LamI → Prop := fun k L => lamCk p d k L = true
  have lm : d.lam = true → true = true → LamCk X ((giOf p K).at [] X.env.cells X.env.qual lo) (lamCk p d) ∧ WhyCx X ((giOf p K).at [] X.env.cells X.env.qual lo) p.G (cN p.G n) n (p.tb true (lamCk p d)).wx (p.tb true (lamCk p d)).wsx := fun hl _ => by
    have hm := List.mem_of_getElem? hd
    refine ⟨⟨⟨⟨codeAd K d.dd.at_, tabAd K (codeAd K d.dd.at_), ?_, ?_, fun q hq e => ?_, ?_⟩, rfl, rfl⟩, fun k L hk => hk, fun k L hk => (lamCk_ok hk).1.free, fun k L hk => (lamCk_ok hk).2.1⟩, ⟨?_⟩⟩
    · have cr := S.cref d hm hl
      obtain ⟨_, e3⟩ := plainM_ok hpl
      obtain ⟨hwh, e3⟩ := e3 hl
      obtain ⟨oc, od, dV, kV, doc, pm, an, cdv', ct, osl, hfd, lk, _, _, _⟩ := F.ex
      have e4 : He.fAd K d.dd.at_ = d.ad K := by rw [e3, ad_glo hwh]; rfl
      unfold crefB at cr
      unfold codeAd
      rw [e4, lk] at cr ⊢
      show cdv = _
      dsimp only at cr ⊢
      have hc : (fdOf p K f).code = cdv := hcdv
      rw [hc] at cr ⊢
      obtain ⟨cc, hcc⟩ := isRef cr
      rw [hcc]
    · exact List.mem_map.mpr ⟨d, List.mem_filter.mpr ⟨hm, hl⟩, rfl⟩
    · exact S.tnd q hq (tabAd K (codeAd K d.dd.at_), (d.dd.qual ++ ".<locals>.") ++ "<lambda>") (List.mem_map.mpr ⟨d, List.mem_filter.mpr ⟨hm, hl⟩, rfl⟩) e
    · exact tb (codeAd K d.dd.at_, tabAd K (codeAd K d.dd.at_)) (List.mem_map.mpr ⟨d, List.mem_filter.mpr ⟨hm, hl⟩, rfl⟩)
    · cases n with
      | zero => exact .inl fun _ _ _ => rfl
      | succ m =>
        refine .inr ?_
        cases hw : p.why with
        | none => rw [nolam_of ok hw hm] at hl; cases hl
        | some W =>
          obtain ⟨fw, fs, fd, fds, m1, k1, m2, k2, WA, WS⟩ := why_at (w := w) (base := base) S ns ok bd hw (m := m) (fun j hj => (pr j (by omega)).1) [] X.env.cells X.env.qual lo none
          refine ⟨m, cN p.G m, fw, fs, fd, fds, W.a, W.a2, rfl, rfl, ?_, k1, ?_, k2, WA, WS, fun kl L hk => ?_⟩
          · show mg ((p.why.map (·.why.name)).getD "") = _
            rw [hw]
            exact m1
          · show mg ((p.why.map (·.whys.name)).getD "") = _
            rw [hw]
            exact m2
          · obtain ⟨l1, l2, l3⟩ := lamCk_ok (p := p) (d := d) hk
            refine ⟨l1, rfl, rfl, fun A' outer' s1 H1 E' f' c' room' calm' => ?_⟩
            exact (chE_ok (tb := p.tb true noLam) (N := d.N) (nm := ⟨L.scope.names, false⟩) (p.G.lam kl) (ckOf (X := lamCx2 X A' outer' s1 H1 E' L.scope f' c') S ns ok bd (pr m (by omega)).1 room' Sc.nd rfl rfl l1.kind (fun _ => rfl) (fun _ z => absurd z (by simp)) (fun _ => rfl) (fun z => nomatch z) (cls_cx S ns ok bd (fun _ => (pr m (by omega)).1) (fun _ => (pr m (by omega)).2.1) (fun _ => (pr m (by omega)).2.2))) (E := fun _ => E') (takes_of (E := E') rfl rfl rfl rfl) _ l3).pe
  refine ⟨tS ((giOf p K).at [] X.env.cells X.env.qual lo) (fun cls d _ H => E cls d H) (evSs p.G (cN p.G n) true d.fn.body), ?_, ?_⟩
  · refine chSs_ok (k := n) (tb := p.tb true (lamCk p d)) (N := d.N) (nm := ⟨d.dd.scope.names, d.lam⟩) d.fn.body ?_ _ hch
    exact { toCK := ckOf (X := X) S ns ok bd (pr n (Nat.le_refl n)).1 room Sc.nd rfl rfl Sc.kind (fun _ => rfl) (fun _ z => absurd z (by simp)) (fun _ => rfl) lm (cls_cx S ns ok bd (fun _ => (pr n (Nat.le_refl n)).1) (fun _ => (pr n (Nat.le_refl n)).2.1) (fun _ => (pr n (Nat.le_refl n)).2.2))
            fn := fun _ => rfl
            po := passes_of rfl
            tk := takes_of (E := E) rfl rfl rfl rfl }
  · have eg : p.G.fn f = some d.fn := by show (p.ds[f]?).map (·.fn) = _; rw [hd]; rfl
    have e1 : (cN p.G (n + 1)).f true f ds h1 = if ds.length = d.fn.np then fin (evSs p.G (cN p.G n) true d.fn.body (ds.map Sl.v ++ List.replicate (d.fn.nb - d.fn.np) Sl.no) h1) else .stuck := by
      show (match p.G.fn f with
        | some fd => if ds.length = fd.np then fin (evSs p.G (cN p.G n) true fd.body (ds.map Sl.v ++ List.replicate (fd.nb - fd.np) Sl.no) h1) else .stuck
        | none => .stuck) = _
      rw [eg]
    rw [e1] at q
    obtain ⟨hl, q⟩ := if_ok q
    refine ⟨wd, _, h1, by rw [rr_at]; exact rr, re_start (by rw [rvs_at]; exact rvs) _ ?_, fin_post (by rw [post_at, pv_at]; exact q)⟩
    rw [hnb, hnp, hlen]
theorem prog_all (S : Says p P K h) (ns : h.Ns mainGlobals mg) (ok : p.ok P = true) (bd : p.bd) (tb : ∀ q ∈ p.cs K, LamX.TabB base mg q.1 q.2) : ∀ n j, j ≤ n → All p P w K mg base j
  | 0, j, hj => by
    obtain rfl : j = 0 := by omega
    refine ⟨fun f d hd => ?_, low0, ini0⟩
    rw [gi_fa hd, gi_ps hd]
    exact fn_none (fdOf_ok S ok hd) (deOk ok hd).2.1 fun vs H Q E hsp => by
      obtain ⟨w, ds, h, _, _, q⟩ := hsp
      exact q.elim
  | n + 1, j, hj => by
    have ih := prog_all S ns ok bd tb n
    by_cases hj' : j ≤ n
    · exact ih j hj'
    · obtain rfl : j = n + 1 := by omega
      refine ⟨prom_step S ns ok bd tb n ih, lowS (ih n (Nat.le_refl n)).1, ?_⟩
      cases n with
      | zero => exact fun _ _ _ => .inl fun _ _ => rfl
      | succ i => exact ini_step S ns ok bd i (ih i (Nat.le_succ i))
theorem prog_fn (S : Says p P K h) (ns : h.Ns mainGlobals mg) (ok : p.ok P = true) (bd : p.bd) (tb : ∀ q ∈ p.cs K, LamX.TabB base mg q.1 q.2) (n j : Nat) (hj : j ≤ n) : Prom p P w K mg base j := (prog_all S ns ok bd tb n j hj).1
/-- the law's call -/
theorem law_sp {n f : Nat} (hv : ∀ l : List Int, l.length ≤ 63 → ∃ h', callN p.G n true f [.scr l] ⟨0, fun _ => .no⟩ = .ok (.bl true) h') (S : Says p P K h) (H : Hp) (a : Addr) (l : List Int) (hl : l.length ≤ 63) (hT : ∀ q ∈ p.cs K, H q.2 = some (.tbl #[])) (hS : SqL K H a (l.map V.int)) :
    spF (giOf p K) (cN p.G n) true f [.ref a] H (fun v _ => v = .bl true) fun _ _ _ => False := by
  obtain ⟨h', e⟩ := hv l hl
  have tm : ∀ q ∈ p.tabs K, H q.1 = some (.tbl #[]) := fun q hq => by
    obtain ⟨d, hd, e⟩ := List.mem_map.mp hq
    rw [← e]
    exact hT (codeAd K d.dd.at_, tabAd K (codeAd K d.dd.at_)) (List.mem_map.mpr ⟨d, hd, rfl⟩)
  have nt : ∀ {b : Addr} {o : HO}, H b = some o → (∀ ps, o ≠ .tbl ps) → b ∉ (p.tabs K).map (·.1) := fun {b o} hb n z => by
    obtain ⟨q, hq, e⟩ := List.mem_map.mp z
    have := tm q hq
    rw [e, hb] at this
    exact n _ (Option.some.inj this)
  have keep : ∀ {b : Addr} {o : HO}, H b = some o → (∀ ps, o ≠ .tbl ps) → (fun b => if b ∈ (p.tabs K).map (·.1) then none else H b) b = some o := fun {b o} hb n => by
    show (if b ∈ (p.tabs K).map (·.1) then none else H b) = some o
    rw [if_neg (nt hb n)]
    exact hb
  refine ⟨⟨fun _ => 0, fun b => if b ∈ (p.tabs K).map (·.1) then none else H b, fun _ => none⟩, [.scr l], ⟨0, fun _ => .no⟩, ⟨fun b o e => ?_, fun _ _ e => (nomatch e), fun k hk => absurd hk (Nat.not_lt_zero k), fun j _ hj => absurd hj (Nat.not_lt_zero j), fun k hk => absurd hk (Nat.not_lt_zero k), fun q hq => ⟨if_pos (List.mem_map.mpr ⟨q, hq, rfl⟩), rfl, #[], tm q hq, ?_, fun pos cv hc => ?_⟩⟩, RVs.mk (rv_scr.mpr ⟨a, rfl, ?_⟩) RVs.nil, ?_⟩
  · have e : (if b ∈ (p.tabs K).map (·.1) then none else H b) = some o := e
    split at e
    · cases e
    · exact e
  · trivial
  · cases hc
  · rcases hS with hS | hS
    · refine .inl ?_
      rcases hS with hS | ⟨o, hS⟩
      · exact .inl (keep hS fun _ z => nomatch z)
      · exact .inr ⟨o, keep hS fun _ z => nomatch z⟩
    · exact .inr hS
  · have e : (cN p.G n).f true f [.scr l] ⟨0, fun _ => .no⟩ = .ok (.bl true) h' := e
    rw [e]
    exact fun w' H' _ _ x rv => rv_bl.mp rv
end
end Rk

set_option maxHeartbeats 2000000
/-! Rk.Q: reasoning about the evaluator. -/
namespace Rk
open PySem
/-- a result's end: P of a value, X of an exception -/
def Wp {α : Type} (r : Res α) (P : α → AH → Prop) (X : D → AH → Prop) : Prop := match r with
  | .ok a h => P a h
  | .exc x h => X x h
  | .stuck => False
section
variable {α β : Type} {P : α → AH → Prop} {X : D → AH → Prop}
@[simp] theorem Wp_ok {a : α} {h : AH} : Wp (.ok a h) P X = P a h := rfl
@[simp] theorem Wp_exc {a : D} {h : AH} : Wp (.exc a h : Res α) P X = X a h := rfl
@[simp] theorem Wp_stuck : Wp (.stuck : Res α) P X = False := rfl
@[simp] theorem Wp_bind {r : Res β} {f : β → AH → Res α} : Wp (r.bind f) P X = Wp r (fun a h => Wp (f a h) P X) X := by cases r <;> rfl
@[simp] theorem Wp_bindX {r : Res β} {env : Env} {f : β → AH → Res Fl} {P : Fl → AH → Prop} : Wp (r.bindX env f) P X = Wp r (fun a h => Wp (f a h) P X) (fun x h => P (.xc x env) h) := by cases r <;> rfl
@[simp] theorem Wp_noexc {r : Res α} : Wp (noexc r) P X = Wp r P (fun _ _ => False) := by cases r <;> rfl
@[simp] theorem Wp_lift {o : Option α} {h : AH} : Wp (lift o h) P X = match o with
  | some a => P a h
  | none => False := by cases o <;> rfl
theorem Wp_ite {c : Prop} [Decidable c] {a b : Res α} : Wp (if c then a else b) P X = if c then Wp a P X else Wp b P X := by
  by_cases h : c
  · rw [if_pos h, if_pos h]
  · rw [if_neg h, if_neg h]
theorem Wp.mono {r : Res α} {P' : α → AH → Prop} {X' : D → AH → Prop} (h : Wp r P X) (hP : ∀ a h, P a h → P' a h) (hX : ∀ a h, X a h → X' a h) : Wp r P' X' := by
  cases r with
  | ok a h' => exact hP _ _ h
  | exc a h' => exact hX _ _ h
  | stuck => exact h
theorem Wp.ok {r : Res α} (h : Wp r P (fun _ _ => False)) : ∃ a h', r = .ok a h' ∧ P a h' := by
  cases r with
  | ok a h' => exact ⟨a, h', rfl, h⟩
  | exc a h' => exact h.elim
  | stuck => exact h.elim
end
/-! ### steps -/
section
variable {d : D} {e : Env} {k : Nat} {h : AH}
@[simp] theorem ldV_zero : ldV (.v d :: e) 0 h = .ok d h := rfl
@[simp] theorem ldV_succ {x : Sl} : ldV (x :: e) (k + 1) h = ldV e k h := by
  unfold ldV
  rw [List.getElem?_cons_succ]
@[simp] theorem add_ii {i j : Int} : binop .Add (.int i) (.int j) h = .ok (.int (i + j)) h := rfl
@[simp] theorem sub_ii {i j : Int} : binop .Sub (.int i) (.int j) h = .ok (.int (i - j)) h := rfl
@[simp] theorem mul_ii {i j : Int} : binop .Mult (.int i) (.int j) h = if (-(2 ^ 64) < i ∧ i < 2 ^ 64) ∨ (-(2 ^ 64) < j ∧ j < 2 ^ 64) then .ok (.int (i * j)) h else .stuck := rfl
@[simp] theorem mod_ii {i j : Int} : binop .Mod (.int i) (.int j) h = if 0 < j then .ok (.int (i % j)) h else .stuck := rfl
@[simp] theorem fdiv_ii {i j : Int} : binop .FloorDiv (.int i) (.int j) h = if 0 < j ∧ j < 1073741824 then .ok (.int (i / j)) h else .stuck := rfl
@[simp] theorem pow_ii {i j : Int} : binop .Pow (.int i) (.int j) h = if 0 ≤ j ∧ j ≤ 1000000 ∧ i.natAbs < 2 ^ 64 then .ok (.int (i ^ j.toNat)) h else .stuck := rfl
@[simp] theorem add_ss {i j : List Nat} : binop .Add (.str i) (.str j) h = if i.length + j.length ≤ line then .ok (.str (i ++ j)) h else .stuck := rfl
@[simp] theorem add_ll {i j : List D} : binop .Add (.lst i) (.lst j) h = if i.length + j.length ≤ line then .ok (.lst (i ++ j)) h else .stuck := rfl
@[simp] theorem add_tt {i j : List D} : binop .Add (.tup i) (.tup j) h = if i.length + j.length ≤ line then .ok (.tup (i ++ j)) h else .stuck := rfl
@[simp] theorem lt_ii {i j : Int} : cmpop .Lt (.int i) (.int j) = some (decide (i < j)) := rfl
@[simp] theorem le_ii {i j : Int} : cmpop .LtE (.int i) (.int j) = some (decide (i ≤ j)) := rfl
@[simp] theorem gt_ii {i j : Int} : cmpop .Gt (.int i) (.int j) = some (decide (j < i)) := rfl
@[simp] theorem ge_ii {i j : Int} : cmpop .GtE (.int i) (.int j) = some (decide (j ≤ i)) := rfl
@[simp] theorem in_cs {x : Nat} {s : List Nat} : cmpop .In (.str [x]) (.str s) = some (decide (x ∈ s)) := rfl
@[simp] theorem tr_bl {b : Bool} : truth (.bl b) = some b := rfl
@[simp] theorem tr_non : truth .non = some false := rfl
@[simp] theorem ix_li {l : List D} {i : Int} : idxop (.lst l) (.int i) h = lift (L2.atI l i) h := rfl
@[simp] theorem ix_ti {l : List D} {i : Int} : idxop (.tup l) (.int i) h = lift (L2.atI l i) h := rfl
@[simp] theorem ix_si {s : List Nat} {i : Int} : idxop (.str s) (.int i) h = if s.length ≤ line then lift ((L2.atI s i).map fun c => .str [c]) h else .stuck := rfl
@[simp] theorem ix_r {n : Nat} {i : Int} : idxop (.ref n) (.int i) h = match h.cell n with
    | .lst l => lift (L2.atI l i) h
    | _ => .stuck := rfl
@[simp] theorem len_r {n : Nat} : biop .len (.ref n) h = match h.cell n with
      | .lst l => .ok (.int l.length) h
      | _ => .stuck := rfl
theorem ix_ri {n : Nat} {l : List D} {i : Int} (hc : h.cell n = .lst l) : idxop (.ref n) (.int i) h = lift (L2.atI l i) h := by
  show (match h.cell n with
    | .lst l => lift (L2.atI l i) h
    | _ => .stuck) = _
  rw [hc]
@[simp] theorem len_s {s : List Nat} : biop .len (.str s) h = if s.length ≤ line then .ok (.int s.length) h else .stuck := rfl
@[simp] theorem len_l {s : List D} : biop .len (.lst s) h = .ok (.int s.length) h := rfl
@[simp] theorem len_t {s : List D} : biop .len (.tup s) h = .ok (.int s.length) h := rfl
@[simp] theorem int_i {i : Int} : biop .int (.int i) h = .ok (.int i) h := rfl
@[simp] theorem all_l {l : List D} : biop .all (.lst l) h = lift ((bls l).map fun b => .bl (b.all id)) h := rfl
@[simp] theorem any_l {l : List D} : biop .any (.lst l) h = lift ((bls l).map fun b => .bl (b.any id)) h := rfl
@[simp] theorem tuple_l {l : List D} : biop .tuple (.lst l) h = .ok (.tup l) h := rfl
@[simp] theorem list_t {l : List D} : biop .list (.tup l) h = .ok (.lst l) h := rfl
@[simp] theorem sl_s {s : List Nat} {a b : Option Int} : slcop (.str s) a b h = if s.length ≤ line then .ok (.str (cut s a b)) h else .stuck := rfl
@[simp] theorem sl_l {s : List D} {a b : Option Int} : slcop (.lst s) a b h = .ok (.lst (cut s a b)) h := rfl
@[simp] theorem sl_t {s : List D} {a b : Option Int} : slcop (.tup s) a b h = .ok (.tup (cut s a b)) h := rfl
@[simp] theorem sl_scr {s : List Int} {a b : Option Int} : slcop (.scr s) a b h = .ok (.lst ((cut s a b).map .int)) h := rfl
@[simp] theorem join_l {s : List Nat} {l : List D} : mtop .join (.str s) (.lst l) h = match strL l with
      | some ys => if sumN ys + ys.length * s.length ≤ line then .ok (.str (TL.joinL s ys)) h else .stuck
      | none => .stuck := rfl
@[simp] theorem src_l {l : List D} : srcOf (.lst l) h = some (.fix l) := rfl
@[simp] theorem src_t {l : List D} : srcOf (.tup l) h = some (.fix l) := rfl
@[simp] theorem src_s {l : List Nat} : srcOf (.str l) h = some (.fix (l.map fun c => .str [c])) := rfl
@[simp] theorem len_fix {l : List D} : Src.len (.fix l) h = l.length := rfl
@[simp] theorem bind_one {i : Nat} {v : D} : bindT [i] v e = some (e.set i (.v v)) := rfl
end
/-! ### comprehensions -/
theorem mapI_all (l : List D) (f : D → AH → Res (Option D)) (h : AH) : mapI (.fix l) f (l.length + 1) 0 h = mapL f l h := by
  rw [mapI_fix l f l.length 0 h rfl]; rfl
theorem mapI_n {l : List D} {f : D → AH → Res (Option D)} {h : AH} {k : Nat} (e : k = l.length + 1) : mapI (.fix l) f k 0 h = mapL f l h := by rw [e, mapI_all]
theorem forI_all (l : List D) (f : D → Env → AH → Res Fl) (env : Env) (h : AH) : forI (.fix l) f (l.length + 1) 0 env h = forL f l env h := by
  rw [forI_fix l f l.length 0 env h rfl]; rfl
theorem mapL_pure {f : D → AH → Res (Option D)} {h : AH} {k : D → D} : ∀ {l : List D}, (∀ x ∈ l, f x h = .ok (some (k x)) h) → mapL f l h = .ok (l.map k) h
  | [], _ => rfl
  | x :: l, H => by
    unfold mapL
    rw [H x List.mem_cons_self, bind_ok, mapL_pure fun y hy => H y (List.mem_cons_of_mem _ hy), bind_ok]
    rfl
/-- .. with an invariant of the heap -/
theorem mapL_inv {f : D → AH → Res (Option D)} {I : AH → Prop} {p : D → Prop} {X : D → AH → Prop} : ∀ {l : List D} {h : AH} {P : List D → AH → Prop}, I h → (∀ x ∈ l, ∀ h, I h → Wp (f x h) (fun o h' => I h' ∧ ∃ y, o = some y ∧ p y) X) →
    (∀ ys h', I h' → (∀ y ∈ ys, p y) → ys.length = l.length → P ys h') → Wp (mapL f l h) P X
  | [], h, P, hI, _, hP => hP [] h hI (fun _ z => nomatch z) rfl
  | x :: l, h, P, hI, H, hP => by
    unfold mapL
    rw [Wp_bind]
    refine (H x List.mem_cons_self h hI).mono (fun o h' q => ?_) fun _ _ q => q
    obtain ⟨hI', y, rfl, py⟩ := q
    rw [Wp_bind]
    refine mapL_inv hI' (fun z hz => H z (List.mem_cons_of_mem _ hz)) fun ys h'' hI'' hys hl => ?_
    rw [Wp_ok]
    refine hP _ _ hI'' (fun z hz => ?_) (by show (y :: ys).length = _; rw [List.length_cons, List.length_cons, hl])
    rcases List.mem_cons.mp (show z ∈ y :: ys from hz) with rfl | hz
    · exact py
    · exact hys z hz
/-- a for over values that stay, with an invariant of the slots and the heap -/
theorem forL_inv {f : D → Env → AH → Res Fl} {X : D → AH → Prop} (I : Nat → Env → AH → Prop) {P : Fl → AH → Prop} : ∀ {l : List D} {k : Nat} {env : Env} {h : AH}, I k env h →
    (∀ (i : Nat) x env h, l[i]? = some x → I (k + i) env h → Wp (f x env h) (fun r h' => match r with
      | .nx e => I (k + i + 1) e h'
      | .ct e => I (k + i + 1) e h'
      | .bk e => P (.nx e) h'
      | r => P r h') X) → (∀ env h, I (k + l.length) env h → P (.nx env) h) → Wp (forL f l env h) P X
  | [], k, env, h, hI, _, hP => hP env h hI
  | x :: l, k, env, h, hI, H, hP => by
    unfold forL
    rw [Wp_bind]
    refine (H 0 x env h rfl hI).mono (fun r h' q => ?_) fun _ _ q => q
    have go : ∀ e, I (k + 0 + 1) e h' → Wp (forL f l e h') P X := fun e he => forL_inv I (k := k + 1) he (fun i y env h hy hI' => by
      have := H (i + 1) y env h (by simpa using hy) (by rw [show k + (i + 1) = k + 1 + i by omega]; exact hI')
      rw [show k + (i + 1) + 1 = k + 1 + i + 1 by omega] at this
      exact this) fun env h z => hP env h (by rw [List.length_cons, show k + (l.length + 1) = k + 1 + l.length by omega]; exact z)
    cases r with
    | nx e => exact go e q
    | ct e => exact go e q
    | _ => exact q
/-! ### the dice -/
/-- a deal stands at r -/
def Deal (r : Nat) (h : AH) : Prop := ∃ (cs : List Int) (a b m : Int), h.cell r = .lst [.lst (cs.map .int), .int a, .int b, .int m] ∧ 0 ≤ a
theorem callN_succ (g : G) (n : Nat) (c : Bool) (f : Nat) (vs : List D) (h : AH) : (cN g (n + 1)).f c f vs h = match g.fn f with
    | some fd => if vs.length = fd.np then fin (evSs g (cN g n) c fd.body (vs.map .v ++ List.replicate (fd.nb - fd.np) .no) h) else .stuck
    | none => .stuck := rfl
end Rk

set_option maxHeartbeats 4000000
/-! Rk.R: the dice of all laws. -/
namespace Rk
open PySem
def dealB : Ss := (.cons (.asg 1 (.cmpr (.bi .int (.var 3)) [3] (.seq (.slc (.var 0) .no (.so (.cst (.int 63))))) .nil))
  (.cons (.asg 2 (.bin .Add (.cst (.int 10028)) (.bin .Mult (.cst (.int 89)) (.bi .len (.var 1)))))
  (.cons (.for [3] (.seq (.var 1)) (.cons (.asg 2 (.bin .Mod (.bi .int (.bin .Add (.bin .Mult (.var 2) (.cst (.int 7919))) (.var 3))) (.cst (.int 2147483497))))
  .nil))
  (.cons (.ret (.hls (.cons (.var 1) (.cons (.cst (.int 0)) (.cons (.cst (.int 0)) (.cons (.var 2) .nil))))))
  .nil))))
def pickB : Ss := (.cons (.ifs (.cmp .Lt (.idx (.var 0) (.cst (.int 2))) (.cst (.int 2))) (.cons (.seti (.var 0) (.cst (.int 1)) (.bin .Add (.idx (.var 0) (.cst (.int 1))) (.cst (.int 1))))
  (.cons (.asg 3 (.bin .Add (.idx (.var 0) (.cst (.int 3))) (.bin .Mult (.idx (.var 0) (.cst (.int 1))) (.cst (.int 9343)))))
  (.cons (.ifs (.cmp .LtE (.idx (.var 0) (.cst (.int 1))) (.bi .len (.idx (.var 0) (.cst (.int 0))))) (.cons (.asg 3 (.idx (.idx (.var 0) (.cst (.int 0))) (.bin .Sub (.idx (.var 0) (.cst (.int 1))) (.cst (.int 1)))))
  .nil) .nil)
  (.cons (.ifs (.or (.cons (.cmp .Gt (.idx (.var 0) (.cst (.int 1))) (.bi .len (.idx (.var 0) (.cst (.int 0))))) (.cons (.cmp .Lt (.var 3) (.bin .Pow (.cst (.int 10)) (.cst (.int 18)))) .nil))) (.cons (.asg 4 (.bin .Mod (.bi .int (.bin .Add (.bin .Add (.bin .Mult (.var 3) (.cst (.int 47303))) (.bin .Mult (.idx (.var 0) (.cst (.int 1))) (.cst (.int 38219)))) (.idx (.var 0) (.cst (.int 3))))) (.cst (.int 2147483647))))
  (.cons (.asg 5 (.bin .Mod (.bi .int (.bin .Add (.bin .Mult (.var 4) (.var 4)) (.bin .Mult (.idx (.var 0) (.cst (.int 1))) (.cst (.int 51041))))) (.cst (.int 998244353))))
  (.cons (.ret (.bin .Mod (.bin .FloorDiv (.bin .Mod (.bi .int (.bin .Add (.bin .Mult (.var 5) (.cst (.int 46643))) (.var 4))) (.cst (.int 2147483563))) (.cst (.int 17))) (.var 1)))
  .nil))) .nil)
  (.cons (.seti (.var 0) (.cst (.int 2)) (.var 3))
  .nil))))) .nil)
  (.cons (.asg 2 (.bin .Mod (.bi .int (.idx (.var 0) (.cst (.int 2)))) (.var 1)))
  (.cons (.seti (.var 0) (.cst (.int 2)) (.bin .FloorDiv (.bi .int (.idx (.var 0) (.cst (.int 2)))) (.var 1)))
  (.cons (.ret (.var 2))
  .nil))))
def ofB (k : Nat) : Ss := (.cons (.ret (.idx (.var 1) (.cal k (.cons (.var 0) (.cons (.bi .len (.var 1)) .nil)) .nil [0, 1])))
  .nil)
def sameB : Ss := (.cons (.ret (.same 0 1))
  .nil)
/-- nothing but the cell at r has changed -/
def But (r : Nat) (h h' : AH) : Prop := h'.nx = h.nx ∧ ∀ j, j ≠ r → h'.cell j = h.cell j
theorem But.refl (r : Nat) (h : AH) : But r h h := ⟨rfl, fun _ _ => rfl⟩
theorem But.trans {r : Nat} {h h1 h2 : AH} (a : But r h h1) (b : But r h1 h2) : But r h h2 := ⟨b.1.trans a.1, fun j hj => (b.2 j hj).trans (a.2 j hj)⟩
theorem But.put (r : Nat) (h : AH) (c : Cell) : But r h (h.put r c) := ⟨rfl, fun j hj => if_neg hj⟩
theorem put_at (h : AH) (r : Nat) (c : Cell) : (h.put r c).cell r = c := if_pos rfl
theorem deq_int (a b : Int) : deq (.int a) (.int b) = (a == b) := by unfold deq; rfl
theorem lines : (63 : Nat) ≤ line := by decide
theorem ixN41 : L2.ixN (0 + 1 + 1 + 1 + 1) 1 = some 1 := rfl
theorem ixN42 : L2.ixN (0 + 1 + 1 + 1 + 1) 2 = some 2 := rfl
theorem mc1 : (-(2 ^ 64) < (9343 : Int) ∧ (9343 : Int) < 2 ^ 64) = True := by decide
section
variable {g : G} {c : Bool} {n i : Nat} {P : D → AH → Prop} {X : D → AH → Prop}
theorem at0 {α : Type} (a b c d : α) : L2.atI [a, b, c, d] 0 = some a := rfl
theorem at1 {α : Type} (a b c d : α) : L2.atI [a, b, c, d] 1 = some b := rfl
theorem at2 {α : Type} (a b c d : α) : L2.atI [a, b, c, d] 2 = some c := rfl
theorem at3 {α : Type} (a b c d : α) : L2.atI [a, b, c, d] 3 = some d := rfl
theorem wp_pick (hf : g.fn i = some ⟨2, 6, pickB⟩) {r : Nat} {h : AH} {m : Int} (hd : Deal r h) (h0 : 0 < m) (h1 : m < 1073741824) (hP : ∀ k h', 0 ≤ k → k < m → Deal r h' → But r h h' → P (.int k) h') : Wp ((cN g (n + 1)).f c i [.ref r, .int m] h) P X := by
  obtain ⟨cs, a, b, mk, hc, ha⟩ := hd
  rw [callN_succ, hf]
  simp only [List.length_cons, List.length_nil, pickB, evSs, evS, evT, evE, List.map_cons, List.map_nil, List.cons_append, List.nil_append, List.replicate, bind_ok, bindX_ok, ldV_zero, ldV_succ, ix_r, hc, at2, lt_ii, Option.map_some, lift, tr_bl, if_true, fin, Wp_bind, Wp_noexc]
  have mi : ∀ (e : Int) (k : Int), (-(2 ^ 64) < k ∧ k < 2 ^ 64) → ∀ h : AH, binop .Mult (.int e) (.int k) h = .ok (.int (e * k)) h := fun e k hk h => by rw [mul_ii, if_pos (.inr hk)]
  have c1 : (-(2 ^ 64) < (9343 : Int) ∧ (9343 : Int) < 2 ^ 64) := by decide
  have c2 : (-(2 ^ 64) < (47303 : Int) ∧ (47303 : Int) < 2 ^ 64) := by decide
  have c3 : (-(2 ^ 64) < (38219 : Int) ∧ (38219 : Int) < 2 ^ 64) := by decide
  have c4 : (-(2 ^ 64) < (51041 : Int) ∧ (51041 : Int) < 2 ^ 64) := by decide
  have c5 : (-(2 ^ 64) < (46643 : Int) ∧ (46643 : Int) < 2 ^ 64) := by decide
  have md : ∀ (e k : Int), 0 < k → ∀ h : AH, binop .Mod (.int e) (.int k) h = .ok (.int (e % k)) h := fun e k hk h => by rw [mod_ii, if_pos hk]
  have fd : ∀ (e k : Int), 0 < k → k < 1073741824 → ∀ h : AH, binop .FloorDiv (.int e) (.int k) h = .ok (.int (e / k)) h := fun e k hk hk2 h => by rw [fdiv_ii, if_pos ⟨hk, hk2⟩]
  have pw : ∀ h : AH, binop .Pow (.int 10) (.int 18) h = .ok (.int (10 ^ 18)) h := fun h => rfl
  have sq : ∀ (e : Int), 0 ≤ e → e < 2147483647 → ∀ h : AH, binop .Mult (.int e) (.int e) h = .ok (.int (e * e)) h := fun e h0 h1 h => mi e e ⟨by omega, by omega⟩ h
  have tail : ∀ (h' : AH) (x : Int), Deal r h' → But r h h' → 0 ≤ x % m ∧ x % m < m := fun h' x _ _ => ⟨Int.emod_nonneg _ (by omega), Int.emod_lt_of_pos _ h0⟩
  by_cases hb : b < 2
  · simp only [hb, hc, decide_true, if_true, bind_ok, bindX_ok, at1, add_ii, List.length_cons, List.length_nil, ixN41, List.set_cons_succ, List.set_cons_zero, ldV_zero, ldV_succ, ix_r, put_at, at3, at0, mi _ _ c1, len_l, List.length_map, Option.map_some, lift, tr_bl, le_ii, or_true]
    by_cases hl : a + 1 ≤ (cs.length : Int)
    · obtain ⟨v, hv⟩ : ∃ v, cs[a.toNat]? = some v := ⟨cs[a.toNat]'(by omega), List.getElem?_eq_getElem (by omega)⟩
      have hv2 : L2.atI (cs.map D.int) (a + 1 - 1) = some (.int v) := by
        unfold L2.atI L2.ixN
        rw [if_pos (by omega), if_pos (by rw [List.length_map]; omega), Option.bind_some, List.getElem?_map, show (a + 1 - 1).toNat = a.toNat by omega, hv]
        rfl
      simp only [hl, decide_true, if_true, bind_ok, bindX_ok, ldV_zero, ldV_succ, ix_r, put_at, at0, at1, sub_ii, ix_li, lift, hv2, List.set_cons_succ, List.set_cons_zero, evOr, evE, len_l, List.length_map, gt_ii, Option.map_some, tr_bl, pw, lt_ii]
      have hg : ¬ ((cs.length : Int) < a + 1) := by omega
      simp only [hg, decide_false, bind_ok, bindX_ok, ldV_zero, ldV_succ, pw, lt_ii, Option.map_some, tr_bl]
      by_cases hs : v < 10 ^ 18
      · simp only [hs, decide_true, if_true, bind_ok, bindX_ok]
        have q0 := Int.emod_nonneg (v * 47303 + (a + 1) * 38219 + mk) (show (2147483647 : Int) ≠ 0 by decide)
        have q1 := Int.emod_lt_of_pos (v * 47303 + (a + 1) * 38219 + mk) (show (0 : Int) < 2147483647 by decide)
        simp only [bind_ok, bindX_ok, ldV_zero, ldV_succ, ix_r, put_at, at0, at1, at2, at3, add_ii, int_i, lift, List.set_cons_succ, List.set_cons_zero, if_true, decide_true, decide_false, Option.map_some, tr_bl, Wp_ok, Wp_bind, Wp_bindX, List.length_cons, List.length_nil, ixN41, ixN42, mi _ _ c2, mi _ _ c3, md _ 2147483647 (by decide), sq _ q0 q1, mi _ _ c4, md _ 998244353 (by decide), mi _ _ c5, md _ 2147483563 (by decide), fd _ 17 (by decide) (by decide), md _ m h0]
        have dl : Deal r (h.put r (Cell.lst [D.lst (List.map D.int cs), D.int (a + 1), D.int b, D.int mk])) := ⟨cs, a + 1, b, mk, put_at _ _ _, by omega⟩
        exact hP _ _ (Int.emod_nonneg _ (by omega)) (Int.emod_lt_of_pos _ h0) dl (But.put _ _ _)
      · simp only [hs, decide_false, Bool.false_eq_true, if_false, bind_ok, bindX_ok, ldV_zero, ldV_succ, ix_r, put_at, at0, at1, at2, at3, add_ii, int_i, lift, List.set_cons_succ, List.set_cons_zero, if_true, decide_true, decide_false, Option.map_some, tr_bl, Wp_ok, Wp_bind, Wp_bindX, List.length_cons, List.length_nil, ixN41, ixN42, md _ m h0, fd _ m h0 h1]
        refine hP _ _ (Int.emod_nonneg _ (by omega)) (Int.emod_lt_of_pos _ h0) ⟨cs, a + 1, v / m, mk, put_at _ _ _, by omega⟩ ?_
        exact ((But.put _ _ _).trans (But.put _ _ _)).trans (But.put _ _ _)
    · have hg : (cs.length : Int) < a + 1 := by omega
      simp only [hl, hg, decide_true, decide_false, Bool.false_eq_true, if_false, if_true, bind_ok, bindX_ok, ldV_zero, ldV_succ, ix_r, put_at, at0, at1, lift, evOr, evE, len_l, List.length_map, gt_ii, Option.map_some, tr_bl]
      have q0 := Int.emod_nonneg ((mk + (a + 1) * 9343) * 47303 + (a + 1) * 38219 + mk) (show (2147483647 : Int) ≠ 0 by decide)
      have q1 := Int.emod_lt_of_pos ((mk + (a + 1) * 9343) * 47303 + (a + 1) * 38219 + mk) (show (0 : Int) < 2147483647 by decide)
      simp only [bind_ok, bindX_ok, ldV_zero, ldV_succ, ix_r, put_at, at0, at1, at2, at3, add_ii, int_i, lift, List.set_cons_succ, List.set_cons_zero, if_true, decide_true, decide_false, Option.map_some, tr_bl, Wp_ok, Wp_bind, Wp_bindX, List.length_cons, List.length_nil, ixN41, ixN42, mi _ _ c2, mi _ _ c3, md _ 2147483647 (by decide), sq _ q0 q1, mi _ _ c4, md _ 998244353 (by decide), mi _ _ c5, md _ 2147483563 (by decide), fd _ 17 (by decide) (by decide), md _ m h0]
      have dl : Deal r (h.put r (Cell.lst [D.lst (List.map D.int cs), D.int (a + 1), D.int b, D.int mk])) := ⟨cs, a + 1, b, mk, put_at _ _ _, by omega⟩
      exact hP _ _ (Int.emod_nonneg _ (by omega)) (Int.emod_lt_of_pos _ h0) dl (But.put _ _ _)
  · simp only [hb, hc, decide_false, Bool.false_eq_true, if_false, bind_ok, bindX_ok, ldV_zero, ldV_succ, ix_r, put_at, at0, at1, at2, at3, add_ii, int_i, lift, List.set_cons_succ, List.set_cons_zero, if_true, decide_true, decide_false, Option.map_some, tr_bl, Wp_ok, Wp_bind, Wp_bindX, List.length_cons, List.length_nil, ixN41, ixN42, md _ m h0, fd _ m h0 h1]
    exact hP _ _ (Int.emod_nonneg _ (by omega)) (Int.emod_lt_of_pos _ h0) ⟨cs, a, b / m, mk, put_at _ _ _, ha⟩ (But.put _ _ _)
theorem cut_len {α : Type} (l : List α) (a b : Option Int) : (cut l a b).length ≤ l.length := by
  unfold cut
  rw [List.length_take, List.length_drop]
  omega
theorem wp_deal (hf : g.fn i = some ⟨1, 4, dealB⟩) {l : List Int} {h : AH} (hl : l.length ≤ 63) (hP : ∀ h', h'.nx = h.nx + 1 → (∀ j, j ≠ h.nx → h'.cell j = h.cell j) → Deal h.nx h' → P (.ref h.nx) h') : Wp ((cN g (n + 1)).f c i [.scr l] h) P X := by
  have hlen : (List.map D.int (cut l none (some 63))).length ≤ line := by
    rw [List.length_map]
    exact Nat.le_trans (cut_len _ _ _) (Nat.le_trans hl lines)
  have mi : ∀ (e : Int) (k : Int), (-(2 ^ 64) < k ∧ k < 2 ^ 64) → ∀ h : AH, binop .Mult (.int e) (.int k) h = .ok (.int (e * k)) h := fun e k hk h => by rw [mul_ii, if_pos (.inr hk)]
  have mj : ∀ (e : Int) (k : Int), (-(2 ^ 64) < e ∧ e < 2 ^ 64) → ∀ h : AH, binop .Mult (.int e) (.int k) h = .ok (.int (e * k)) h := fun e k hk h => by rw [mul_ii, if_pos (.inl hk)]
  have c1 : (-(2 ^ 64) < (7919 : Int) ∧ (7919 : Int) < 2 ^ 64) := by decide
  have c2 : (-(2 ^ 64) < (89 : Int) ∧ (89 : Int) < 2 ^ 64) := by decide
  have md : ∀ (e k : Int), 0 < k → ∀ h : AH, binop .Mod (.int e) (.int k) h = .ok (.int (e % k)) h := fun e k hk h => by rw [mod_ii, if_pos hk]
  rw [callN_succ, hf]
  simp only [List.length_cons, List.length_nil, dealB, evSs, evS, evE, evEs, evIt, evOp, evIfs, List.map_cons, List.map_nil, List.cons_append, List.nil_append, List.replicate, bind_ok, bindX_ok, ldV_zero, ldV_succ, sl_scr, lift, src_l, len_fix, if_true, fin, Wp_bind, Wp_noexc, hlen, bind_one, List.set_cons_succ, List.set_cons_zero, mapI_all]
  rw [mapL_pure (k := id) (fun x hx => by
    obtain ⟨v, _, rfl⟩ := List.mem_map.mp hx
    rfl)]
  simp only [noexc, Wp_ok, bind_ok, bindX_ok, List.map_id, ldV_zero, ldV_succ, len_l, mj _ _ c2, add_ii, src_l, len_fix, forI_all, lift, List.set_cons_succ, List.set_cons_zero, Wp_bind]
  refine forL_inv (k := 0) (fun _ env h' => h' = h ∧ ∃ mk v, env = [.v (.scr l), .v (.lst (List.map D.int (cut l none (some 63)))), .v (.int mk), v]) ⟨rfl, _, _, rfl⟩ ?_ ?_
  · rintro j x env h' hx ⟨rfl, mk, v, rfl⟩
    obtain ⟨z, _, rfl⟩ := List.mem_map.mp (List.mem_of_getElem? hx)
    simp only [bind_one, List.set_cons_succ, List.set_cons_zero, bind_ok, bindX_ok, ldV_zero, ldV_succ, mi _ _ c1, add_ii, int_i, md _ 2147483497 (by decide), Wp_ok]
    exact ⟨trivial, _, _, rfl⟩
  · rintro env h' ⟨rfl, mk, v, rfl⟩
    simp only [bind_ok, bindX_ok, ldV_zero, ldV_succ, List.length_cons, List.length_nil, Wp_ok, Wp_bind, Wp_bindX]
    rw [if_pos (show 0 + 1 + 1 + 1 + 1 ≤ line by decide)]
    refine hP _ rfl (fun j hj => if_neg hj) ⟨cut l none (some 63), 0, 0, mk, if_pos rfl, by decide⟩
/-- _law_of of a list, of a text -/
theorem wp_of_l {k : Nat} (hk : g.fn k = some ⟨2, 6, pickB⟩) (hf : g.fn i = some ⟨2, 2, ofB k⟩) (hd0 : g.dfl k = []) {r : Nat} {h : AH} {l : List D} (hd : Deal r h) (hl : l ≠ []) (hm : l.length < 1073741824) (hP : ∀ x h', x ∈ l → Deal r h' → But r h h' → P x h') : Wp ((cN g (n + 1 + 1)).f c i [.ref r, .lst l] h) P X := by
  have pos : 0 < l.length := List.length_pos_iff.mpr hl
  rw [callN_succ, hf]
  simp only [List.length_cons, List.length_nil, ofB, evSs, evS, evE, evEs, List.map_cons, List.map_nil, List.cons_append, List.nil_append, bind_ok, bindX_ok, ldV_zero, ldV_succ, len_l, if_true, fin, Wp_bind, Wp_noexc, Wp_bindX, hd0, List.append_nil, pick, List.getElem?_cons_zero, List.getElem?_cons_succ, List.replicate]
  refine wp_pick hk hd (by omega) (by omega) fun kk h' k0 k1 dl bt => ?_
  have hx : L2.atI l kk = some (l[kk.toNat]'(by omega)) := by
    unfold L2.atI L2.ixN
    rw [if_pos k0, if_pos k1, Option.bind_some, List.getElem?_eq_getElem]
  simp only [ix_li, lift, hx, Wp_ok]
  exact hP _ _ (List.getElem_mem _) dl bt
theorem wp_of_s {k : Nat} (hk : g.fn k = some ⟨2, 6, pickB⟩) (hf : g.fn i = some ⟨2, 2, ofB k⟩) (hd0 : g.dfl k = []) {r : Nat} {h : AH} {l : List Nat} (hd : Deal r h) (hl : l ≠ []) (hm : l.length ≤ line) (hP : ∀ x h', x ∈ l → Deal r h' → But r h h' → P (.str [x]) h') : Wp ((cN g (n + 1 + 1)).f c i [.ref r, .str l] h) P X := by
  have pos : 0 < l.length := List.length_pos_iff.mpr hl
  have hm2 : l.length < 1073741824 := Nat.lt_of_le_of_lt hm (by decide)
  rw [callN_succ, hf]
  simp only [List.length_cons, List.length_nil, ofB, evSs, evS, evE, evEs, List.map_cons, List.map_nil, List.cons_append, List.nil_append, bind_ok, bindX_ok, ldV_zero, ldV_succ, len_s, hm, if_true, fin, Wp_bind, Wp_noexc, Wp_bindX, hd0, List.append_nil, pick, List.getElem?_cons_zero, List.getElem?_cons_succ, List.replicate]
  refine wp_pick hk hd (by omega) (by omega) fun kk h' k0 k1 dl bt => ?_
  have hx : L2.atI l kk = some (l[kk.toNat]'(by omega)) := by
    unfold L2.atI L2.ixN
    rw [if_pos k0, if_pos k1, Option.bind_some, List.getElem?_eq_getElem]
  simp only [ix_si, hm, if_true, lift, hx, Option.map_some, Wp_ok]
  exact hP _ _ (List.getElem_mem _) dl bt
/-- _law_same -/
theorem same_ok (hf : g.fn i = some ⟨2, 2, sameB⟩) {h : AH} {x y : D} {w : Nat} (e : x = y) (hs : dsame x x = true) (hw : wt x = some w) (hl : w ≤ 60000) (hd : dpt 60 x = true) : (cN g (n + 1)).f c i [x, y] h = .ok (.bl true) h := by
  subst e
  rw [callN_succ, hf]
  simp only [List.length_cons, List.length_nil, sameB, evSs, evS, evE, List.map_cons, List.map_nil, List.cons_append, List.nil_append, List.replicate, bind_ok, bindX_ok, ldV_zero, ldV_succ, if_true, fin, noexc, sameop, hs, hw, hl, hd, and_self]
end
end Rk

set_option maxHeartbeats 4000000
/-! Rk.S: words, years, names of all laws. -/
namespace Rk
open PySem
def AZ : List Nat := [97, 98, 99, 100, 101, 102, 103, 104, 105, 106, 107, 108, 109, 110, 111, 112, 113, 114, 115, 116, 117, 118, 119, 120, 121, 122]
def numB : Ss := (.cons (.ret (.and (.cons (.isi (.var 0) .int) (.cons (.not (.isi (.var 0) .bool)) (.cons (.cmp2 .LtE .LtE (.var 1) (.var 0) (.var 2)) .nil)))))
  .nil)
def wordB (gl : Nat) : Ss := (.cons (.ret (.and (.cons (.isi (.var 0) .str) (.cons (.cmp2 .LtE .LtE (.cst (.int 1)) (.bi .len (.var 0)) (.cst (.int 8))) (.cons (.bi .all (.cmpr (.cmp .In (.var 1) (.glb gl)) [1] (.seq (.var 0)) .nil)) .nil)))))
  .nil)
def wordsB (w : Nat) : Ss := (.cons (.ret (.and (.cons (.isi (.var 0) .tuple) (.cons (.cmp2 .LtE .LtE (.cst (.int 1)) (.bi .len (.var 0)) (.cst (.int 4))) (.cons (.bi .all (.cmpr (.cal w (.cons (.var 1) .nil) .nil [0]) [1] (.seq (.var 0)) .nil)) .nil)))))
  .nil)
def yearB (nu : Nat) : Ss := (.cons (.ret (.cal nu (.cons (.var 0) (.cons (.cst (.int 0)) (.cons (.cst (.int 9999)) .nil))) .nil [0, 1, 2]))
  .nil)
def azB : Ss := (.cons (.ret (.cst (.str AZ))) .nil)
def wordSoB (le : Nat) : Ss := (.cons (.ifs (.or (.cons (.not (.isi (.var 0) .str)) (.cons (.not (.cmp2 .LtE .LtE (.cst (.int 1)) (.bi .len (.var 0)) (.cst (.int 8)))) .nil))) (.cons (.ret (.cst (.bl false)))
  .nil) .nil)
  (.cons (.ret (.bi .all (.cmpr (.cmp .In (.var 1) (.cal le .nil .nil [])) [1] (.seq (.var 0)) .nil)))
  .nil))
def namesB (pk fo le : Nat) : Ss := (.cons (.asg 2 (.cal le .nil .nil []))
  (.cons (.asg 3 (.mt .join (.cst (.str [])) (.cmpr (.cal fo (.cons (.var 0) (.cons (.var 2) .nil)) .nil [0, 1]) [6] (.rng (.cal pk (.cons (.var 0) (.cons (.cst (.int 7)) .nil)) .nil [0, 1])) .nil)))
  (.cons (.asgt [4, 5] (.tup (.cons (.cal pk (.cons (.var 0) (.cons (.bin .Add (.bi .len (.var 3)) (.cst (.int 1))) .nil)) .nil [0, 1]) (.cons (.cal pk (.cons (.var 0) (.cons (.cst (.int 26)) .nil)) .nil [0, 1]) .nil))))
  (.cons (.ret (.cmpr (.bin .Add (.bin .Add (.slc (.var 3) .no (.so (.var 4))) (.idx (.var 2) (.bin .Mod (.bi .int (.bin .Add (.var 5) (.bin .Mult (.cst (.int 5)) (.var 6)))) (.cst (.int 26))))) (.slc (.var 3) (.so (.var 4)) .no)) [6] (.rng (.var 1)) .nil))
  .nil))))
def isW : D → Bool
  | .str s => decide (1 ≤ s.length) && decide (s.length ≤ 8) && s.all fun c => decide (c ∈ AZ)
  | _ => false
/-- data whose kind is known -/
def plain : D → Bool
  | .non => true
  | .bl _ => true
  | .int _ => true
  | .str s => decide (s.length ≤ line)
  | .tup _ => true
  | .lst _ => true
  | _ => false
theorem bls_map {p : D → Bool} : ∀ l : List D, bls (l.map fun x => .bl (p x)) = some (l.map p)
  | [] => rfl
  | x :: l => by
    show (bls (l.map fun x => .bl (p x))).map (p x :: ·) = _
    rw [bls_map l]
    rfl
theorem e8 : (8 : Nat) ≤ line := by decide
section
variable {g : G} {n i : Nat} {h : AH} {P : D → AH → Prop} {X : D → AH → Prop}
theorem az_eq (hf : g.fn i = some ⟨0, 0, azB⟩) : (cN g (n + 1)).f true i [] h = .ok (.str AZ) h := by
  rw [callN_succ, hf]
  simp only [List.length_nil, azB, evSs, evS, evE, List.map_nil, List.nil_append, List.replicate, bind_ok, bindX_ok, if_true, fin, noexc]
theorem word_eq {gl : Nat} (hf : g.fn i = some ⟨1, 2, wordB gl⟩) (hg : g.glb gl = .str AZ) {d : D} (hp : plain d = true) : (cN g (n + 1)).f true i [d] h = .ok (.bl (isW d)) h := by
  rw [callN_succ, hf]
  simp only [List.length_cons, List.length_nil, wordB, evSs, evS, evE, evAnd, evIt, evIfs, List.map_cons, List.map_nil, List.cons_append, List.nil_append, List.replicate, bind_ok, bindX_ok, ldV_zero, ldV_succ, if_true, fin]
  cases d with
  | str s =>
    have hl : s.length ≤ line := of_decide_eq_true hp
    simp only [isk, Option.map_some, lift, bind_ok, tr_bl, len_s, hl, if_true, le_ii]
    by_cases h1 : 1 ≤ s.length
    · have h1' : (1 : Int) ≤ (s.length : Int) := by omega
      by_cases h2 : s.length ≤ 8
      · have h2' : (s.length : Int) ≤ 8 := by omega
        simp only [h1', h2', decide_true, Option.map_some, lift, bind_ok, tr_bl, src_s, len_fix, List.length_map, Nat.le_trans h2 e8, if_true, bind_one, List.set_cons_succ, List.set_cons_zero, ldV_zero, ldV_succ, hg]
        rw [show s.length = (s.map fun c => D.str [c]).length by rw [List.length_map], mapI_all]
        rw [mapL_pure (k := fun x => .bl (match x with
          | .str [c] => decide (c ∈ AZ)
          | _ => false)) (fun x hx => by
          obtain ⟨c, _, rfl⟩ := List.mem_map.mp hx
          rfl)]
        simp only [noexc, bind_ok, all_l, bls_map, Option.map_some, lift, bindX_ok, isW, h1, h2, decide_true, Bool.true_and]
        simp only [List.map_map, List.all_map]
        rfl
      · have h2' : ¬ (s.length : Int) ≤ 8 := by omega
        simp only [h1', h2', decide_true, decide_false, Option.map_some, lift, bind_ok, tr_bl, noexc, bindX_ok, isW, h2, Bool.and_false, Bool.false_and]
    · have h1' : ¬ (1 : Int) ≤ (s.length : Int) := by omega
      simp only [h1', decide_false, Option.map_some, lift, bind_ok, tr_bl, noexc, bindX_ok, isW, h1, Bool.false_and]
  | non => rfl
  | bl b => rfl
  | int b => rfl
  | tup b => rfl
  | lst b => rfl
  | _ => cases hp
theorem words_eq {w gl : Nat} (hf : g.fn i = some ⟨1, 2, wordsB w⟩) (hw : g.fn w = some ⟨1, 2, wordB gl⟩) (hd : g.dfl w = []) (hg : g.glb gl = .str AZ) {d : D} (hp : plain d = true) (hp2 : ∀ l, d = .tup l → ∀ x ∈ l, plain x = true) :
    (cN g (n + 1 + 1)).f true i [d] h = .ok (.bl (match d with
      | .tup l => decide (1 ≤ l.length) && decide (l.length ≤ 4) && l.all isW
      | _ => false)) h := by
  rw [callN_succ, hf]
  simp only [List.length_cons, List.length_nil, wordsB, evSs, evS, evE, evEs, evAnd, evIt, evIfs, List.map_cons, List.map_nil, List.cons_append, List.nil_append, List.replicate, bind_ok, bindX_ok, ldV_zero, ldV_succ, if_true, fin]
  cases d with
  | tup l =>
    simp only [isk, Option.map_some, lift, bind_ok, tr_bl, len_t, le_ii]
    by_cases h1 : 1 ≤ l.length
    · have h1' : (1 : Int) ≤ (l.length : Int) := by omega
      by_cases h2 : l.length ≤ 4
      · have h2' : (l.length : Int) ≤ 4 := by omega
        simp only [h1', h2', decide_true, Option.map_some, lift, bind_ok, tr_bl, src_t, len_fix, Nat.le_trans h2 (Nat.le_trans (by decide) e8), if_true, bind_one, List.set_cons_succ, List.set_cons_zero, ldV_zero, ldV_succ, hd, List.append_nil, pick, List.getElem?_cons_zero, mapI_all]
        rw [mapL_pure (k := fun x => .bl (isW x)) (fun x hx => by rw [word_eq hw hg (hp2 l rfl x hx)]; rfl)]
        simp only [noexc, bind_ok, all_l, bls_map, Option.map_some, lift, bindX_ok, List.all_map, h1, h2, decide_true, Bool.true_and]
        rfl
      · have h2' : ¬ (l.length : Int) ≤ 4 := by omega
        simp only [h1', h2', decide_true, decide_false, Option.map_some, lift, bind_ok, tr_bl, noexc, bindX_ok, h2, Bool.and_false, Bool.false_and]
    · have h1' : ¬ (1 : Int) ≤ (l.length : Int) := by omega
      simp only [h1', decide_false, Option.map_some, lift, bind_ok, tr_bl, noexc, bindX_ok, h1, Bool.false_and]
  | non => rfl
  | bl b => rfl
  | int b => rfl
  | str b => rfl
  | lst b => rfl
  | _ => cases hp
def isN' (lo hi : Int) : D → Bool
  | .int k => decide (lo ≤ k) && decide (k ≤ hi)
  | _ => false
theorem num_eq (hf : g.fn i = some ⟨3, 3, numB⟩) {lo hi : Int} {d : D} (hp : plain d = true) : (cN g (n + 1)).f true i [d, .int lo, .int hi] h = .ok (.bl (isN' lo hi d)) h := by
  rw [callN_succ, hf]
  simp only [List.length_cons, List.length_nil, numB, evSs, evS, evE, evAnd, List.map_cons, List.map_nil, List.cons_append, List.nil_append, List.replicate, bind_ok, bindX_ok, ldV_zero, ldV_succ, if_true, fin]
  cases d with
  | int k =>
    simp only [isk, Option.map_some, lift, bind_ok, tr_bl, le_ii, Bool.not_false]
    by_cases h1 : lo ≤ k
    · simp only [h1, decide_true, Option.map_some, lift, bind_ok, bindX_ok, noexc, isN', Bool.true_and]
    · simp only [h1, decide_false, Option.map_some, lift, bind_ok, bindX_ok, noexc, isN', Bool.false_and]
  | non => rfl
  | bl b => rfl
  | str b => rfl
  | tup b => rfl
  | lst b => rfl
  | _ => cases hp
theorem year_eq {nu : Nat} (hf : g.fn i = some ⟨1, 1, yearB nu⟩) (hn : g.fn nu = some ⟨3, 3, numB⟩) (hd : g.dfl nu = []) {d : D} (hp : plain d = true) : (cN g (n + 1 + 1)).f true i [d] h = .ok (.bl (isN' 0 9999 d)) h := by
  rw [callN_succ, hf]
  simp only [List.length_cons, List.length_nil, yearB, evSs, evS, evE, evEs, List.map_cons, List.map_nil, List.cons_append, List.nil_append, List.replicate, bind_ok, bindX_ok, ldV_zero, ldV_succ, if_true, fin, hd, List.append_nil, pick, List.getElem?_cons_zero, List.getElem?_cons_succ, num_eq hn hp, noexc]
theorem wordSo_eq {le : Nat} (hf : g.fn i = some ⟨1, 2, wordSoB le⟩) (hle : g.fn le = some ⟨0, 0, azB⟩) (hd : g.dfl le = []) {d : D} (hp : plain d = true) : (cN g (n + 1 + 1)).f true i [d] h = .ok (.bl (isW d)) h := by
  rw [callN_succ, hf]
  simp only [List.length_cons, List.length_nil, wordSoB, evSs, evS, evT, evE, evEs, evOr, evIt, evIfs, List.map_cons, List.map_nil, List.cons_append, List.nil_append, List.replicate, bind_ok, bindX_ok, ldV_zero, ldV_succ, if_true, fin]
  cases d with
  | str s =>
    have hl : s.length ≤ line := of_decide_eq_true hp
    simp only [isk, Option.map_some, lift, bind_ok, tr_bl, len_s, hl, if_true, le_ii, Bool.not_true]
    by_cases h1 : 1 ≤ s.length
    · have h1' : (1 : Int) ≤ (s.length : Int) := by omega
      by_cases h2 : s.length ≤ 8
      · have h2' : (s.length : Int) ≤ 8 := by omega
        simp only [h1', h2', decide_true, Option.map_some, lift, bind_ok, bindX_ok, tr_bl, Bool.not_true, Bool.false_eq_true, if_false, ldV_zero, ldV_succ, src_s, len_fix, List.length_map, Nat.le_trans h2 e8, if_true, bind_one, List.set_cons_succ, List.set_cons_zero, hd, List.append_nil, pick, az_eq hle]
        rw [show s.length = (s.map fun c => D.str [c]).length by rw [List.length_map], mapI_all]
        rw [mapL_pure (k := fun x => .bl (match x with
          | .str [c] => decide (c ∈ AZ)
          | _ => false)) (fun x hx => by
          obtain ⟨c, _, rfl⟩ := List.mem_map.mp hx
          rfl)]
        simp only [noexc, bind_ok, all_l, bls_map, Option.map_some, lift, bindX_ok, isW, h1, h2, decide_true, Bool.true_and]
        simp only [List.map_map, List.all_map]
        rfl
      · have h2' : ¬ (s.length : Int) ≤ 8 := by omega
        simp only [h1', h2', decide_true, decide_false, Option.map_some, lift, bind_ok, tr_bl, noexc, bindX_ok, isW, h2, Bool.and_false, Bool.false_and, Bool.not_false, if_true]
    · have h1' : ¬ (1 : Int) ≤ (s.length : Int) := by omega
      simp only [h1', decide_false, Option.map_some, lift, bind_ok, tr_bl, noexc, bindX_ok, isW, h1, Bool.false_and, Bool.not_false, if_true]
  | non => rfl
  | bl b => rfl
  | int b => rfl
  | tup b => rfl
  | lst b => rfl
  | _ => cases hp
end
end Rk

set_option maxHeartbeats 4000000
/-! Rk.T: drawn words and names. -/
namespace Rk
open PySem
theorem sIx_lo (n : Nat) : HT.sIx n 0 none = 0 := rfl
theorem sIx_hi (n : Nat) : HT.sIx n n none = n := rfl
theorem sIx_in {n d : Nat} {a : Int} (h0 : 0 ≤ a) (h1 : a ≤ n) : HT.sIx n d (some a) = a.toNat := by
  unfold HT.sIx
  simp only
  first
    | (rw [if_neg (by omega)]; omega)
    | (split <;> omega)
    | omega
theorem cut_take {α : Type} {l : List α} {a : Int} (h0 : 0 ≤ a) (h1 : a ≤ l.length) : cut l none (some a) = l.take a.toNat := by
  unfold cut
  rw [sIx_lo, sIx_in h0 h1, List.drop_zero, Nat.sub_zero]
theorem cut_drop {α : Type} {l : List α} {a : Int} (h0 : 0 ≤ a) (h1 : a ≤ l.length) : cut l (some a) none = l.drop a.toNat := by
  unfold cut
  rw [sIx_hi, sIx_in h0 h1]
  refine List.take_of_length_le ?_
  rw [List.length_drop]
  omega
theorem joinE : ∀ s : List Nat, TL.joinL [] (s.map fun c => [c]) = s
  | [] => rfl
  | [c] => rfl
  | c :: d :: s => by
    have e := joinE (d :: s)
    show [c] ++ ([] ++ TL.joinL [] ((d :: s).map fun c => [c])) = _
    rw [e]
    rfl
theorem sumE : ∀ s : List Nat, sumN (s.map fun c => [c]) = s.length
  | [] => rfl
  | c :: s => by
    show 1 + sumN (s.map fun c => [c]) = s.length + 1
    rw [sumE s]
    omega
theorem signs {A : List Nat} : ∀ {ys : List D}, (∀ y ∈ ys, ∃ x ∈ A, y = .str [x]) → ∃ s : List Nat, strL ys = some (s.map fun c => [c]) ∧ (∀ c ∈ s, c ∈ A) ∧ s.length = ys.length
  | [], _ => ⟨[], rfl, fun _ z => (nomatch z), rfl⟩
  | y :: ys, H => by
    obtain ⟨x, hx, rfl⟩ := H y List.mem_cons_self
    obtain ⟨s, e1, e2, e3⟩ := signs fun z hz => H z (List.mem_cons_of_mem _ hz)
    refine ⟨x :: s, ?_, fun c hc => ?_, by rw [List.length_cons, List.length_cons, e3]⟩
    · show (strL ys).map ([x] :: ·) = _
      rw [e1]
      rfl
    · rcases List.mem_cons.mp hc with rfl | hc
      · exact hx
      · exact e2 c hc
/-- ''.join of drawn signs -/
theorem join_ok {A : List Nat} {ys : List D} {h : AH} (H : ∀ y ∈ ys, ∃ x ∈ A, y = .str [x]) (hl : ys.length ≤ line) : ∃ s : List Nat, mtop .join (.str []) (.lst ys) h = .ok (.str s) h ∧ (∀ c ∈ s, c ∈ A) ∧ s.length = ys.length := by
  obtain ⟨s, e1, e2, e3⟩ := signs H
  refine ⟨s, ?_, e2, e3⟩
  rw [join_l, e1]
  simp only [sumE, List.length_map, List.length_nil, Nat.mul_zero, Nat.add_zero, joinE]
  rw [if_pos (by rw [e3]; exact hl)]
theorem range_len' (i : Int) : (range 0 i).length = i.toNat := by unfold range; rw [List.length_map, List.length_range, Int.sub_zero]
theorem range_int {i : Int} {x : D} (h : x ∈ range 0 i) : ∃ k : Nat, x = .int k ∧ (k : Int) < i := by
  unfold range at h
  obtain ⟨k, hk, rfl⟩ := List.mem_map.mp h
  rw [List.mem_range] at hk
  exact ⟨k, by rw [Int.zero_add], by omega⟩
theorem cut_to {α : Type} {l : List α} (k : Nat) : cut l none (some (k : Int)) = l.take k := by
  unfold cut
  rw [sIx_lo, List.drop_zero, Nat.sub_zero]
  unfold HT.sIx
  simp only
  rw [if_neg (by omega), Int.toNat_natCast]
  by_cases hk : k ≤ l.length
  · rw [Nat.min_eq_left hk]
  · rw [Nat.min_eq_right (by omega), List.take_length, List.take_of_length_le (by omega)]
theorem hline {k : Nat} (h : k ≤ 1000) : (k ≤ line) = True := eq_true (Nat.le_trans h (by decide))
theorem dsames_bl : ∀ bs : List Bool, dsames (bs.map .bl) (bs.map .bl) = true
  | [] => by unfold dsames; rfl
  | b :: bs => by
    show dsames (.bl b :: bs.map .bl) (.bl b :: bs.map .bl) = true
    unfold dsames dsame
    rw [dsames_bl bs, beq_self_eq_true]
    rfl
theorem wts_bl : ∀ bs : List Bool, wts (bs.map .bl) = some bs.length
  | [] => by unfold wts; rfl
  | b :: bs => by
    show wts (.bl b :: bs.map .bl) = _
    unfold wts wt
    rw [wts_bl bs]
    simp only [List.length_cons, Nat.add_comm]
theorem dpts_bl (k : Nat) : ∀ bs : List Bool, dpts k (bs.map .bl) = true
  | [] => by unfold dpts; rfl
  | b :: bs => by
    show dpts k (.bl b :: bs.map .bl) = true
    unfold dpts
    rw [dpts_bl k bs]
    cases k <;> (unfold dpt; rfl)
theorem same_bls {g : G} {c : Bool} {n i : Nat} {h : AH} (hf : g.fn i = some ⟨2, 2, sameB⟩) (bs : List Bool) (hl : bs.length ≤ 1000) : (cN g (n + 1)).f c i [.lst (bs.map .bl), .lst (bs.map .bl)] h = .ok (.bl true) h := by
  refine same_ok hf (w := bs.length + 1) rfl ?_ ?_ (by omega) ?_
  · unfold dsame; exact dsames_bl bs
  · unfold wt; rw [wts_bl]; rfl
  · unfold dpt; exact dpts_bl _ bs
theorem any_not (f : D → Bool) : ∀ l : List D, (l.map fun x => !f x).any id = !l.all f
  | [] => rfl
  | x :: l => by
    rw [List.map_cons, List.any_cons, List.all_cons, any_not f l]
    cases f x <;> rfl
section
variable {g : G} {n i : Nat} {h : AH} {P : D → AH → Prop} {X : D → AH → Prop}
/-- _law_names -/
theorem wp_names {pk fo le : Nat} (hf : g.fn i = some ⟨2, 7, namesB pk fo le⟩) (hpk : g.fn pk = some ⟨2, 6, pickB⟩) (hfo : g.fn fo = some ⟨2, 2, ofB pk⟩) (hle : g.fn le = some ⟨0, 0, azB⟩) (hd : ∀ k, g.dfl k = []) {r : Nat} {m : Int} (dl : Deal r h) (hm0 : 0 ≤ m) (hm : m ≤ 1000)
    (hP : ∀ rows h', (∀ x ∈ rows, ∃ s, x = .str s ∧ isW x = true ∧ s.length ≤ 7) → rows.length = m.toNat → Deal r h' → But r h h' → P (.lst rows) h') : Wp ((cN g (n + 1 + 1 + 1)).f true i [.ref r, .int m] h) P X := by
  rw [callN_succ, hf]
  simp only [List.length_cons, List.length_nil, namesB, evSs, evS, evE, evEs, evIt, evOp, evIfs, List.map_cons, List.map_nil, List.cons_append, List.nil_append, List.replicate, bind_ok, bindX_ok, ldV_zero, ldV_succ, if_true, fin, hd, List.append_nil, pick, List.getElem?_cons_zero, List.getElem?_cons_succ, Wp_bind, Wp_noexc, Wp_bindX, az_eq hle, List.set_cons_succ, List.set_cons_zero, Wp_ok]
  refine wp_pick hpk dl (by decide) (by decide) fun k h1 k0 k1 dl1 bt1 => ?_
  have hk : -(2 ^ 62) ≤ k ∧ k < 2 ^ 62 := by omega
  simp only [hk, and_self, if_true, Wp_ok, len_fix, range_len']
  rw [if_pos (show k.toNat ≤ line from Nat.le_trans (show k.toNat ≤ 8 by omega) e8)]
  simp only [Wp_bind, Wp_noexc]
  rw [show k.toNat = (range 0 k).length by rw [range_len'], mapI_all]
  refine mapL_inv (I := fun h' => Deal r h' ∧ But r h h') (p := fun y => ∃ x ∈ AZ, y = .str [x]) ⟨dl1, bt1⟩ (fun x hx h2 ⟨dl2, bt2⟩ => ?_) fun ys h2 ⟨dl2, bt2⟩ hys hl => ?_
  · simp only [bind_one, List.set_cons_succ, List.set_cons_zero, Wp_ok, Wp_bind, bind_ok, if_true, ldV_zero, ldV_succ, pick, List.getElem?_cons_zero, List.getElem?_cons_succ]
    refine wp_of_s hpk hfo (hd pk) dl2 (by decide) (by decide) fun y h3 hy dl3 bt3 => ?_
    exact ⟨⟨dl3, bt2.trans bt3⟩, _, rfl, y, hy, rfl⟩
  rw [range_len'] at hl
  obtain ⟨s, es, hs, hsl⟩ := join_ok (h := h2) hys (by rw [hl]; exact Nat.le_trans (show k.toNat ≤ 8 by omega) e8)
  have hsl8 : s.length ≤ 6 := by omega
  have hsl0 : s.length ≤ line := Nat.le_trans hsl8 (Nat.le_trans (by decide) e8)
  simp only [Wp_ok, es, List.set_cons_succ, List.set_cons_zero, ldV_zero, ldV_succ, Wp_bind, Wp_bindX, bind_ok, len_s, hsl0, if_true, add_ii]
  refine wp_pick hpk dl2 (by omega) (by omega) fun at' h3 a0 a1 dl3 bt3 => ?_
  skip
  refine wp_pick hpk dl3 (by decide) (by decide) fun fi h4 f0 f1 dl4 bt4 => ?_
  have hbt : But r h h4 := (bt2.trans bt3).trans bt4
  try simp only [Wp_ok, Wp_bind, bind_ok, List.length_cons, List.length_nil]
  rw [if_pos (show 0 + 1 + 1 ≤ line by decide)]
  simp only [Wp_ok, bindT, List.length_cons, List.length_nil, if_true, Option.map_some, Wp_lift, List.zip_cons_cons, List.zip_nil_left, List.foldl_cons, List.foldl_nil, List.set_cons_succ, List.set_cons_zero, ldV_zero, ldV_succ, Wp_bind, Wp_bindX, bind_ok]
  have hmm : -(2 ^ 62) ≤ m ∧ m < 2 ^ 62 := by omega
  simp only [hmm, and_self, if_true, Wp_ok, len_fix, range_len']
  rw [if_pos (show m.toNat ≤ line from Nat.le_trans (show m.toNat ≤ 1000 by omega) (by decide))]
  simp only [Wp_bind, Wp_noexc]
  rw [show m.toNat = (range 0 m).length by rw [range_len'], mapI_all]
  have c5 : (-(2 ^ 64) < (5 : Int) ∧ (5 : Int) < 2 ^ 64) := by decide
  refine mapL_inv (I := fun h' => h' = h4) (p := fun x => ∃ s, x = .str s ∧ isW x = true ∧ s.length ≤ 7) rfl (fun x hx h5 e5 => ?_) fun ys h5 e5 hys hl5 => ?_
  · subst e5
    obtain ⟨kk, rfl, hkk⟩ := range_int hx
    have z0 := Int.emod_nonneg (fi + 5 * (kk : Int)) (show (26 : Int) ≠ 0 by decide)
    have z1 := Int.emod_lt_of_pos (fi + 5 * (kk : Int)) (show (0 : Int) < 26 by decide)
    obtain ⟨cc, hcc, hmem⟩ : ∃ cc, L2.atI AZ ((fi + 5 * (kk : Int)) % 26) = some cc ∧ cc ∈ AZ := by
      refine ⟨AZ[((fi + 5 * (kk : Int)) % 26).toNat]'(by show _ < 26; omega), ?_, List.getElem_mem _⟩
      unfold L2.atI L2.ixN
      rw [if_pos z0, if_pos (by show _ < ((26 : Nat) : Int); omega), Option.bind_some, List.getElem?_eq_getElem]
    have e1 := cut_take (l := s) a0 (by omega)
    have e2 := cut_drop (l := s) a0 (by omega)
    have l1 : (s.take at'.toNat).length ≤ 6 := by rw [List.length_take]; omega
    have l2 : (s.drop at'.toNat).length ≤ 6 := by rw [List.length_drop]; omega
    have l12 : (s.take at'.toNat).length + (s.drop at'.toNat).length = s.length := by rw [List.length_take, List.length_drop]; omega
    have hmul : binop .Mult (.int 5) (.int (kk : Int)) h5 = .ok (.int (5 * kk)) h5 := by rw [mul_ii, if_pos (.inl c5)]
    have hmod : binop .Mod (.int (fi + 5 * (kk : Int))) (.int 26) h5 = .ok (.int ((fi + 5 * (kk : Int)) % 26)) h5 := rfl
    simp only [bind_one, List.set_cons_succ, List.set_cons_zero, Wp_ok, Wp_bind, bind_ok, if_true, ldV_zero, ldV_succ, sl_s, hsl0, e1, e2, hmul, add_ii, int_i, hmod, ix_si, show AZ.length ≤ line by decide, Wp_lift, hcc, Option.map_some, add_ss, lift]
    rw [if_pos (by simp only [List.length_cons, List.length_nil]; exact Nat.le_trans (show _ ≤ 8 by omega) e8)]
    simp only [Wp_ok, bind_ok, add_ss]
    rw [if_pos (by simp only [List.length_append, List.length_cons, List.length_nil]; exact Nat.le_trans (show _ ≤ 16 by omega) (by decide))]
    simp only [Wp_ok, bind_ok]
    refine ⟨trivial, _, rfl, _, rfl, ?_, ?_⟩
    · unfold isW
      simp only [List.length_append, List.length_cons, List.length_nil, List.all_append, List.all_cons, List.all_nil, Bool.and_true, Bool.and_eq_true, decide_eq_true_eq, List.all_eq_true]
      refine ⟨⟨by omega, by omega⟩, ⟨fun c hc => hs c (List.mem_of_mem_take hc), hmem⟩, fun c hc => hs c (List.mem_of_mem_drop hc)⟩
    · simp only [List.length_append, List.length_cons, List.length_nil]
      omega
  · subst e5
    simp only [Wp_ok]
    rw [range_len'] at hl5
    exact hP _ _ hys hl5 dl4 hbt
end
end Rk

set_option maxHeartbeats 4000000
/-! Rk.U: works of all laws. -/
namespace Rk
open PySem
def workB (ws yr : Nat) : Ss := (.cons (.ifs (.or (.cons (.not (.isi (.var 0) .tuple)) (.cons (.cmp .NotEq (.bi .len (.var 0)) (.cst (.int 3))) .nil))) (.cons (.ret (.cst (.bl false)))
  .nil) .nil)
  (.cons (.ret (.and (.cons (.cal ws (.cons (.idx (.var 0) (.cst (.int 0))) .nil) .nil [0]) (.cons (.cal yr (.cons (.idx (.var 0) (.cst (.int 1))) .nil) .nil [0]) (.cons (.cal ws (.cons (.idx (.var 0) (.cst (.int 2))) .nil) .nil [0]) .nil)))))
  .nil))
def poolB (pk fo : Nat) : Ss := (.cons (.asg 1 (.mt .join (.cst (.str [])) (.cmpr (.cal fo (.cons (.var 0) (.cons (.cst (.str [97, 98, 121, 122])) .nil)) .nil [0, 1]) [3] (.rng (.cal pk (.cons (.var 0) (.cons (.cst (.int 6)) .nil)) .nil [0, 1])) .nil)))
  (.cons (.asg 2 (.lst (.cons (.cst (.str [97])) (.cons (.cst (.str [98])) (.cons (.cst (.str [97, 98])) (.cons (.cst (.str [98, 97])) (.cons (.cst (.str [122])) .nil)))))))
  (.cons (.ret (.bin .Add (.cmpr (.bin .Add (.var 1) (.var 4)) [4] (.seq (.var 2)) .nil) (.lst (.cons (.cal fo (.cons (.var 0) (.cons (.lst (.cons (.cst (.str [97])) (.cons (.cst (.str [98])) (.cons (.cst (.str [97, 98, 99, 100, 101, 102, 103, 104])) (.cons (.cst (.str [97, 98])) .nil))))) .nil)) .nil [0, 1]) .nil))))
  .nil)))
def someB (pk fo : Nat) : Ss := (.cons (.ret (.bi .tuple (.cmpr (.cal fo (.cons (.var 0) (.cons (.var 1) .nil)) .nil [0, 1]) [2] (.rng (.bin .Add (.cst (.int 1)) (.cal pk (.cons (.var 0) (.cons (.cal fo (.cons (.var 0) (.cons (.lst (.cons (.cst (.int 1)) (.cons (.cst (.int 2)) (.cons (.cst (.int 4)) .nil)))) .nil)) .nil [0, 1]) .nil)) .nil [0, 1]))) .nil)))
  .nil)
def lyearB (pk fo : Nat) : Ss := (.cons (.ret (.cal fo (.cons (.var 0) (.cons (.lst (.cons (.cst (.int 0)) (.cons (.cst (.int 7)) (.cons (.cst (.int 99)) (.cons (.cst (.int 100)) (.cons (.cst (.int 199)) (.cons (.cst (.int 1999)) (.cons (.cst (.int 2099)) (.cons (.cst (.int 9999)) (.cons (.cal pk (.cons (.var 0) (.cons (.cst (.int 10000)) .nil)) .nil [0, 1]) .nil)))))))))) .nil)) .nil [0, 1]))
  .nil)
def lworkB (sw yr : Nat) : Ss := (.cons (.ret (.tup (.cons (.cal sw (.cons (.var 0) (.cons (.var 1) .nil)) .nil [0, 1]) (.cons (.cal yr (.cons (.var 0) .nil) .nil [0]) (.cons (.cal sw (.cons (.var 0) (.cons (.var 1) .nil)) .nil [0, 1]) .nil)))))
  .nil)
def isWs : D → Bool
  | .tup l => decide (1 ≤ l.length) && decide (l.length ≤ 4) && l.all isW
  | _ => false
def isWk : D → Bool
  | .tup [a, b, c] => isWs a && isN' 0 9999 b && isWs c
  | _ => false
/-- plain to a depth -/
def pl : Nat → D → Bool
  | 0, d => plain d
  | k + 1, d => plain d && (match d with
    | .tup l => l.all (pl k)
    | _ => true)
theorem pl_plain {k : Nat} {d : D} (h : pl k d = true) : plain d = true := by
  cases k with
  | zero => exact h
  | succ k => unfold pl at h; rw [Bool.and_eq_true] at h; exact h.1
theorem pl_in {k : Nat} {l : List D} (h : pl (k + 1) (.tup l) = true) : ∀ x ∈ l, pl k x = true := by
  unfold pl at h
  rw [Bool.and_eq_true] at h
  exact List.all_eq_true.mp h.2
theorem words_eq' {g : G} {n i : Nat} {h : AH} {w gl : Nat} (hf : g.fn i = some ⟨1, 2, wordsB w⟩) (hw : g.fn w = some ⟨1, 2, wordB gl⟩) (hd : g.dfl w = []) (hg : g.glb gl = .str AZ) {d : D} (hp : pl 1 d = true) : (cN g (n + 1 + 1)).f true i [d] h = .ok (.bl (isWs d)) h := by
  rw [words_eq hf hw hd hg (pl_plain hp) (fun l e x hx => by subst e; exact pl_plain (pl_in hp x hx))]
  cases d <;> rfl
section
variable {g : G} {n i : Nat} {h : AH} {P : D → AH → Prop} {X : D → AH → Prop}
theorem ne_ii {a b : Int} : cmpop .NotEq (.int a) (.int b) = some (!(a == b)) := by
  show (if dpt 60 (.int a) && dpt 60 (.int b) then some (!deq (.int a) (.int b)) else none) = _
  rw [deq_int]
  rfl
theorem work_eq {ws yr w nu gl : Nat} (hf : g.fn i = some ⟨1, 1, workB ws yr⟩) (hws : g.fn ws = some ⟨1, 2, wordsB w⟩) (hw : g.fn w = some ⟨1, 2, wordB gl⟩) (hyr : g.fn yr = some ⟨1, 1, yearB nu⟩) (hnu : g.fn nu = some ⟨3, 3, numB⟩) (hd : ∀ k, g.dfl k = []) (hg : g.glb gl = .str AZ) {d : D} (hp : pl 2 d = true) :
    (cN g (n + 1 + 1 + 1)).f true i [d] h = .ok (.bl (isWk d)) h := by
  have hpl := pl_plain hp
  rw [callN_succ, hf]
  simp only [List.length_cons, List.length_nil, workB, evSs, evS, evT, evE, evEs, evOr, evAnd, List.map_cons, List.map_nil, List.cons_append, List.nil_append, List.replicate, bind_ok, bindX_ok, ldV_zero, ldV_succ, if_true, fin, hd, List.append_nil, pick, List.getElem?_cons_zero]
  cases d with
  | tup l =>
    simp only [isk, Option.map_some, lift, bind_ok, tr_bl, Bool.not_true, len_t, ne_ii]
    by_cases hl : l.length = 3
    · obtain ⟨a, b, c, rfl⟩ : ∃ a b c, l = [a, b, c] := by
        match l, hl with
        | [a, b, c], _ => exact ⟨a, b, c, rfl⟩
      have e : ((([a, b, c] : List D).length : Int) == 3) = true := rfl
      have pa := pl_in hp a (by simp)
      have pb := pl_in hp b (by simp)
      have pc := pl_in hp c (by simp)
      have i0 : L2.atI [a, b, c] 0 = some a := rfl
      have i1 : L2.atI [a, b, c] 1 = some b := rfl
      have i2 : L2.atI [a, b, c] 2 = some c := rfl
      simp only [e, Bool.not_true, bind_ok, bindX_ok, tr_bl, Bool.false_eq_true, if_false, ldV_zero, ix_ti, lift, i0, i1, i2, List.getElem?_cons_zero, words_eq' hws hw (hd w) hg pa, words_eq' hws hw (hd w) hg pc, year_eq hyr hnu (hd nu) (pl_plain pb)]
      rw [show isWk (.tup [a, b, c]) = (isWs a && isN' 0 9999 b && isWs c) from rfl]
      cases isWs a with
      | false => rfl
      | true =>
        cases isN' 0 9999 b with
        | false => rfl
        | true => rfl
    · have e : ((l.length : Int) == 3) = false := by
        rw [beq_eq_false_iff_ne]
        omega
      have ew : isWk (.tup l) = false := by
        unfold isWk
        split
        · rename_i a b c e2
          cases e2
          exact absurd rfl hl
        · rfl
      simp only [e, Bool.not_false, bind_ok, bindX_ok, tr_bl, if_true, noexc, ew]
  | non => rfl
  | bl b => rfl
  | int b => rfl
  | str b => rfl
  | lst b => rfl
  | _ => cases hpl
/-- a word, as a value -/
def Wd1 (x : D) : Prop := ∃ s, x = .str s ∧ isW x = true ∧ s.length ≤ 8
theorem Wd1.pl {x : D} (h : Wd1 x) (k : Nat) : pl k x = true := by
  obtain ⟨s, rfl, _, h2⟩ := h
  have : plain (.str s) = true := decide_eq_true (Nat.le_trans h2 e8)
  cases k with
  | zero => exact this
  | succ k => unfold Rk.pl; rw [this]; rfl
theorem isW_of {s : List Nat} (h1 : 1 ≤ s.length) (h2 : s.length ≤ 8) (h3 : ∀ c ∈ s, c ∈ AZ) : Wd1 (.str s) := by
  refine ⟨s, rfl, ?_, h2⟩
  show (decide (1 ≤ s.length) && decide (s.length ≤ 8) && s.all fun c => decide (c ∈ AZ)) = true
  rw [decide_eq_true h1, decide_eq_true h2, List.all_eq_true.mpr fun c hc => decide_eq_true (h3 c hc)]
  rfl
/-- _law_pool -/
theorem wp_pool {pk fo : Nat} (hf : g.fn i = some ⟨1, 5, poolB pk fo⟩) (hpk : g.fn pk = some ⟨2, 6, pickB⟩) (hfo : g.fn fo = some ⟨2, 2, ofB pk⟩) (hd : ∀ k, g.dfl k = []) {r : Nat} (dl : Deal r h)
    (hP : ∀ l h', (∀ x ∈ l, Wd1 x) → l.length = 6 → Deal r h' → But r h h' → P (.lst l) h') : Wp ((cN g (n + 1 + 1 + 1)).f true i [.ref r] h) P X := by
  rw [callN_succ, hf]
  simp only [poolB, evSs, evS, evT, evE, evEs, evIt, evOp, evIfs, hd, bind_one, List.set_cons_succ, List.set_cons_zero, Wp_ok, Wp_bind, Wp_bindX, Wp_noexc, bind_ok, bindX_ok, ldV_zero, ldV_succ, pick, List.getElem?_cons_zero, List.getElem?_cons_succ, if_true, len_fix, range_len', add_ii, sub_ii, List.length_cons, List.length_nil, len_l, len_t, Wp_lift, lift, Option.map_some, src_l, src_t, tr_bl, sl_l, sl_t, List.append_nil, Nat.reduceAdd, Nat.reduceLeDiff, hline, tuple_l, list_t, List.cons_append, List.nil_append, Bool.not_true, Bool.not_false, Bool.false_eq_true, if_false, any_l, fin, List.map_cons, List.map_nil, List.replicate]
  refine wp_pick hpk dl (by decide) (by decide) fun k h1 k0 k1 dl1 bt1 => ?_
  have hk : -(2 ^ 62) ≤ k ∧ k < 2 ^ 62 := by omega
  simp only [hk, and_self, bind_one, List.set_cons_succ, List.set_cons_zero, Wp_ok, Wp_bind, Wp_bindX, Wp_noexc, bind_ok, bindX_ok, ldV_zero, ldV_succ, pick, List.getElem?_cons_zero, List.getElem?_cons_succ, if_true, len_fix, range_len', add_ii, sub_ii, List.length_cons, List.length_nil, len_l, len_t, Wp_lift, lift, Option.map_some, src_l, src_t, tr_bl, sl_l, sl_t, List.append_nil, Nat.reduceAdd, Nat.reduceLeDiff, hline, tuple_l, list_t, List.cons_append, List.nil_append, Bool.not_true, Bool.not_false, Bool.false_eq_true, if_false, any_l]
  rw [if_pos (show k.toNat ≤ line from Nat.le_trans (show k.toNat ≤ 8 by omega) e8)]
  rw [show k.toNat = (range 0 k).length by rw [range_len'], mapI_all]
  simp only [Wp_bind, Wp_noexc]
  have az4 : ∀ c ∈ ([97, 98, 121, 122] : List Nat), c ∈ AZ := by decide
  refine mapL_inv (I := fun h' => Deal r h' ∧ But r h h') (p := fun y => ∃ x ∈ AZ, y = .str [x]) ⟨dl1, bt1⟩ (fun x hx h2 ⟨dl2, bt2⟩ => ?_) fun ys h2 ⟨dl2, bt2⟩ hys hl => ?_
  · simp only [bind_one, List.set_cons_succ, List.set_cons_zero, Wp_ok, Wp_bind, Wp_bindX, Wp_noexc, bind_ok, bindX_ok, ldV_zero, ldV_succ, pick, List.getElem?_cons_zero, List.getElem?_cons_succ, if_true, len_fix, range_len', add_ii, sub_ii, List.length_cons, List.length_nil, len_l, len_t, Wp_lift, lift, Option.map_some, src_l, src_t, tr_bl, sl_l, sl_t, List.append_nil, Nat.reduceAdd, Nat.reduceLeDiff, hline, tuple_l, list_t, List.cons_append, List.nil_append, Bool.not_true, Bool.not_false, Bool.false_eq_true, if_false, any_l]
    refine wp_of_s hpk hfo (hd pk) dl2 (by decide) (by decide) fun y h3 hy dl3 bt3 => ?_
    exact ⟨⟨dl3, bt2.trans bt3⟩, _, rfl, y, az4 y hy, rfl⟩
  rw [range_len'] at hl
  obtain ⟨s, es, hs, hsl⟩ := join_ok (h := h2) hys (by rw [hl]; exact Nat.le_trans (show k.toNat ≤ 8 by omega) e8)
  have sl5 : s.length ≤ 5 := by omega
  simp only [es, mapI_all, bind_one, List.set_cons_succ, List.set_cons_zero, Wp_ok, Wp_bind, Wp_bindX, Wp_noexc, bind_ok, bindX_ok, ldV_zero, ldV_succ, pick, List.getElem?_cons_zero, List.getElem?_cons_succ, if_true, len_fix, range_len', add_ii, sub_ii, List.length_cons, List.length_nil, len_l, len_t, Wp_lift, lift, Option.map_some, src_l, src_t, tr_bl, sl_l, sl_t, List.append_nil, Nat.reduceAdd, Nat.reduceLeDiff, hline, tuple_l, list_t, List.cons_append, List.nil_append, Bool.not_true, Bool.not_false, Bool.false_eq_true, if_false, any_l]
  have l64 : (64 : Nat) ≤ line := by decide
  rw [mapI_n (k := 6) (l := [.str [97], .str [98], .str [97, 98], .str [98, 97], .str [122]]) rfl, mapL_pure (k := fun x => match x with
    | .str t => .str (s ++ t)
    | x => x) (fun x hx => by
      simp only [List.mem_cons, List.not_mem_nil, or_false] at hx
      rcases hx with rfl | rfl | rfl | rfl | rfl <;>
        (simp only [add_ss, List.length_cons, List.length_nil, bind_ok]
         rw [if_pos (by omega)]
         rfl))]
  simp only [List.map_cons, List.map_nil, bind_one, List.set_cons_succ, List.set_cons_zero, Wp_ok, Wp_bind, Wp_bindX, Wp_noexc, bind_ok, bindX_ok, ldV_zero, ldV_succ, pick, List.getElem?_cons_zero, List.getElem?_cons_succ, if_true, len_fix, range_len', add_ii, sub_ii, List.length_cons, List.length_nil, len_l, len_t, Wp_lift, lift, Option.map_some, src_l, src_t, tr_bl, sl_l, sl_t, List.append_nil, Nat.reduceAdd, Nat.reduceLeDiff, hline, tuple_l, list_t, List.cons_append, List.nil_append, Bool.not_true, Bool.not_false, Bool.false_eq_true, if_false, any_l]
  refine wp_of_l hpk hfo (hd pk) dl2 (by simp) (by simp) fun y h3 hy dl3 bt3 => ?_
  simp only [add_ll, bind_one, List.set_cons_succ, List.set_cons_zero, Wp_ok, Wp_bind, Wp_bindX, Wp_noexc, bind_ok, bindX_ok, ldV_zero, ldV_succ, pick, List.getElem?_cons_zero, List.getElem?_cons_succ, if_true, len_fix, range_len', add_ii, sub_ii, List.length_cons, List.length_nil, len_l, len_t, Wp_lift, lift, Option.map_some, src_l, src_t, tr_bl, sl_l, sl_t, List.append_nil, Nat.reduceAdd, Nat.reduceLeDiff, hline, tuple_l, list_t, List.cons_append, List.nil_append, Bool.not_true, Bool.not_false, Bool.false_eq_true, if_false, any_l]
  refine hP _ _ (fun x hx => ?_) rfl dl3 (bt2.trans bt3)
  have sfx : ∀ t : List Nat, 1 ≤ t.length → t.length ≤ 3 → (∀ c ∈ t, c ∈ AZ) → Wd1 (.str (s ++ t)) := fun t t1 t2 t3 => by
    refine isW_of (by rw [List.length_append]; omega) (by rw [List.length_append]; omega) fun c hc => ?_
    rcases List.mem_append.mp hc with hc | hc
    · exact hs c hc
    · exact t3 c hc
  simp only [List.mem_cons, List.not_mem_nil, or_false] at hx
  rcases hx with rfl | rfl | rfl | rfl | rfl | rfl
  · exact sfx _ (by decide) (by decide) (by decide)
  · exact sfx _ (by decide) (by decide) (by decide)
  · exact sfx _ (by decide) (by decide) (by decide)
  · exact sfx _ (by decide) (by decide) (by decide)
  · exact sfx _ (by decide) (by decide) (by decide)
  · simp only [List.mem_cons, List.not_mem_nil, or_false] at hy
    rcases hy with rfl | rfl | rfl | rfl <;> exact isW_of (by decide) (by decide) (by decide)
/-- words of a work -/
def Ws1 (x : D) : Prop := ∃ l, x = .tup l ∧ 1 ≤ l.length ∧ l.length ≤ 4 ∧ ∀ y ∈ l, Wd1 y
theorem wp_some {pk fo : Nat} (hf : g.fn i = some ⟨2, 3, someB pk fo⟩) (hpk : g.fn pk = some ⟨2, 6, pickB⟩) (hfo : g.fn fo = some ⟨2, 2, ofB pk⟩) (hd : ∀ k, g.dfl k = []) {r : Nat} {l : List D} (dl : Deal r h) (hl : ∀ x ∈ l, Wd1 x) (hl0 : l ≠ []) (hl1 : l.length ≤ 1000)
    (hP : ∀ m h', 1 ≤ m.length → m.length ≤ 4 → (∀ x ∈ m, x ∈ l) → Deal r h' → But r h h' → P (.tup m) h') : Wp ((cN g (n + 1 + 1 + 1)).f true i [.ref r, .lst l] h) P X := by
  rw [callN_succ, hf]
  simp only [someB, evSs, evS, evT, evE, evEs, evIt, evOp, evIfs, hd, bind_one, List.set_cons_succ, List.set_cons_zero, Wp_ok, Wp_bind, Wp_bindX, Wp_noexc, bind_ok, bindX_ok, ldV_zero, ldV_succ, pick, List.getElem?_cons_zero, List.getElem?_cons_succ, if_true, len_fix, range_len', add_ii, sub_ii, List.length_cons, List.length_nil, len_l, len_t, Wp_lift, lift, Option.map_some, src_l, src_t, tr_bl, sl_l, sl_t, List.append_nil, Nat.reduceAdd, Nat.reduceLeDiff, hline, tuple_l, list_t, List.cons_append, List.nil_append, Bool.not_true, Bool.not_false, Bool.false_eq_true, if_false, any_l, fin, List.map_cons, List.map_nil, List.replicate]
  refine wp_of_l hpk hfo (hd pk) dl (by simp) (by simp) fun y h1 hy dl1 bt1 => ?_
  obtain ⟨m, rfl, m0, m1⟩ : ∃ m : Int, y = .int m ∧ 0 < m ∧ m ≤ 4 := by
    simp only [List.mem_cons, List.not_mem_nil, or_false] at hy
    rcases hy with rfl | rfl | rfl <;> exact ⟨_, rfl, by decide, by decide⟩
  try simp only [bind_one, List.set_cons_succ, List.set_cons_zero, Wp_ok, Wp_bind, Wp_bindX, Wp_noexc, bind_ok, bindX_ok, ldV_zero, ldV_succ, pick, List.getElem?_cons_zero, List.getElem?_cons_succ, if_true, len_fix, range_len', add_ii, sub_ii, List.length_cons, List.length_nil, len_l, len_t, Wp_lift, lift, Option.map_some, src_l, src_t, tr_bl, sl_l, sl_t, List.append_nil, Nat.reduceAdd, Nat.reduceLeDiff, hline, tuple_l, list_t, List.cons_append, List.nil_append, Bool.not_true, Bool.not_false, Bool.false_eq_true, if_false, any_l]
  refine wp_pick hpk dl1 m0 (by omega) fun k h2 k0 k1 dl2 bt2 => ?_
  have hk : -(2 ^ 62) ≤ 1 + k ∧ 1 + k < 2 ^ 62 := by omega
  simp only [hk, and_self, bind_one, List.set_cons_succ, List.set_cons_zero, Wp_ok, Wp_bind, Wp_bindX, Wp_noexc, bind_ok, bindX_ok, ldV_zero, ldV_succ, pick, List.getElem?_cons_zero, List.getElem?_cons_succ, if_true, len_fix, range_len', add_ii, sub_ii, List.length_cons, List.length_nil, len_l, len_t, Wp_lift, lift, Option.map_some, src_l, src_t, tr_bl, sl_l, sl_t, List.append_nil, Nat.reduceAdd, Nat.reduceLeDiff, hline, tuple_l, list_t, List.cons_append, List.nil_append, Bool.not_true, Bool.not_false, Bool.false_eq_true, if_false, any_l]
  rw [if_pos (show (1 + k).toNat ≤ line from Nat.le_trans (show (1 + k).toNat ≤ 8 by omega) e8)]
  rw [show (1 + k).toNat = (range 0 (1 + k)).length by rw [range_len'], mapI_all]
  simp only [Wp_bind, Wp_noexc]
  refine mapL_inv (I := fun h' => Deal r h' ∧ But r h h') (p := fun y => y ∈ l) ⟨dl2, bt1.trans bt2⟩ (fun x hx h3 ⟨dl3, bt3⟩ => ?_) fun ys h3 ⟨dl3, bt3⟩ hys hln => ?_
  · simp only [bind_one, List.set_cons_succ, List.set_cons_zero, Wp_ok, Wp_bind, Wp_bindX, Wp_noexc, bind_ok, bindX_ok, ldV_zero, ldV_succ, pick, List.getElem?_cons_zero, List.getElem?_cons_succ, if_true, len_fix, range_len', add_ii, sub_ii, List.length_cons, List.length_nil, len_l, len_t, Wp_lift, lift, Option.map_some, src_l, src_t, tr_bl, sl_l, sl_t, List.append_nil, Nat.reduceAdd, Nat.reduceLeDiff, hline, tuple_l, list_t, List.cons_append, List.nil_append, Bool.not_true, Bool.not_false, Bool.false_eq_true, if_false, any_l]
    refine wp_of_l hpk hfo (hd pk) dl3 hl0 (by omega) fun y h4 hy dl4 bt4 => ?_
    exact ⟨⟨dl4, bt3.trans bt4⟩, _, rfl, hy⟩
  rw [range_len'] at hln
  try simp only [bind_one, List.set_cons_succ, List.set_cons_zero, Wp_ok, Wp_bind, Wp_bindX, Wp_noexc, bind_ok, bindX_ok, ldV_zero, ldV_succ, pick, List.getElem?_cons_zero, List.getElem?_cons_succ, if_true, len_fix, range_len', add_ii, sub_ii, List.length_cons, List.length_nil, len_l, len_t, Wp_lift, lift, Option.map_some, src_l, src_t, tr_bl, sl_l, sl_t, List.append_nil, Nat.reduceAdd, Nat.reduceLeDiff, hline, tuple_l, list_t, List.cons_append, List.nil_append, Bool.not_true, Bool.not_false, Bool.false_eq_true, if_false, any_l]
  exact hP _ _ (by omega) (by omega) hys dl3 bt3
theorem wp_lyear {pk fo : Nat} (hf : g.fn i = some ⟨1, 1, lyearB pk fo⟩) (hpk : g.fn pk = some ⟨2, 6, pickB⟩) (hfo : g.fn fo = some ⟨2, 2, ofB pk⟩) (hd : ∀ k, g.dfl k = []) {r : Nat} (dl : Deal r h)
    (hP : ∀ (y : Int) h', 0 ≤ y → y ≤ 9999 → Deal r h' → But r h h' → P (.int y) h') : Wp ((cN g (n + 1 + 1 + 1)).f true i [.ref r] h) P X := by
  rw [callN_succ, hf]
  simp only [lyearB, evSs, evS, evT, evE, evEs, evIt, evOp, evIfs, hd, bind_one, List.set_cons_succ, List.set_cons_zero, Wp_ok, Wp_bind, Wp_bindX, Wp_noexc, bind_ok, bindX_ok, ldV_zero, ldV_succ, pick, List.getElem?_cons_zero, List.getElem?_cons_succ, if_true, len_fix, range_len', add_ii, sub_ii, List.length_cons, List.length_nil, len_l, len_t, Wp_lift, lift, Option.map_some, src_l, src_t, tr_bl, sl_l, sl_t, List.append_nil, Nat.reduceAdd, Nat.reduceLeDiff, hline, tuple_l, list_t, List.cons_append, List.nil_append, Bool.not_true, Bool.not_false, Bool.false_eq_true, if_false, any_l, fin, List.map_cons, List.map_nil, List.replicate]
  refine wp_pick hpk dl (by decide) (by decide) fun k h1 k0 k1 dl1 bt1 => ?_
  try simp only [bind_one, List.set_cons_succ, List.set_cons_zero, Wp_ok, Wp_bind, Wp_bindX, Wp_noexc, bind_ok, bindX_ok, ldV_zero, ldV_succ, pick, List.getElem?_cons_zero, List.getElem?_cons_succ, if_true, len_fix, range_len', add_ii, sub_ii, List.length_cons, List.length_nil, len_l, len_t, Wp_lift, lift, Option.map_some, src_l, src_t, tr_bl, sl_l, sl_t, List.append_nil, Nat.reduceAdd, Nat.reduceLeDiff, hline, tuple_l, list_t, List.cons_append, List.nil_append, Bool.not_true, Bool.not_false, Bool.false_eq_true, if_false, any_l]
  refine wp_of_l hpk hfo (hd pk) dl1 (by simp) (by simp) fun y h2 hy dl2 bt2 => ?_
  obtain ⟨m, rfl, m0, m1⟩ : ∃ m : Int, y = .int m ∧ 0 ≤ m ∧ m ≤ 9999 := by
    simp only [List.mem_cons, List.not_mem_nil, or_false] at hy
    rcases hy with rfl | rfl | rfl | rfl | rfl | rfl | rfl | rfl | rfl
    all_goals first
      | exact ⟨_, rfl, by decide, by decide⟩
      | exact ⟨_, rfl, by omega, by omega⟩
  try simp only [bind_one, List.set_cons_succ, List.set_cons_zero, Wp_ok, Wp_bind, Wp_bindX, Wp_noexc, bind_ok, bindX_ok, ldV_zero, ldV_succ, pick, List.getElem?_cons_zero, List.getElem?_cons_succ, if_true, len_fix, range_len', add_ii, sub_ii, List.length_cons, List.length_nil, len_l, len_t, Wp_lift, lift, Option.map_some, src_l, src_t, tr_bl, sl_l, sl_t, List.append_nil, Nat.reduceAdd, Nat.reduceLeDiff, hline, tuple_l, list_t, List.cons_append, List.nil_append, Bool.not_true, Bool.not_false, Bool.false_eq_true, if_false, any_l]
  exact hP _ _ m0 m1 dl2 (bt1.trans bt2)
/-- a work, as a value -/
def Wk1 (x : D) : Prop := ∃ a y b, x = .tup [a, .int y, b] ∧ Ws1 a ∧ Ws1 b ∧ 0 ≤ y ∧ y ≤ 9999
theorem wp_lwork {pk fo sw yr : Nat} (hf : g.fn i = some ⟨2, 2, lworkB sw yr⟩) (hsw : g.fn sw = some ⟨2, 3, someB pk fo⟩) (hyr : g.fn yr = some ⟨1, 1, lyearB pk fo⟩) (hpk : g.fn pk = some ⟨2, 6, pickB⟩) (hfo : g.fn fo = some ⟨2, 2, ofB pk⟩) (hd : ∀ k, g.dfl k = []) {r : Nat} {l : List D} (dl : Deal r h) (hl : ∀ x ∈ l, Wd1 x) (hl0 : l ≠ []) (hl1 : l.length ≤ 1000)
    (hP : ∀ x h', Wk1 x → Deal r h' → But r h h' → P x h') : Wp ((cN g (n + 1 + 1 + 1 + 1)).f true i [.ref r, .lst l] h) P X := by
  rw [callN_succ, hf]
  simp only [lworkB, evSs, evS, evT, evE, evEs, evIt, evOp, evIfs, hd, bind_one, List.set_cons_succ, List.set_cons_zero, Wp_ok, Wp_bind, Wp_bindX, Wp_noexc, bind_ok, bindX_ok, ldV_zero, ldV_succ, pick, List.getElem?_cons_zero, List.getElem?_cons_succ, if_true, len_fix, range_len', add_ii, sub_ii, List.length_cons, List.length_nil, len_l, len_t, Wp_lift, lift, Option.map_some, src_l, src_t, tr_bl, sl_l, sl_t, List.append_nil, Nat.reduceAdd, Nat.reduceLeDiff, hline, tuple_l, list_t, List.cons_append, List.nil_append, Bool.not_true, Bool.not_false, Bool.false_eq_true, if_false, any_l, fin, List.map_cons, List.map_nil, List.replicate]
  refine wp_some hsw hpk hfo hd dl hl hl0 hl1 fun a h1 a0 a1 a2 dl1 bt1 => ?_
  try simp only [bind_one, List.set_cons_succ, List.set_cons_zero, Wp_ok, Wp_bind, Wp_bindX, Wp_noexc, bind_ok, bindX_ok, ldV_zero, ldV_succ, pick, List.getElem?_cons_zero, List.getElem?_cons_succ, if_true, len_fix, range_len', add_ii, sub_ii, List.length_cons, List.length_nil, len_l, len_t, Wp_lift, lift, Option.map_some, src_l, src_t, tr_bl, sl_l, sl_t, List.append_nil, Nat.reduceAdd, Nat.reduceLeDiff, hline, tuple_l, list_t, List.cons_append, List.nil_append, Bool.not_true, Bool.not_false, Bool.false_eq_true, if_false, any_l]
  refine wp_lyear hyr hpk hfo hd dl1 fun y h2 y0 y1 dl2 bt2 => ?_
  try simp only [bind_one, List.set_cons_succ, List.set_cons_zero, Wp_ok, Wp_bind, Wp_bindX, Wp_noexc, bind_ok, bindX_ok, ldV_zero, ldV_succ, pick, List.getElem?_cons_zero, List.getElem?_cons_succ, if_true, len_fix, range_len', add_ii, sub_ii, List.length_cons, List.length_nil, len_l, len_t, Wp_lift, lift, Option.map_some, src_l, src_t, tr_bl, sl_l, sl_t, List.append_nil, Nat.reduceAdd, Nat.reduceLeDiff, hline, tuple_l, list_t, List.cons_append, List.nil_append, Bool.not_true, Bool.not_false, Bool.false_eq_true, if_false, any_l]
  refine wp_some hsw hpk hfo hd dl2 hl hl0 hl1 fun b h3 b0 b1 b2 dl3 bt3 => ?_
  try simp only [bind_one, List.set_cons_succ, List.set_cons_zero, Wp_ok, Wp_bind, Wp_bindX, Wp_noexc, bind_ok, bindX_ok, ldV_zero, ldV_succ, pick, List.getElem?_cons_zero, List.getElem?_cons_succ, if_true, len_fix, range_len', add_ii, sub_ii, List.length_cons, List.length_nil, len_l, len_t, Wp_lift, lift, Option.map_some, src_l, src_t, tr_bl, sl_l, sl_t, List.append_nil, Nat.reduceAdd, Nat.reduceLeDiff, hline, tuple_l, list_t, List.cons_append, List.nil_append, Bool.not_true, Bool.not_false, Bool.false_eq_true, if_false, any_l]
  exact hP _ _ ⟨_, _, _, rfl, ⟨a, rfl, a0, a1, fun x hx => hl x (a2 x hx)⟩, ⟨b, rfl, b0, b1, fun x hx => hl x (b2 x hx)⟩, y0, y1⟩ dl3 ((bt1.trans bt2).trans bt3)
end
end Rk

set_option maxHeartbeats 4000000
/-! Rk.Al: letters of numbers; errors told. -/
namespace Rk
open PySem
/-! ### the fields of an error -/
def cdText : List Nat := [73, 110, 118, 97, 108, 105, 100, 84, 101, 120, 116]
def cdNum : List Nat := [73, 110, 118, 97, 108, 105, 100, 78, 117, 109, 98, 101, 114]
def fieldB : Ss := (.cons (.ifs (.cmp .In (.xfld 0 0) (.tup (.cons (.cst (.str [73, 110, 118, 97, 108, 105, 100, 80, 105, 101, 99, 101])) (.cons (.cst (.str [73, 110, 118, 97, 108, 105, 100, 82, 111, 119])) (.cons (.cst (.str [73, 110, 118, 97, 108, 105, 100, 77, 97, 114, 107])) (.cons (.cst (.str [73, 110, 118, 97, 108, 105, 100, 68, 101, 101, 100])) .nil)))))) (.cons (.ret (.tup (.cons (.xfld 0 2) .nil)))
  .nil) .nil)
  (.cons (.ifs (.cmp .In (.xfld 0 0) (.tup (.cons (.cst (.str [68, 117, 112, 108, 105, 99, 97, 116, 101, 78, 97, 109, 101])) (.cons (.cst (.str [85, 110, 107, 110, 111, 119, 110, 78, 97, 109, 101])) .nil)))) (.cons (.ret (.tup (.cons (.xfld 0 3) .nil)))
  .nil) .nil)
  (.cons (.ifs (.cmp .In (.xfld 0 0) (.tup (.cons (.cst (.str [73, 110, 118, 97, 108, 105, 100, 84, 101, 120, 116])) (.cons (.cst (.str [78, 111, 116, 104, 105, 110, 103, 76, 101, 102, 116])) .nil)))) (.cons (.ret (.tup .nil))
  .nil) .nil)
  (.cons (.ifs (.cmp .In (.xfld 0 0) (.tup (.cons (.cst (.str [73, 110, 118, 97, 108, 105, 100, 82, 117, 108, 101])) (.cons (.cst (.str [73, 110, 118, 97, 108, 105, 100, 80, 97, 103, 101])) .nil)))) (.cons (.ret (.ife (.cmp .Eq (.xfld 0 0) (.cst (.str [73, 110, 118, 97, 108, 105, 100, 82, 117, 108, 101]))) (.tup (.cons (.xfld 0 5) .nil)) (.tup (.cons (.xfld 0 6) .nil))))
  .nil) .nil)
  (.cons (.ret (.ife (.cmp .Eq (.xfld 0 0) (.cst (.str [70, 117, 108, 108]))) (.tup (.cons (.xfld 0 4) .nil)) (.tup (.cons (.xfld 0 1) .nil))))
  .nil)))))
section
variable {g : G} {n fl c : Nat} {h : AH}
theorem fld_text (hf : g.fn fl = some ⟨1, 1, fieldB⟩) {fs : List (Nat × D)} : (cN g (n + 1)).x fl c ((0, .str cdText) :: fs) h = .ok (.tup []) h := by
  show (match g.fn fl with
    | some fd => if fd.np = 1 then fin (evSs g (cN g n) false fd.body (.exc c ((0, .str cdText) :: fs) :: List.replicate (fd.nb - 1) .no) h) else .stuck
    | none => .stuck) = _
  rw [hf]
  rfl
theorem fld_num (hf : g.fn fl = some ⟨1, 1, fieldB⟩) {v : D} : (cN g (n + 1)).x fl c [(0, .str cdNum), (1, v)] h = .ok (.tup [v]) h := by
  show (match g.fn fl with
    | some fd => if fd.np = 1 then fin (evSs g (cN g n) false fd.body (.exc c [(0, .str cdNum), (1, v)] :: List.replicate (fd.nb - 1) .no) h) else .stuck
    | none => .stuck) = _
  rw [hf]
  rfl
end
/-! ### letters -/
def let26 : Nat → Nat → List Nat
  | 0, _ => []
  | k + 1, n => if n = 0 then [] else let26 k ((n - 1) / 26) ++ [97 + (n - 1) % 26]
def bnd26 : Nat → Nat
  | 0 => 0
  | k + 1 => 26 * bnd26 k + 26
def num26 (a : Nat) (s : List Nat) : Nat := s.foldl (fun a c => a * 26 + (c - 97) + 1) a
theorem let26_len : ∀ k n, (let26 k n).length ≤ k
  | 0, n => Nat.le_refl _
  | k + 1, n => by
    unfold let26
    split
    · exact Nat.zero_le _
    · rw [List.length_append]
      have := let26_len k ((n - 1) / 26)
      show _ + 1 ≤ _
      omega
theorem let26_az : ∀ k n, ∀ c ∈ let26 k n, 97 ≤ c ∧ c < 123
  | 0, n, c, h => by cases h
  | k + 1, n, c, h => by
    unfold let26 at h
    split at h
    · cases h
    · rcases List.mem_append.mp h with h | h
      · exact let26_az k _ c h
      · rw [List.mem_singleton.mp h]
        omega
theorem num_let : ∀ k n, n ≤ bnd26 k → num26 0 (let26 k n) = n
  | 0, n, h => by
    have : n = 0 := Nat.le_zero.mp h
    subst this; rfl
  | k + 1, n, h => by
    unfold let26
    split
    · rename_i e; rw [e]; rfl
    · unfold bnd26 at h
      have ih := num_let k ((n - 1) / 26) (by omega)
      unfold num26 at ih ⊢
      rw [List.foldl_append, ih]
      show (n - 1) / 26 * 26 + (97 + (n - 1) % 26 - 97) + 1 = n
      omega
theorem let_more : ∀ k n, n ≤ bnd26 k → let26 (k + 1) n = let26 k n
  | 0, n, h => by
    have : n = 0 := Nat.le_zero.mp h
    subst this; rfl
  | k + 1, n, h => by
    show (if n = 0 then [] else let26 (k + 1) ((n - 1) / 26) ++ [97 + (n - 1) % 26]) = if n = 0 then [] else let26 k ((n - 1) / 26) ++ [97 + (n - 1) % 26]
    split
    · rfl
    · unfold bnd26 at h
      rw [let_more k ((n - 1) / 26) (by omega)]
theorem let_num : ∀ (k : Nat) (s : List Nat), s.length ≤ k → (∀ c ∈ s, 97 ≤ c ∧ c < 123) → let26 k (num26 0 s) = s ∧ num26 0 s ≤ bnd26 k
  | 0, s, h, _ => by
    have : s = [] := List.eq_nil_of_length_eq_zero (Nat.le_zero.mp h)
    subst this
    exact ⟨rfl, Nat.le_refl _⟩
  | k + 1, s, h, ha => by
    rcases List.eq_nil_or_concat s with rfl | ⟨r, c, rfl⟩
    · exact ⟨rfl, Nat.zero_le _⟩
    · have hl : r.length ≤ k := by
        rw [List.length_concat] at h
        omega
      have hc := ha c (by simp)
      obtain ⟨e1, e2⟩ := let_num k r hl fun d hd => ha d (by simp [hd])
      have e3 : num26 0 (r.concat c) = num26 0 r * 26 + (c - 97) + 1 := by
        unfold num26
        rw [List.concat_eq_append, List.foldl_append]
        rfl
      rw [e3]
      generalize num26 0 r = m at e1 e2 e3 ⊢
      refine ⟨?_, by unfold bnd26; omega⟩
      unfold let26
      rw [if_neg (by omega), show (m * 26 + (c - 97) + 1 - 1) / 26 = m by omega, e1, show 97 + (m * 26 + (c - 97) + 1 - 1) % 26 = c by omega, List.concat_eq_append]
theorem az_at : ∀ i : Nat, i < 26 → L2.atI AZ (i : Int) = some (97 + i) := by decide
theorem az_occ : ∀ c, 97 ≤ c → c < 123 → ∃ r, Builtin.Str.occurrences ⟨AZ.toArray⟩ ⟨[c].toArray⟩ 0 AZ.length 1 = (c - 97) :: r := by
  have q : ∀ i < 26, (Builtin.Str.occurrences ⟨AZ.toArray⟩ ⟨[97 + i].toArray⟩ 0 AZ.length 1).head? = some i := by decide +kernel
  intro c h1 h2
  have := q (c - 97) (by omega)
  rw [show 97 + (c - 97) = c by omega] at this
  cases ho : Builtin.Str.occurrences ⟨AZ.toArray⟩ ⟨[c].toArray⟩ 0 AZ.length 1 with
  | nil => rw [ho] at this; cases this
  | cons a r =>
    rw [ho] at this
    cases this
    exact ⟨r, rfl⟩
theorem mem_az {c : Nat} : c ∈ AZ ↔ 97 ≤ c ∧ c < 123 := by
  have q : ∀ c < 123, (c ∈ AZ ↔ 97 ≤ c) := by decide
  have q2 : ∀ c ∈ AZ, c < 123 := by decide
  exact ⟨fun h => ⟨(q c (q2 c h)).mp h, q2 c h⟩, fun h => (q c h.2).mpr h.1⟩
def letW (gz : Nat) : Ss := (.cons (.asg 1 (.bin .Add (.idx (.glb gz) (.bin .Mod (.bin .Sub (.var 0) (.cst (.int 1))) (.cst (.int 26)))) (.var 1)))
  (.cons (.asg 0 (.bin .FloorDiv (.bin .Sub (.var 0) (.cst (.int 1))) (.cst (.int 26))))
  .nil))
def lettersB (nu gm er gz : Nat) : Ss := (.cons (.ifs (.not (.cal nu (.cons (.var 0) (.cons (.cst (.int 0)) (.cons (.glb gm) .nil))) .nil [0, 1, 2])) (.cons (.rse er (.cons (.var 0) .nil))
  .nil) .nil)
  (.cons (.asg 1 (.cst (.str [])))
  (.cons (.whl (.cmp .Gt (.var 0) (.cst (.int 0))) (letW gz))
  (.cons (.ret (.var 1))
  .nil))))
section
variable {g : G} {n i nu gm er gz : Nat} {h : AH}
theorem let_test (cl : Cl) {m : Nat} {found : List Nat} : evT g cl true (.cmp .Gt (.var 0) (.cst (.int 0))) [.v (.int m), .v (.str found)] h = .ok (decide (0 < m)) h := by
  have e : decide ((0 : Int) < (m : Int)) = decide (0 < m) := by
    by_cases q : 0 < m
    · rw [decide_eq_true q, decide_eq_true (by omega)]
    · rw [decide_eq_false q, decide_eq_false (by omega)]
  simp only [evT, evE, lift, ldV_zero, bind_ok, gt_ii, Option.map_some, tr_bl, e]
theorem let_body (hz : g.glb gz = .str AZ) (cl : Cl) {m : Nat} {found : List Nat} (h0 : m ≠ 0) (hl : found.length + 1 ≤ line) :
    evSs g cl true (letW gz) [.v (.int m), .v (.str found)] h = .ok (.nx [.v (.int ((m - 1) / 26 : Nat)), .v (.str ((97 + (m - 1) % 26) :: found))]) h := by
  have e1 : ((m : Int) - 1) % 26 = (((m - 1) % 26 : Nat) : Int) := by omega
  have e2 : ((m : Int) - 1) / 26 = (((m - 1) / 26 : Nat) : Int) := by omega
  have ln : (AZ.length ≤ line) = True := eq_true (by decide)
  have l2 : (1 + found.length ≤ line) = True := eq_true (by omega)
  have c1 : ((0 : Int) < 26) = True := eq_true (by decide)
  have c2 : ((26 : Int) < 1073741824) = True := eq_true (by decide)
  simp only [letW, evE, evSs, evS, lift, hz, ldV_zero, ldV_succ, bind_ok, bindX_ok, Option.map_some, if_true, sub_ii, mod_ii, c1, e1, ix_si, ln, az_at _ (Nat.mod_lt _ (by decide : 0 < 26)), add_ss, List.length_cons, List.length_nil, Nat.zero_add, l2, List.set_cons_succ, List.set_cons_zero, fdiv_ii, c2, and_self, e2, List.cons_append, List.nil_append]
theorem let_loop (hz : g.glb gz = .str AZ) (cl : Cl) : ∀ (k F m : Nat) (found : List Nat), m ≤ bnd26 k → k < F → found.length + k ≤ line →
    whileN (evT g cl true (.cmp .Gt (.var 0) (.cst (.int 0)))) (evSs g cl true (letW gz)) F [.v (.int m), .v (.str found)] h = .ok (.nx [.v (.int 0), .v (.str (let26 k m ++ found))]) h := by
  intro k
  induction k with
  | zero =>
    intro F m found hm hF hl
    obtain rfl : m = 0 := Nat.le_zero.mp hm
    obtain ⟨F, rfl⟩ : ∃ j, F = j + 1 := ⟨F - 1, by omega⟩
    unfold whileN
    rw [let_test]
    rfl
  | succ k ih =>
    intro F m found hm hF hl
    obtain ⟨F, rfl⟩ : ∃ j, F = j + 1 := ⟨F - 1, by omega⟩
    unfold whileN
    rw [let_test]
    by_cases h0 : m = 0
    · subst h0
      rfl
    · rw [bindX_ok, decide_eq_true (by omega : 0 < m), if_pos rfl, let_body hz cl h0 (by omega), bind_ok]
      show whileN _ _ F _ h = _
      rw [ih F ((m - 1) / 26) _ (by unfold bnd26 at hm; omega) (by omega) (by show found.length + 1 + k ≤ line; omega)]
      conv => rhs; unfold let26
      rw [if_neg h0, List.append_assoc]
      rfl
theorem letters_eq (hf : g.fn i = some ⟨1, 2, lettersB nu gm er gz⟩) (hnu : g.fn nu = some ⟨3, 3, numB⟩) (hd : g.dfl nu = []) (hm : g.glb gm = .int 1000000) (hz : g.glb gz = .str AZ) {m : Nat} (hl : m ≤ 1000000) :
    (cN g (n + 1 + 1)).f true i [.int m] h = .ok (.str (let26 5 m)) h := by
  rw [callN_succ, hf]
  have e0 : isN' 0 1000000 (.int m) = true := by
    show (decide ((0 : Int) ≤ (m : Int)) && decide ((m : Int) ≤ 1000000)) = true
    rw [decide_eq_true (show (0 : Int) ≤ m by omega), decide_eq_true (show (m : Int) ≤ 1000000 by omega)]
    rfl
  have lp := let_loop (g := g) (h := h) hz (cN g (n + 1)) 5 4096 m [] (Nat.le_trans hl (by decide)) (by decide) (by decide)
  simp only [List.length_cons, List.length_nil, lettersB, evSs, evS, evT, evE, evEs, List.map_cons, List.map_nil, List.cons_append, List.nil_append, List.replicate, bind_ok, bindX_ok, ldV_zero, ldV_succ, if_true, fin, hd, hm, List.append_nil, pick, List.getElem?_cons_zero, List.getElem?_cons_succ, num_eq hnu (d := .int m) rfl, e0, tr_bl, Option.map_some, lift, Bool.not_true, Bool.false_eq_true, if_false, List.set_cons_succ, List.set_cons_zero] at lp ⊢
  rw [lp]
  rfl
theorem letters_no (hf : g.fn i = some ⟨1, 2, lettersB nu gm er gz⟩) (hnu : g.fn nu = some ⟨3, 3, numB⟩) (hd : g.dfl nu = []) (hm : g.glb gm = .int 1000000) (hx : g.xcl er = some (cdNum, some 1)) (hc : g.cod = 0) {d : D} (hp : plain d = true) (hn : isN' 0 1000000 d = false) :
    (cN g (n + 1 + 1)).f true i [d] h = .exc (.exc er [(0, .str cdNum), (1, d)]) h := by
  rw [callN_succ, hf]
  simp only [List.length_cons, List.length_nil, lettersB, evSs, evS, evT, evE, evEs, List.map_cons, List.map_nil, List.cons_append, List.nil_append, List.replicate, bind_ok, bindX_ok, ldV_zero, ldV_succ, if_true, fin, hd, hm, List.append_nil, pick, List.getElem?_cons_zero, List.getElem?_cons_succ, num_eq hnu hp, hn, tr_bl, Option.map_some, lift, Bool.not_false, mkX, hx, hc]
  rfl
def numW (gz : Nat) : Ss := (.cons (.asg 1 (.bin .Add (.bin .Add (.bin .Mult (.var 1) (.cst (.int 26))) (.mt .index (.glb gz) (.var 2))) (.cst (.int 1))))
  .nil)
def numberB (er gz : Nat) : Ss := (.cons (.ifs (.or (.cons (.not (.isi (.var 0) .str)) (.cons (.cmp .Gt (.bi .len (.var 0)) (.cst (.int 4))) (.cons (.not (.bi .all (.cmpr (.cmp .In (.var 2) (.glb gz)) [2] (.seq (.var 0)) .nil))) .nil)))) (.cons (.rse er .nil)
  .nil) .nil)
  (.cons (.asg 1 (.cst (.int 0)))
  (.cons (.for [2] (.seq (.var 0)) (numW gz))
  (.cons (.ret (.var 1))
  .nil))))
theorem mtop_ix {s b : List Nat} : mtop .index (.str s) (.str b) h = (match Builtin.Str.occurrences ⟨s.toArray⟩ ⟨b.toArray⟩ 0 s.length 1 with
      | i :: _ => .ok (.int (i : Nat)) h
      | [] => .stuck) := rfl
theorem index_az {c : Nat} (h1 : 97 ≤ c) (h2 : c < 123) : mtop .index (.str AZ) (.str [c]) h = .ok (.int ((c - 97 : Nat) : Int)) h := by
  obtain ⟨r, ho⟩ := az_occ c h1 h2
  rw [mtop_ix, ho]
theorem mul_26 {a : Int} : binop .Mult (.int a) (.int 26) h = .ok (.int (a * 26)) h := by
  have c1 : (-(2 ^ 64) < (26 : Int) ∧ (26 : Int) < 2 ^ 64) := by decide
  rw [mul_ii, if_pos (.inr c1)]
theorem num_step' (hz : g.glb gz = .str AZ) (cl : Cl) {v0 v2 : Sl} {a e : Int} {c : Nat} (h1 : 97 ≤ c) (h2 : c < 123) (he : a * 26 + ((c - 97 : Nat) : Int) + 1 = e) : (match bindT [2] (D.str [c]) [v0, .v (.int a), v2] with
      | some e => evSs g cl true (numW gz) e h
      | none => .stuck) = .ok (.nx [v0, .v (.int e), .v (.str [c])]) h := by
  have hi := index_az (h := h) h1 h2
  generalize ((c - 97 : Nat) : Int) = d at hi he
  generalize AZ = az at hz hi
  simp only [numW, bind_one, List.set_cons_succ, List.set_cons_zero, evSs, evS, evE, ldV_zero, ldV_succ, bind_ok, bindX_ok, mul_26, hz, hi, add_ii, he]
theorem num_step (hz : g.glb gz = .str AZ) (cl : Cl) {v0 v2 : Sl} {a c : Nat} (h1 : 97 ≤ c) (h2 : c < 123) : (match bindT [2] (D.str [c]) [v0, .v (.int a), v2] with
      | some e => evSs g cl true (numW gz) e h
      | none => .stuck) = .ok (.nx [v0, .v (.int ((a * 26 + (c - 97) + 1 : Nat) : Int)), .v (.str [c])]) h :=
  num_step' hz cl h1 h2 (by omega)
theorem num_loop (hz : g.glb gz = .str AZ) (cl : Cl) {v0 : Sl} (s : List Nat) : ∀ (a : Nat) (v2 : Sl), (∀ c ∈ s, 97 ≤ c ∧ c < 123) → ∃ v2', forL (fun x env h => match bindT [2] x env with
      | some e => evSs g cl true (numW gz) e h
      | none => .stuck) (s.map fun c => D.str [c]) [v0, .v (.int a), v2] h = .ok (.nx [v0, .v (.int (num26 a s)), v2']) h := by
  induction s with
  | nil => exact fun a v2 _ => ⟨v2, rfl⟩
  | cons c s ihs =>
    intro a v2 hs
    obtain ⟨h1, h2⟩ := hs c List.mem_cons_self
    obtain ⟨v2', ih⟩ := ihs (a * 26 + (c - 97) + 1) (.v (.str [c])) fun d hd => hs d (List.mem_cons_of_mem _ hd)
    refine ⟨v2', ?_⟩
    rw [List.map_cons]
    unfold forL
    refine (congrArg (fun r => Res.bind r _) (num_step (g := g) (h := h) hz cl h1 h2)).trans ?_
    exact ih
theorem number_eq (hf : g.fn i = some ⟨1, 3, numberB er gz⟩) (hz : g.glb gz = .str AZ) {s : List Nat} (hl : s.length ≤ 4) (hs : ∀ c ∈ s, 97 ≤ c ∧ c < 123) : (cN g (n + 1)).f true i [.str s] h = .ok (.int (num26 0 s)) h := by
  rw [callN_succ, hf]
  have l4 : s.length ≤ line := Nat.le_trans hl (by decide)
  have n4 : decide ((4 : Int) < (s.length : Int)) = false := decide_eq_false (by omega)
  have ln : s.length ≤ line := l4
  simp only [List.length_cons, List.length_nil, numberB, evSs, evS, evT, evE, evEs, evOr, evIt, evIfs, List.map_cons, List.map_nil, List.cons_append, List.nil_append, List.replicate, bind_ok, bindX_ok, ldV_zero, ldV_succ, if_true, fin, isk, Option.map_some, lift, tr_bl, Bool.not_true, len_s, l4, gt_ii, n4, src_s, len_fix, List.length_map, hz]
  rw [show s.length + 1 = (s.map fun c => D.str [c]).length + 1 by rw [List.length_map], mapI_all]
  rw [mapL_pure (k := fun _ => .bl true) (fun x hx => by
    obtain ⟨c, hc, rfl⟩ := List.mem_map.mp hx
    have q : decide (c ∈ AZ) = true := decide_eq_true (mem_az.mpr (hs c hc))
    simp only [bind_one, List.set_cons_succ, List.set_cons_zero, ldV_zero, ldV_succ, bind_ok, in_cs, q, Option.map_some, lift, if_true])]
  simp only [noexc, bind_ok, all_l, List.map_map, Function.comp_def]
  have eb : bls (s.map fun _ => D.bl true) = some (s.map fun _ => true) := by
    clear hl hs l4 n4 ln
    induction s with
    | nil => rfl
    | cons c s ih => show (bls (s.map fun _ => D.bl true)).map (true :: ·) = _; rw [ih]; rfl
  have ea : (s.map fun _ => true).all id = true := by simp
  rw [eb]
  simp only [Option.map_some, lift, bind_ok, bindX_ok, ea, tr_bl, Bool.not_true, Bool.false_eq_true, if_false, List.set_cons_succ, List.set_cons_zero, ldV_zero, src_s, len_fix]
  rw [forI_all]
  obtain ⟨v2', e⟩ := num_loop (g := g) (h := h) (gz := gz) hz (cN g n) (v0 := .v (.str s)) s 0 .no hs
  generalize hG : forL _ _ _ h = r
  have hr : r = .ok (.nx [.v (.str s), .v (.int (num26 0 s)), v2']) h := hG.symm.trans e
  subst hr
  rfl
theorem number_no (hf : g.fn i = some ⟨1, 3, numberB er gz⟩) (hz : g.glb gz = .str AZ) (hx : g.xcl er = some (cdText, none)) (hc : g.cod = 0) {d : D} (hd : d ∈ ([.non, .int 3, .str [65], .str [97, 49], .str [97, 98, 99, 100, 101], .str [97, 32], .tup [.str [97]], .str [45]] : List D)) :
    (cN g (n + 1)).f true i [d] h = .exc (.exc er [(0, .str cdText)]) h := by
  rw [callN_succ, hf]
  simp only [List.mem_cons, List.not_mem_nil, or_false] at hd
  have e4 : (4 : Nat) ≤ line := by decide
  have fin' : mkX g er [] = some (.exc er [(0, .str cdText)]) := by
    unfold mkX
    rw [hx, hc]
  simp only [List.length_cons, List.length_nil, numberB, evSs, evS, evT, evE, evEs, evOr, evIt, evIfs, hz, bind_ok, bindX_ok, fin', if_true, List.map_cons, List.map_nil]
  rcases hd with rfl | rfl | rfl | rfl | rfl | rfl | rfl | rfl <;> rfl
/-! ### the law's own letters -/
def lawLetW (le : Nat) : Ss := (.cons (.ifs (.cmp .Gt (.var 0) (.cst (.int 0))) (.cons (.asg 1 (.bin .Add (.idx (.cal le .nil .nil []) (.bin .Mod (.bi .int (.bin .Sub (.var 0) (.cst (.int 1)))) (.cst (.int 26)))) (.var 1)))
  (.cons (.asg 0 (.bin .FloorDiv (.bin .Sub (.var 0) (.cst (.int 1))) (.cst (.int 26))))
  .nil)) .nil)
  .nil)
def lawLetB (le : Nat) : Ss := (.cons (.asg 1 (.cst (.str [])))
  (.cons (.for [2] (.rng (.cst (.int 8))) (lawLetW le))
  (.cons (.ret (.var 1))
  .nil)))
theorem lawLet_step {le : Nat} (hle : g.fn le = some ⟨0, 0, azB⟩) (hd : g.dfl le = []) {m : Nat} {found : List Nat} {v2 : Sl} (hl : found.length + 1 ≤ line) :
    evSs g (cN g (n + 1)) true (lawLetW le) [.v (.int m), .v (.str found), v2] h = .ok (.nx [.v (.int ((m - 1) / 26 : Nat)), .v (.str (if m = 0 then found else (97 + (m - 1) % 26) :: found)), v2]) h := by
  have t1 : decide ((0 : Int) < (m : Int)) = decide (0 < m) := by
    by_cases q : 0 < m
    · rw [decide_eq_true q, decide_eq_true (by omega)]
    · rw [decide_eq_false q, decide_eq_false (by omega)]
  have e1 : ((m : Int) - 1) % 26 = ((((m : Int) - 1) % 26).toNat : Int) := by omega
  by_cases h0 : m = 0
  · subst h0
    simp only [lawLetW, evSs, evS, evT, evE, ldV_zero, bind_ok, bindX_ok, gt_ii, t1, Option.map_some, lift, tr_bl, Nat.lt_irrefl, decide_false, Bool.false_eq_true, if_false, if_true]
  · have h1 : decide (0 < m) = true := decide_eq_true (by omega)
    have e1 : ((m : Int) - 1) % 26 = (((m - 1) % 26 : Nat) : Int) := by omega
    have e2 : ((m : Int) - 1) / 26 = (((m - 1) / 26 : Nat) : Int) := by omega
    have ln : (AZ.length ≤ line) = True := eq_true (by decide)
    have l2 : (1 + found.length ≤ line) = True := eq_true (by omega)
    have c1 : ((0 : Int) < 26) = True := eq_true (by decide)
    have c2 : ((26 : Int) < 1073741824) = True := eq_true (by decide)
    simp only [lawLetW, evSs, evS, evT, evE, evEs, ldV_zero, ldV_succ, bind_ok, bindX_ok, gt_ii, t1, h1, Option.map_some, lift, tr_bl, if_true, sub_ii, int_i, mod_ii, c1, e1, hd, List.append_nil, pick, az_eq hle, ix_si, ln, az_at _ (Nat.mod_lt _ (by decide : 0 < 26)), add_ss, List.length_cons, List.length_nil, Nat.zero_add, l2, List.set_cons_succ, List.set_cons_zero, fdiv_ii, c2, and_self, e2, List.cons_append, List.nil_append, h0, if_false]
theorem lawLet_loop {le : Nat} (hle : g.fn le = some ⟨0, 0, azB⟩) (hd : g.dfl le = []) : ∀ (l : List D) (m : Nat) (found : List Nat) (v2 : Sl), m ≤ bnd26 l.length → found.length + l.length ≤ line → ∃ v2', forL (fun x env h => match bindT [2] x env with
      | some e => evSs g (cN g (n + 1)) true (lawLetW le) e h
      | none => .stuck) l [.v (.int m), .v (.str found), v2] h = .ok (.nx [.v (.int 0), .v (.str (let26 l.length m ++ found)), v2']) h := by
  intro l
  induction l with
  | nil =>
    intro m found v2 hm _
    obtain rfl : m = 0 := Nat.le_zero.mp hm
    exact ⟨v2, rfl⟩
  | cons x l ih =>
    intro m found v2 hm hl
    have hl' : found.length + (l.length + 1) ≤ line := hl
    have hm' : m ≤ 26 * bnd26 l.length + 26 := hm
    obtain ⟨v2', q⟩ := ih ((m - 1) / 26) (if m = 0 then found else (97 + (m - 1) % 26) :: found) (.v x) (by omega) (by split <;> (try rw [List.length_cons]) <;> omega)
    refine ⟨v2', ?_⟩
    unfold forL
    have st := lawLet_step (n := n) (h := h) hle hd (m := m) (found := found) (v2 := .v x) (by omega)
    refine (congrArg (fun r => Res.bind r _) (show (match bindT [2] x [.v (.int m), .v (.str found), v2] with
      | some e => evSs g (cN g (n + 1)) true (lawLetW le) e h
      | none => .stuck) = _ from st)).trans ?_
    refine q.trans ?_
    show Res.ok (Fl.nx [_, _, _]) h = Res.ok (Fl.nx [_, _, _]) h
    congr 6
    show _ = (if m = 0 then [] else let26 l.length ((m - 1) / 26) ++ [97 + (m - 1) % 26]) ++ found
    by_cases h0 : m = 0
    · subst h0
      rw [if_pos rfl, if_pos rfl]
      cases l with
      | nil => rfl
      | cons y r => rfl
    · rw [if_neg h0, if_neg h0, List.append_assoc]
      rfl
theorem lawLet_eq {le : Nat} (hf : g.fn i = some ⟨1, 3, lawLetB le⟩) (hle : g.fn le = some ⟨0, 0, azB⟩) (hd : g.dfl le = []) {m : Nat} (hm : m ≤ bnd26 8) : (cN g (n + 1 + 1)).f true i [.int m] h = .ok (.str (let26 8 m)) h := by
  rw [callN_succ, hf]
  obtain ⟨v2', e⟩ := lawLet_loop (n := n) (h := h) hle hd (range 0 8) m [] .no hm (by decide)
  simp only [List.length_cons, List.length_nil, lawLetB, evSs, evS, evE, evIt, List.map_cons, List.map_nil, List.cons_append, List.nil_append, List.replicate, bind_ok, bindX_ok, if_true, fin, List.set_cons_succ, List.set_cons_zero, show (-(2 ^ 62) ≤ (8 : Int) ∧ (8 : Int) < 2 ^ 62) = True from eq_true (by decide), len_fix, forI_all]
  generalize hG : forL _ _ _ h = r
  have hr := hG.symm.trans e
  subst hr
  rw [show let26 8 m = let26 (range 0 8).length m ++ [] from (List.append_nil _).symm]
  rfl
end
/-! ### a lambda that raises -/
theorem why_exc {g : G} {call : Cl} {k c : Nat} {fs : List (Nat × D)} {env : Env} {h h1 h2 : AH} {cd v : D} (hw : g.lamw k = []) (he : evE g call true (g.lam k) env h = .exc (.exc c fs) h1) (hc : lkN g.cod fs = some cd) (hx : call.x g.fld c fs h1 = .ok v h2) : whyR g call k env h = .ok (.tup [cd, v]) h2 := by
  unfold whyR
  rw [hw]
  show (match evE g call true (g.lam k) env h with
    | .ok v h => _
    | .exc (.exc c fs) h => _
    | _ => _) = _
  rw [he]
  simp only [hc, hx, noexc, bind_ok]
theorem cN_why {g : G} {n k : Nat} {env : Env} {h : AH} : (cN g (n + 1)).why k env h = whyR g (cN g n) k env h := rfl
end Rk

set_option maxHeartbeats 4000000
/-! Rk.Ke: keys and their parts. -/
namespace Rk
open PySem
def keyB (le : Nat) : Ss := (.cons (.ret (.bin .Add (.var 0) (.cal le (.cons (.var 1) .nil) .nil [0])))
  .nil)
def partsB (er nb gz : Nat) : Ss := (.cons (.ifs (.not (.isi (.var 0) .str)) (.cons (.rse er .nil)
  .nil) .nil)
  (.cons (.asg 1 (.mt .rstrip (.var 0) (.glb gz)))
  (.cons (.ifs (.cmp .Eq (.var 1) (.cst (.str []))) (.cons (.rse er .nil)
  .nil) .nil)
  (.cons (.ret (.tup (.cons (.var 1) (.cons (.cal nb (.cons (.slc (.var 0) (.so (.bi .len (.var 1))) .no) .nil) .nil [0]) .nil))))
  .nil))))
theorem strip_at {s t : List Nat} {c : Nat} (hc : c ∉ AZ) (ht : ∀ d ∈ t, d ∈ AZ) : PySem.stripHi (⟨AZ.toArray⟩ : Str).cps.contains true ⟨(s ++ [c] ++ t).toArray⟩ 0 = s.length + 1 := by
  have q : ((s ++ [c] ++ t).reverse.takeWhile fun x => AZ.toArray.contains x).length = t.length := by
    rw [List.reverse_append, List.takeWhile_append_of_pos, List.length_append, List.length_reverse, List.reverse_append]
    · have : ((([c] : List Nat).reverse ++ s.reverse).takeWhile fun x => AZ.toArray.contains x) = [] := by
        show List.takeWhile _ (c :: s.reverse) = []
        rw [List.takeWhile_cons_of_neg]
        simpa using hc
      rw [this]
      rfl
    · intro d hd
      simpa using ht d (List.mem_reverse.mp hd)
  show (s ++ [c] ++ t).toArray.size - (((s ++ [c] ++ t).toArray.toList.drop 0).reverse.takeWhile _).length = _
  rw [List.drop_zero]
  show (s ++ [c] ++ t).toArray.size - ((s ++ [c] ++ t).reverse.takeWhile fun x => AZ.toArray.contains x).length = _
  rw [q, List.size_toArray, List.length_append, List.length_append]
  simp
theorem strip_all {t : List Nat} (ht : ∀ d ∈ t, d ∈ AZ) : PySem.stripHi (⟨AZ.toArray⟩ : Str).cps.contains true ⟨t.toArray⟩ 0 = 0 := by
  have q : (t.reverse.takeWhile fun x => AZ.toArray.contains x) = t.reverse := by
    have h := List.takeWhile_append_of_pos (p := fun x => AZ.toArray.contains x) (l₁ := t.reverse) (l₂ := []) fun d hd => by simpa using ht d (List.mem_reverse.mp hd)
    rw [List.append_nil, List.takeWhile_nil, List.append_nil] at h
    exact h
  show t.toArray.size - ((t.toArray.toList.drop 0).reverse.takeWhile _).length = _
  rw [List.drop_zero]
  show t.toArray.size - (t.reverse.takeWhile fun x => AZ.toArray.contains x).length = _
  rw [q, List.size_toArray, List.length_reverse]
  omega
section
variable {g : G} {n i nu gm er gz le nb : Nat} {h : AH}
theorem rstrip_ss {s b : List Nat} (hl : s.length ≤ line) : mtop .rstrip (.str s) (.str b) h = .ok (.str (s.take (PySem.stripHi (⟨b.toArray⟩ : Str).cps.contains true ⟨s.toArray⟩ 0))) h := by
  show (if s.length ≤ line then _ else _) = _
  rw [if_pos hl]
theorem key_eq (hf : g.fn i = some ⟨2, 2, keyB le⟩) (hle : g.fn le = some ⟨1, 2, lettersB nu gm er gz⟩) (hd1 : g.dfl le = []) (hnu : g.fn nu = some ⟨3, 3, numB⟩) (hd : g.dfl nu = []) (hm : g.glb gm = .int 1000000) (hz : g.glb gz = .str AZ) {s : List Nat} {m : Nat} (hl : m ≤ 1000000) (hs : s.length ≤ 1000) :
    (cN g (n + 1 + 1 + 1)).f true i [.str s, .int m] h = .ok (.str (s ++ let26 5 m)) h := by
  rw [callN_succ, hf]
  have e := letters_eq (n := n) (h := h) hle hnu hd hm hz hl
  have l5 := let26_len 5 m
  have hl2 : (s.length + (let26 5 m).length ≤ line) = True := eq_true (Nat.le_trans (show _ ≤ 1005 by omega) (by decide))
  generalize let26 5 m = L at e hl2
  simp only [keyB, fin, List.length_cons, List.length_nil, evSs, evS, evE, evEs, List.map_cons, List.map_nil, List.cons_append, List.nil_append, List.replicate, bind_ok, bindX_ok, ldV_zero, ldV_succ, if_true, hd1, List.append_nil, pick, List.getElem?_cons_zero, List.getElem?_cons_succ, e, add_ss, hl2, noexc]
theorem key_no (hf : g.fn i = some ⟨2, 2, keyB le⟩) (hle : g.fn le = some ⟨1, 2, lettersB nu gm er gz⟩) (hd1 : g.dfl le = []) (hnu : g.fn nu = some ⟨3, 3, numB⟩) (hd : g.dfl nu = []) (hm : g.glb gm = .int 1000000) (hx : g.xcl er = some (cdNum, some 1)) (hc : g.cod = 0) {s : List Nat} {d : D} (hp : plain d = true) (hn : isN' 0 1000000 d = false) :
    (cN g (n + 1 + 1 + 1)).f true i [.str s, d] h = .exc (.exc er [(0, .str cdNum), (1, d)]) h := by
  rw [callN_succ, hf]
  have e := letters_no (n := n) (h := h) hle hnu hd hm hx hc hp hn
  simp only [keyB, fin, List.length_cons, List.length_nil, evSs, evS, evE, evEs, List.map_cons, List.map_nil, List.cons_append, List.nil_append, List.replicate, bind_ok, bindX_ok, ldV_zero, ldV_succ, if_true, hd1, List.append_nil, pick, List.getElem?_cons_zero, List.getElem?_cons_succ, e]
  rfl
theorem parts_eq (hf : g.fn i = some ⟨1, 2, partsB er nb gz⟩) (hnb : g.fn nb = some ⟨1, 3, numberB er gz⟩) (hd : g.dfl nb = []) (hz : g.glb gz = .str AZ) {s t : List Nat} {c : Nat} (hc : c ∉ AZ) (ht : ∀ d ∈ t, d ∈ AZ) (hl : t.length ≤ 4) (hs : s.length ≤ 1000) :
    (cN g (n + 1 + 1)).f true i [.str (s ++ [c] ++ t)] h = .ok (.tup [.str (s ++ [c]), .int (num26 0 t)]) h := by
  rw [callN_succ, hf]
  have hk : (s ++ [c] ++ t).length ≤ line := by
    rw [List.length_append, List.length_append]
    exact Nat.le_trans (show s.length + 1 + t.length ≤ 1005 by omega) (by decide)
  have e := number_eq (n := n) (h := h) hnb hz hl fun d hd => mem_az.mp (ht d hd)
  have r := rstrip_ss (h := h) (s := s ++ [c] ++ t) (b := AZ) hk
  rw [strip_at hc ht, show (s ++ [c] ++ t).take (s.length + 1) = s ++ [c] by rw [List.take_append_of_le_length (by simp)]; exact List.take_of_length_le (by simp)] at r
  have sl : ((s ++ [c]).length ≤ line) = True := eq_true (by rw [List.length_append]; exact Nat.le_trans (show s.length + 1 ≤ 1001 by omega) (by decide))
  have ne : cmpop .Eq (.str (s ++ [c])) (.str []) = some false := by
    show (if dpt 60 (.str (s ++ [c])) && dpt 60 (.str []) then some (deq (.str (s ++ [c])) (.str [])) else none) = _
    show some ((s ++ [c]) == ([] : List Nat)) = some false
    cases s <;> rfl
  have cd : cut (s ++ [c] ++ t) (some (((s ++ [c]).length : Nat) : Int)) none = t := by
    rw [cut_drop (by omega) (by rw [List.length_append (as := s ++ [c])]; omega), Int.toNat_natCast, List.drop_left]
  generalize hK : s ++ [c] ++ t = K at r cd hk
  generalize s ++ [c] = S at r sl ne cd
  simp only [partsB, fin, List.length_cons, List.length_nil, evSs, evS, evT, evE, evEs, evOp, List.map_cons, List.map_nil, List.cons_append, List.nil_append, List.replicate, bind_ok, bindX_ok, ldV_zero, ldV_succ, if_true, hd, List.append_nil, pick, List.getElem?_cons_zero, List.getElem?_cons_succ, isk, Option.map_some, lift, tr_bl, Bool.not_true, Bool.false_eq_true, if_false, hz, r, List.set_cons_succ, List.set_cons_zero, ne, len_s, sl, sl_s, hk, cd, e, noexc]
  rfl
theorem parts_no (hf : g.fn i = some ⟨1, 2, partsB er nb gz⟩) (hz : g.glb gz = .str AZ) (hx : g.xcl er = some (cdText, none)) (hc : g.cod = 0) {d : D} (hd : d ∈ ([.non, .int 3, .tup [.str [97]], .bl true] : List D)) :
    (cN g (n + 1)).f true i [d] h = .exc (.exc er [(0, .str cdText)]) h := by
  rw [callN_succ, hf]
  simp only [List.mem_cons, List.not_mem_nil, or_false] at hd
  have mk : mkX g er [] = some (.exc er [(0, .str cdText)]) := by
    unfold mkX
    rw [hx, hc]
  simp only [partsB, List.length_cons, List.length_nil, evSs, evS, evT, evE, evEs, hz, bind_ok, bindX_ok, mk, if_true, List.map_cons, List.map_nil]
  rcases hd with rfl | rfl | rfl | rfl <;> rfl
theorem parts_far (hf : g.fn i = some ⟨1, 2, partsB er nb gz⟩) (hnb : g.fn nb = some ⟨1, 3, numberB er gz⟩) (hd : g.dfl nb = []) (hz : g.glb gz = .str AZ) (hx : g.xcl er = some (cdText, none)) (hcc : g.cod = 0) {s : List Nat} {c : Nat} (hc : c ∉ AZ) (hs : s.length ≤ 1000) :
    (cN g (n + 1 + 1)).f true i [.str (s ++ [c] ++ [97, 98, 99, 100, 101])] h = .exc (.exc er [(0, .str cdText)]) h := by
  rw [callN_succ, hf]
  have ht : ∀ d ∈ ([97, 98, 99, 100, 101] : List Nat), d ∈ AZ := by decide
  have hk : (s ++ [c] ++ [97, 98, 99, 100, 101]).length ≤ line := by
    rw [List.length_append, List.length_append]
    exact Nat.le_trans (show s.length + 1 + 5 ≤ 1006 by omega) (by decide)
  have e := number_no (n := n) (h := h) hnb hz hx hcc (d := .str [97, 98, 99, 100, 101]) (by simp)
  have r := rstrip_ss (h := h) (s := s ++ [c] ++ [97, 98, 99, 100, 101]) (b := AZ) hk
  rw [strip_at hc ht, show List.take (s.length + 1) (s ++ [c] ++ ([97, 98, 99, 100, 101] : List Nat)) = s ++ [c] by rw [List.take_append_of_le_length (by simp)]; exact List.take_of_length_le (by simp)] at r
  have sl : ((s ++ [c]).length ≤ line) = True := eq_true (by rw [List.length_append]; exact Nat.le_trans (show s.length + 1 ≤ 1001 by omega) (by decide))
  have ne : cmpop .Eq (.str (s ++ [c])) (.str []) = some false := by
    show (if dpt 60 (.str (s ++ [c])) && dpt 60 (.str []) then some (deq (.str (s ++ [c])) (.str [])) else none) = _
    show some ((s ++ [c]) == ([] : List Nat)) = some false
    cases s <;> rfl
  have cd : cut (s ++ [c] ++ [97, 98, 99, 100, 101]) (some (((s ++ [c]).length : Nat) : Int)) none = [97, 98, 99, 100, 101] := by
    rw [cut_drop (by omega) (by rw [List.length_append (as := s ++ [c])]; omega), Int.toNat_natCast, List.drop_left]
  generalize hK : s ++ [c] ++ [97, 98, 99, 100, 101] = K at r cd hk
  generalize s ++ [c] = S at r sl ne cd
  simp only [partsB, fin, List.length_cons, List.length_nil, evSs, evS, evT, evE, evEs, evOp, List.map_cons, List.map_nil, List.cons_append, List.nil_append, List.replicate, bind_ok, bindX_ok, ldV_zero, ldV_succ, if_true, hd, List.append_nil, pick, List.getElem?_cons_zero, List.getElem?_cons_succ, isk, Option.map_some, lift, tr_bl, Bool.not_true, Bool.false_eq_true, if_false, hz, r, List.set_cons_succ, List.set_cons_zero, ne, len_s, sl, sl_s, hk, cd, e, noexc]
  rfl
theorem parts_all (hf : g.fn i = some ⟨1, 2, partsB er nb gz⟩) (hz : g.glb gz = .str AZ) (hx : g.xcl er = some (cdText, none)) (hcc : g.cod = 0) {t : List Nat} (ht : ∀ d ∈ t, d ∈ AZ) (hl : t.length ≤ line) :
    (cN g (n + 1)).f true i [.str t] h = .exc (.exc er [(0, .str cdText)]) h := by
  rw [callN_succ, hf]
  have r := rstrip_ss (h := h) (s := t) (b := AZ) hl
  rw [strip_all ht, List.take_zero] at r
  have mk : mkX g er [] = some (.exc er [(0, .str cdText)]) := by
    unfold mkX
    rw [hx, hcc]
  have ne : cmpop .Eq (.str []) (.str []) = some true := rfl
  simp only [partsB, fin, List.length_cons, List.length_nil, evSs, evS, evT, evE, evEs, evOp, List.map_cons, List.map_nil, List.cons_append, List.nil_append, List.replicate, bind_ok, bindX_ok, ldV_zero, ldV_succ, if_true, isk, Option.map_some, lift, tr_bl, Bool.not_true, Bool.false_eq_true, if_false, hz, r, List.set_cons_succ, List.set_cons_zero, ne, mk]
  rfl
end
end Rk

set_option maxHeartbeats 4000000
/-! Rk.Dr: drawn pieces. -/
namespace Rk
open PySem
def sFolk : List Nat := [102, 111, 108, 107]
def sTitle : List Nat := [116, 105, 116, 108, 101]
def sMore : List Nat := [109, 111, 114, 101]
def sBar : List Nat := [98, 97, 114]
def sYear : List Nat := [121, 101, 97, 114]
def pieceB (pk : Nat) : Ss := (.cons (.asg 1 (.cal pk (.cons (.var 0) (.cons (.cst (.int 6)) .nil)) .nil [0, 1]))
  (.cons (.ifs (.cmp .Lt (.var 1) (.cst (.int 2))) (.cons (.ret (.tup (.cons (.idx (.lst (.cons (.cst (.str [102, 111, 108, 107])) (.cons (.cst (.str [116, 105, 116, 108, 101])) .nil))) (.var 1)) (.cons (.bin .Add (.cst (.int 1)) (.cal pk (.cons (.var 0) (.cons (.cst (.int 4)) .nil)) .nil [0, 1])) (.cons (.bin .Add (.cst (.int 1)) (.cal pk (.cons (.var 0) (.cons (.cst (.int 8)) .nil)) .nil [0, 1])) .nil)))))
  .nil) .nil)
  (.cons (.ifs (.cmp .Eq (.var 1) (.cst (.int 2))) (.cons (.ret (.tup (.cons (.cst (.str [109, 111, 114, 101])) (.cons (.bin .Add (.cst (.int 1)) (.cal pk (.cons (.var 0) (.cons (.cst (.int 3)) .nil)) .nil [0, 1])) .nil))))
  .nil) .nil)
  (.cons (.ret (.ife (.cmp .Eq (.var 1) (.cst (.int 3))) (.tup (.cons (.cst (.str [98, 97, 114])) .nil)) (.tup (.cons (.cst (.str [121, 101, 97, 114])) (.cons (.idx (.lst (.cons (.cst (.int 2)) (.cons (.cst (.int 4)) .nil))) (.bin .Sub (.var 1) (.cst (.int 4)))) .nil)))))
  .nil))))
/-- a piece -/
inductive IsPc : D → Prop where
  | folk (a b : Int) : 1 ≤ a → a ≤ 4 → 1 ≤ b → b ≤ 8 → IsPc (.tup [.str sFolk, .int a, .int b])
  | title (a b : Int) : 1 ≤ a → a ≤ 4 → 1 ≤ b → b ≤ 8 → IsPc (.tup [.str sTitle, .int a, .int b])
  | more (a : Int) : 1 ≤ a → a ≤ 3 → IsPc (.tup [.str sMore, .int a])
  | bar : IsPc (.tup [.str sBar])
  | year2 : IsPc (.tup [.str sYear, .int 2])
  | year4 : IsPc (.tup [.str sYear, .int 4])
def piecesB (pc fo pk : Nat) : Ss := (.cons (.asg 1 (.cmpr (.cal pc (.cons (.var 0) .nil) .nil [0]) [2] (.rng (.cal pk (.cons (.var 0) (.cons (.cst (.int 5)) .nil)) .nil [0, 1])) .nil))
  (.cons (.ret (.bin .Add (.var 1) (.lst (.cons (.cal fo (.cons (.var 0) (.cons (.lst (.cons (.tup (.cons (.cst (.str [98, 97, 114])) .nil)) (.cons (.tup (.cons (.cst (.str [121, 101, 97, 114])) (.cons (.cst (.int 2)) .nil))) (.cons (.tup (.cons (.cst (.str [121, 101, 97, 114])) (.cons (.cst (.int 4)) .nil))) .nil)))) .nil)) .nil [0, 1]) .nil))))
  .nil))
def lastPc : List D := [.tup [.str sBar], .tup [.str sYear, .int 2], .tup [.str sYear, .int 4]]
section
variable {g : G} {n i : Nat} {h : AH} {P : D → AH → Prop} {X : D → AH → Prop}
theorem wp_piece {pk : Nat} (hf : g.fn i = some ⟨1, 2, pieceB pk⟩) (hpk : g.fn pk = some ⟨2, 6, pickB⟩) (hd : ∀ k, g.dfl k = []) {r : Nat} (dl : Deal r h)
    (hP : ∀ x h', IsPc x → Deal r h' → But r h h' → P x h') : Wp ((cN g (n + 1 + 1)).f true i [.ref r] h) P X := by
  rw [callN_succ, hf]
  have l3 : (0 + 1 + 1 + 1 ≤ line) = True := eq_true (by decide)
  have l2 : (0 + 1 + 1 ≤ line) = True := eq_true (by decide)
  have l1 : (0 + 1 ≤ line) = True := eq_true (by decide)
  have eqi : ∀ a b : Int, cmpop .Eq (.int a) (.int b) = some (a == b) := fun a b => rfl
  simp only [List.length_cons, List.length_nil, pieceB, evSs, evS, evT, evE, evEs, List.map_cons, List.map_nil, List.cons_append, List.nil_append, List.replicate, bind_ok, bindX_ok, ldV_zero, ldV_succ, if_true, fin, hd, List.append_nil, pick, List.getElem?_cons_zero, List.getElem?_cons_succ, Wp_bind, Wp_noexc, Wp_bindX, List.set_cons_succ, List.set_cons_zero, Wp_ok]
  refine wp_pick hpk dl (by decide) (by decide) fun k h1 k0 k1 dl1 bt1 => ?_
  obtain rfl | rfl | rfl | rfl | rfl | rfl : k = 0 ∨ k = 1 ∨ k = 2 ∨ k = 3 ∨ k = 4 ∨ k = 5 := by omega
  all_goals simp [lift, eqi, hd, pick, L2.atI, L2.ixN, ldV, bindX_ok, l1, l2, l3]
  · refine wp_pick hpk dl1 (by decide) (by decide) fun a h2 a0 a1 dl2 bt2 => ?_
    try simp only [add_ii, Wp_ok]
    refine wp_pick hpk dl2 (by decide) (by decide) fun b h3 b0 b1 dl3 bt3 => ?_
    simp only [add_ii, Wp_ok, Wp_bind, Wp_bindX, bind_ok, l3, if_true, List.length_cons, List.length_nil]
    exact hP _ _ (.folk (1 + a) (1 + b) (by omega) (by omega) (by omega) (by omega)) dl3 ((bt1.trans bt2).trans bt3)
  · refine wp_pick hpk dl1 (by decide) (by decide) fun a h2 a0 a1 dl2 bt2 => ?_
    try simp only [add_ii, Wp_ok]
    refine wp_pick hpk dl2 (by decide) (by decide) fun b h3 b0 b1 dl3 bt3 => ?_
    simp only [add_ii, Wp_ok, Wp_bind, Wp_bindX, bind_ok, l3, if_true, List.length_cons, List.length_nil]
    exact hP _ _ (.title (1 + a) (1 + b) (by omega) (by omega) (by omega) (by omega)) dl3 ((bt1.trans bt2).trans bt3)
  · refine wp_pick hpk dl1 (by decide) (by decide) fun a h2 a0 a1 dl2 bt2 => ?_
    simp only [add_ii, Wp_ok, Wp_bind, Wp_bindX, bind_ok, l2, if_true, List.length_cons, List.length_nil]
    exact hP _ _ (.more (1 + a) (by omega) (by omega)) dl2 (bt1.trans bt2)
  · exact hP _ _ .bar dl1 bt1
  · exact hP _ _ .year2 dl1 bt1
  · exact hP _ _ .year4 dl1 bt1
theorem wp_pieces {pc fo pk : Nat} (hf : g.fn i = some ⟨1, 3, piecesB pc fo pk⟩) (hpc : g.fn pc = some ⟨1, 2, pieceB pk⟩) (hpk : g.fn pk = some ⟨2, 6, pickB⟩) (hfo : g.fn fo = some ⟨2, 2, ofB pk⟩) (hd : ∀ k, g.dfl k = []) {r : Nat} (dl : Deal r h)
    (hP : ∀ l z h', l.length ≤ 4 → (∀ x ∈ l, IsPc x) → z ∈ lastPc → Deal r h' → But r h h' → P (.lst (l ++ [z])) h') : Wp ((cN g (n + 1 + 1 + 1)).f true i [.ref r] h) P X := by
  rw [callN_succ, hf]
  have l3 : (0 + 1 + 1 + 1 ≤ line) = True := eq_true (by decide)
  have l2 : (0 + 1 + 1 ≤ line) = True := eq_true (by decide)
  have l1 : (0 + 1 ≤ line) = True := eq_true (by decide)
  simp only [List.length_cons, List.length_nil, piecesB, evSs, evS, evT, evE, evEs, evIt, evIfs, List.map_cons, List.map_nil, List.cons_append, List.nil_append, List.replicate, bind_ok, bindX_ok, ldV_zero, ldV_succ, if_true, fin, hd, List.append_nil, pick, List.getElem?_cons_zero, List.getElem?_cons_succ, Wp_bind, Wp_noexc, Wp_bindX, List.set_cons_succ, List.set_cons_zero, Wp_ok]
  refine wp_pick hpk dl (by decide) (by decide) fun k h1 k0 k1 dl1 bt1 => ?_
  have hk : -(2 ^ 62) ≤ k ∧ k < 2 ^ 62 := by omega
  simp only [hk, and_self, if_true, Wp_ok, len_fix, range_len']
  rw [if_pos (show k.toNat ≤ line from Nat.le_trans (show k.toNat ≤ 8 by omega) e8)]
  simp only [Wp_bind, Wp_noexc]
  rw [show k.toNat = (range 0 k).length by rw [range_len'], mapI_all]
  refine mapL_inv (I := fun h' => Deal r h' ∧ But r h h') (p := IsPc) ⟨dl1, bt1⟩ (fun x hx h2 ⟨dl2, bt2⟩ => ?_) fun ys h2 ⟨dl2, bt2⟩ hys hl => ?_
  · simp only [bind_one, List.set_cons_succ, List.set_cons_zero, Wp_ok, Wp_bind, bind_ok, if_true, ldV_zero, ldV_succ, pick, List.getElem?_cons_zero, List.getElem?_cons_succ]
    refine wp_piece hpc hpk hd dl2 fun y h3 hy dl3 bt3 => ?_
    exact ⟨⟨dl3, bt2.trans bt3⟩, y, rfl, hy⟩
  rw [range_len'] at hl
  have hl4 : ys.length ≤ 4 := by omega
  simp only [Wp_ok, List.set_cons_succ, List.set_cons_zero, ldV_zero, ldV_succ, Wp_bind, Wp_bindX, bind_ok, List.length_cons, List.length_nil, l1, l2, l3, if_true]
  refine wp_of_l hpk hfo (hd pk) dl2 (by simp) (by simp) fun z h3 hz dl3 bt3 => ?_
  simp only [Wp_ok, Wp_bind, Wp_bindX, bind_ok, add_ll, List.length_cons, List.length_nil, l1, if_true]
  rw [if_pos (Nat.le_trans (show ys.length + (0 + 1) ≤ 8 by omega) e8)]
  simp only [Wp_ok, Wp_bind, Wp_bindX, bind_ok]
  exact hP ys z h3 hl4 hys hz dl3 (bt2.trans bt3)
end
end Rk

set_option maxHeartbeats 4000000
/-! Rk.St: pieces, works and stems as typed data. -/
namespace Rk
open PySem
inductive Pc where
  | folk (a b : Nat) | title (a b : Nat) | more (a : Nat) | bar | year (d : Nat)
  deriving DecidableEq
def Pc.d : Pc → D
  | .folk a b => .tup [.str sFolk, .int a, .int b]
  | .title a b => .tup [.str sTitle, .int a, .int b]
  | .more a => .tup [.str sMore, .int a]
  | .bar => .tup [.str sBar]
  | .year d => .tup [.str sYear, .int d]
def Pc.ok : Pc → Prop
  | .folk a b => 1 ≤ a ∧ a ≤ 4 ∧ 1 ≤ b ∧ b ≤ 8
  | .title a b => 1 ≤ a ∧ a ≤ 4 ∧ 1 ≤ b ∧ b ≤ 8
  | .more a => 1 ≤ a ∧ a ≤ 3
  | .bar => True
  | .year d => d = 2 ∨ d = 4
structure Wk where
  folk : List (List Nat)
  year : Nat
  title : List (List Nat)
abbrev wordsD (l : List (List Nat)) : D := .tup (l.map .str)
def Wk.d (w : Wk) : D := .tup [wordsD w.folk, .int w.year, wordsD w.title]
def okW (s : List Nat) : Prop := 1 ≤ s.length ∧ s.length ≤ 8 ∧ ∀ c ∈ s, c ∈ AZ
def okWs (l : List (List Nat)) : Prop := 1 ≤ l.length ∧ l.length ≤ 4 ∧ ∀ s ∈ l, okW s
structure Wk.ok (w : Wk) : Prop where
  folk : okWs w.folk
  title : okWs w.title
  year : w.year ≤ 9999
def full4 (y : Nat) : List Nat := List.replicate (4 - (TL.numL y).length) 48 ++ TL.numL y
def madeW (l : List (List Nat)) (many signs : Nat) : List Nat := TL.joinL [95] ((l.take many).map fun x => x.take signs)
def Pc.made (p : Pc) (w : Wk) : List Nat := match p with
  | .folk a b => madeW w.folk a b
  | .title a b => madeW w.title a b
  | .more a => if a < w.folk.length then [43] else []
  | .bar => [45]
  | .year d => (full4 w.year).drop (4 - d)
def stemOf (ps : List Pc) (w : Wk) : List Nat := TL.joinL [46] (ps.map fun p => p.made w)
theorem list_ex {α : Type} {d : α → D} {Q : α → Prop} : ∀ {l : List D}, (∀ x ∈ l, ∃ a, x = d a ∧ Q a) → ∃ as : List α, l = as.map d ∧ ∀ a ∈ as, Q a
  | [], _ => ⟨[], rfl, fun _ h => (nomatch h)⟩
  | x :: l, H => by
    obtain ⟨a, rfl, q⟩ := H x List.mem_cons_self
    obtain ⟨as, rfl, q2⟩ := list_ex fun y hy => H y (List.mem_cons_of_mem _ hy)
    refine ⟨a :: as, rfl, fun b hb => ?_⟩
    rcases List.mem_cons.mp hb with rfl | hb
    · exact q
    · exact q2 b hb
theorem IsPc.pc {x : D} (h : IsPc x) : ∃ p : Pc, x = p.d ∧ p.ok := by
  cases h with
  | folk a b h1 h2 h3 h4 => exact ⟨.folk a.toNat b.toNat, by show _ = D.tup [.str sFolk, .int (a.toNat : Int), .int (b.toNat : Int)]; rw [Int.toNat_of_nonneg (by omega), Int.toNat_of_nonneg (by omega)], by show 1 ≤ a.toNat ∧ a.toNat ≤ 4 ∧ 1 ≤ b.toNat ∧ b.toNat ≤ 8; omega⟩
  | title a b h1 h2 h3 h4 => exact ⟨.title a.toNat b.toNat, by show _ = D.tup [.str sTitle, .int (a.toNat : Int), .int (b.toNat : Int)]; rw [Int.toNat_of_nonneg (by omega), Int.toNat_of_nonneg (by omega)], by show 1 ≤ a.toNat ∧ a.toNat ≤ 4 ∧ 1 ≤ b.toNat ∧ b.toNat ≤ 8; omega⟩
  | more a h1 h2 => exact ⟨.more a.toNat, by show _ = D.tup [.str sMore, .int (a.toNat : Int)]; rw [Int.toNat_of_nonneg (by omega)], by show 1 ≤ a.toNat ∧ a.toNat ≤ 3; omega⟩
  | bar => exact ⟨.bar, rfl, trivial⟩
  | year2 => exact ⟨.year 2, rfl, .inl rfl⟩
  | year4 => exact ⟨.year 4, rfl, .inr rfl⟩
theorem pieces_pc {l : List D} {z : D} (h1 : ∀ x ∈ l, IsPc x) (h2 : z ∈ lastPc) : ∃ (ps : List Pc) (q : Pc), l ++ [z] = (ps ++ [q]).map Pc.d ∧ (∀ p ∈ ps, p.ok) ∧ ps.length = l.length ∧ (q = .bar ∨ q = .year 2 ∨ q = .year 4) := by
  obtain ⟨ps, rfl, q⟩ := list_ex (d := Pc.d) (Q := Pc.ok) fun x hx => (h1 x hx).pc
  simp only [lastPc, List.mem_cons, List.not_mem_nil, or_false] at h2
  rcases h2 with rfl | rfl | rfl
  · exact ⟨ps, .bar, by rw [List.map_append]; rfl, q, by rw [List.length_map], .inl rfl⟩
  · exact ⟨ps, .year 2, by rw [List.map_append]; rfl, q, by rw [List.length_map], .inr (.inl rfl)⟩
  · exact ⟨ps, .year 4, by rw [List.map_append]; rfl, q, by rw [List.length_map], .inr (.inr rfl)⟩
theorem Wd1.ok {x : D} (h : Wd1 x) : ∃ s : List Nat, x = .str s ∧ okW s := by
  obtain ⟨s, rfl, h1, h2⟩ := h
  have h1 : (decide (1 ≤ s.length) && decide (s.length ≤ 8) && s.all fun c => decide (c ∈ AZ)) = true := h1
  rw [Bool.and_eq_true, Bool.and_eq_true] at h1
  exact ⟨s, rfl, of_decide_eq_true h1.1.1, h2, fun c hc => of_decide_eq_true (List.all_eq_true.mp h1.2 c hc)⟩
theorem Ws1.ok {x : D} (h : Ws1 x) : ∃ l : List (List Nat), x = wordsD l ∧ okWs l := by
  obtain ⟨l, rfl, h1, h2, h3⟩ := h
  obtain ⟨as, rfl, q⟩ := list_ex (d := D.str) (Q := okW) fun y hy => (h3 y hy).ok
  rw [List.length_map] at h1 h2
  exact ⟨as, rfl, h1, h2, q⟩
theorem Wk1.ok {x : D} (h : Wk1 x) : ∃ w : Wk, x = w.d ∧ w.ok := by
  obtain ⟨a, y, b, rfl, ha, hb, h0, h1⟩ := h
  obtain ⟨f, rfl, hf⟩ := ha.ok
  obtain ⟨t, rfl, ht⟩ := hb.ok
  exact ⟨⟨f, y.toNat, t⟩, by show _ = D.tup [_, .int (y.toNat : Int), _]; rw [Int.toNat_of_nonneg h0], hf, ht, by show y.toNat ≤ 9999; omega⟩
theorem strL_map : ∀ l : List (List Nat), strL (l.map D.str) = some l
  | [] => rfl
  | x :: l => by
    show (strL (l.map D.str)).map (x :: ·) = _
    rw [strL_map l]
    rfl
theorem sumN_le {k : Nat} : ∀ {l : List (List Nat)}, (∀ s ∈ l, s.length ≤ k) → sumN l ≤ l.length * k
  | [], _ => Nat.zero_le _
  | s :: l, H => by
    have h1 := H s List.mem_cons_self
    have h2 := sumN_le fun t ht => H t (List.mem_cons_of_mem _ ht)
    show s.length + sumN l ≤ (l.length + 1) * k
    rw [Nat.add_mul]
    omega
theorem joinL_len (z : List Nat) : ∀ l : List (List Nat), (TL.joinL z l).length ≤ sumN l + l.length * z.length
  | [] => Nat.zero_le _
  | [s] => by show s.length ≤ s.length + 0 + _; omega
  | s :: t :: l => by
    have ih := joinL_len z (t :: l)
    show (s ++ (z ++ TL.joinL z (t :: l))).length ≤ s.length + sumN (t :: l) + ((t :: l).length + 1) * z.length
    rw [List.length_append, List.length_append, Nat.add_mul]
    omega
theorem full4_len {y : Nat} (h : y ≤ 9999) : (full4 y).length = 4 := by
  have := TL.numL_len (n := y) (k := 4) (by decide) (by omega)
  unfold full4
  rw [List.length_append, List.length_replicate]
  omega
theorem madeW_len {l : List (List Nat)} {a b : Nat} (hl : l.length ≤ 4) (hb : b ≤ 8) : (madeW l a b).length ≤ 36 := by
  unfold madeW
  refine Nat.le_trans (joinL_len _ _) ?_
  have h1 : sumN ((l.take a).map fun x => x.take b) ≤ ((l.take a).map fun x => x.take b).length * 8 := sumN_le fun s hs => by
    obtain ⟨x, _, rfl⟩ := List.mem_map.mp hs
    rw [List.length_take]
    omega
  rw [List.length_map, List.length_take] at h1
  rw [List.length_map, List.length_take]
  show _ + _ * 1 ≤ _
  omega
theorem made_len {p : Pc} {w : Wk} (hp : p.ok) (hw : w.ok) : (p.made w).length ≤ 36 := by
  cases p with
  | folk a b => exact madeW_len hw.folk.2.1 hp.2.2.2
  | title a b => exact madeW_len hw.title.2.1 hp.2.2.2
  | more a => show (if a < w.folk.length then [43] else []).length ≤ 36; split <;> decide
  | bar => show ([45] : List Nat).length ≤ 36; decide
  | year d =>
    show ((full4 w.year).drop (4 - d)).length ≤ 36
    rw [List.length_drop, full4_len hw.year]
    omega
theorem stem_len {ps : List Pc} {w : Wk} (hp : ∀ p ∈ ps, p.ok) (hw : w.ok) : (stemOf ps w).length ≤ ps.length * 37 := by
  unfold stemOf
  refine Nat.le_trans (joinL_len _ _) ?_
  have h1 : sumN (ps.map fun p => p.made w) ≤ (ps.map fun p => p.made w).length * 36 := sumN_le fun s hs => by
    obtain ⟨p, h, rfl⟩ := List.mem_map.mp hs
    exact made_len (hp p h) hw
  rw [List.length_map] at h1 ⊢
  show _ + _ * 1 ≤ _
  omega
theorem joinL_last (z : List Nat) : ∀ (l : List (List Nat)) (s : List Nat), ∃ t, TL.joinL z (l ++ [s]) = t ++ s
  | [], s => ⟨[], rfl⟩
  | [x], s => ⟨x ++ z, by show x ++ (z ++ s) = _; rw [List.append_assoc]⟩
  | x :: y :: l, s => by
    obtain ⟨t, e⟩ := joinL_last z (y :: l) s
    exact ⟨x ++ (z ++ t), by show x ++ (z ++ TL.joinL z ((y :: l) ++ [s])) = _; rw [e, List.append_assoc, List.append_assoc]⟩
/-- a stem's last sign is no letter -/
theorem stem_last {ps : List Pc} {q : Pc} {w : Wk} (hq : q = .bar ∨ q = .year 2 ∨ q = .year 4) (hw : w.ok) : ∃ (s : List Nat) (c : Nat), stemOf (ps ++ [q]) w = s ++ [c] ∧ c ∉ AZ := by
  have e : ∃ (s : List Nat) (c : Nat), q.made w = s ++ [c] ∧ c ∉ AZ := by
    have f : ∀ d : Nat, d = 2 ∨ d = 4 → ∃ (s : List Nat) (c : Nat), (full4 w.year).drop (4 - d) = s ++ [c] ∧ c ∉ AZ := by
      intro d hd
      have hl : ((full4 w.year).drop (4 - d)).length = d := by rw [List.length_drop, full4_len hw.year]; omega
      have hn : (full4 w.year).drop (4 - d) ≠ [] := fun z => by rw [z] at hl; simp at hl; omega
      refine ⟨((full4 w.year).drop (4 - d)).dropLast, ((full4 w.year).drop (4 - d)).getLast hn, (List.dropLast_concat_getLast hn).symm, fun hm => ?_⟩
      have h1 : ((full4 w.year).drop (4 - d)).getLast hn ∈ full4 w.year := List.mem_of_mem_drop (List.getLast_mem hn)
      have h2 := mem_az.mp hm
      rcases List.mem_append.mp h1 with h1 | h1
      · have := List.eq_of_mem_replicate h1
        omega
      · have := TL.numL_digits w.year _ h1
        omega
    rcases hq with rfl | rfl | rfl
    · exact ⟨[], 45, rfl, by decide⟩
    · exact f 2 (.inl rfl)
    · exact f 4 (.inr rfl)
  obtain ⟨s, c, e, hc⟩ := e
  obtain ⟨t, e2⟩ := joinL_last [46] (ps.map fun p => p.made w) (q.made w)
  refine ⟨t ++ s, c, ?_, hc⟩
  unfold stemOf
  rw [List.map_append]
  show TL.joinL [46] (_ ++ [q.made w]) = _
  rw [e2, e, List.append_assoc]
/-! ### the law's own stems -/
def madeB : Ss := (.cons (.asgt [3, 4, 5] (.var 1))
  (.cons (.ifs (.cmp .In (.idx (.var 0) (.cst (.int 0))) (.tup (.cons (.cst (.str [102, 111, 108, 107])) (.cons (.cst (.str [116, 105, 116, 108, 101])) .nil)))) (.cons (.asg 6 (.ife (.cmp .Eq (.idx (.var 0) (.cst (.int 0))) (.cst (.str [102, 111, 108, 107]))) (.var 3) (.var 5)))
  (.cons (.ret (.mt .join (.cst (.str [95])) (.cmpr (.slc (.var 7) .no (.so (.idx (.var 0) (.cst (.int 2))))) [7] (.seq (.slc (.var 6) .no (.so (.idx (.var 0) (.cst (.int 1)))))) .nil)))
  .nil)) .nil)
  (.cons (.ifs (.cmp .Eq (.idx (.var 0) (.cst (.int 0))) (.cst (.str [109, 111, 114, 101]))) (.cons (.ret (.ife (.cmp .Gt (.bi .len (.var 3)) (.idx (.var 0) (.cst (.int 1)))) (.cst (.str [43])) (.cst (.str []))))
  .nil) .nil)
  (.cons (.ifs (.cmp .Eq (.idx (.var 0) (.cst (.int 0))) (.cst (.str [98, 97, 114]))) (.cons (.ret (.cst (.str [45])))
  .nil) .nil)
  (.cons (.asg 2 (.bin .Add (.bin .Mult (.cst (.str [48])) (.bin .Sub (.cst (.int 4)) (.bi .len (.bi .str (.var 4))))) (.bi .str (.var 4))))
  (.cons (.ret (.slc (.var 2) (.so (.bin .Sub (.cst (.int 4)) (.idx (.var 0) (.cst (.int 1))))) .no))
  .nil))))))
def stemB (mb : Nat) : Ss := (.cons (.ret (.mt .join (.cst (.str [46])) (.cmpr (.cal mb (.cons (.var 2) (.cons (.var 1) .nil)) .nil [0, 1]) [2] (.seq (.var 0)) .nil)))
  .nil)
section
variable {g : G} {n i : Nat} {h : AH}
theorem str_i {i : Int} : biop .str (.int i) h = if 0 ≤ i ∧ i < 1000000000000 then .ok (.str (TL.numL i.toNat)) h else .stuck := rfl
theorem mul_si {s : List Nat} {k : Int} : binop .Mult (.str s) (.int k) h = if -1000 ≤ k ∧ k ≤ 1000 ∧ s.length ≤ 1000 then .ok (.str (List.replicate k.toNat s).flatten) h else .stuck := rfl
theorem take_words {b : Nat} {env : D → Env} {l : List (List Nat)} (f : D → AH → Res (Option D)) (hl : ∀ s ∈ l, s.length ≤ 8) (hf : ∀ s ∈ l, f (.str s) h = .ok (some (.str (s.take b))) h) : mapL f (l.map D.str) h = .ok ((l.map fun x => x.take b).map D.str) h := by
  rw [mapL_pure (k := fun x => match x with
    | .str s => .str (s.take b)
    | x => x) (fun x hx => by
      obtain ⟨s, hs, rfl⟩ := List.mem_map.mp hx
      exact hf s hs)]
  rw [List.map_map, List.map_map]
  rfl
theorem made_folk (hf : g.fn i = some ⟨2, 8, madeB⟩) {a b : Nat} {w : Wk} (hp : (Pc.folk a b).ok) (hw : w.ok) : (cN g (n + 1)).f true i [(Pc.folk a b).d, w.d] h = .ok (.str ((Pc.folk a b).made w)) h := by
  rw [callN_succ, hf]
  have bt : ∀ v0 v1 v2 v3 v4 v5 v6 v7 : Sl, ∀ a b c : D, bindT [3, 4, 5] (.tup [a, b, c]) [v0, v1, v2, v3, v4, v5, v6, v7] = some [v0, v1, v2, .v a, .v b, .v c, v6, v7] := fun _ _ _ _ _ _ _ _ _ _ _ => rfl
  have join : ∀ (l : List (List Nat)) (h : AH), l.length ≤ 4 → (∀ s ∈ l, s.length ≤ 8) → mtop .join (.str [95]) (.lst (l.map D.str)) h = .ok (.str (TL.joinL [95] l)) h := fun l h h1 h2 => by
    rw [join_l, strL_map]
    have h3 : sumN l + l.length * 1 ≤ line := Nat.le_trans (show _ ≤ 36 by have := sumN_le h2; omega) (by decide)
    show (if sumN l + l.length * ([95] : List Nat).length ≤ line then _ else _) = _
    rw [if_pos (by exact h3)]
  have i5 : ∀ a b c : D, L2.atI [a, b, c] 2 = some c := fun _ _ _ => rfl
  have i0 : ∀ a b c : D, L2.atI [a, b, c] 0 = some a := fun _ _ _ => rfl
  have i1 : ∀ a b c : D, L2.atI [a, b, c] 1 = some b := fun _ _ _ => rfl
  have i2 : ∀ a b : D, L2.atI [a, b] 0 = some a := fun _ _ => rfl
  have i3 : ∀ a b : D, L2.atI [a, b] 1 = some b := fun _ _ => rfl
  have i4 : ∀ a : D, L2.atI [a] 0 = some a := fun _ => rfl
  have hl4 : ∀ l : List (List Nat), okWs l → ∀ a, ((l.take a).length ≤ line) = True := fun l hl a => eq_true (by rw [List.length_take]; exact Nat.le_trans (show _ ≤ 8 by have := hl.2.1; omega) e8)
  have tkm : ∀ (l : List (List Nat)) (a : Nat), List.take a (l.map D.str) = (l.take a).map D.str := fun l a => (List.map_take).symm
  have c1 : cmpop .In (.str sFolk) (.tup [.str [102, 111, 108, 107], .str [116, 105, 116, 108, 101]]) = some true := rfl
  have c2 : cmpop .Eq (.str sFolk) (.str [102, 111, 108, 107]) = some true := rfl
  have jn := join ((w.folk.take a).map fun x => x.take b) h (by rw [List.length_map, List.length_take]; have := hw.folk.2.1; omega) (fun s hs => by
    obtain ⟨x, hx, rfl⟩ := List.mem_map.mp hs
    rw [List.length_take]
    have := (hw.folk.2.2 x (List.mem_of_mem_take hx)).2.1
    omega)
  simp only [madeB, Pc.d, Wk.d, wordsD, fin, List.replicate, List.map_cons, List.map_nil, evSs, evS, evT, evE, evEs, evIt, evOp, evIfs, bind_one, List.set_cons_succ, List.set_cons_zero, Wp_ok, Wp_bind, Wp_bindX, Wp_noexc, bind_ok, bindX_ok, ldV_zero, ldV_succ, pick, List.getElem?_cons_zero, List.getElem?_cons_succ, if_true, len_fix, range_len', add_ii, sub_ii, List.length_cons, List.length_nil, len_l, len_t, Wp_lift, lift, Option.map_some, src_l, src_t, tr_bl, sl_l, sl_t, List.append_nil, Nat.reduceAdd, Nat.reduceLeDiff, hline, tuple_l, list_t, List.cons_append, List.nil_append, Bool.not_true, Bool.not_false, Bool.false_eq_true, if_false, any_l, bt, i0, i1, i5, c1, c2, ix_ti, cut_to, tkm, List.length_map, hl4 _ hw.folk]
  rw [mapI_n (k := (w.folk.take a).length + 1) (l := (w.folk.take a).map D.str) (by rw [List.length_map]), take_words (b := b) (env := fun _ => []) _ (fun s hs => (hw.folk.2.2 s (List.mem_of_mem_take hs)).2.1) (fun s hs => by
    have hs8 : (s.length ≤ line) = True := eq_true (Nat.le_trans (hw.folk.2.2 s (List.mem_of_mem_take hs)).2.1 e8)
    simp only [bind_ok, sl_s, hs8, if_true, cut_to, ldV_zero, ldV_succ])]
  simp only [noexc, bind_ok, bindX_ok, jn]
  rfl
theorem made_title (hf : g.fn i = some ⟨2, 8, madeB⟩) {a b : Nat} {w : Wk} (hp : (Pc.title a b).ok) (hw : w.ok) : (cN g (n + 1)).f true i [(Pc.title a b).d, w.d] h = .ok (.str ((Pc.title a b).made w)) h := by
  rw [callN_succ, hf]
  have bt : ∀ v0 v1 v2 v3 v4 v5 v6 v7 : Sl, ∀ a b c : D, bindT [3, 4, 5] (.tup [a, b, c]) [v0, v1, v2, v3, v4, v5, v6, v7] = some [v0, v1, v2, .v a, .v b, .v c, v6, v7] := fun _ _ _ _ _ _ _ _ _ _ _ => rfl
  have join : ∀ (l : List (List Nat)) (h : AH), l.length ≤ 4 → (∀ s ∈ l, s.length ≤ 8) → mtop .join (.str [95]) (.lst (l.map D.str)) h = .ok (.str (TL.joinL [95] l)) h := fun l h h1 h2 => by
    rw [join_l, strL_map]
    have h3 : sumN l + l.length * 1 ≤ line := Nat.le_trans (show _ ≤ 36 by have := sumN_le h2; omega) (by decide)
    show (if sumN l + l.length * ([95] : List Nat).length ≤ line then _ else _) = _
    rw [if_pos (by exact h3)]
  have i5 : ∀ a b c : D, L2.atI [a, b, c] 2 = some c := fun _ _ _ => rfl
  have i0 : ∀ a b c : D, L2.atI [a, b, c] 0 = some a := fun _ _ _ => rfl
  have i1 : ∀ a b c : D, L2.atI [a, b, c] 1 = some b := fun _ _ _ => rfl
  have i2 : ∀ a b : D, L2.atI [a, b] 0 = some a := fun _ _ => rfl
  have i3 : ∀ a b : D, L2.atI [a, b] 1 = some b := fun _ _ => rfl
  have i4 : ∀ a : D, L2.atI [a] 0 = some a := fun _ => rfl
  have hl4 : ∀ l : List (List Nat), okWs l → ∀ a, ((l.take a).length ≤ line) = True := fun l hl a => eq_true (by rw [List.length_take]; exact Nat.le_trans (show _ ≤ 8 by have := hl.2.1; omega) e8)
  have tkm : ∀ (l : List (List Nat)) (a : Nat), List.take a (l.map D.str) = (l.take a).map D.str := fun l a => (List.map_take).symm
  have c1 : cmpop .In (.str sTitle) (.tup [.str [102, 111, 108, 107], .str [116, 105, 116, 108, 101]]) = some true := rfl
  have c2 : cmpop .Eq (.str sTitle) (.str [102, 111, 108, 107]) = some false := rfl
  have jn := join ((w.title.take a).map fun x => x.take b) h (by rw [List.length_map, List.length_take]; have := hw.title.2.1; omega) (fun s hs => by
    obtain ⟨x, hx, rfl⟩ := List.mem_map.mp hs
    rw [List.length_take]
    have := (hw.title.2.2 x (List.mem_of_mem_take hx)).2.1
    omega)
  simp only [madeB, Pc.d, Wk.d, wordsD, fin, List.replicate, List.map_cons, List.map_nil, evSs, evS, evT, evE, evEs, evIt, evOp, evIfs, bind_one, List.set_cons_succ, List.set_cons_zero, Wp_ok, Wp_bind, Wp_bindX, Wp_noexc, bind_ok, bindX_ok, ldV_zero, ldV_succ, pick, List.getElem?_cons_zero, List.getElem?_cons_succ, if_true, len_fix, range_len', add_ii, sub_ii, List.length_cons, List.length_nil, len_l, len_t, Wp_lift, lift, Option.map_some, src_l, src_t, tr_bl, sl_l, sl_t, List.append_nil, Nat.reduceAdd, Nat.reduceLeDiff, hline, tuple_l, list_t, List.cons_append, List.nil_append, Bool.not_true, Bool.not_false, Bool.false_eq_true, if_false, any_l, bt, i0, i1, i5, c1, c2, ix_ti, cut_to, tkm, List.length_map, hl4 _ hw.title]
  rw [mapI_n (k := (w.title.take a).length + 1) (l := (w.title.take a).map D.str) (by rw [List.length_map]), take_words (b := b) (env := fun _ => []) _ (fun s hs => (hw.title.2.2 s (List.mem_of_mem_take hs)).2.1) (fun s hs => by
    have hs8 : (s.length ≤ line) = True := eq_true (Nat.le_trans (hw.title.2.2 s (List.mem_of_mem_take hs)).2.1 e8)
    simp only [bind_ok, sl_s, hs8, if_true, cut_to, ldV_zero, ldV_succ])]
  simp only [noexc, bind_ok, bindX_ok, jn]
  rfl
theorem made_more (hf : g.fn i = some ⟨2, 8, madeB⟩) {a : Nat} {w : Wk} (hp : (Pc.more a).ok) (hw : w.ok) : (cN g (n + 1)).f true i [(Pc.more a).d, w.d] h = .ok (.str ((Pc.more a).made w)) h := by
  rw [callN_succ, hf]
  have bt : ∀ v0 v1 v2 v3 v4 v5 v6 v7 : Sl, ∀ a b c : D, bindT [3, 4, 5] (.tup [a, b, c]) [v0, v1, v2, v3, v4, v5, v6, v7] = some [v0, v1, v2, .v a, .v b, .v c, v6, v7] := fun _ _ _ _ _ _ _ _ _ _ _ => rfl
  have join : ∀ (l : List (List Nat)) (h : AH), l.length ≤ 4 → (∀ s ∈ l, s.length ≤ 8) → mtop .join (.str [95]) (.lst (l.map D.str)) h = .ok (.str (TL.joinL [95] l)) h := fun l h h1 h2 => by
    rw [join_l, strL_map]
    have h3 : sumN l + l.length * 1 ≤ line := Nat.le_trans (show _ ≤ 36 by have := sumN_le h2; omega) (by decide)
    show (if sumN l + l.length * ([95] : List Nat).length ≤ line then _ else _) = _
    rw [if_pos (by exact h3)]
  have i5 : ∀ a b c : D, L2.atI [a, b, c] 2 = some c := fun _ _ _ => rfl
  have i0 : ∀ a b c : D, L2.atI [a, b, c] 0 = some a := fun _ _ _ => rfl
  have i1 : ∀ a b c : D, L2.atI [a, b, c] 1 = some b := fun _ _ _ => rfl
  have i2 : ∀ a b : D, L2.atI [a, b] 0 = some a := fun _ _ => rfl
  have i3 : ∀ a b : D, L2.atI [a, b] 1 = some b := fun _ _ => rfl
  have i4 : ∀ a : D, L2.atI [a] 0 = some a := fun _ => rfl
  have hl4 : ∀ l : List (List Nat), okWs l → ∀ a, ((l.take a).length ≤ line) = True := fun l hl a => eq_true (by rw [List.length_take]; exact Nat.le_trans (show _ ≤ 8 by have := hl.2.1; omega) e8)
  have tkm : ∀ (l : List (List Nat)) (a : Nat), List.take a (l.map D.str) = (l.take a).map D.str := fun l a => (List.map_take).symm
  have c1 : cmpop .In (.str sMore) (.tup [.str [102, 111, 108, 107], .str [116, 105, 116, 108, 101]]) = some false := rfl
  have c2 : cmpop .Eq (.str sMore) (.str [109, 111, 114, 101]) = some true := rfl
  simp only [madeB, Pc.d, Wk.d, wordsD, fin, List.replicate, List.map_cons, List.map_nil, evSs, evS, evT, evE, evEs, evIt, evOp, evIfs, bind_one, List.set_cons_succ, List.set_cons_zero, Wp_ok, Wp_bind, Wp_bindX, Wp_noexc, bind_ok, bindX_ok, ldV_zero, ldV_succ, pick, List.getElem?_cons_zero, List.getElem?_cons_succ, if_true, len_fix, range_len', add_ii, sub_ii, List.length_cons, List.length_nil, len_l, len_t, Wp_lift, lift, Option.map_some, src_l, src_t, tr_bl, sl_l, sl_t, List.append_nil, Nat.reduceAdd, Nat.reduceLeDiff, hline, tuple_l, list_t, List.cons_append, List.nil_append, Bool.not_true, Bool.not_false, Bool.false_eq_true, if_false, any_l, bt, i2, i3, c1, c2, ix_ti, List.length_map, gt_ii]
  by_cases q : a < w.folk.length
  · have q2 : decide ((a : Int) < (w.folk.length : Int)) = true := decide_eq_true (by omega)
    simp only [q2, bind_ok, tr_bl, noexc, bindX_ok, Pc.made, if_pos q]
  · have q2 : decide ((a : Int) < (w.folk.length : Int)) = false := decide_eq_false (by omega)
    simp only [q2, bind_ok, tr_bl, noexc, bindX_ok, Pc.made, if_neg q]
theorem made_bar (hf : g.fn i = some ⟨2, 8, madeB⟩) {w : Wk} (hp : (Pc.bar).ok) (hw : w.ok) : (cN g (n + 1)).f true i [(Pc.bar).d, w.d] h = .ok (.str ((Pc.bar).made w)) h := by
  rw [callN_succ, hf]
  have bt : ∀ v0 v1 v2 v3 v4 v5 v6 v7 : Sl, ∀ a b c : D, bindT [3, 4, 5] (.tup [a, b, c]) [v0, v1, v2, v3, v4, v5, v6, v7] = some [v0, v1, v2, .v a, .v b, .v c, v6, v7] := fun _ _ _ _ _ _ _ _ _ _ _ => rfl
  have join : ∀ (l : List (List Nat)) (h : AH), l.length ≤ 4 → (∀ s ∈ l, s.length ≤ 8) → mtop .join (.str [95]) (.lst (l.map D.str)) h = .ok (.str (TL.joinL [95] l)) h := fun l h h1 h2 => by
    rw [join_l, strL_map]
    have h3 : sumN l + l.length * 1 ≤ line := Nat.le_trans (show _ ≤ 36 by have := sumN_le h2; omega) (by decide)
    show (if sumN l + l.length * ([95] : List Nat).length ≤ line then _ else _) = _
    rw [if_pos (by exact h3)]
  have i5 : ∀ a b c : D, L2.atI [a, b, c] 2 = some c := fun _ _ _ => rfl
  have i0 : ∀ a b c : D, L2.atI [a, b, c] 0 = some a := fun _ _ _ => rfl
  have i1 : ∀ a b c : D, L2.atI [a, b, c] 1 = some b := fun _ _ _ => rfl
  have i2 : ∀ a b : D, L2.atI [a, b] 0 = some a := fun _ _ => rfl
  have i3 : ∀ a b : D, L2.atI [a, b] 1 = some b := fun _ _ => rfl
  have i4 : ∀ a : D, L2.atI [a] 0 = some a := fun _ => rfl
  have hl4 : ∀ l : List (List Nat), okWs l → ∀ a, ((l.take a).length ≤ line) = True := fun l hl a => eq_true (by rw [List.length_take]; exact Nat.le_trans (show _ ≤ 8 by have := hl.2.1; omega) e8)
  have tkm : ∀ (l : List (List Nat)) (a : Nat), List.take a (l.map D.str) = (l.take a).map D.str := fun l a => (List.map_take).symm
  have c1 : cmpop .In (.str sBar) (.tup [.str [102, 111, 108, 107], .str [116, 105, 116, 108, 101]]) = some false := rfl
  have c2 : cmpop .Eq (.str sBar) (.str [109, 111, 114, 101]) = some false := rfl
  have c3 : cmpop .Eq (.str sBar) (.str [98, 97, 114]) = some true := rfl
  simp only [madeB, Pc.d, Wk.d, wordsD, fin, List.replicate, List.map_cons, List.map_nil, evSs, evS, evT, evE, evEs, evIt, evOp, evIfs, bind_one, List.set_cons_succ, List.set_cons_zero, Wp_ok, Wp_bind, Wp_bindX, Wp_noexc, bind_ok, bindX_ok, ldV_zero, ldV_succ, pick, List.getElem?_cons_zero, List.getElem?_cons_succ, if_true, len_fix, range_len', add_ii, sub_ii, List.length_cons, List.length_nil, len_l, len_t, Wp_lift, lift, Option.map_some, src_l, src_t, tr_bl, sl_l, sl_t, List.append_nil, Nat.reduceAdd, Nat.reduceLeDiff, hline, tuple_l, list_t, List.cons_append, List.nil_append, Bool.not_true, Bool.not_false, Bool.false_eq_true, if_false, any_l, bt, i4, c1, c2, c3, ix_ti]
  rfl
theorem year_core (hf : g.fn i = some ⟨2, 8, madeB⟩) {y d m : Int} {L Z F R : List Nat} {f t : D} (st : ∀ h : AH, biop .str (.int y) h = .ok (.str L) h) (ln : ∀ h : AH, biop .len (.str L) h = .ok (.int m) h)
    (mu : ∀ h : AH, binop .Mult (.str [48]) (.int (4 - m)) h = .ok (.str Z) h) (ad : ∀ h : AH, binop .Add (.str Z) (.str L) h = .ok (.str F) h) (sl : ∀ h : AH, slcop (.str F) (some (4 - d)) none h = .ok (.str R) h) :
    (cN g (n + 1)).f true i [.tup [.str sYear, .int d], .tup [f, .int y, t]] h = .ok (.str R) h := by
  rw [callN_succ, hf]
  have bt : ∀ v0 v1 v2 v3 v4 v5 v6 v7 : Sl, ∀ a b c : D, bindT [3, 4, 5] (.tup [a, b, c]) [v0, v1, v2, v3, v4, v5, v6, v7] = some [v0, v1, v2, .v a, .v b, .v c, v6, v7] := fun _ _ _ _ _ _ _ _ _ _ _ => rfl
  have i2 : ∀ a b : D, L2.atI [a, b] 0 = some a := fun _ _ => rfl
  have i3 : ∀ a b : D, L2.atI [a, b] 1 = some b := fun _ _ => rfl
  have c1 : cmpop .In (.str sYear) (.tup [.str [102, 111, 108, 107], .str [116, 105, 116, 108, 101]]) = some false := rfl
  have c2 : cmpop .Eq (.str sYear) (.str [109, 111, 114, 101]) = some false := rfl
  have c3 : cmpop .Eq (.str sYear) (.str [98, 97, 114]) = some false := rfl
  simp only [madeB, fin, List.replicate, List.map_cons, List.map_nil, evSs, evS, evT, evE, evEs, evIt, evOp, evIfs, bind_ok, bindX_ok, ldV_zero, ldV_succ, if_true, Option.map_some, lift, tr_bl, Bool.false_eq_true, if_false, List.set_cons_succ, List.set_cons_zero, List.length_cons, List.length_nil, Nat.reduceAdd, Nat.reduceLeDiff, hline, List.cons_append, List.nil_append, bt, i2, i3, c1, c2, c3, ix_ti, st, ln, sub_ii, mu, ad, sl, noexc]
theorem made_year (hf : g.fn i = some ⟨2, 8, madeB⟩) {d : Nat} {w : Wk} (hp : (Pc.year d).ok) (hw : w.ok) : (cN g (n + 1)).f true i [(Pc.year d).d, w.d] h = .ok (.str ((Pc.year d).made w)) h := by
  have ln := TL.numL_len (n := w.year) (k := 4) (by decide) (by have := hw.year; omega)
  have y0 : 0 ≤ (w.year : Int) ∧ (w.year : Int) < 1000000000000 := by have := hw.year; omega
  have l1 : (TL.numL w.year).length ≤ line := Nat.le_trans ln (by decide)
  have l2 : (List.replicate (4 - (TL.numL w.year).length) 48).length + (TL.numL w.year).length ≤ line := Nat.le_trans (show _ ≤ 8 by rw [List.length_replicate]; omega) (by decide)
  have l3 : (full4 w.year).length ≤ line := by rw [full4_len hw.year]; decide
  have hd : d ≤ 4 := by rcases hp with rfl | rfl <;> decide
  have cd : cut (full4 w.year) (some (4 - (d : Int))) none = (full4 w.year).drop (4 - d) := by
    rw [cut_drop (by omega) (by rw [full4_len hw.year]; omega)]
    congr 1
    omega
  have ff : List.replicate (4 - (TL.numL w.year).length) 48 ++ TL.numL w.year = full4 w.year := rfl
  refine year_core hf (L := TL.numL w.year) (m := ((TL.numL w.year).length : Nat)) (Z := List.replicate (4 - (TL.numL w.year).length) 48) (F := full4 w.year) (R := (full4 w.year).drop (4 - d)) (fun h => ?_) (fun h => ?_) (fun h => ?_) (fun h => ?_) (fun h => ?_)
  · rw [str_i, if_pos y0, Int.toNat_natCast]
  · rw [len_s, if_pos l1]
  · rw [mul_si, if_pos ⟨by omega, by omega, by decide⟩, show (4 - ((TL.numL w.year).length : Int)).toNat = 4 - (TL.numL w.year).length by omega]
    congr 2
    generalize 4 - (TL.numL w.year).length = k
    induction k with
    | zero => rfl
    | succ k ih => rw [List.replicate_succ, List.flatten_cons, ih]; rfl
  · rw [add_ss, if_pos l2, ff]
  · rw [sl_s, if_pos l3, cd]
theorem made_eq (hf : g.fn i = some ⟨2, 8, madeB⟩) {p : Pc} {w : Wk} (hp : p.ok) (hw : w.ok) : (cN g (n + 1)).f true i [p.d, w.d] h = .ok (.str (p.made w)) h := by
  cases p with
  | folk a b => exact made_folk hf hp hw
  | title a b => exact made_title hf hp hw
  | more a => exact made_more hf hp hw
  | bar => exact made_bar hf hp hw
  | year d => exact made_year hf hp hw
theorem stem_eq {mb : Nat} (hf : g.fn i = some ⟨2, 3, stemB mb⟩) (hm : g.fn mb = some ⟨2, 8, madeB⟩) (hd : g.dfl mb = []) {ps : List Pc} {w : Wk} (hp : ∀ p ∈ ps, p.ok) (hl : ps.length ≤ 5) (hw : w.ok) : (cN g (n + 1 + 1)).f true i [.lst (ps.map Pc.d), w.d] h = .ok (.str (stemOf ps w)) h := by
  rw [callN_succ, hf]
  have l1 : (ps.length ≤ line) = True := eq_true (Nat.le_trans hl (by decide))
  have jn : mtop .join (.str [46]) (.lst ((ps.map fun p => p.made w).map D.str)) h = .ok (.str (stemOf ps w)) h := by
    rw [join_l, strL_map]
    have h3 : sumN (ps.map fun p => p.made w) + (ps.map fun p => p.made w).length * ([46] : List Nat).length ≤ line := by
      have h1 : sumN (ps.map fun p => p.made w) ≤ (ps.map fun p => p.made w).length * 36 := sumN_le fun s hs => by
        obtain ⟨p, h, rfl⟩ := List.mem_map.mp hs
        exact made_len (hp p h) hw
      rw [List.length_map] at h1 ⊢
      exact Nat.le_trans (show _ + _ * 1 ≤ 1000 by omega) (by decide)
    show (if _ then _ else _) = _
    rw [if_pos h3]
    rfl
  have mp : ∀ (f : D → AH → Res (Option D)), (∀ p ∈ ps, f p.d h = .ok (some (.str (p.made w))) h) → mapL f (ps.map Pc.d) h = .ok ((ps.map fun p => p.made w).map D.str) h := fun f H => by
    clear jn l1 hl
    induction ps with
    | nil => rfl
    | cons p ps ih =>
      show (f p.d h).bind _ = _
      rw [H p List.mem_cons_self, bind_ok, ih (fun q hq => hp q (List.mem_cons_of_mem _ hq)) fun q hq => H q (List.mem_cons_of_mem _ hq)]
      rfl
  simp only [stemB, fin, List.replicate, List.map_cons, List.map_nil, evSs, evS, evT, evE, evEs, evIt, evOp, evIfs, bind_one, List.set_cons_succ, List.set_cons_zero, Wp_ok, Wp_bind, Wp_bindX, Wp_noexc, bind_ok, bindX_ok, ldV_zero, ldV_succ, pick, List.getElem?_cons_zero, List.getElem?_cons_succ, if_true, len_fix, range_len', add_ii, sub_ii, List.length_cons, List.length_nil, len_l, len_t, Wp_lift, lift, Option.map_some, src_l, src_t, tr_bl, sl_l, sl_t, List.append_nil, Nat.reduceAdd, Nat.reduceLeDiff, hline, tuple_l, list_t, List.cons_append, List.nil_append, Bool.not_true, Bool.not_false, Bool.false_eq_true, if_false, any_l, List.length_map, l1]
  rw [mapI_n (show ps.length + 1 = (ps.map Pc.d).length + 1 by rw [List.length_map]), mp _ (fun p h1 => by
    simp only [List.map_cons, List.map_nil, evSs, evS, evT, evE, evEs, evIt, evOp, evIfs, bind_one, List.set_cons_succ, List.set_cons_zero, Wp_ok, Wp_bind, Wp_bindX, Wp_noexc, bind_ok, bindX_ok, ldV_zero, ldV_succ, pick, List.getElem?_cons_zero, List.getElem?_cons_succ, if_true, len_fix, range_len', add_ii, sub_ii, List.length_cons, List.length_nil, len_l, len_t, Wp_lift, lift, Option.map_some, src_l, src_t, tr_bl, sl_l, sl_t, List.append_nil, Nat.reduceAdd, Nat.reduceLeDiff, hline, tuple_l, list_t, List.cons_append, List.nil_append, Bool.not_true, Bool.not_false, Bool.false_eq_true, if_false, any_l, hd, made_eq hm (hp p h1) hw])]
  simp only [noexc, bind_ok, bindX_ok, jn]
end
end Rk

set_option maxHeartbeats 4000000
/-! Rk.Wk: works needed, changed; laws' lambdas; equal data. -/
namespace Rk
open PySem
theorem Pg.dfl_nil {p : Pg} (h : (p.ds.all fun d => (dfD d.dd).isEmpty) = true) (k : Nat) : p.G.dfl k = [] := by
  show ((p.ds[k]?).map fun d => dfD d.dd).getD [] = []
  cases hd : p.ds[k]? with
  | none => rfl
  | some d => exact List.isEmpty_iff.mp (List.all_eq_true.mp h d (List.mem_of_getElem? hd))
theorem mul_l2 {l : List D} {h : AH} (hl : l.length ≤ 1000) : binop .Mult (.lst l) (.int 2) h = .ok (.lst (l ++ l)) h := by
  show (if -1000 ≤ (2 : Int) ∧ (2 : Int) ≤ 1000 ∧ l.length ≤ 1000 then Res.ok (D.lst (List.replicate (2 : Int).toNat l).flatten) h else .stuck) = _
  rw [if_pos ⟨by decide, by decide, hl⟩]
  show Res.ok (D.lst (l ++ (l ++ []))) h = _
  rw [List.append_nil]
mutual
theorem wt_same : ∀ (d : D) (w : Nat), wt d = some w → dsame d d = true
  | .non, _, _ => by unfold dsame; rfl
  | .bl b, _, _ => by unfold dsame; exact beq_self_eq_true b
  | .int i, _, _ => by unfold dsame; exact beq_self_eq_true i
  | .str s, _, _ => by unfold dsame; exact beq_self_eq_true s
  | .tup l, w, h => by
    unfold wt at h
    obtain ⟨a, e, _⟩ := Option.map_eq_some_iff.mp h
    unfold dsame
    exact wts_same l a e
  | .lst l, w, h => by
    unfold wt at h
    obtain ⟨a, e, _⟩ := Option.map_eq_some_iff.mp h
    unfold dsame
    exact wts_same l a e
  | .dct _, _, h => by unfold wt at h; cases h
  | .set _, _, h => by unfold wt at h; cases h
  | .ref _, _, h => by unfold wt at h; cases h
  | .ins _ _, _, h => by unfold wt at h; cases h
  | .exc _ _, _, h => by unfold wt at h; cases h
  | .scr _, _, h => by unfold wt at h; cases h
theorem wts_same : ∀ (l : List D) (w : Nat), wts l = some w → dsames l l = true
  | [], _, _ => by unfold dsames; rfl
  | x :: l, w, h => by
    unfold wts at h
    split at h
    · rename_i a b h1 h2
      unfold dsames
      rw [wt_same x a h1, wts_same l b h2]
      rfl
    · cases h
end
/-- the same data, found and due -/
theorem same_okw {g : G} {c : Bool} {n i : Nat} (hf : g.fn i = some ⟨2, 2, sameB⟩) {h : AH} {x y : D} {w : Nat} (e : x = y) (hw : wt x = some w) (hl : w ≤ 60000) (hd : dpt 60 x = true) : (cN g (n + 1)).f c i [x, y] h = .ok (.bl true) h := same_ok hf e (wt_same x w hw) hw hl hd
/-- data of a small weight -/
def Sm (k : Nat) (d : D) : Prop := ∃ w, wt d = some w ∧ w ≤ k
theorem Sm.tup {k : Nat} : ∀ {l : List D} {m : Nat}, (∀ x ∈ l, Sm k x) → l.length * k + 1 ≤ m → Sm m (.tup l) := by
  have go : ∀ l : List D, (∀ x ∈ l, Sm k x) → ∃ w, wts l = some w ∧ w ≤ l.length * k := by
    intro l
    induction l with
    | nil => exact fun _ => ⟨0, rfl, Nat.zero_le _⟩
    | cons x l ih =>
      intro h
      obtain ⟨a, ha, hak⟩ := h x List.mem_cons_self
      obtain ⟨b, hb, hbk⟩ := ih fun y hy => h y (List.mem_cons_of_mem _ hy)
      refine ⟨a + b, by unfold wts; rw [ha, hb], ?_⟩
      rw [List.length_cons, Nat.succ_mul]
      omega
  intro l m h hm
  obtain ⟨w, hw, hwk⟩ := go l h
  exact ⟨w + 1, by unfold wt; rw [hw]; rfl, by omega⟩
theorem Sm.lst {k : Nat} {l : List D} {m : Nat} (h : ∀ x ∈ l, Sm k x) (hm : l.length * k + 1 ≤ m) : Sm m (.lst l) := by
  obtain ⟨w, hw, hl⟩ := Sm.tup (m := m) h hm
  refine ⟨w, ?_, hl⟩
  unfold wt at hw ⊢
  exact hw
theorem Sm.up {k m : Nat} {d : D} (h : Sm k d) (hm : k ≤ m) : Sm m d := by
  obtain ⟨w, hw, hl⟩ := h
  exact ⟨w, hw, Nat.le_trans hl hm⟩
theorem Sm.of {k : Nat} {d : D} (h : (match wt d with
    | some w => decide (w ≤ k)
    | none => false) = true) : Sm k d := by
  match e : wt d, h with
  | some w, h => exact ⟨w, e, of_decide_eq_true h⟩
theorem Sm.str {k : Nat} {s : List Nat} (h : s.length + 1 ≤ k) : Sm k (.str s) := ⟨s.length + 1, by unfold wt; rfl, h⟩
theorem Sm.int {i : Int} {k : Nat} (h : i.natAbs < 1000000000000) (hk : 1 ≤ k) : Sm k (.int i) := ⟨1, by unfold wt; rw [if_pos h], hk⟩
theorem same_sm {g : G} {c : Bool} {n i : Nat} (hf : g.fn i = some ⟨2, 2, sameB⟩) {h : AH} {x y : D} (e : x = y) (hw : Sm 60000 x) (hd : dpt 60 x = true) : (cN g (n + 1)).f c i [x, y] h = .ok (.bl true) h := by
  obtain ⟨w, hw, hl⟩ := hw
  exact same_okw hf e hw hl hd
/-! ### lambdas -/
theorem why_told {g : G} {call : Cl} {k : Nat} {env : List Sl} {h h1 : AH} {v : D} (hw : g.lamw k = []) (he : evE g call true (g.lam k) env h = .ok v h1) : whyR g call k env h = .ok (.tup [.str told, v]) h1 := by
  unfold whyR
  rw [hw]
  show (match evE g call true (g.lam k) env h with
    | .ok v h => _
    | .exc (.exc c fs) h => _
    | _ => _) = _
  rw [he]
theorem whys_nil {why : Nat → Env → AH → Res D} {env : Env} {h : AH} : whysR why [] env h = .ok [] h := rfl
theorem whys_cons {why : Nat → Env → AH → Res D} {env : Env} {h h1 : AH} {k : Nat} {ks : List Nat} {v : D} (e : why k env h = .ok v h1) : whysR why (k :: ks) env h = (whysR why ks env h1).bind fun l h => .ok (v :: l) h := by
  show ((why k env h).bind fun v h => _) = _
  rw [e, bind_ok]
/-- told by `given` -/
theorem fld_giv {g : G} {n fl c : Nat} {h : AH} (hf : g.fn fl = some ⟨1, 1, fieldB⟩) {cd : List Nat} {v : D} (h1 : ((cmpop .In (.str cd) (.tup [.str [73, 110, 118, 97, 108, 105, 100, 80, 105, 101, 99, 101], .str [73, 110, 118, 97, 108, 105, 100, 82, 111, 119], .str [73, 110, 118, 97, 108, 105, 100, 77, 97, 114, 107], .str [73, 110, 118, 97, 108, 105, 100, 68, 101, 101, 100]])).isSome = true ∧
    (fin (evSs g (cN g n) false fieldB [.exc c [(0, .str cd), (1, v)]] h)) = .ok (.tup [v]) h)) : (cN g (n + 1)).x fl c [(0, .str cd), (1, v)] h = .ok (.tup [v]) h := by
  show (match g.fn fl with
    | some fd => if fd.np = 1 then fin (evSs g (cN g n) false fd.body (.exc c [(0, .str cd), (1, v)] :: List.replicate (fd.nb - 1) .no) h) else .stuck
    | none => .stuck) = _
  rw [hf]
  exact h1.2
def cdWork : List Nat := [73, 110, 118, 97, 108, 105, 100, 87, 111, 114, 107]
def cdYear : List Nat := [73, 110, 118, 97, 108, 105, 100, 89, 101, 97, 114]
def cdWord : List Nat := [73, 110, 118, 97, 108, 105, 100, 87, 111, 114, 100]
def cdWords : List Nat := [73, 110, 118, 97, 108, 105, 100, 87, 111, 114, 100, 115]
theorem fld_work {g : G} {n fl c : Nat} {h : AH} (hf : g.fn fl = some ⟨1, 1, fieldB⟩) {v : D} : (cN g (n + 1)).x fl c [(0, .str cdWork), (1, v)] h = .ok (.tup [v]) h := fld_giv hf ⟨rfl, rfl⟩
theorem fld_year {g : G} {n fl c : Nat} {h : AH} (hf : g.fn fl = some ⟨1, 1, fieldB⟩) {v : D} : (cN g (n + 1)).x fl c [(0, .str cdYear), (1, v)] h = .ok (.tup [v]) h := fld_giv hf ⟨rfl, rfl⟩
theorem fld_word {g : G} {n fl c : Nat} {h : AH} (hf : g.fn fl = some ⟨1, 1, fieldB⟩) {v : D} : (cN g (n + 1)).x fl c [(0, .str cdWord), (1, v)] h = .ok (.tup [v]) h := fld_giv hf ⟨rfl, rfl⟩
theorem fld_words {g : G} {n fl c : Nat} {h : AH} (hf : g.fn fl = some ⟨1, 1, fieldB⟩) {v : D} : (cN g (n + 1)).x fl c [(0, .str cdWords), (1, v)] h = .ok (.tup [v]) h := fld_giv hf ⟨rfl, rfl⟩
/-! ### needed -/
def needB (iw er : Nat) : Ss := (.cons (.ifs (.not (.cal iw (.cons (.var 0) .nil) .nil [0])) (.cons (.rse er (.cons (.var 0) .nil))
  .nil) .nil)
  .nil)
section
variable {g : G} {n i iw er f : Nat} {h : AH} {d : D} {cd : List Nat}
theorem need_ok (hf : g.fn i = some ⟨1, 1, needB iw er⟩) (hd : g.dfl iw = []) (he : (cN g n).f true iw [d] h = .ok (.bl true) h) : (cN g (n + 1)).f true i [d] h = .ok .non h := by
  rw [callN_succ, hf]
  simp only [needB, fin, List.replicate, List.map_cons, List.map_nil, evSs, evS, evT, evE, evEs, evIt, evOp, evIfs, bind_one, List.set_cons_succ, List.set_cons_zero, Wp_ok, Wp_bind, Wp_bindX, Wp_noexc, bind_ok, bindX_ok, ldV_zero, ldV_succ, pick, List.getElem?_cons_zero, List.getElem?_cons_succ, if_true, len_fix, range_len', add_ii, sub_ii, List.length_cons, List.length_nil, len_l, len_t, Wp_lift, lift, Option.map_some, src_l, src_t, tr_bl, sl_l, sl_t, List.append_nil, Nat.reduceAdd, Nat.reduceLeDiff, hline, tuple_l, list_t, List.cons_append, List.nil_append, Bool.not_true, Bool.not_false, Bool.false_eq_true, if_false, any_l, hd, he]
  rfl
theorem need_no (hf : g.fn i = some ⟨1, 1, needB iw er⟩) (hd : g.dfl iw = []) (hx : g.xcl er = some (cd, some f)) (hc : g.cod = 0) (he : (cN g n).f true iw [d] h = .ok (.bl false) h) : (cN g (n + 1)).f true i [d] h = .exc (.exc er [(0, .str cd), (f, d)]) h := by
  have mk : mkX g er [d] = some (.exc er [(0, .str cd), (f, d)]) := by unfold mkX; rw [hx, hc]
  rw [callN_succ, hf]
  simp only [needB, fin, List.replicate, List.map_cons, List.map_nil, evSs, evS, evT, evE, evEs, evIt, evOp, evIfs, bind_one, List.set_cons_succ, List.set_cons_zero, Wp_ok, Wp_bind, Wp_bindX, Wp_noexc, bind_ok, bindX_ok, ldV_zero, ldV_succ, pick, List.getElem?_cons_zero, List.getElem?_cons_succ, if_true, len_fix, range_len', add_ii, sub_ii, List.length_cons, List.length_nil, len_l, len_t, Wp_lift, lift, Option.map_some, src_l, src_t, tr_bl, sl_l, sl_t, List.append_nil, Nat.reduceAdd, Nat.reduceLeDiff, hline, tuple_l, list_t, List.cons_append, List.nil_append, Bool.not_true, Bool.not_false, Bool.false_eq_true, if_false, any_l, hd, he, mk]
  rfl
end
/-! ### works changed -/
def datedB (nw yr er : Nat) : Ss := (.cons (.expr (.cal nw (.cons (.var 0) .nil) .nil [0]))
  (.cons (.ifs (.not (.cal yr (.cons (.var 1) .nil) .nil [0])) (.cons (.rse er (.cons (.var 1) .nil))
  .nil) .nil)
  (.cons (.ret (.tup (.cons (.idx (.var 0) (.cst (.int 0))) (.cons (.var 1) (.cons (.idx (.var 0) (.cst (.int 2))) .nil)))))
  .nil)))
def retB (nw ws er : Nat) : Ss := (.cons (.expr (.cal nw (.cons (.var 0) .nil) .nil [0]))
  (.cons (.ifs (.not (.cal ws (.cons (.var 1) .nil) .nil [0])) (.cons (.rse er (.cons (.var 1) .nil))
  .nil) .nil)
  (.cons (.ret (.tup (.cons (.idx (.var 0) (.cst (.int 0))) (.cons (.idx (.var 0) (.cst (.int 1))) (.cons (.var 1) .nil)))))
  .nil)))
def spelB (nw nd : Nat) : Ss := (.cons (.expr (.cal nw (.cons (.var 0) .nil) .nil [0]))
  (.cons (.expr (.cal nd (.cons (.var 1) .nil) .nil [0]))
  (.cons (.expr (.cal nd (.cons (.var 2) .nil) .nil [0]))
  (.cons (.ret (.tup (.cons (.bi .tuple (.cmpr (.ife (.cmp .Eq (.var 3) (.var 1)) (.var 2) (.var 3)) [3] (.seq (.idx (.var 0) (.cst (.int 0)))) .nil)) (.cons (.idx (.var 0) (.cst (.int 1))) (.cons (.idx (.var 0) (.cst (.int 2))) .nil)))))
  .nil))))
theorem at30 {α : Type} (a b c : α) : L2.atI [a, b, c] 0 = some a := rfl
theorem at31 {α : Type} (a b c : α) : L2.atI [a, b, c] 1 = some b := rfl
theorem at32 {α : Type} (a b c : α) : L2.atI [a, b, c] 2 = some c := rfl
section
variable {g : G} {n i nw yr ws nd er f : Nat} {h : AH} {a b c d y x z : D} {cd : List Nat}
theorem dated_exc {e : D} (hf : g.fn i = some ⟨2, 2, datedB nw yr er⟩) (hd : ∀ k, g.dfl k = []) (he : (cN g n).f true nw [d] h = .exc e h) : (cN g (n + 1)).f true i [d, y] h = .exc e h := by
  rw [callN_succ, hf]
  simp only [datedB, fin, List.replicate, List.map_cons, List.map_nil, evSs, evS, evT, evE, evEs, evIt, evOp, evIfs, bind_one, List.set_cons_succ, List.set_cons_zero, Wp_ok, Wp_bind, Wp_bindX, Wp_noexc, bind_ok, bindX_ok, ldV_zero, ldV_succ, pick, List.getElem?_cons_zero, List.getElem?_cons_succ, if_true, len_fix, range_len', add_ii, sub_ii, List.length_cons, List.length_nil, len_l, len_t, Wp_lift, lift, Option.map_some, src_l, src_t, tr_bl, sl_l, sl_t, List.append_nil, Nat.reduceAdd, Nat.reduceLeDiff, hline, tuple_l, list_t, List.cons_append, List.nil_append, Bool.not_true, Bool.not_false, Bool.false_eq_true, if_false, any_l, hd, he]
  rfl
theorem dated_no (hf : g.fn i = some ⟨2, 2, datedB nw yr er⟩) (hd : ∀ k, g.dfl k = []) (he : (cN g n).f true nw [d] h = .ok .non h) (hy : (cN g n).f true yr [y] h = .ok (.bl false) h) (hx : g.xcl er = some (cd, some f)) (hc : g.cod = 0) : (cN g (n + 1)).f true i [d, y] h = .exc (.exc er [(0, .str cd), (f, y)]) h := by
  have mk : mkX g er [y] = some (.exc er [(0, .str cd), (f, y)]) := by unfold mkX; rw [hx, hc]
  rw [callN_succ, hf]
  simp only [datedB, fin, List.replicate, List.map_cons, List.map_nil, evSs, evS, evT, evE, evEs, evIt, evOp, evIfs, bind_one, List.set_cons_succ, List.set_cons_zero, Wp_ok, Wp_bind, Wp_bindX, Wp_noexc, bind_ok, bindX_ok, ldV_zero, ldV_succ, pick, List.getElem?_cons_zero, List.getElem?_cons_succ, if_true, len_fix, range_len', add_ii, sub_ii, List.length_cons, List.length_nil, len_l, len_t, Wp_lift, lift, Option.map_some, src_l, src_t, tr_bl, sl_l, sl_t, List.append_nil, Nat.reduceAdd, Nat.reduceLeDiff, hline, tuple_l, list_t, List.cons_append, List.nil_append, Bool.not_true, Bool.not_false, Bool.false_eq_true, if_false, any_l, hd, he, hy, mk]
  rfl
theorem dated_ok (hf : g.fn i = some ⟨2, 2, datedB nw yr er⟩) (hd : ∀ k, g.dfl k = []) (he : (cN g n).f true nw [.tup [a, b, c]] h = .ok .non h) (hy : (cN g n).f true yr [y] h = .ok (.bl true) h) : (cN g (n + 1)).f true i [.tup [a, b, c], y] h = .ok (.tup [a, y, c]) h := by
  rw [callN_succ, hf]
  simp only [datedB, fin, List.replicate, List.map_cons, List.map_nil, evSs, evS, evT, evE, evEs, evIt, evOp, evIfs, bind_one, List.set_cons_succ, List.set_cons_zero, Wp_ok, Wp_bind, Wp_bindX, Wp_noexc, bind_ok, bindX_ok, ldV_zero, ldV_succ, pick, List.getElem?_cons_zero, List.getElem?_cons_succ, if_true, len_fix, range_len', add_ii, sub_ii, List.length_cons, List.length_nil, len_l, len_t, Wp_lift, lift, Option.map_some, src_l, src_t, tr_bl, sl_l, sl_t, List.append_nil, Nat.reduceAdd, Nat.reduceLeDiff, hline, tuple_l, list_t, List.cons_append, List.nil_append, Bool.not_true, Bool.not_false, Bool.false_eq_true, if_false, any_l, hd, he, hy, ix_ti, at30, at31, at32]
  rfl
theorem ret_exc {e : D} (hf : g.fn i = some ⟨2, 2, retB nw ws er⟩) (hd : ∀ k, g.dfl k = []) (he : (cN g n).f true nw [d] h = .exc e h) : (cN g (n + 1)).f true i [d, y] h = .exc e h := by
  rw [callN_succ, hf]
  simp only [retB, fin, List.replicate, List.map_cons, List.map_nil, evSs, evS, evT, evE, evEs, evIt, evOp, evIfs, bind_one, List.set_cons_succ, List.set_cons_zero, Wp_ok, Wp_bind, Wp_bindX, Wp_noexc, bind_ok, bindX_ok, ldV_zero, ldV_succ, pick, List.getElem?_cons_zero, List.getElem?_cons_succ, if_true, len_fix, range_len', add_ii, sub_ii, List.length_cons, List.length_nil, len_l, len_t, Wp_lift, lift, Option.map_some, src_l, src_t, tr_bl, sl_l, sl_t, List.append_nil, Nat.reduceAdd, Nat.reduceLeDiff, hline, tuple_l, list_t, List.cons_append, List.nil_append, Bool.not_true, Bool.not_false, Bool.false_eq_true, if_false, any_l, hd, he]
  rfl
theorem ret_no (hf : g.fn i = some ⟨2, 2, retB nw ws er⟩) (hd : ∀ k, g.dfl k = []) (he : (cN g n).f true nw [d] h = .ok .non h) (hy : (cN g n).f true ws [y] h = .ok (.bl false) h) (hx : g.xcl er = some (cd, some f)) (hc : g.cod = 0) : (cN g (n + 1)).f true i [d, y] h = .exc (.exc er [(0, .str cd), (f, y)]) h := by
  have mk : mkX g er [y] = some (.exc er [(0, .str cd), (f, y)]) := by unfold mkX; rw [hx, hc]
  rw [callN_succ, hf]
  simp only [retB, fin, List.replicate, List.map_cons, List.map_nil, evSs, evS, evT, evE, evEs, evIt, evOp, evIfs, bind_one, List.set_cons_succ, List.set_cons_zero, Wp_ok, Wp_bind, Wp_bindX, Wp_noexc, bind_ok, bindX_ok, ldV_zero, ldV_succ, pick, List.getElem?_cons_zero, List.getElem?_cons_succ, if_true, len_fix, range_len', add_ii, sub_ii, List.length_cons, List.length_nil, len_l, len_t, Wp_lift, lift, Option.map_some, src_l, src_t, tr_bl, sl_l, sl_t, List.append_nil, Nat.reduceAdd, Nat.reduceLeDiff, hline, tuple_l, list_t, List.cons_append, List.nil_append, Bool.not_true, Bool.not_false, Bool.false_eq_true, if_false, any_l, hd, he, hy, mk]
  rfl
theorem ret_ok (hf : g.fn i = some ⟨2, 2, retB nw ws er⟩) (hd : ∀ k, g.dfl k = []) (he : (cN g n).f true nw [.tup [a, b, c]] h = .ok .non h) (hy : (cN g n).f true ws [y] h = .ok (.bl true) h) : (cN g (n + 1)).f true i [.tup [a, b, c], y] h = .ok (.tup [a, b, y]) h := by
  rw [callN_succ, hf]
  simp only [retB, fin, List.replicate, List.map_cons, List.map_nil, evSs, evS, evT, evE, evEs, evIt, evOp, evIfs, bind_one, List.set_cons_succ, List.set_cons_zero, Wp_ok, Wp_bind, Wp_bindX, Wp_noexc, bind_ok, bindX_ok, ldV_zero, ldV_succ, pick, List.getElem?_cons_zero, List.getElem?_cons_succ, if_true, len_fix, range_len', add_ii, sub_ii, List.length_cons, List.length_nil, len_l, len_t, Wp_lift, lift, Option.map_some, src_l, src_t, tr_bl, sl_l, sl_t, List.append_nil, Nat.reduceAdd, Nat.reduceLeDiff, hline, tuple_l, list_t, List.cons_append, List.nil_append, Bool.not_true, Bool.not_false, Bool.false_eq_true, if_false, any_l, hd, he, hy, ix_ti, at30, at31, at32]
  rfl
theorem spel_exc {e : D} (hf : g.fn i = some ⟨3, 4, spelB nw nd⟩) (hd : ∀ k, g.dfl k = []) (he : (cN g n).f true nw [d] h = .exc e h) : (cN g (n + 1)).f true i [d, x, y] h = .exc e h := by
  rw [callN_succ, hf]
  simp only [spelB, fin, List.replicate, List.map_cons, List.map_nil, evSs, evS, evT, evE, evEs, evIt, evOp, evIfs, bind_one, List.set_cons_succ, List.set_cons_zero, Wp_ok, Wp_bind, Wp_bindX, Wp_noexc, bind_ok, bindX_ok, ldV_zero, ldV_succ, pick, List.getElem?_cons_zero, List.getElem?_cons_succ, if_true, len_fix, range_len', add_ii, sub_ii, List.length_cons, List.length_nil, len_l, len_t, Wp_lift, lift, Option.map_some, src_l, src_t, tr_bl, sl_l, sl_t, List.append_nil, Nat.reduceAdd, Nat.reduceLeDiff, hline, tuple_l, list_t, List.cons_append, List.nil_append, Bool.not_true, Bool.not_false, Bool.false_eq_true, if_false, any_l, hd, he]
  rfl
theorem spel_exc1 {e : D} (hf : g.fn i = some ⟨3, 4, spelB nw nd⟩) (hd : ∀ k, g.dfl k = []) (he : (cN g n).f true nw [d] h = .ok .non h) (hx : (cN g n).f true nd [x] h = .exc e h) : (cN g (n + 1)).f true i [d, x, y] h = .exc e h := by
  rw [callN_succ, hf]
  simp only [spelB, fin, List.replicate, List.map_cons, List.map_nil, evSs, evS, evT, evE, evEs, evIt, evOp, evIfs, bind_one, List.set_cons_succ, List.set_cons_zero, Wp_ok, Wp_bind, Wp_bindX, Wp_noexc, bind_ok, bindX_ok, ldV_zero, ldV_succ, pick, List.getElem?_cons_zero, List.getElem?_cons_succ, if_true, len_fix, range_len', add_ii, sub_ii, List.length_cons, List.length_nil, len_l, len_t, Wp_lift, lift, Option.map_some, src_l, src_t, tr_bl, sl_l, sl_t, List.append_nil, Nat.reduceAdd, Nat.reduceLeDiff, hline, tuple_l, list_t, List.cons_append, List.nil_append, Bool.not_true, Bool.not_false, Bool.false_eq_true, if_false, any_l, hd, he, hx]
  rfl
theorem spel_exc2 {e : D} (hf : g.fn i = some ⟨3, 4, spelB nw nd⟩) (hd : ∀ k, g.dfl k = []) (he : (cN g n).f true nw [d] h = .ok .non h) (hx : (cN g n).f true nd [x] h = .ok .non h) (hy : (cN g n).f true nd [y] h = .exc e h) : (cN g (n + 1)).f true i [d, x, y] h = .exc e h := by
  rw [callN_succ, hf]
  simp only [spelB, fin, List.replicate, List.map_cons, List.map_nil, evSs, evS, evT, evE, evEs, evIt, evOp, evIfs, bind_one, List.set_cons_succ, List.set_cons_zero, Wp_ok, Wp_bind, Wp_bindX, Wp_noexc, bind_ok, bindX_ok, ldV_zero, ldV_succ, pick, List.getElem?_cons_zero, List.getElem?_cons_succ, if_true, len_fix, range_len', add_ii, sub_ii, List.length_cons, List.length_nil, len_l, len_t, Wp_lift, lift, Option.map_some, src_l, src_t, tr_bl, sl_l, sl_t, List.append_nil, Nat.reduceAdd, Nat.reduceLeDiff, hline, tuple_l, list_t, List.cons_append, List.nil_append, Bool.not_true, Bool.not_false, Bool.false_eq_true, if_false, any_l, hd, he, hx, hy]
  rfl
/-- old words for fresh ones -/
def respel (old fresh : List Nat) (s : List Nat) : List Nat := if s == old then fresh else s
theorem eq_ss {s t : List Nat} : cmpop .Eq (.str s) (.str t) = some (s == t) := by
  show (if dpt 60 (.str s) && dpt 60 (.str t) then some (deq (.str s) (.str t)) else none) = _
  rfl
theorem spel_ok {l : List (List Nat)} {old fresh : List Nat} (hl : l.length ≤ 1000) (hf : g.fn i = some ⟨3, 4, spelB nw nd⟩) (hd : ∀ k, g.dfl k = []) (he : (cN g n).f true nw [.tup [.tup (l.map .str), b, c]] h = .ok .non h) (hx : (cN g n).f true nd [.str old] h = .ok .non h) (hy : (cN g n).f true nd [.str fresh] h = .ok .non h) :
    (cN g (n + 1)).f true i [.tup [.tup (l.map .str), b, c], .str old, .str fresh] h = .ok (.tup [.tup ((l.map (respel old fresh)).map .str), b, c]) h := by
  rw [callN_succ, hf]
  simp only [spelB, fin, List.replicate, List.map_cons, List.map_nil, evSs, evS, evT, evE, evEs, evIt, evOp, evIfs, bind_one, List.set_cons_succ, List.set_cons_zero, Wp_ok, Wp_bind, Wp_bindX, Wp_noexc, bind_ok, bindX_ok, ldV_zero, ldV_succ, pick, List.getElem?_cons_zero, List.getElem?_cons_succ, if_true, len_fix, range_len', add_ii, sub_ii, List.length_cons, List.length_nil, len_l, len_t, Wp_lift, lift, Option.map_some, src_l, src_t, tr_bl, sl_l, sl_t, List.append_nil, Nat.reduceAdd, Nat.reduceLeDiff, hline, tuple_l, list_t, List.cons_append, List.nil_append, Bool.not_true, Bool.not_false, Bool.false_eq_true, if_false, any_l, hd, he, hx, hy, ix_ti, at30, at31, at32]
  rw [mapI_n (k := (l.map D.str).length + 1) rfl, mapL_pure (k := fun x => match x with
    | .str s => .str (respel old fresh s)
    | x => x) (fun x hx => by
      obtain ⟨s, hs, rfl⟩ := List.mem_map.mp hx
      simp only [bind_ok, bind_one, List.set_cons_succ, List.set_cons_zero, Wp_ok, Wp_bind, Wp_bindX, Wp_noexc, bind_ok, bindX_ok, ldV_zero, ldV_succ, pick, List.getElem?_cons_zero, List.getElem?_cons_succ, if_true, len_fix, range_len', add_ii, sub_ii, List.length_cons, List.length_nil, len_l, len_t, Wp_lift, lift, Option.map_some, src_l, src_t, tr_bl, sl_l, sl_t, List.append_nil, Nat.reduceAdd, Nat.reduceLeDiff, hline, tuple_l, list_t, List.cons_append, List.nil_append, Bool.not_true, Bool.not_false, Bool.false_eq_true, if_false, any_l, eq_ss, respel]
      cases s == old <;> rfl)]
  have ll : ∀ f : List Nat → D, ((l.map f).length ≤ line) = True := fun f => by rw [List.length_map]; exact eq_true (Nat.le_trans hl (by decide))
  have lm : ∀ f : List Nat → D, ((l.map f).length + 1 ≤ line) = True := fun f => by rw [List.length_map]; exact eq_true (Nat.le_trans (Nat.succ_le_succ hl) (by decide))
  simp only [noexc, bind_ok, bindX_ok, bind_one, List.set_cons_succ, List.set_cons_zero, Wp_ok, Wp_bind, Wp_bindX, Wp_noexc, bind_ok, bindX_ok, ldV_zero, ldV_succ, pick, List.getElem?_cons_zero, List.getElem?_cons_succ, if_true, len_fix, range_len', add_ii, sub_ii, List.length_cons, List.length_nil, len_l, len_t, Wp_lift, lift, Option.map_some, src_l, src_t, tr_bl, sl_l, sl_t, List.append_nil, Nat.reduceAdd, Nat.reduceLeDiff, hline, tuple_l, list_t, List.cons_append, List.nil_append, Bool.not_true, Bool.not_false, Bool.false_eq_true, if_false, any_l, List.map_map, ll]
  rfl
end
/-! ### works as data -/
theorem okW.isW {s : List Nat} (h : okW s) : isW (.str s) = true ∧ plain (.str s) = true := by
  obtain ⟨t, e, h1, h2⟩ := isW_of h.1 h.2.1 h.2.2
  exact ⟨h1, decide_eq_true (Nat.le_trans h.2.1 e8)⟩
theorem okWs.isWs {l : List (List Nat)} (h : okWs l) : isWs (wordsD l) = true ∧ pl 1 (wordsD l) = true := by
  refine ⟨?_, ?_⟩
  · show (decide (1 ≤ (l.map D.str).length) && decide ((l.map D.str).length ≤ 4) && (l.map D.str).all isW) = true
    rw [List.length_map, decide_eq_true h.1, decide_eq_true h.2.1, List.all_eq_true.mpr fun x hx => by
      obtain ⟨s, hs, rfl⟩ := List.mem_map.mp hx
      exact (h.2.2 s hs).isW.1]
    rfl
  · unfold wordsD pl
    show (true && (l.map D.str).all (pl 0)) = true
    rw [List.all_eq_true.mpr fun x hx => by
      obtain ⟨s, hs, rfl⟩ := List.mem_map.mp hx
      exact (h.2.2 s hs).isW.2]
    rfl
theorem Wk.ok.isWk {w : Wk} (h : w.ok) : isWk w.d = true ∧ pl 2 w.d = true := by
  obtain ⟨a1, a2⟩ := h.folk.isWs
  obtain ⟨b1, b2⟩ := h.title.isWs
  have hy : isN' 0 9999 (.int (w.year : Int)) = true := by
    show (decide ((0 : Int) ≤ w.year) && decide ((w.year : Int) ≤ 9999)) = true
    have := h.year
    rw [decide_eq_true (by omega), decide_eq_true (by omega)]
    rfl
  refine ⟨?_, ?_⟩
  · show (isWs (wordsD w.folk) && isN' 0 9999 (.int (w.year : Int)) && isWs (wordsD w.title)) = true
    rw [a1, b1, hy]
    rfl
  · show (true && [wordsD w.folk, .int (w.year : Int), wordsD w.title].all (pl 1)) = true
    simp only [List.all_cons, List.all_nil, a2, b2, Bool.and_true, Bool.true_and]
    rfl
theorem okW.sm {s : List Nat} (h : okW s) : Sm 9 (.str s) := Sm.str (by have := h.2.1; omega)
theorem okWs.sm {l : List (List Nat)} (h : okWs l) : Sm 37 (wordsD l) := Sm.tup (k := 9) (fun x hx => by
  obtain ⟨s, hs, rfl⟩ := List.mem_map.mp hx
  exact (h.2.2 s hs).sm) (by rw [List.length_map]; have := h.2.1; omega)
theorem Wk.ok.sm {w : Wk} (h : w.ok) : Sm 112 w.d := Sm.tup (k := 37) (fun x hx => by
  simp only [List.mem_cons, List.not_mem_nil, or_false] at hx
  rcases hx with rfl | rfl | rfl
  · exact h.folk.sm
  · exact Sm.int (by have := h.year; omega) (by decide)
  · exact h.title.sm) (by simp)
theorem dpts_str (k : Nat) : ∀ l : List (List Nat), dpts k (l.map D.str) = true
  | [] => by cases k <;> rfl
  | s :: l => by rw [List.map_cons]; unfold dpts; rw [dpts_str k l]; cases k <;> rfl
theorem dpt_words (k : Nat) (l : List (List Nat)) : dpt (k + 1) (wordsD l) = true := by
  unfold wordsD dpt
  have : ∀ l : List (List Nat), dpts k (l.map D.str) = true := fun l => by
    induction l with
    | nil => cases k <;> rfl
    | cons s l ih => rw [List.map_cons]; unfold dpts; rw [ih]; cases k <;> rfl
  exact this l
theorem dpt_work (k : Nat) (w : Wk) : dpt (k + 2) w.d = true := by
  unfold Wk.d dpt dpts dpts dpts dpts
  rw [dpt_words, dpt_words]
  rfl
theorem okWs.map {l : List (List Nat)} (h : okWs l) {f : List Nat → List Nat} (hf : ∀ s, okW s → okW (f s)) : okWs (l.map f) := ⟨by rw [List.length_map]; exact h.1, by rw [List.length_map]; exact h.2.1, fun s hs => by
  obtain ⟨t, ht, rfl⟩ := List.mem_map.mp hs
  exact hf t (h.2.2 t ht)⟩
theorem atI_zero {α : Type} {a : α} {l : List α} : L2.atI (a :: l) 0 = some a := by
  unfold L2.atI L2.ixN
  simp
mutual
theorem dpt_up : ∀ {d : D} {j k : Nat}, dpt j d = true → j ≤ k → dpt k d = true
  | .non, j, k, h, hk => by unfold dpt; rfl
  | .bl _, j, k, h, hk => by unfold dpt; rfl
  | .int _, j, k, h, hk => by unfold dpt; rfl
  | .str _, j, k, h, hk => by unfold dpt; rfl
  | .tup l, 0, k, h, hk => by unfold dpt at h; cases h
  | .lst l, 0, k, h, hk => by unfold dpt at h; cases h
  | .tup l, j + 1, k, h, hk => by
    obtain ⟨k, rfl⟩ : ∃ m, k = m + 1 := ⟨k - 1, by omega⟩
    unfold dpt at h ⊢
    exact dpts_up h (by omega)
  | .lst l, j + 1, k, h, hk => by
    obtain ⟨k, rfl⟩ : ∃ m, k = m + 1 := ⟨k - 1, by omega⟩
    unfold dpt at h ⊢
    exact dpts_up h (by omega)
  | .ref _, j, k, h, hk => by cases j <;> (unfold dpt at h; cases h)
  | .ins _ _, j, k, h, hk => by cases j <;> (unfold dpt at h; cases h)
  | .exc _ _, j, k, h, hk => by cases j <;> (unfold dpt at h; cases h)
  | .scr _, j, k, h, hk => by cases j <;> (unfold dpt at h; cases h)
  | .dct _, j, k, h, hk => by cases j <;> (unfold dpt at h; cases h)
  | .set _, j, k, h, hk => by cases j <;> (unfold dpt at h; cases h)
theorem dpts_up : ∀ {l : List D} {j k : Nat}, dpts j l = true → j ≤ k → dpts k l = true
  | [], j, k, h, hk => by unfold dpts; rfl
  | d :: l, j, k, h, hk => by
    unfold dpts at h ⊢
    rw [Bool.and_eq_true] at h
    rw [dpt_up h.1 hk, dpts_up h.2 hk]
    rfl
end
end Rk

set_option maxHeartbeats 0
/-! the program of law k05, printed by gen.py -/
namespace K05
open PySem PySem.Spec PyProof.Rows L2 Rk
def ini (i : Nat) : Stmt := match PySem.Challenge.pw_rivalkeys_k05_works_changed.main.body.getD i (.Pass ⟨0, 0, 0, 0⟩) with
  | .ClassDef _ _ _ b _ _ _ _ _ _ _ => b.getD 0 (.Pass ⟨0, 0, 0, 0⟩)
  | s => s
def top (i : Nat) : Stmt := PySem.Challenge.pw_rivalkeys_k05_works_changed.main.body.getD i (.Pass ⟨0, 0, 0, 0⟩)
/-- is_number -/
def b0 : Ss := (.cons (.ret (.and (.cons (.isi (.var 0) .int) (.cons (.not (.isi (.var 0) .bool)) (.cons (.cmp2 .LtE .LtE (.var 1) (.var 0) (.var 2)) .nil)))))
  .nil)
def d0 : DE := ⟨⟨("is_number", none), "is_number", "is_number", defArgs (top 10), defBody (top 10), defScope (top 10), [], []⟩, ["value", "least", "most"], ["value", "least", "most"], ⟨3, 3, b0⟩, false, .glo⟩
/-- is_word -/
def b1 : Ss := (.cons (.ret (.and (.cons (.isi (.var 0) .str) (.cons (.cmp2 .LtE .LtE (.cst (.int 1)) (.bi .len (.var 0)) (.cst (.int 8))) (.cons (.bi .all (.cmpr (.cmp .In (.var 1) (.glb 0)) [1] (.seq (.var 0)) .nil)) .nil)))))
  .nil)
def d1 : DE := ⟨⟨("is_word", none), "is_word", "is_word", defArgs (top 11), defBody (top 11), defScope (top 11), [], []⟩, ["value", "sign"], ["value"], ⟨1, 2, b1⟩, false, .glo⟩
/-- is_words -/
def b2 : Ss := (.cons (.ret (.and (.cons (.isi (.var 0) .tuple) (.cons (.cmp2 .LtE .LtE (.cst (.int 1)) (.bi .len (.var 0)) (.cst (.int 4))) (.cons (.bi .all (.cmpr (.cal 1 (.cons (.var 1) .nil) .nil [0]) [1] (.seq (.var 0)) .nil)) .nil)))))
  .nil)
def d2 : DE := ⟨⟨("is_words", none), "is_words", "is_words", defArgs (top 12), defBody (top 12), defScope (top 12), [], []⟩, ["value", "word"], ["value"], ⟨1, 2, b2⟩, false, .glo⟩
/-- is_year -/
def b3 : Ss := (.cons (.ret (.cal 0 (.cons (.var 0) (.cons (.cst (.int 0)) (.cons (.cst (.int 9999)) .nil))) .nil [0, 1, 2]))
  .nil)
def d3 : DE := ⟨⟨("is_year", none), "is_year", "is_year", defArgs (top 13), defBody (top 13), defScope (top 13), [], []⟩, ["value"], ["value"], ⟨1, 1, b3⟩, false, .glo⟩
/-- is_work -/
def b4 : Ss := (.cons (.ifs (.or (.cons (.not (.isi (.var 0) .tuple)) (.cons (.cmp .NotEq (.bi .len (.var 0)) (.cst (.int 3))) .nil))) (.cons (.ret (.cst (.bl false)))
  .nil) .nil)
  (.cons (.ret (.and (.cons (.cal 2 (.cons (.idx (.var 0) (.cst (.int 0))) .nil) .nil [0]) (.cons (.cal 3 (.cons (.idx (.var 0) (.cst (.int 1))) .nil) .nil [0]) (.cons (.cal 2 (.cons (.idx (.var 0) (.cst (.int 2))) .nil) .nil [0]) .nil)))))
  .nil))
def d4 : DE := ⟨⟨("is_work", none), "is_work", "is_work", defArgs (top 14), defBody (top 14), defScope (top 14), [], []⟩, ["value"], ["value"], ⟨1, 1, b4⟩, false, .glo⟩
/-- need_work -/
def b5 : Ss := (.cons (.ifs (.not (.cal 4 (.cons (.var 0) .nil) .nil [0])) (.cons (.rse 3 (.cons (.var 0) .nil))
  .nil) .nil)
  .nil)
def d5 : DE := ⟨⟨("need_work", none), "need_work", "need_work", defArgs (top 15), defBody (top 15), defScope (top 15), [], []⟩, ["work"], ["work"], ⟨1, 1, b5⟩, false, .glo⟩
/-- dated -/
def b6 : Ss := (.cons (.expr (.cal 5 (.cons (.var 0) .nil) .nil [0]))
  (.cons (.ifs (.not (.cal 3 (.cons (.var 1) .nil) .nil [0])) (.cons (.rse 2 (.cons (.var 1) .nil))
  .nil) .nil)
  (.cons (.ret (.tup (.cons (.idx (.var 0) (.cst (.int 0))) (.cons (.var 1) (.cons (.idx (.var 0) (.cst (.int 2))) .nil)))))
  .nil)))
def d6 : DE := ⟨⟨("dated", none), "dated", "dated", defArgs (top 16), defBody (top 16), defScope (top 16), [], []⟩, ["work", "year"], ["work", "year"], ⟨2, 2, b6⟩, false, .glo⟩
/-- retitled -/
def b7 : Ss := (.cons (.expr (.cal 5 (.cons (.var 0) .nil) .nil [0]))
  (.cons (.ifs (.not (.cal 2 (.cons (.var 1) .nil) .nil [0])) (.cons (.rse 1 (.cons (.var 1) .nil))
  .nil) .nil)
  (.cons (.ret (.tup (.cons (.idx (.var 0) (.cst (.int 0))) (.cons (.idx (.var 0) (.cst (.int 1))) (.cons (.var 1) .nil)))))
  .nil)))
def d7 : DE := ⟨⟨("retitled", none), "retitled", "retitled", defArgs (top 17), defBody (top 17), defScope (top 17), [], []⟩, ["work", "words"], ["work", "words"], ⟨2, 2, b7⟩, false, .glo⟩
/-- need_word -/
def b8 : Ss := (.cons (.ifs (.not (.cal 1 (.cons (.var 0) .nil) .nil [0])) (.cons (.rse 0 (.cons (.var 0) .nil))
  .nil) .nil)
  .nil)
def d8 : DE := ⟨⟨("need_word", none), "need_word", "need_word", defArgs (top 18), defBody (top 18), defScope (top 18), [], []⟩, ["word"], ["word"], ⟨1, 1, b8⟩, false, .glo⟩
/-- spelled -/
def b9 : Ss := (.cons (.expr (.cal 5 (.cons (.var 0) .nil) .nil [0]))
  (.cons (.expr (.cal 8 (.cons (.var 1) .nil) .nil [0]))
  (.cons (.expr (.cal 8 (.cons (.var 2) .nil) .nil [0]))
  (.cons (.ret (.tup (.cons (.bi .tuple (.cmpr (.ife (.cmp .Eq (.var 3) (.var 1)) (.var 2) (.var 3)) [3] (.seq (.idx (.var 0) (.cst (.int 0)))) .nil)) (.cons (.idx (.var 0) (.cst (.int 1))) (.cons (.idx (.var 0) (.cst (.int 2))) .nil)))))
  .nil))))
def d9 : DE := ⟨⟨("spelled", none), "spelled", "spelled", defArgs (top 19), defBody (top 19), defScope (top 19), [], []⟩, ["work", "old", "fresh", "word"], ["work", "old", "fresh"], ⟨3, 4, b9⟩, false, .glo⟩
/-- _law_deal -/
def b10 : Ss := (.cons (.asg 1 (.cmpr (.bi .int (.var 3)) [3] (.seq (.slc (.var 0) .no (.so (.cst (.int 63))))) .nil))
  (.cons (.asg 2 (.bin .Add (.cst (.int 10028)) (.bin .Mult (.cst (.int 89)) (.bi .len (.var 1)))))
  (.cons (.for [3] (.seq (.var 1)) (.cons (.asg 2 (.bin .Mod (.bi .int (.bin .Add (.bin .Mult (.var 2) (.cst (.int 7919))) (.var 3))) (.cst (.int 2147483497))))
  .nil))
  (.cons (.ret (.hls (.cons (.var 1) (.cons (.cst (.int 0)) (.cons (.cst (.int 0)) (.cons (.var 2) .nil))))))
  .nil))))
def d10 : DE := ⟨⟨("_law_deal", none), "_law_deal", "_law_deal", defArgs (top 21), defBody (top 21), defScope (top 21), [], []⟩, ["_law_script", "_law_cells", "_law_mark", "_law_cell"], ["_law_script"], ⟨1, 4, b10⟩, false, .glo⟩
/-- _law_pick -/
def b11 : Ss := (.cons (.ifs (.cmp .Lt (.idx (.var 0) (.cst (.int 2))) (.cst (.int 2))) (.cons (.seti (.var 0) (.cst (.int 1)) (.bin .Add (.idx (.var 0) (.cst (.int 1))) (.cst (.int 1))))
  (.cons (.asg 3 (.bin .Add (.idx (.var 0) (.cst (.int 3))) (.bin .Mult (.idx (.var 0) (.cst (.int 1))) (.cst (.int 9343)))))
  (.cons (.ifs (.cmp .LtE (.idx (.var 0) (.cst (.int 1))) (.bi .len (.idx (.var 0) (.cst (.int 0))))) (.cons (.asg 3 (.idx (.idx (.var 0) (.cst (.int 0))) (.bin .Sub (.idx (.var 0) (.cst (.int 1))) (.cst (.int 1)))))
  .nil) .nil)
  (.cons (.ifs (.or (.cons (.cmp .Gt (.idx (.var 0) (.cst (.int 1))) (.bi .len (.idx (.var 0) (.cst (.int 0))))) (.cons (.cmp .Lt (.var 3) (.bin .Pow (.cst (.int 10)) (.cst (.int 18)))) .nil))) (.cons (.asg 4 (.bin .Mod (.bi .int (.bin .Add (.bin .Add (.bin .Mult (.var 3) (.cst (.int 47303))) (.bin .Mult (.idx (.var 0) (.cst (.int 1))) (.cst (.int 38219)))) (.idx (.var 0) (.cst (.int 3))))) (.cst (.int 2147483647))))
  (.cons (.asg 5 (.bin .Mod (.bi .int (.bin .Add (.bin .Mult (.var 4) (.var 4)) (.bin .Mult (.idx (.var 0) (.cst (.int 1))) (.cst (.int 51041))))) (.cst (.int 998244353))))
  (.cons (.ret (.bin .Mod (.bin .FloorDiv (.bin .Mod (.bi .int (.bin .Add (.bin .Mult (.var 5) (.cst (.int 46643))) (.var 4))) (.cst (.int 2147483563))) (.cst (.int 17))) (.var 1)))
  .nil))) .nil)
  (.cons (.seti (.var 0) (.cst (.int 2)) (.var 3))
  .nil))))) .nil)
  (.cons (.asg 2 (.bin .Mod (.bi .int (.idx (.var 0) (.cst (.int 2)))) (.var 1)))
  (.cons (.seti (.var 0) (.cst (.int 2)) (.bin .FloorDiv (.bi .int (.idx (.var 0) (.cst (.int 2)))) (.var 1)))
  (.cons (.ret (.var 2))
  .nil))))
def d11 : DE := ⟨⟨("_law_pick", none), "_law_pick", "_law_pick", defArgs (top 22), defBody (top 22), defScope (top 22), [], []⟩, ["_law_deal_here", "_law_many", "_law_drawn", "_law_cell", "_law_early", "_law_late"], ["_law_deal_here", "_law_many"], ⟨2, 6, b11⟩, false, .glo⟩
/-- _law_of -/
def b12 : Ss := (.cons (.ret (.idx (.var 1) (.cal 11 (.cons (.var 0) (.cons (.bi .len (.var 1)) .nil)) .nil [0, 1])))
  .nil)
def d12 : DE := ⟨⟨("_law_of", none), "_law_of", "_law_of", defArgs (top 23), defBody (top 23), defScope (top 23), [], []⟩, ["_law_deal_here", "_law_items"], ["_law_deal_here", "_law_items"], ⟨2, 2, b12⟩, false, .glo⟩
/-- _law_same -/
def b13 : Ss := (.cons (.ret (.same 0 1))
  .nil)
def d13 : DE := ⟨⟨("_law_same", none), "_law_same", "_law_same", defArgs (top 24), defBody (top 24), defScope (top 24), [], []⟩, ["_law_found", "_law_due"], ["_law_found", "_law_due"], ⟨2, 2, b13⟩, false, .glo⟩
/-- _law_field -/
def b14 : Ss := (.cons (.ifs (.cmp .In (.xfld 0 0) (.tup (.cons (.cst (.str [73, 110, 118, 97, 108, 105, 100, 80, 105, 101, 99, 101])) (.cons (.cst (.str [73, 110, 118, 97, 108, 105, 100, 82, 111, 119])) (.cons (.cst (.str [73, 110, 118, 97, 108, 105, 100, 77, 97, 114, 107])) (.cons (.cst (.str [73, 110, 118, 97, 108, 105, 100, 68, 101, 101, 100])) .nil)))))) (.cons (.ret (.tup (.cons (.xfld 0 2) .nil)))
  .nil) .nil)
  (.cons (.ifs (.cmp .In (.xfld 0 0) (.tup (.cons (.cst (.str [68, 117, 112, 108, 105, 99, 97, 116, 101, 78, 97, 109, 101])) (.cons (.cst (.str [85, 110, 107, 110, 111, 119, 110, 78, 97, 109, 101])) .nil)))) (.cons (.ret (.tup (.cons (.xfld 0 3) .nil)))
  .nil) .nil)
  (.cons (.ifs (.cmp .In (.xfld 0 0) (.tup (.cons (.cst (.str [73, 110, 118, 97, 108, 105, 100, 84, 101, 120, 116])) (.cons (.cst (.str [78, 111, 116, 104, 105, 110, 103, 76, 101, 102, 116])) .nil)))) (.cons (.ret (.tup .nil))
  .nil) .nil)
  (.cons (.ifs (.cmp .In (.xfld 0 0) (.tup (.cons (.cst (.str [73, 110, 118, 97, 108, 105, 100, 82, 117, 108, 101])) (.cons (.cst (.str [73, 110, 118, 97, 108, 105, 100, 80, 97, 103, 101])) .nil)))) (.cons (.ret (.ife (.cmp .Eq (.xfld 0 0) (.cst (.str [73, 110, 118, 97, 108, 105, 100, 82, 117, 108, 101]))) (.tup (.cons (.xfld 0 5) .nil)) (.tup (.cons (.xfld 0 6) .nil))))
  .nil) .nil)
  (.cons (.ret (.ife (.cmp .Eq (.xfld 0 0) (.cst (.str [70, 117, 108, 108]))) (.tup (.cons (.xfld 0 4) .nil)) (.tup (.cons (.xfld 0 1) .nil))))
  .nil)))))
def d14 : DE := ⟨⟨("_law_field", none), "_law_field", "_law_field", defArgs (top 25), defBody (top 25), defScope (top 25), [], []⟩, ["_law_e"], ["_law_e"], ⟨1, 1, b14⟩, false, .glo⟩
/-- _law_pool -/
def b15 : Ss := (.cons (.asg 1 (.mt .join (.cst (.str [])) (.cmpr (.cal 12 (.cons (.var 0) (.cons (.cst (.str [97, 98, 121, 122])) .nil)) .nil [0, 1]) [3] (.rng (.cal 11 (.cons (.var 0) (.cons (.cst (.int 6)) .nil)) .nil [0, 1])) .nil)))
  (.cons (.asg 2 (.lst (.cons (.cst (.str [97])) (.cons (.cst (.str [98])) (.cons (.cst (.str [97, 98])) (.cons (.cst (.str [98, 97])) (.cons (.cst (.str [122])) .nil)))))))
  (.cons (.ret (.bin .Add (.cmpr (.bin .Add (.var 1) (.var 4)) [4] (.seq (.var 2)) .nil) (.lst (.cons (.cal 12 (.cons (.var 0) (.cons (.lst (.cons (.cst (.str [97])) (.cons (.cst (.str [98])) (.cons (.cst (.str [97, 98, 99, 100, 101, 102, 103, 104])) (.cons (.cst (.str [97, 98])) .nil))))) .nil)) .nil [0, 1]) .nil))))
  .nil)))
def d15 : DE := ⟨⟨("_law_pool", none), "_law_pool", "_law_pool", defArgs (top 28), defBody (top 28), defScope (top 28), [], []⟩, ["_law_deal_here", "_law_stem", "_law_ends", "_law_k", "_law_end"], ["_law_deal_here"], ⟨1, 5, b15⟩, false, .glo⟩
/-- _law_some_words -/
def b16 : Ss := (.cons (.ret (.bi .tuple (.cmpr (.cal 12 (.cons (.var 0) (.cons (.var 1) .nil)) .nil [0, 1]) [2] (.rng (.bin .Add (.cst (.int 1)) (.cal 11 (.cons (.var 0) (.cons (.cal 12 (.cons (.var 0) (.cons (.lst (.cons (.cst (.int 1)) (.cons (.cst (.int 2)) (.cons (.cst (.int 4)) .nil)))) .nil)) .nil [0, 1]) .nil)) .nil [0, 1]))) .nil)))
  .nil)
def d16 : DE := ⟨⟨("_law_some_words", none), "_law_some_words", "_law_some_words", defArgs (top 29), defBody (top 29), defScope (top 29), [], []⟩, ["_law_deal_here", "_law_pool_here", "_law_k"], ["_law_deal_here", "_law_pool_here"], ⟨2, 3, b16⟩, false, .glo⟩
/-- _law_year -/
def b17 : Ss := (.cons (.ret (.cal 12 (.cons (.var 0) (.cons (.lst (.cons (.cst (.int 0)) (.cons (.cst (.int 7)) (.cons (.cst (.int 99)) (.cons (.cst (.int 100)) (.cons (.cst (.int 199)) (.cons (.cst (.int 1999)) (.cons (.cst (.int 2099)) (.cons (.cst (.int 9999)) (.cons (.cal 11 (.cons (.var 0) (.cons (.cst (.int 10000)) .nil)) .nil [0, 1]) .nil)))))))))) .nil)) .nil [0, 1]))
  .nil)
def d17 : DE := ⟨⟨("_law_year", none), "_law_year", "_law_year", defArgs (top 30), defBody (top 30), defScope (top 30), [], []⟩, ["_law_deal_here"], ["_law_deal_here"], ⟨1, 1, b17⟩, false, .glo⟩
/-- _law_work -/
def b18 : Ss := (.cons (.ret (.tup (.cons (.cal 16 (.cons (.var 0) (.cons (.var 1) .nil)) .nil [0, 1]) (.cons (.cal 17 (.cons (.var 0) .nil) .nil [0]) (.cons (.cal 16 (.cons (.var 0) (.cons (.var 1) .nil)) .nil [0, 1]) .nil)))))
  .nil)
def d18 : DE := ⟨⟨("_law_work", none), "_law_work", "_law_work", defArgs (top 31), defBody (top 31), defScope (top 31), [], []⟩, ["_law_deal_here", "_law_pool_here"], ["_law_deal_here", "_law_pool_here"], ⟨2, 2, b18⟩, false, .glo⟩
def b19_1 : Ss := (.cons (.ret (.cst (.bl true)))
  .nil)
def b19_2 : Ss := (.cons (.ifs (.not (.cal 13 (.cons (.whysv 7) (.cons (.var 8) .nil)) .nil [0, 1])) (.cons (.ret (.cst (.bl false)))
  .nil) .nil)
  .nil)
def b19_3 : Ss := (.cons (.asg 8 (.bin .Add (.var 8) (.lst (.cons (.tup (.cons (.cst (.str [116, 111, 108, 100])) (.cons (.bin .Add (.slc (.var 9) .no (.so (.cst (.int 2)))) (.tup (.cons (.tup (.cons (.cst (.str [97])) (.cons (.cst (.str [98])) (.cons (.cst (.str [99])) (.cons (.cst (.str [100])) .nil))))) .nil))) .nil))) (.cons (.tup (.cons (.cst (.str [73, 110, 118, 97, 108, 105, 100, 87, 111, 114, 100, 115])) (.cons (.tup (.cons (.tup (.cons (.cst (.str [97])) (.cons (.cst (.str [98])) (.cons (.cst (.str [99])) (.cons (.cst (.str [100])) (.cons (.cst (.str [101])) .nil)))))) .nil)) .nil))) .nil)))))
  b19_2)
def b19_4 : Ss := (.cons (.asg 8 (.lst (.cons (.tup (.cons (.cst (.str [73, 110, 118, 97, 108, 105, 100, 87, 111, 114, 107])) (.cons (.tup (.cons (.var 14) .nil)) .nil))) (.cons (.tup (.cons (.cst (.str [73, 110, 118, 97, 108, 105, 100, 89, 101, 97, 114])) (.cons (.tup (.cons (.var 15) .nil)) .nil))) (.cons (.tup (.cons (.cst (.str [73, 110, 118, 97, 108, 105, 100, 87, 111, 114, 107])) (.cons (.tup (.cons (.var 14) .nil)) .nil))) (.cons (.tup (.cons (.cst (.str [73, 110, 118, 97, 108, 105, 100, 87, 111, 114, 100, 115])) (.cons (.tup (.cons (.tup (.cons (.cst (.str [97])) (.cons (.var 6) .nil))) .nil)) .nil))) (.cons (.tup (.cons (.cst (.str [73, 110, 118, 97, 108, 105, 100, 87, 111, 114, 100, 115])) (.cons (.tup (.cons (.tup .nil) .nil)) .nil))) (.cons (.tup (.cons (.cst (.str [73, 110, 118, 97, 108, 105, 100, 87, 111, 114, 107])) (.cons (.tup (.cons (.var 14) .nil)) .nil))) (.cons (.tup (.cons (.cst (.str [73, 110, 118, 97, 108, 105, 100, 87, 111, 114, 100])) (.cons (.tup (.cons (.var 6) .nil)) .nil))) (.cons (.tup (.cons (.cst (.str [73, 110, 118, 97, 108, 105, 100, 87, 111, 114, 100])) (.cons (.tup (.cons (.var 6) .nil)) .nil))) .nil))))))))))
  b19_3)
def b19_5 : Ss := (.cons (.ladd 7 [0, 1])
  b19_4)
def b19_6 : Ss := (.cons (.ladd 7 [2, 3])
  b19_5)
def b19_7 : Ss := (.cons (.ladd 7 [4, 5, 6])
  b19_6)
def b19_8 : Ss := (.cons (.lasg 7 [7, 8, 9])
  b19_7)
def b19_9 : Ss := (.cons (.asg 6 (.cal 12 (.cons (.var 1) (.cons (.lst (.cons (.cst .non) (.cons (.cst (.str [])) (.cons (.cst (.str [65])) (.cons (.cst (.int 3)) (.cons (.cst (.str [97, 98, 99, 100, 101, 102, 103, 104, 105])) (.cons (.tup (.cons (.cst (.str [97])) .nil)) .nil))))))) .nil)) .nil [0, 1]))
  b19_8)
def b19_10 : Ss := (.cons (.asgt [14, 15] (.tup (.cons (.cal 12 (.cons (.var 1) (.cons (.lst (.cons (.cst .non) (.cons (.tup .nil) (.cons (.slc (.var 9) .no (.so (.cst (.int 2)))) (.cons (.bi .list (.var 9)) .nil))))) .nil)) .nil [0, 1]) (.cons (.cal 12 (.cons (.var 1) (.cons (.lst (.cons (.cst .non) (.cons (.cst (.int 10000)) (.cons (.cst (.bl true)) (.cons (.cst (.str [49])) (.cons (.bin .Sub (.cst (.int 0)) (.cst (.int 1))) .nil)))))) .nil)) .nil [0, 1]) .nil))))
  b19_9)
def b19_11 : Ss := (.cons (.ifs (.not (.cal 13 (.cons (.var 5) (.cons (.bin .Add (.bin .Add (.bin .Mult (.lst (.cons (.tup (.cons (.idx (.var 9) (.cst (.int 0))) (.cons (.var 10) (.cons (.idx (.var 9) (.cst (.int 2))) .nil)))) .nil)) (.cst (.int 2))) (.lst (.cons (.tup (.cons (.idx (.var 9) (.cst (.int 0))) (.cons (.idx (.var 9) (.cst (.int 1))) (.cons (.slc (.var 11) .no (.so (.cst (.int 1)))) .nil)))) .nil))) (.bin .Mult (.lst (.cons (.tup (.cons (.var 4) (.cons (.idx (.var 9) (.cst (.int 1))) (.cons (.idx (.var 9) (.cst (.int 2))) .nil)))) .nil)) (.cst (.int 2)))) .nil)) .nil [0, 1])) (.cons (.ret (.cst (.bl false)))
  .nil) .nil)
  b19_10)
def b19_12 : Ss := (.cons (.asg 5 (.lst (.cons (.cal 6 (.cons (.var 9) (.cons (.var 10) .nil)) .nil [0, 1]) (.cons (.cal 6 .nil (.cons (.var 10) (.cons (.var 9) .nil)) [1, 0]) (.cons (.cav 7 1 (.cons (.var 9) (.cons (.idx (.var 11) (.cst (.int 0))) .nil)) [false, false]) (.cons (.cal 9 (.cons (.var 9) (.cons (.var 12) (.cons (.var 13) .nil))) .nil [0, 1, 2]) (.cons (.cal 9 .nil (.cons (.var 13) (.cons (.var 12) (.cons (.var 9) .nil))) [2, 1, 0]) .nil)))))))
  b19_11)
def b19_13 : Ss := (.cons (.asg 4 (.bi .tuple (.cmpr (.ife (.cmp .Eq (.var 16) (.var 12)) (.var 13) (.var 16)) [16] (.seq (.idx (.var 9) (.cst (.int 0)))) .nil)))
  b19_12)
def b19_14 : Ss := (.cons (.asgt [12, 13] (.tup (.cons (.cal 12 (.cons (.var 1) (.cons (.bin .Add (.var 2) (.bi .list (.idx (.var 9) (.cst (.int 0))))) .nil)) .nil [0, 1]) (.cons (.cal 12 (.cons (.var 1) (.cons (.var 2) .nil)) .nil [0, 1]) .nil))))
  b19_13)
def b19_15 : Ss := (.cons (.asgt [9, 10, 11] (.tup (.cons (.cal 18 (.cons (.var 1) (.cons (.var 2) .nil)) .nil [0, 1]) (.cons (.cal 17 (.cons (.var 1) .nil) .nil [0]) (.cons (.cal 16 (.cons (.var 1) (.cons (.var 2) .nil)) .nil [0, 1]) .nil)))))
  b19_14)
def b19_16 : Ss := (.cons (.for [3] (.rng (.cst (.int 5))) b19_15)
  b19_1)
def b19_17 : Ss := (.cons (.asg 2 (.cal 15 (.cons (.var 1) .nil) .nil [0]))
  b19_16)
/-- law -/
def b19 : Ss := (.cons (.asg 1 (.cal 10 (.cons (.var 0) .nil) .nil [0]))
  b19_17)
def d19 : DE := ⟨⟨("law", none), "law", "law", defArgs (top 32), defBody (top 32), defScope (top 32), [], []⟩, ["_law_script", "_law_deal_here", "_law_pool_here", "_law_turn", "_law_due", "_law_told", "_law_odd", "_law_asks", "_law_whys_here", "_law_work_z", "_law_year_z", "_law_words", "_law_old_z", "_law_fresh_z", "_law_bad", "_law_late", "_law_word"], ["_law_script"], ⟨1, 17, b19⟩, true, .glo⟩
def l0 : E := (.cav 7 1 (.cons (.var 9) (.cons (.cst (.str [97])) (.cons (.cst (.str [98])) (.cons (.cst (.str [99])) (.cons (.cst (.str [100])) .nil))))) [false, false, false, false, false])
def l1 : E := (.cav 7 1 (.cons (.var 9) (.cons (.cst (.str [97])) (.cons (.cst (.str [98])) (.cons (.cst (.str [99])) (.cons (.cst (.str [100])) (.cons (.cst (.str [101])) .nil)))))) [false, false, false, false, false, false])
def l2 : E := (.cal 9 (.cons (.var 9) (.cons (.var 6) (.cons (.cst (.str [65])) .nil))) .nil [0, 1, 2])
def l3 : E := (.cal 9 (.cons (.var 9) (.cons (.cst (.str [97])) (.cons (.var 6) .nil))) .nil [0, 1, 2])
def l4 : E := (.cav 7 1 (.cons (.var 9) (.cons (.cst (.str [97])) (.cons (.var 6) .nil))) [false, false, false])
def l5 : E := (.cav 7 1 (.cons (.var 9) .nil) [false])
def l6 : E := (.cal 9 (.cons (.var 14) (.cons (.var 6) (.cons (.var 6) .nil))) .nil [0, 1, 2])
def l7 : E := (.cal 6 (.cons (.var 14) (.cons (.var 15) .nil)) .nil [0, 1])
def l8 : E := (.cal 6 (.cons (.var 9) (.cons (.var 15) .nil)) .nil [0, 1])
def l9 : E := (.cav 7 1 (.cons (.var 14) (.cons (.var 6) .nil)) [false, false])
def x0 : XE := ⟨"InvalidWord", .val, "InvalidWord.__init__", defArgs (ini 3), defBody (ini 3), defScope (ini 3), [73, 110, 118, 97, 108, 105, 100, 87, 111, 114, 100], some 1⟩
def x1 : XE := ⟨"InvalidWords", .val, "InvalidWords.__init__", defArgs (ini 4), defBody (ini 4), defScope (ini 4), [73, 110, 118, 97, 108, 105, 100, 87, 111, 114, 100, 115], some 1⟩
def x2 : XE := ⟨"InvalidYear", .val, "InvalidYear.__init__", defArgs (ini 5), defBody (ini 5), defScope (ini 5), [73, 110, 118, 97, 108, 105, 100, 89, 101, 97, 114], some 1⟩
def x3 : XE := ⟨"InvalidWork", .val, "InvalidWork.__init__", defArgs (ini 6), defBody (ini 6), defScope (ini 6), [73, 110, 118, 97, 108, 105, 100, 87, 111, 114, 107], some 1⟩
def x4 : XE := ⟨"NothingLeft", .idx, "NothingLeft.__init__", defArgs (ini 7), defBody (ini 7), defScope (ini 7), [78, 111, 116, 104, 105, 110, 103, 76, 101, 102, 116], none⟩
def wy : WhyD := ⟨⟨("_law_why", none), "_law_why", "_law_why", defArgs (top 26), defBody (top 26), defScope (top 26), [], []⟩, "_law_deed", "_law_e", "RivalError", "Missing", "NothingLeft", "_law_field", ⟨("_law_whys", none), "_law_whys", "_law_whys", defArgs (top 27), defBody (top 27), defScope (top 27), [], []⟩, "_law_asks", "_law_deed", "_law_why", defScope (top 27)⟩
def p : Pg := ⟨[d0, d1, d2, d3, d4, d5, d6, d7, d8, d9, d10, d11, d12, d13, d14, d15, d16, d17, d18, d19], [("LETTERS", .str [97, 98, 99, 100, 101, 102, 103, 104, 105, 106, 107, 108, 109, 110, 111, 112, 113, 114, 115, 116, 117, 118, 119, 120, 121, 122])], ["isinstance", "int", "bool", "str", "len", "all", "tuple", "repr", "range", "list"], [(1, 1, [], [0]), (0, 3, [], [0, 1, 2]), (2, 1, [], [0]), (3, 1, [], [0]), (4, 1, [], [0]), (5, 1, [], [0]), (8, 1, [], [0]), (11, 2, [], [0, 1]), (12, 2, [], [0, 1]), (16, 2, [], [0, 1]), (17, 1, [], [0]), (13, 2, [], [0, 1]), (9, 3, [], [0, 1, 2]), (6, 2, [], [0, 1]), (6, 0, ["year", "work"], [1, 0]), (9, 0, ["fresh", "old", "work"], [2, 1, 0]), (18, 2, [], [0, 1]), (15, 1, [], [0]), (10, 1, [], [0])], ["code", "given", "at", "name", "limit", "word", "line"], [x0, x1, x2, x3, x4], [(l0, []), (l1, []), (l2, []), (l3, []), (l4, []), (l5, []), (l6, []), (l7, []), (l8, []), (l9, [])], some wy, 14, [], [], [], [], [], [(7, 1)], []⟩
abbrev pr : Program := PySem.Challenge.rw_rivalkeys_k05_works_changed.prog
theorem pok : p.ok pr = true := by decide +kernel
theorem kb0 : ∃ d, p.ds[1]? = some d ∧ KBd d 1 [] [0] := ⟨d1, rfl, bnd_pure rfl rfl rfl (fun _ _ _ _ _ _ pre us ws h0 h1 h2 => match pre, us, ws, h0, h1, h2 with | [], [u0], [], _, _, _ => ⟨[u0], rfl, rfl⟩)⟩
theorem kb1 : ∃ d, p.ds[0]? = some d ∧ KBd d 3 [] [0, 1, 2] := ⟨d0, rfl, bnd_pure rfl rfl rfl (fun _ _ _ _ _ _ pre us ws h0 h1 h2 => match pre, us, ws, h0, h1, h2 with | [], [u0, u1, u2], [], _, _, _ => ⟨[u0, u1, u2], rfl, rfl⟩)⟩
theorem kb2 : ∃ d, p.ds[2]? = some d ∧ KBd d 1 [] [0] := ⟨d2, rfl, bnd_pure rfl rfl rfl (fun _ _ _ _ _ _ pre us ws h0 h1 h2 => match pre, us, ws, h0, h1, h2 with | [], [u0], [], _, _, _ => ⟨[u0], rfl, rfl⟩)⟩
theorem kb3 : ∃ d, p.ds[3]? = some d ∧ KBd d 1 [] [0] := ⟨d3, rfl, bnd_pure rfl rfl rfl (fun _ _ _ _ _ _ pre us ws h0 h1 h2 => match pre, us, ws, h0, h1, h2 with | [], [u0], [], _, _, _ => ⟨[u0], rfl, rfl⟩)⟩
theorem kb4 : ∃ d, p.ds[4]? = some d ∧ KBd d 1 [] [0] := ⟨d4, rfl, bnd_pure rfl rfl rfl (fun _ _ _ _ _ _ pre us ws h0 h1 h2 => match pre, us, ws, h0, h1, h2 with | [], [u0], [], _, _, _ => ⟨[u0], rfl, rfl⟩)⟩
theorem kb5 : ∃ d, p.ds[5]? = some d ∧ KBd d 1 [] [0] := ⟨d5, rfl, bnd_pure rfl rfl rfl (fun _ _ _ _ _ _ pre us ws h0 h1 h2 => match pre, us, ws, h0, h1, h2 with | [], [u0], [], _, _, _ => ⟨[u0], rfl, rfl⟩)⟩
theorem kb6 : ∃ d, p.ds[8]? = some d ∧ KBd d 1 [] [0] := ⟨d8, rfl, bnd_pure rfl rfl rfl (fun _ _ _ _ _ _ pre us ws h0 h1 h2 => match pre, us, ws, h0, h1, h2 with | [], [u0], [], _, _, _ => ⟨[u0], rfl, rfl⟩)⟩
theorem kb7 : ∃ d, p.ds[11]? = some d ∧ KBd d 2 [] [0, 1] := ⟨d11, rfl, bnd_pure rfl rfl rfl (fun _ _ _ _ _ _ pre us ws h0 h1 h2 => match pre, us, ws, h0, h1, h2 with | [], [u0, u1], [], _, _, _ => ⟨[u0, u1], rfl, rfl⟩)⟩
theorem kb8 : ∃ d, p.ds[12]? = some d ∧ KBd d 2 [] [0, 1] := ⟨d12, rfl, bnd_pure rfl rfl rfl (fun _ _ _ _ _ _ pre us ws h0 h1 h2 => match pre, us, ws, h0, h1, h2 with | [], [u0, u1], [], _, _, _ => ⟨[u0, u1], rfl, rfl⟩)⟩
theorem kb9 : ∃ d, p.ds[16]? = some d ∧ KBd d 2 [] [0, 1] := ⟨d16, rfl, bnd_pure rfl rfl rfl (fun _ _ _ _ _ _ pre us ws h0 h1 h2 => match pre, us, ws, h0, h1, h2 with | [], [u0, u1], [], _, _, _ => ⟨[u0, u1], rfl, rfl⟩)⟩
theorem kb10 : ∃ d, p.ds[17]? = some d ∧ KBd d 1 [] [0] := ⟨d17, rfl, bnd_pure rfl rfl rfl (fun _ _ _ _ _ _ pre us ws h0 h1 h2 => match pre, us, ws, h0, h1, h2 with | [], [u0], [], _, _, _ => ⟨[u0], rfl, rfl⟩)⟩
theorem kb11 : ∃ d, p.ds[13]? = some d ∧ KBd d 2 [] [0, 1] := ⟨d13, rfl, bnd_pure rfl rfl rfl (fun _ _ _ _ _ _ pre us ws h0 h1 h2 => match pre, us, ws, h0, h1, h2 with | [], [u0, u1], [], _, _, _ => ⟨[u0, u1], rfl, rfl⟩)⟩
theorem kb12 : ∃ d, p.ds[9]? = some d ∧ KBd d 3 [] [0, 1, 2] := ⟨d9, rfl, bnd_pure rfl rfl rfl (fun _ _ _ _ _ _ pre us ws h0 h1 h2 => match pre, us, ws, h0, h1, h2 with | [], [u0, u1, u2], [], _, _, _ => ⟨[u0, u1, u2], rfl, rfl⟩)⟩
theorem kb13 : ∃ d, p.ds[6]? = some d ∧ KBd d 2 [] [0, 1] := ⟨d6, rfl, bnd_pure rfl rfl rfl (fun _ _ _ _ _ _ pre us ws h0 h1 h2 => match pre, us, ws, h0, h1, h2 with | [], [u0, u1], [], _, _, _ => ⟨[u0, u1], rfl, rfl⟩)⟩
theorem kb14 : ∃ d, p.ds[6]? = some d ∧ KBd d 0 ["year", "work"] [1, 0] := ⟨d6, rfl, bnd_pure rfl rfl rfl (fun _ _ _ _ _ _ pre us ws h0 h1 h2 => match pre, us, ws, h0, h1, h2 with | [], [], [w0, w1], _, _, _ => ⟨[w1, w0], rfl, rfl⟩)⟩
theorem kb15 : ∃ d, p.ds[9]? = some d ∧ KBd d 0 ["fresh", "old", "work"] [2, 1, 0] := ⟨d9, rfl, bnd_pure rfl rfl rfl (fun _ _ _ _ _ _ pre us ws h0 h1 h2 => match pre, us, ws, h0, h1, h2 with | [], [], [w0, w1, w2], _, _, _ => ⟨[w2, w1, w0], rfl, rfl⟩)⟩
theorem kb16 : ∃ d, p.ds[18]? = some d ∧ KBd d 2 [] [0, 1] := ⟨d18, rfl, bnd_pure rfl rfl rfl (fun _ _ _ _ _ _ pre us ws h0 h1 h2 => match pre, us, ws, h0, h1, h2 with | [], [u0, u1], [], _, _, _ => ⟨[u0, u1], rfl, rfl⟩)⟩
theorem kb17 : ∃ d, p.ds[15]? = some d ∧ KBd d 1 [] [0] := ⟨d15, rfl, bnd_pure rfl rfl rfl (fun _ _ _ _ _ _ pre us ws h0 h1 h2 => match pre, us, ws, h0, h1, h2 with | [], [u0], [], _, _, _ => ⟨[u0], rfl, rfl⟩)⟩
theorem kb18 : ∃ d, p.ds[10]? = some d ∧ KBd d 1 [] [0] := ⟨d10, rfl, bnd_pure rfl rfl rfl (fun _ _ _ _ _ _ pre us ws h0 h1 h2 => match pre, us, ws, h0, h1, h2 with | [], [u0], [], _, _, _ => ⟨[u0], rfl, rfl⟩)⟩
theorem kbok : p.kbOk := List.forall_mem_cons.mpr ⟨kb0, List.forall_mem_cons.mpr ⟨kb1, List.forall_mem_cons.mpr ⟨kb2, List.forall_mem_cons.mpr ⟨kb3, List.forall_mem_cons.mpr ⟨kb4, List.forall_mem_cons.mpr ⟨kb5, List.forall_mem_cons.mpr ⟨kb6, List.forall_mem_cons.mpr ⟨kb7, List.forall_mem_cons.mpr ⟨kb8, List.forall_mem_cons.mpr ⟨kb9, List.forall_mem_cons.mpr ⟨kb10, List.forall_mem_cons.mpr ⟨kb11, List.forall_mem_cons.mpr ⟨kb12, List.forall_mem_cons.mpr ⟨kb13, List.forall_mem_cons.mpr ⟨kb14, List.forall_mem_cons.mpr ⟨kb15, List.forall_mem_cons.mpr ⟨kb16, List.forall_mem_cons.mpr ⟨kb17, List.forall_mem_cons.mpr ⟨kb18, fun _ h => (nomatch h)⟩⟩⟩⟩⟩⟩⟩⟩⟩⟩⟩⟩⟩⟩⟩⟩⟩⟩⟩
theorem xb0 : x0.binds p.an := fun _ _ _ _ _ _ _ => ⟨fun i f e1 e2 u v => by
  obtain rfl : 1 = i := Option.some.inj e1
  obtain rfl : ("given" : Str) = f := Option.some.inj e2
  rfl, fun e => (nomatch (show some 1 = none from e))⟩
theorem xb1 : x1.binds p.an := fun _ _ _ _ _ _ _ => ⟨fun i f e1 e2 u v => by
  obtain rfl : 1 = i := Option.some.inj e1
  obtain rfl : ("given" : Str) = f := Option.some.inj e2
  rfl, fun e => (nomatch (show some 1 = none from e))⟩
theorem xb2 : x2.binds p.an := fun _ _ _ _ _ _ _ => ⟨fun i f e1 e2 u v => by
  obtain rfl : 1 = i := Option.some.inj e1
  obtain rfl : ("given" : Str) = f := Option.some.inj e2
  rfl, fun e => (nomatch (show some 1 = none from e))⟩
theorem xb3 : x3.binds p.an := fun _ _ _ _ _ _ _ => ⟨fun i f e1 e2 u v => by
  obtain rfl : 1 = i := Option.some.inj e1
  obtain rfl : ("given" : Str) = f := Option.some.inj e2
  rfl, fun e => (nomatch (show some 1 = none from e))⟩
theorem xb4 : x4.binds p.an := fun _ _ _ _ _ _ _ => ⟨fun i f e1 _ _ _ => (nomatch (show (none : Option Nat) = some i from e1)), fun _ _ => rfl⟩
theorem cb1 : ∀ q ∈ p.kbm, ∀ f d, p.mtd q.1 f → p.ds[f]? = some d → bndD d.dd d.ps (q.2.1 + 1) q.2.2.1 q.2.2.2 := fun _ h => (nomatch h)
theorem cb2 : ∀ q ∈ p.kbc, ∀ c, p.cs'[q.1]? = some c → bndC c.dd c.ps q.2.1 q.2.2.1 q.2.2.2 := fun _ h => (nomatch h)
theorem cb3 : ∀ c ∈ p.cs', c.va = true → bndV c.dd c.ps 1 := fun _ h => (nomatch h)
theorem cb4 : ∀ q ∈ p.kva, ∃ d, p.ds[q.1]? = some d ∧ bndV d.dd d.ps q.2 := List.forall_mem_cons.mpr ⟨⟨d7, rfl, bndV_pure rfl rfl (fun _ _ _ _ _ _ us rest h => match us, rest, h with | [u0], [], _ => rfl | [u0], _ :: _, _ => rfl)⟩, fun _ h => (nomatch h)⟩
theorem cb5 : ∀ q ∈ p.kst, ∀ c f d, p.cs'[q.1]? = some c → c.sts[q.2.1]? = some (some f) → p.ds[f]? = some d → bndD d.dd d.ps q.2.2.1 q.2.2.2.1 q.2.2.2.2 := fun _ h => (nomatch h)
theorem cb6 : ∀ q ∈ p.kca, ∀ c ∈ p.cs', ∀ f d, c.dms.lookup .call = some f → p.ds[f]? = some d → bndD d.dd d.ps (q.1 + 1) q.2.1 q.2.2 := fun _ h => (nomatch h)
theorem cb7 : ∀ c ∈ p.cs', ∀ f d, (c.dms.lookup .len = some f ∨ c.dms.lookup .repr = some f ∨ At.prp f ∈ c.ats) → p.ds[f]? = some d → bndD d.dd d.ps 1 [] [0] := fun _ h => (nomatch h)
theorem cb8 : ∀ c ∈ p.cs', ∀ f d, (c.dms.lookup .eq = some f ∨ c.dms.lookup .ne = some f) → p.ds[f]? = some d → bndD d.dd d.ps 2 [] [0, 1] := fun _ h => (nomatch h)
theorem pbd : p.bd := ⟨kbok, ⟨cb1, cb2, cb3, cb4, cb5, cb6, cb7, cb8⟩, List.forall_mem_cons.mpr ⟨xb0, List.forall_mem_cons.mpr ⟨xb1, List.forall_mem_cons.mpr ⟨xb2, List.forall_mem_cons.mpr ⟨xb3, List.forall_mem_cons.mpr ⟨xb4, fun _ h => (nomatch h)⟩⟩⟩⟩⟩, fun w h => by
  obtain rfl : wy = w := Option.some.inj h
  refine ⟨fun _ _ _ _ _ _ _ => rfl, fun _ _ _ _ _ _ _ => rfl, fun d h => ?_⟩
  obtain rfl : d14 = d := Option.some.inj h
  exact fun _ _ _ _ _ _ _ => rfl⟩
abbrev R : PySem.W.OpenRow := PySem.W.OpenLaw.row PySem.Challenge.rw_rivalkeys_k05_works_changed
abbrev hk : PySem.W.Hook := hookF 5 p pr
def ob (s : PySem.W.SharedT) : AlF := obsFG 5 p pr (HandSHeadRun.getT s)
theorem ob_eq (s : PySem.W.SharedT) : ob s = hk.obs s.abs := obsFG_eq (HandSHeadRun.getT_eq s)
theorem run (w : World) : HandSHeadRun.RunEq R (PySem.W.view R.prog [32]) hk ob 3000 ["RivalError", "Missing", "InvalidWord", "InvalidWords", "InvalidYear", "InvalidWork", "NothingLeft", "LETTERS", "is_number", "is_word", "is_words", "is_year", "is_work", "need_work", "dated", "retitled", "need_word", "spelled", "_law_deal", "_law_pick", "_law_of", "_law_same", "_law_field", "_law_why", "_law_whys", "_law_pool", "_law_some_words", "_law_year", "_law_work"] w := by
  intro os
  kernel_rfl
end K05

set_option maxHeartbeats 4000000
namespace K05
open PySem Rk
theorem f0 : p.G.fn 0 = some ⟨3, 3, numB⟩ := rfl
theorem f1 : p.G.fn 1 = some ⟨1, 2, wordB 0⟩ := rfl
theorem f2 : p.G.fn 2 = some ⟨1, 2, wordsB 1⟩ := rfl
theorem f3 : p.G.fn 3 = some ⟨1, 1, yearB 0⟩ := rfl
theorem f4 : p.G.fn 4 = some ⟨1, 1, workB 2 3⟩ := rfl
theorem f5 : p.G.fn 5 = some ⟨1, 1, needB 4 3⟩ := rfl
theorem f6 : p.G.fn 6 = some ⟨2, 2, datedB 5 3 2⟩ := rfl
theorem f7 : p.G.fn 7 = some ⟨2, 2, retB 5 2 1⟩ := rfl
theorem f8 : p.G.fn 8 = some ⟨1, 1, needB 1 0⟩ := rfl
theorem f9 : p.G.fn 9 = some ⟨3, 4, spelB 5 8⟩ := rfl
theorem f10 : p.G.fn 10 = some ⟨1, 4, dealB⟩ := rfl
theorem f11 : p.G.fn 11 = some ⟨2, 6, pickB⟩ := rfl
theorem f12 : p.G.fn 12 = some ⟨2, 2, ofB 11⟩ := rfl
theorem f13 : p.G.fn 13 = some ⟨2, 2, sameB⟩ := rfl
theorem f14 : p.G.fn 14 = some ⟨1, 1, fieldB⟩ := rfl
theorem f15 : p.G.fn 15 = some ⟨1, 5, poolB 11 12⟩ := rfl
theorem f16 : p.G.fn 16 = some ⟨2, 3, someB 11 12⟩ := rfl
theorem f17 : p.G.fn 17 = some ⟨1, 1, lyearB 11 12⟩ := rfl
theorem f18 : p.G.fn 18 = some ⟨2, 2, lworkB 16 17⟩ := rfl
theorem f19 : p.G.fn 19 = some ⟨1, 17, b19⟩ := rfl
theorem dfl (k : Nat) : p.G.dfl k = [] := Pg.dfl_nil (by decide +kernel) k
theorem gl : p.G.glb 0 = .str AZ := rfl
theorem gx0 : p.G.xcl 0 = some (cdWord, some 1) := rfl
theorem gx1 : p.G.xcl 1 = some (cdWords, some 1) := rfl
theorem gx2 : p.G.xcl 2 = some (cdYear, some 1) := rfl
theorem gx3 : p.G.xcl 3 = some (cdWork, some 1) := rfl
theorem gc : p.G.cod = 0 := rfl
section
variable {n : Nat} {h : AH} {d y x z : D} {w : Wk}
theorem nW_ok (hw : w.ok) : (cN p.G (n + 1 + 1 + 1 + 1)).f true 5 [w.d] h = .ok .non h := need_ok f5 (dfl 4) (by rw [work_eq f4 f2 f1 f3 f0 dfl gl hw.isWk.2, hw.isWk.1])
theorem nW_no (hp : pl 2 d = true) (hn : isWk d = false) : (cN p.G (n + 1 + 1 + 1 + 1)).f true 5 [d] h = .exc (.exc 3 [(0, .str cdWork), (1, d)]) h := need_no f5 (dfl 4) gx3 gc (by rw [work_eq f4 f2 f1 f3 f0 dfl gl hp, hn])
theorem nV_ok {s : List Nat} (hs : okW s) : (cN p.G (n + 1 + 1)).f true 8 [.str s] h = .ok .non h := need_ok f8 (dfl 1) (by rw [word_eq f1 gl hs.isW.2, hs.isW.1])
theorem nV_no (hp : plain d = true) (hn : isW d = false) : (cN p.G (n + 1 + 1)).f true 8 [d] h = .exc (.exc 0 [(0, .str cdWord), (1, d)]) h := need_no f8 (dfl 1) gx0 gc (by rw [word_eq f1 gl hp, hn])
theorem yr_ok (hp : plain y = true) : (cN p.G (n + 1 + 1)).f true 3 [y] h = .ok (.bl (isN' 0 9999 y)) h := year_eq f3 f0 (dfl 0) hp
theorem ws_ok (hp : pl 1 y = true) : (cN p.G (n + 1 + 1)).f true 2 [y] h = .ok (.bl (isWs y)) h := words_eq' f2 f1 (dfl 1) gl hp
theorem da_bad (hp : pl 2 d = true) (hn : isWk d = false) : (cN p.G (n + 1 + 1 + 1 + 1 + 1)).f true 6 [d, y] h = .exc (.exc 3 [(0, .str cdWork), (1, d)]) h := dated_exc f6 dfl (nW_no hp hn)
theorem da_no (hw : w.ok) (hp : plain y = true) (hn : isN' 0 9999 y = false) : (cN p.G (n + 1 + 1 + 1 + 1 + 1)).f true 6 [w.d, y] h = .exc (.exc 2 [(0, .str cdYear), (1, y)]) h := dated_no f6 dfl (nW_ok hw) ((yr_ok hp).trans (by rw [hn])) gx2 gc
theorem da_ok (hw : w.ok) (hp : plain y = true) (hn : isN' 0 9999 y = true) : (cN p.G (n + 1 + 1 + 1 + 1 + 1)).f true 6 [w.d, y] h = .ok (.tup [wordsD w.folk, y, wordsD w.title]) h := dated_ok f6 dfl (nW_ok hw) ((yr_ok hp).trans (by rw [hn]))
theorem re_bad (hp : pl 2 d = true) (hn : isWk d = false) : (cN p.G (n + 1 + 1 + 1 + 1 + 1)).f true 7 [d, y] h = .exc (.exc 3 [(0, .str cdWork), (1, d)]) h := ret_exc f7 dfl (nW_no hp hn)
theorem re_no (hw : w.ok) (hp : pl 1 y = true) (hn : isWs y = false) : (cN p.G (n + 1 + 1 + 1 + 1 + 1)).f true 7 [w.d, y] h = .exc (.exc 1 [(0, .str cdWords), (1, y)]) h := ret_no f7 dfl (nW_ok hw) ((ws_ok hp).trans (by rw [hn])) gx1 gc
theorem re_ok (hw : w.ok) (hp : pl 1 y = true) (hn : isWs y = true) : (cN p.G (n + 1 + 1 + 1 + 1 + 1)).f true 7 [w.d, y] h = .ok (.tup [wordsD w.folk, .int w.year, y]) h := ret_ok f7 dfl (nW_ok hw) ((ws_ok hp).trans (by rw [hn]))
theorem sp_bad (hp : pl 2 d = true) (hn : isWk d = false) : (cN p.G (n + 1 + 1 + 1 + 1 + 1)).f true 9 [d, x, y] h = .exc (.exc 3 [(0, .str cdWork), (1, d)]) h := spel_exc f9 dfl (nW_no hp hn)
theorem sp_no1 (hw : w.ok) (hp : plain x = true) (hn : isW x = false) : (cN p.G (n + 1 + 1 + 1 + 1 + 1)).f true 9 [w.d, x, y] h = .exc (.exc 0 [(0, .str cdWord), (1, x)]) h := spel_exc1 f9 dfl (nW_ok hw) (nV_no hp hn)
theorem sp_no2 {s : List Nat} (hw : w.ok) (hs : okW s) (hp : plain y = true) (hn : isW y = false) : (cN p.G (n + 1 + 1 + 1 + 1 + 1)).f true 9 [w.d, .str s, y] h = .exc (.exc 0 [(0, .str cdWord), (1, y)]) h := spel_exc2 f9 dfl (nW_ok hw) (nV_ok hs) (nV_no hp hn)
theorem sp_ok {o f : List Nat} (hw : w.ok) (ho : okW o) (hf : okW f) : (cN p.G (n + 1 + 1 + 1 + 1 + 1)).f true 9 [w.d, .str o, .str f] h = .ok (.tup [wordsD (w.folk.map (respel o f)), .int w.year, wordsD w.title]) h := spel_ok (by have := hw.folk.2.1; omega) f9 dfl (nW_ok hw) (nV_ok ho) (nV_ok hf)
end
theorem lam0 : p.G.lam 0 = l0 := rfl
theorem lam1 : p.G.lam 1 = l1 := rfl
theorem lam2 : p.G.lam 2 = l2 := rfl
theorem lam3 : p.G.lam 3 = l3 := rfl
theorem lam4 : p.G.lam 4 = l4 := rfl
theorem lam5 : p.G.lam 5 = l5 := rfl
theorem lam6 : p.G.lam 6 = l6 := rfl
theorem lam7 : p.G.lam 7 = l7 := rfl
theorem lam8 : p.G.lam 8 = l8 := rfl
theorem lam9 : p.G.lam 9 = l9 := rfl
theorem lw (k : Nat) (h : k < 10) : p.G.lamw k = [] := by
  match k, h with
  | 0, _ => rfl
  | 1, _ => rfl
  | 2, _ => rfl
  | 3, _ => rfl
  | 4, _ => rfl
  | 5, _ => rfl
  | 6, _ => rfl
  | 7, _ => rfl
  | 8, _ => rfl
  | 9, _ => rfl
theorem okA : okW [97] := by refine ⟨by decide, by decide, by decide⟩
theorem ask {h : AH} {a0 a1 a2 a3 a4 a5 a7 a8 a10 a11 a12 a13 a16 : Sl} {w : Wk} {bad late odd : D} (hw : w.ok) (hb : pl 2 bad = true) (hb2 : isWk bad = false) (hl : plain late = true) (hl2 : isN' 0 9999 late = false) (ho : plain odd = true) (ho2 : isW odd = false) :
    whysR (cN p.G 11).why [7, 8, 9, 4, 5, 6, 2, 3, 0, 1] [a0, a1, a2, a3, a4, a5, .v odd, a7, a8, .v w.d, a10, a11, a12, a13, .v bad, .v late, a16] h = .ok [.tup [.str cdWork, .tup [bad]], .tup [.str cdYear, .tup [late]], .tup [.str cdWork, .tup [bad]],
      .tup [.str cdWords, .tup [.tup [.str [97], odd]]], .tup [.str cdWords, .tup [.tup []]], .tup [.str cdWork, .tup [bad]], .tup [.str cdWord, .tup [odd]], .tup [.str cdWord, .tup [odd]],
      .tup [.str told, .tup [wordsD w.folk, .int w.year, .tup [.str [97], .str [98], .str [99], .str [100]]]], .tup [.str cdWords, .tup [.tup [.str [97], .str [98], .str [99], .str [100], .str [101]]]]] h := by
  have po : pl 1 (.tup [.str [97], odd]) = true := by
    show (true && [D.str [97], odd].all (pl 0)) = true
    simp only [List.all_cons, List.all_nil]
    show (true && (plain (.str [97]) && (plain odd && true))) = true
    rw [ho]
    decide
  have no : isWs (.tup [.str [97], odd]) = false := by
    show (decide (1 ≤ 2) && decide (2 ≤ 4) && [D.str [97], odd].all isW) = false
    simp only [List.all_cons, List.all_nil, ho2, Bool.and_false, Bool.false_and]
  have lo : (0 + 1 + 1 + 1 + 1 ≤ line) = True := eq_true (by decide)
  have l1' : ∀ k : Nat, k ≤ 6 → (k ≤ line) = True := fun k hk => eq_true (Nat.le_trans hk (by decide))
  have e7 : evE p.G (cN p.G 10) true (p.G.lam 7) [a0, a1, a2, a3, a4, a5, .v odd, a7, a8, .v w.d, a10, a11, a12, a13, .v bad, .v late, a16] h = .exc (.exc 3 [(0, .str cdWork), (1, bad)]) h := by
    rw [lam7, l7]
    simp only [evSs, evS, evT, evE, evEs, evIt, evOp, evIfs, bind_one, List.set_cons_succ, List.set_cons_zero, Wp_ok, Wp_bind, Wp_bindX, Wp_noexc, bind_ok, bindX_ok, ldV_zero, ldV_succ, pick, List.getElem?_cons_zero, List.getElem?_cons_succ, if_true, len_fix, range_len', add_ii, sub_ii, List.length_cons, List.length_nil, len_l, len_t, Wp_lift, lift, Option.map_some, src_l, src_t, tr_bl, sl_l, sl_t, List.append_nil, Nat.reduceAdd, Nat.reduceLeDiff, hline, tuple_l, list_t, List.cons_append, List.nil_append, Bool.not_true, Bool.not_false, Bool.false_eq_true, if_false, any_l, dfl]
    exact da_bad hb hb2
  have e8 : evE p.G (cN p.G 10) true (p.G.lam 8) [a0, a1, a2, a3, a4, a5, .v odd, a7, a8, .v w.d, a10, a11, a12, a13, .v bad, .v late, a16] h = .exc (.exc 2 [(0, .str cdYear), (1, late)]) h := by
    rw [lam8, l8]
    simp only [evSs, evS, evT, evE, evEs, evIt, evOp, evIfs, bind_one, List.set_cons_succ, List.set_cons_zero, Wp_ok, Wp_bind, Wp_bindX, Wp_noexc, bind_ok, bindX_ok, ldV_zero, ldV_succ, pick, List.getElem?_cons_zero, List.getElem?_cons_succ, if_true, len_fix, range_len', add_ii, sub_ii, List.length_cons, List.length_nil, len_l, len_t, Wp_lift, lift, Option.map_some, src_l, src_t, tr_bl, sl_l, sl_t, List.append_nil, Nat.reduceAdd, Nat.reduceLeDiff, hline, tuple_l, list_t, List.cons_append, List.nil_append, Bool.not_true, Bool.not_false, Bool.false_eq_true, if_false, any_l, dfl]
    exact da_no hw hl hl2
  have e9 : evE p.G (cN p.G 10) true (p.G.lam 9) [a0, a1, a2, a3, a4, a5, .v odd, a7, a8, .v w.d, a10, a11, a12, a13, .v bad, .v late, a16] h = .exc (.exc 3 [(0, .str cdWork), (1, bad)]) h := by
    rw [lam9, l9]
    simp only [evSs, evS, evT, evE, evEs, evIt, evOp, evIfs, bind_one, List.set_cons_succ, List.set_cons_zero, Wp_ok, Wp_bind, Wp_bindX, Wp_noexc, bind_ok, bindX_ok, ldV_zero, ldV_succ, pick, List.getElem?_cons_zero, List.getElem?_cons_succ, if_true, len_fix, range_len', add_ii, sub_ii, List.length_cons, List.length_nil, len_l, len_t, Wp_lift, lift, Option.map_some, src_l, src_t, tr_bl, sl_l, sl_t, List.append_nil, Nat.reduceAdd, Nat.reduceLeDiff, hline, tuple_l, list_t, List.cons_append, List.nil_append, Bool.not_true, Bool.not_false, Bool.false_eq_true, if_false, any_l, dfl, evDs, List.take, List.drop, l1']
    exact re_bad hb hb2
  have e4 : evE p.G (cN p.G 10) true (p.G.lam 4) [a0, a1, a2, a3, a4, a5, .v odd, a7, a8, .v w.d, a10, a11, a12, a13, .v bad, .v late, a16] h = .exc (.exc 1 [(0, .str cdWords), (1, .tup [.str [97], odd])]) h := by
    rw [lam4, l4]
    simp only [evSs, evS, evT, evE, evEs, evIt, evOp, evIfs, bind_one, List.set_cons_succ, List.set_cons_zero, Wp_ok, Wp_bind, Wp_bindX, Wp_noexc, bind_ok, bindX_ok, ldV_zero, ldV_succ, pick, List.getElem?_cons_zero, List.getElem?_cons_succ, if_true, len_fix, range_len', add_ii, sub_ii, List.length_cons, List.length_nil, len_l, len_t, Wp_lift, lift, Option.map_some, src_l, src_t, tr_bl, sl_l, sl_t, List.append_nil, Nat.reduceAdd, Nat.reduceLeDiff, hline, tuple_l, list_t, List.cons_append, List.nil_append, Bool.not_true, Bool.not_false, Bool.false_eq_true, if_false, any_l, dfl, evDs, List.take, List.drop, l1']
    exact re_no hw po no
  have e5 : evE p.G (cN p.G 10) true (p.G.lam 5) [a0, a1, a2, a3, a4, a5, .v odd, a7, a8, .v w.d, a10, a11, a12, a13, .v bad, .v late, a16] h = .exc (.exc 1 [(0, .str cdWords), (1, .tup [])]) h := by
    rw [lam5, l5]
    simp only [evSs, evS, evT, evE, evEs, evIt, evOp, evIfs, bind_one, List.set_cons_succ, List.set_cons_zero, Wp_ok, Wp_bind, Wp_bindX, Wp_noexc, bind_ok, bindX_ok, ldV_zero, ldV_succ, pick, List.getElem?_cons_zero, List.getElem?_cons_succ, if_true, len_fix, range_len', add_ii, sub_ii, List.length_cons, List.length_nil, len_l, len_t, Wp_lift, lift, Option.map_some, src_l, src_t, tr_bl, sl_l, sl_t, List.append_nil, Nat.reduceAdd, Nat.reduceLeDiff, hline, tuple_l, list_t, List.cons_append, List.nil_append, Bool.not_true, Bool.not_false, Bool.false_eq_true, if_false, any_l, dfl, evDs, List.take, List.drop, l1']
    exact re_no hw (by decide) (by decide)
  have e6 : evE p.G (cN p.G 10) true (p.G.lam 6) [a0, a1, a2, a3, a4, a5, .v odd, a7, a8, .v w.d, a10, a11, a12, a13, .v bad, .v late, a16] h = .exc (.exc 3 [(0, .str cdWork), (1, bad)]) h := by
    rw [lam6, l6]
    simp only [evSs, evS, evT, evE, evEs, evIt, evOp, evIfs, bind_one, List.set_cons_succ, List.set_cons_zero, Wp_ok, Wp_bind, Wp_bindX, Wp_noexc, bind_ok, bindX_ok, ldV_zero, ldV_succ, pick, List.getElem?_cons_zero, List.getElem?_cons_succ, if_true, len_fix, range_len', add_ii, sub_ii, List.length_cons, List.length_nil, len_l, len_t, Wp_lift, lift, Option.map_some, src_l, src_t, tr_bl, sl_l, sl_t, List.append_nil, Nat.reduceAdd, Nat.reduceLeDiff, hline, tuple_l, list_t, List.cons_append, List.nil_append, Bool.not_true, Bool.not_false, Bool.false_eq_true, if_false, any_l, dfl]
    exact sp_bad hb hb2
  have e2 : evE p.G (cN p.G 10) true (p.G.lam 2) [a0, a1, a2, a3, a4, a5, .v odd, a7, a8, .v w.d, a10, a11, a12, a13, .v bad, .v late, a16] h = .exc (.exc 0 [(0, .str cdWord), (1, odd)]) h := by
    rw [lam2, l2]
    simp only [evSs, evS, evT, evE, evEs, evIt, evOp, evIfs, bind_one, List.set_cons_succ, List.set_cons_zero, Wp_ok, Wp_bind, Wp_bindX, Wp_noexc, bind_ok, bindX_ok, ldV_zero, ldV_succ, pick, List.getElem?_cons_zero, List.getElem?_cons_succ, if_true, len_fix, range_len', add_ii, sub_ii, List.length_cons, List.length_nil, len_l, len_t, Wp_lift, lift, Option.map_some, src_l, src_t, tr_bl, sl_l, sl_t, List.append_nil, Nat.reduceAdd, Nat.reduceLeDiff, hline, tuple_l, list_t, List.cons_append, List.nil_append, Bool.not_true, Bool.not_false, Bool.false_eq_true, if_false, any_l, dfl]
    exact sp_no1 hw ho ho2
  have e3 : evE p.G (cN p.G 10) true (p.G.lam 3) [a0, a1, a2, a3, a4, a5, .v odd, a7, a8, .v w.d, a10, a11, a12, a13, .v bad, .v late, a16] h = .exc (.exc 0 [(0, .str cdWord), (1, odd)]) h := by
    rw [lam3, l3]
    simp only [evSs, evS, evT, evE, evEs, evIt, evOp, evIfs, bind_one, List.set_cons_succ, List.set_cons_zero, Wp_ok, Wp_bind, Wp_bindX, Wp_noexc, bind_ok, bindX_ok, ldV_zero, ldV_succ, pick, List.getElem?_cons_zero, List.getElem?_cons_succ, if_true, len_fix, range_len', add_ii, sub_ii, List.length_cons, List.length_nil, len_l, len_t, Wp_lift, lift, Option.map_some, src_l, src_t, tr_bl, sl_l, sl_t, List.append_nil, Nat.reduceAdd, Nat.reduceLeDiff, hline, tuple_l, list_t, List.cons_append, List.nil_append, Bool.not_true, Bool.not_false, Bool.false_eq_true, if_false, any_l, dfl]
    exact sp_no2 hw okA ho ho2
  have e0 : evE p.G (cN p.G 10) true (p.G.lam 0) [a0, a1, a2, a3, a4, a5, .v odd, a7, a8, .v w.d, a10, a11, a12, a13, .v bad, .v late, a16] h = .ok (.tup [wordsD w.folk, .int w.year, .tup [.str [97], .str [98], .str [99], .str [100]]]) h := by
    rw [lam0, l0]
    simp only [evSs, evS, evT, evE, evEs, evIt, evOp, evIfs, bind_one, List.set_cons_succ, List.set_cons_zero, Wp_ok, Wp_bind, Wp_bindX, Wp_noexc, bind_ok, bindX_ok, ldV_zero, ldV_succ, pick, List.getElem?_cons_zero, List.getElem?_cons_succ, if_true, len_fix, range_len', add_ii, sub_ii, List.length_cons, List.length_nil, len_l, len_t, Wp_lift, lift, Option.map_some, src_l, src_t, tr_bl, sl_l, sl_t, List.append_nil, Nat.reduceAdd, Nat.reduceLeDiff, hline, tuple_l, list_t, List.cons_append, List.nil_append, Bool.not_true, Bool.not_false, Bool.false_eq_true, if_false, any_l, dfl, evDs, List.take, List.drop, l1']
    exact re_ok hw (by decide) (by decide)
  have e1 : evE p.G (cN p.G 10) true (p.G.lam 1) [a0, a1, a2, a3, a4, a5, .v odd, a7, a8, .v w.d, a10, a11, a12, a13, .v bad, .v late, a16] h = .exc (.exc 1 [(0, .str cdWords), (1, .tup [.str [97], .str [98], .str [99], .str [100], .str [101]])]) h := by
    rw [lam1, l1]
    simp only [evSs, evS, evT, evE, evEs, evIt, evOp, evIfs, bind_one, List.set_cons_succ, List.set_cons_zero, Wp_ok, Wp_bind, Wp_bindX, Wp_noexc, bind_ok, bindX_ok, ldV_zero, ldV_succ, pick, List.getElem?_cons_zero, List.getElem?_cons_succ, if_true, len_fix, range_len', add_ii, sub_ii, List.length_cons, List.length_nil, len_l, len_t, Wp_lift, lift, Option.map_some, src_l, src_t, tr_bl, sl_l, sl_t, List.append_nil, Nat.reduceAdd, Nat.reduceLeDiff, hline, tuple_l, list_t, List.cons_append, List.nil_append, Bool.not_true, Bool.not_false, Bool.false_eq_true, if_false, any_l, dfl, evDs, List.take, List.drop, l1']
    exact re_no hw (by decide) (by decide)
  rw [whys_cons (by rw [cN_why, why_exc (lw 7 (by decide)) e7 (by rw [gc]; rfl) (fld_work f14)]), whys_cons (by rw [cN_why, why_exc (lw 8 (by decide)) e8 (by rw [gc]; rfl) (fld_year f14)]), whys_cons (by rw [cN_why, why_exc (lw 9 (by decide)) e9 (by rw [gc]; rfl) (fld_work f14)]),
    whys_cons (by rw [cN_why, why_exc (lw 4 (by decide)) e4 (by rw [gc]; rfl) (fld_words f14)]), whys_cons (by rw [cN_why, why_exc (lw 5 (by decide)) e5 (by rw [gc]; rfl) (fld_words f14)]), whys_cons (by rw [cN_why, why_exc (lw 6 (by decide)) e6 (by rw [gc]; rfl) (fld_work f14)]),
    whys_cons (by rw [cN_why, why_exc (lw 2 (by decide)) e2 (by rw [gc]; rfl) (fld_word f14)]), whys_cons (by rw [cN_why, why_exc (lw 3 (by decide)) e3 (by rw [gc]; rfl) (fld_word f14)]), whys_cons (by rw [cN_why, why_told (lw 0 (by decide)) e0]), whys_cons (by rw [cN_why, why_exc (lw 1 (by decide)) e1 (by rw [gc]; rfl) (fld_words f14)]), whys_nil]
  rfl
theorem bad_ok {w : Wk} (hw : w.ok) {bad : D} (hb : bad ∈ ([.non, .tup [], .tup (cut [wordsD w.folk, .int w.year, wordsD w.title] none (some 2)), .lst [wordsD w.folk, .int w.year, wordsD w.title]] : List D)) : pl 2 bad = true ∧ isWk bad = false ∧ Sm 112 bad ∧ dpt 5 bad = true := by
  have hf := hw.folk.isWs.2
  have sw : ∀ x ∈ ([wordsD w.folk, .int w.year, wordsD w.title] : List D), Sm 37 x := fun x hx => by
    simp only [List.mem_cons, List.not_mem_nil, or_false] at hx
    rcases hx with rfl | rfl | rfl
    · exact hw.folk.sm
    · exact Sm.int (by have := hw.year; omega) (by decide)
    · exact hw.title.sm
  have hc : cut [wordsD w.folk, D.int w.year, wordsD w.title] none (some 2) = [wordsD w.folk, .int w.year] := rfl
  rw [hc] at hb
  simp only [List.mem_cons, List.not_mem_nil, or_false] at hb
  rcases hb with rfl | rfl | rfl | rfl
  · exact ⟨by decide, by decide, Sm.of (by decide), by decide⟩
  · exact ⟨by decide, by decide, Sm.of (by decide), by decide⟩
  · refine ⟨?_, rfl, Sm.tup (k := 37) (fun x hx => sw x ?_) (by simp), ?_⟩
    · show (true && [wordsD w.folk, D.int w.year].all (pl 1)) = true
      simp only [List.all_cons, List.all_nil, hf, Bool.and_true, Bool.true_and]
      rfl
    · simp only [List.mem_cons, List.not_mem_nil, or_false] at hx ⊢
      rcases hx with rfl | rfl
      · exact .inl rfl
      · exact .inr (.inl rfl)
    · unfold dpt dpts dpts dpts
      rw [dpt_words]
      rfl
  · refine ⟨rfl, rfl, Sm.lst (k := 37) sw (by simp), ?_⟩
    unfold dpt dpts dpts dpts dpts
    rw [dpt_words, dpt_words]
    rfl
theorem lams_at {a0 a1 a2 a3 a4 a5 a6 : Sl} {r : List Sl} {ks : List Nat} : lamsOf (a0 :: a1 :: a2 :: a3 :: a4 :: a5 :: a6 :: .lams ks :: r) 7 = some ks := rfl
theorem hv' (l : List Int) (hl : l.length ≤ 63) (h : AH) : Wp ((cN p.G 12).f true 19 [.scr l] h) (fun a _ => a = .bl true) (fun _ _ => False) := by
  rw [callN_succ, f19]
  simp only [b19, b19_17, fin, List.replicate, List.map_cons, List.map_nil, evSs, evS, evT, evE, evEs, evIt, evOp, evIfs, bind_one, List.set_cons_succ, List.set_cons_zero, Wp_ok, Wp_bind, Wp_bindX, Wp_noexc, bind_ok, bindX_ok, ldV_zero, ldV_succ, pick, List.getElem?_cons_zero, List.getElem?_cons_succ, if_true, len_fix, range_len', add_ii, sub_ii, List.length_cons, List.length_nil, len_l, len_t, Wp_lift, lift, Option.map_some, src_l, src_t, tr_bl, sl_l, sl_t, List.append_nil, Nat.reduceAdd, Nat.reduceLeDiff, hline, tuple_l, list_t, List.cons_append, List.nil_append, Bool.not_true, Bool.not_false, Bool.false_eq_true, if_false, any_l, dfl]
  refine wp_deal f10 hl fun h1 hn1 hc1 dl1 => ?_
  try simp only [bind_one, List.set_cons_succ, List.set_cons_zero, Wp_ok, Wp_bind, Wp_bindX, Wp_noexc, bind_ok, bindX_ok, ldV_zero, ldV_succ, pick, List.getElem?_cons_zero, List.getElem?_cons_succ, if_true, len_fix, range_len', add_ii, sub_ii, List.length_cons, List.length_nil, len_l, len_t, Wp_lift, lift, Option.map_some, src_l, src_t, tr_bl, sl_l, sl_t, List.append_nil, Nat.reduceAdd, Nat.reduceLeDiff, hline, tuple_l, list_t, List.cons_append, List.nil_append, Bool.not_true, Bool.not_false, Bool.false_eq_true, if_false, any_l, dfl]
  generalize h.nx = r at *
  refine wp_pool f15 f11 f12 dfl dl1 fun pool h2 hpo hpl6 dl2 bt2 => ?_
  simp only [b19_16, evSs, evS, evT, evE, evEs, evIt, evOp, evIfs,  Wp_ok, List.set_cons_succ, List.set_cons_zero, Wp_bind, Wp_bindX, bind_ok, bindX_ok, show (-(2 ^ 62) ≤ (5 : Int) ∧ (5 : Int) < 2 ^ 62) = True by decide, if_true, len_fix, forI_all]
  have hne : pool ≠ [] := by intro z; rw [z] at hpl6; cases hpl6
  refine forL_inv (k := 0) (fun _ env h' => Deal r h' ∧ ∃ v3 v4 v5 v6 v7 v8 v9 v10 v11 v12 v13 v14 v15 v16, env = [.v (.scr l), .v (.ref r), .v (.lst pool), v3, v4, v5, v6, v7, v8, v9, v10, v11, v12, v13, v14, v15, v16]) ⟨dl2, _, _, _, _, _, _, _, _, _, _, _, _, _, _, rfl⟩ ?_ ?_
  · rintro j x env h3 hx ⟨dl3, v3, v4, v5, v6, v7, v8, v9, v10, v11, v12, v13, v14, v15, v16, rfl⟩
    simp only [b19_15, evSs, evS, evT, evE, evEs, evIt, evOp, evIfs, bind_one, List.set_cons_succ, List.set_cons_zero, Wp_ok, Wp_bind, Wp_bindX, Wp_noexc, bind_ok, bindX_ok, ldV_zero, ldV_succ, pick, List.getElem?_cons_zero, List.getElem?_cons_succ, if_true, len_fix, range_len', add_ii, sub_ii, List.length_cons, List.length_nil, len_l, len_t, Wp_lift, lift, Option.map_some, src_l, src_t, tr_bl, sl_l, sl_t, List.append_nil, Nat.reduceAdd, Nat.reduceLeDiff, hline, tuple_l, list_t, List.cons_append, List.nil_append, Bool.not_true, Bool.not_false, Bool.false_eq_true, if_false, any_l, dfl]
    refine wp_lwork f18 f16 f17 f11 f12 dfl dl3 hpo hne (by omega) fun wx h4 hwx dl4 bt4 => ?_
    obtain ⟨w, rfl, hw⟩ := hwx.ok
    try simp only [bind_one, List.set_cons_succ, List.set_cons_zero, Wp_ok, Wp_bind, Wp_bindX, Wp_noexc, bind_ok, bindX_ok, ldV_zero, ldV_succ, pick, List.getElem?_cons_zero, List.getElem?_cons_succ, if_true, len_fix, range_len', add_ii, sub_ii, List.length_cons, List.length_nil, len_l, len_t, Wp_lift, lift, Option.map_some, src_l, src_t, tr_bl, sl_l, sl_t, List.append_nil, Nat.reduceAdd, Nat.reduceLeDiff, hline, tuple_l, list_t, List.cons_append, List.nil_append, Bool.not_true, Bool.not_false, Bool.false_eq_true, if_false, any_l, dfl]
    refine wp_lyear f17 f11 f12 dfl dl4 fun y h5 y0 y1 dl5 bt5 => ?_
    try simp only [bind_one, List.set_cons_succ, List.set_cons_zero, Wp_ok, Wp_bind, Wp_bindX, Wp_noexc, bind_ok, bindX_ok, ldV_zero, ldV_succ, pick, List.getElem?_cons_zero, List.getElem?_cons_succ, if_true, len_fix, range_len', add_ii, sub_ii, List.length_cons, List.length_nil, len_l, len_t, Wp_lift, lift, Option.map_some, src_l, src_t, tr_bl, sl_l, sl_t, List.append_nil, Nat.reduceAdd, Nat.reduceLeDiff, hline, tuple_l, list_t, List.cons_append, List.nil_append, Bool.not_true, Bool.not_false, Bool.false_eq_true, if_false, any_l, dfl]
    refine wp_some f16 f11 f12 dfl dl5 hpo hne (by omega) fun m h6 m1 m4 mm dl6 bt6 => ?_
    obtain ⟨s0, ms, rfl, hs0⟩ : ∃ s0 ms, m = .str s0 :: ms ∧ okW s0 := by
      match m, m1 with
      | x :: ms, _ =>
        obtain ⟨s0, rfl, h0⟩ := (hpo x (mm x List.mem_cons_self)).ok
        exact ⟨s0, ms, rfl, h0⟩
    have b3 : ∀ v0 v1 v2 v3 v4 v5 v6 v7 v8 v9 v10 v11 v12 v13 v14 v15 v16 : Sl, ∀ a b c : D, bindT [9, 10, 11] (.tup [a, b, c]) [v0, v1, v2, v3, v4, v5, v6, v7, v8, v9, v10, v11, v12, v13, v14, v15, v16] = some [v0, v1, v2, v3, v4, v5, v6, v7, v8, .v a, .v b, .v c, v12, v13, v14, v15, v16] := fun _ _ _ _ _ _ _ _ _ _ _ _ _ _ _ _ _ _ _ _ => rfl
    have b2 : ∀ v0 v1 v2 v3 v4 v5 v6 v7 v8 v9 v10 v11 v12 v13 v14 v15 v16 : Sl, ∀ a b : D, bindT [12, 13] (.tup [a, b]) [v0, v1, v2, v3, v4, v5, v6, v7, v8, v9, v10, v11, v12, v13, v14, v15, v16] = some [v0, v1, v2, v3, v4, v5, v6, v7, v8, v9, v10, v11, .v a, .v b, v14, v15, v16] := fun _ _ _ _ _ _ _ _ _ _ _ _ _ _ _ _ _ _ _ => rfl
    have b1 : ∀ v0 v1 v2 v3 v4 v5 v6 v7 v8 v9 v10 v11 v12 v13 v14 v15 v16 : Sl, ∀ a b : D, bindT [14, 15] (.tup [a, b]) [v0, v1, v2, v3, v4, v5, v6, v7, v8, v9, v10, v11, v12, v13, v14, v15, v16] = some [v0, v1, v2, v3, v4, v5, v6, v7, v8, v9, v10, v11, v12, v13, .v a, .v b, v16] := fun _ _ _ _ _ _ _ _ _ _ _ _ _ _ _ _ _ _ _ => rfl
    have eW : w.d = .tup [wordsD w.folk, .int w.year, wordsD w.title] := rfl
    have hfl := hw.folk.2.1
    have c1 : (pool.length + (w.folk.map D.str).length ≤ line) = True := by rw [List.length_map]; exact eq_true (Nat.le_trans (show _ ≤ 10 by omega) (by decide))
    simp only [b3, b19_14, evSs, evS, evT, evE, evEs, evIt, evOp, evIfs, bind_one, List.set_cons_succ, List.set_cons_zero, Wp_ok, Wp_bind, Wp_bindX, Wp_noexc, bind_ok, bindX_ok, ldV_zero, ldV_succ, pick, List.getElem?_cons_zero, List.getElem?_cons_succ, if_true, len_fix, range_len', add_ii, sub_ii, List.length_cons, List.length_nil, len_l, len_t, Wp_lift, lift, Option.map_some, src_l, src_t, tr_bl, sl_l, sl_t, List.append_nil, Nat.reduceAdd, Nat.reduceLeDiff, hline, tuple_l, list_t, List.cons_append, List.nil_append, Bool.not_true, Bool.not_false, Bool.false_eq_true, if_false, any_l, dfl]
    rw [eW]
    simp only [bind_one, List.set_cons_succ, List.set_cons_zero, Wp_ok, Wp_bind, Wp_bindX, Wp_noexc, bind_ok, bindX_ok, ldV_zero, ldV_succ, pick, List.getElem?_cons_zero, List.getElem?_cons_succ, if_true, len_fix, range_len', add_ii, sub_ii, List.length_cons, List.length_nil, len_l, len_t, Wp_lift, lift, Option.map_some, src_l, src_t, tr_bl, sl_l, sl_t, List.append_nil, Nat.reduceAdd, Nat.reduceLeDiff, hline, tuple_l, list_t, List.cons_append, List.nil_append, Bool.not_true, Bool.not_false, Bool.false_eq_true, if_false, any_l, dfl, ix_ti, at30, at31, at32, add_ll, c1]
    refine wp_of_l f11 f12 (dfl 11) dl6 (by simp [hne]) (by rw [List.length_append, List.length_map]; omega) fun o h7 ho dl7 bt7 => ?_
    obtain ⟨o, rfl, hok⟩ : ∃ s, o = .str s ∧ okW s := by
      rcases List.mem_append.mp ho with ho | ho
      · exact (hpo _ ho).ok
      · obtain ⟨s, hs, rfl⟩ := List.mem_map.mp ho
        exact ⟨s, rfl, hw.folk.2.2 s hs⟩
    clear ho
    try simp only [bind_one, List.set_cons_succ, List.set_cons_zero, Wp_ok, Wp_bind, Wp_bindX, Wp_noexc, bind_ok, bindX_ok, ldV_zero, ldV_succ, pick, List.getElem?_cons_zero, List.getElem?_cons_succ, if_true, len_fix, range_len', add_ii, sub_ii, List.length_cons, List.length_nil, len_l, len_t, Wp_lift, lift, Option.map_some, src_l, src_t, tr_bl, sl_l, sl_t, List.append_nil, Nat.reduceAdd, Nat.reduceLeDiff, hline, tuple_l, list_t, List.cons_append, List.nil_append, Bool.not_true, Bool.not_false, Bool.false_eq_true, if_false, any_l, dfl]
    refine wp_of_l f11 f12 (dfl 11) dl7 hne (by omega) fun f h8 hf dl8 bt8 => ?_
    obtain ⟨f, rfl, hfk⟩ := (hpo _ hf).ok
    clear hf
    have ll : (w.folk.length ≤ line) = True := eq_true (Nat.le_trans hfl (by decide))
    simp only [b2, b19_13, evSs, evS, evT, evE, evEs, evIt, evOp, evIfs, bind_one, List.set_cons_succ, List.set_cons_zero, Wp_ok, Wp_bind, Wp_bindX, Wp_noexc, bind_ok, bindX_ok, ldV_zero, ldV_succ, pick, List.getElem?_cons_zero, List.getElem?_cons_succ, if_true, len_fix, range_len', add_ii, sub_ii, List.length_cons, List.length_nil, len_l, len_t, Wp_lift, lift, Option.map_some, src_l, src_t, tr_bl, sl_l, sl_t, List.append_nil, Nat.reduceAdd, Nat.reduceLeDiff, hline, tuple_l, list_t, List.cons_append, List.nil_append, Bool.not_true, Bool.not_false, Bool.false_eq_true, if_false, any_l, dfl, ix_ti, at30, at31, at32]
    rw [mapI_n (k := (w.folk.map D.str).length + 1) rfl, mapL_pure (k := fun x => match x with
      | .str s => .str (respel o f s)
      | x => x) (fun x hx => by
        obtain ⟨s, hs, rfl⟩ := List.mem_map.mp hx
        simp only [bind_ok, bind_one, List.set_cons_succ, List.set_cons_zero, Wp_ok, Wp_bind, Wp_bindX, Wp_noexc, bind_ok, bindX_ok, ldV_zero, ldV_succ, pick, List.getElem?_cons_zero, List.getElem?_cons_succ, if_true, len_fix, range_len', add_ii, sub_ii, List.length_cons, List.length_nil, len_l, len_t, Wp_lift, lift, Option.map_some, src_l, src_t, tr_bl, sl_l, sl_t, List.append_nil, Nat.reduceAdd, Nat.reduceLeDiff, hline, tuple_l, list_t, List.cons_append, List.nil_append, Bool.not_true, Bool.not_false, Bool.false_eq_true, if_false, any_l, eq_ss, respel]
        cases s == o <;> rfl)]
    have em : ((w.folk.map D.str).map fun x => match x with
      | .str s => .str (respel o f s)
      | x => x) = (w.folk.map (respel o f)).map D.str := by rw [List.map_map, List.map_map]; rfl
    simp only [em, bind_one, List.set_cons_succ, List.set_cons_zero, Wp_ok, Wp_bind, Wp_bindX, Wp_noexc, bind_ok, bindX_ok, ldV_zero, ldV_succ, pick, List.getElem?_cons_zero, List.getElem?_cons_succ, if_true, len_fix, range_len', add_ii, sub_ii, List.length_cons, List.length_nil, len_l, len_t, Wp_lift, lift, Option.map_some, src_l, src_t, tr_bl, sl_l, sl_t, List.append_nil, Nat.reduceAdd, Nat.reduceLeDiff, hline, tuple_l, list_t, List.cons_append, List.nil_append, Bool.not_true, Bool.not_false, Bool.false_eq_true, if_false, any_l, dfl, List.length_map, ll]
    have hy : isN' 0 9999 (.int y) = true := by
      show (decide ((0 : Int) ≤ y) && decide (y ≤ 9999)) = true
      rw [decide_eq_true y0, decide_eq_true y1]
      rfl
    have hs1 : okWs [s0] := ⟨Nat.le_refl 1, Nat.le_trans (Nat.le_refl 1) (by decide), fun s hs => by rw [List.mem_singleton.mp hs]; exact hs0⟩
    have hrs : okWs (w.folk.map (respel o f)) := hw.folk.map fun s hs => by
      unfold respel
      split
      · exact hfk
      · exact hs
    have t1 : ∀ h, (cN p.G 11).f true 6 [.tup [wordsD w.folk, .int w.year, wordsD w.title], .int y] h = .ok (.tup [wordsD w.folk, .int y, wordsD w.title]) h := fun h => da_ok hw rfl hy
    have t2 : ∀ h, (cN p.G 11).f true 7 [.tup [wordsD w.folk, .int w.year, wordsD w.title], .tup [.str s0]] h = .ok (.tup [wordsD w.folk, .int w.year, .tup [.str s0]]) h := fun h => re_ok hw hs1.isWs.2 hs1.isWs.1
    have t3 : ∀ h, (cN p.G 11).f true 9 [.tup [wordsD w.folk, .int w.year, wordsD w.title], .str o, .str f] h = .ok (.tup [wordsD (w.folk.map (respel o f)), .int w.year, wordsD w.title]) h := fun h => sp_ok hw hok hfk
    have l1' : ∀ k : Nat, k ≤ 10 → (k ≤ line) = True := fun k hk => eq_true (Nat.le_trans hk (by decide))
    have a0 : L2.atI (D.str s0 :: ms) 0 = some (.str s0) := atI_zero
    have ec : cut (D.str s0 :: ms) none (some 1) = [.str s0] := cut_take (a := 1) (by decide) (by rw [List.length_cons]; omega)
    have sI : ∀ i : Int, i.natAbs < 1000000000000 → Sm 37 (.int i) := fun i hi => Sm.int hi (by decide)
    have yI : ((w.year : Nat) : Int).natAbs < 1000000000000 := by have := hw.year; omega
    have s1 : ∀ h, (cN p.G 11).f true 13 [.lst [.tup [wordsD w.folk, .int y, wordsD w.title], .tup [wordsD w.folk, .int y, wordsD w.title], .tup [wordsD w.folk, .int w.year, .tup [.str s0]], .tup [wordsD (w.folk.map (respel o f)), .int w.year, wordsD w.title], .tup [wordsD (w.folk.map (respel o f)), .int w.year, wordsD w.title]],
        .lst [.tup [wordsD w.folk, .int y, wordsD w.title], .tup [wordsD w.folk, .int y, wordsD w.title], .tup [wordsD w.folk, .int w.year, .tup [.str s0]], .tup [wordsD (w.folk.map (respel o f)), .int w.year, wordsD w.title], .tup [wordsD (w.folk.map (respel o f)), .int w.year, wordsD w.title]]] h = .ok (.bl true) h := fun h => by
      refine same_sm f13 rfl (Sm.lst (k := 112) (fun x hx => ?_) (by simp)) ?_
      · simp only [List.mem_cons, List.not_mem_nil, or_false] at hx
        rcases hx with rfl | rfl | rfl | rfl | rfl <;> refine Sm.tup (k := 37) (fun x hx => ?_) (by simp) <;> simp only [List.mem_cons, List.not_mem_nil, or_false] at hx <;> rcases hx with rfl | rfl | rfl <;> first
          | exact hw.folk.sm
          | exact hw.title.sm
          | exact hrs.sm
          | exact hs1.sm
          | exact sI _ yI
          | exact sI _ (by omega)
      · have e1 : (D.tup [.str s0]) = wordsD [s0] := rfl
        simp only [dpt, dpts, dpts_str, Bool.and_self, Bool.and_true]
    simp only [b19_12, evSs, evS, evT, evE, evEs, evIt, evOp, evIfs, bind_one, List.set_cons_succ, List.set_cons_zero, Wp_ok, Wp_bind, Wp_bindX, Wp_noexc, bind_ok, bindX_ok, ldV_zero, ldV_succ, pick, List.getElem?_cons_zero, List.getElem?_cons_succ, if_true, len_fix, range_len', add_ii, sub_ii, List.length_cons, List.length_nil, len_l, len_t, Wp_lift, lift, Option.map_some, src_l, src_t, tr_bl, sl_l, sl_t, List.append_nil, Nat.reduceAdd, Nat.reduceLeDiff, hline, tuple_l, list_t, List.cons_append, List.nil_append, Bool.not_true, Bool.not_false, Bool.false_eq_true, if_false, any_l, dfl, t1, t2, t3, evDs, a0, ix_ti, at30, at31, at32, l1', and_self, List.take, List.drop]
    simp only [b19_11, evSs, evS, evT, evE, evEs, evIt, evOp, evIfs, bind_one, List.set_cons_succ, List.set_cons_zero, Wp_ok, Wp_bind, Wp_bindX, Wp_noexc, bind_ok, bindX_ok, ldV_zero, ldV_succ, pick, List.getElem?_cons_zero, List.getElem?_cons_succ, if_true, len_fix, range_len', add_ii, sub_ii, List.length_cons, List.length_nil, len_l, len_t, Wp_lift, lift, Option.map_some, src_l, src_t, tr_bl, sl_l, sl_t, List.append_nil, Nat.reduceAdd, Nat.reduceLeDiff, hline, tuple_l, list_t, List.cons_append, List.nil_append, Bool.not_true, Bool.not_false, Bool.false_eq_true, if_false, any_l, dfl, ix_ti, at30, at31, at32, mul_l2, add_ll, ec, l1', s1]
    have c2 : cut [wordsD w.folk, D.int w.year, wordsD w.title] none (some 2) = [wordsD w.folk, .int w.year] := rfl
    simp only [b19_10, evSs, evS, evT, evE, evEs, evIt, evOp, evIfs, bind_one, List.set_cons_succ, List.set_cons_zero, Wp_ok, Wp_bind, Wp_bindX, Wp_noexc, bind_ok, bindX_ok, ldV_zero, ldV_succ, pick, List.getElem?_cons_zero, List.getElem?_cons_succ, if_true, len_fix, range_len', add_ii, sub_ii, List.length_cons, List.length_nil, len_l, len_t, Wp_lift, lift, Option.map_some, src_l, src_t, tr_bl, sl_l, sl_t, List.append_nil, Nat.reduceAdd, Nat.reduceLeDiff, hline, tuple_l, list_t, List.cons_append, List.nil_append, Bool.not_true, Bool.not_false, Bool.false_eq_true, if_false, any_l, dfl]
    refine wp_of_l f11 f12 (dfl 11) dl8 (by simp) (by simp) fun bad h9 hbad dl9 bt9 => ?_
    obtain ⟨pb, nb, sb, db⟩ := bad_ok hw hbad
    clear hbad
    try simp only [bind_one, List.set_cons_succ, List.set_cons_zero, Wp_ok, Wp_bind, Wp_bindX, Wp_noexc, bind_ok, bindX_ok, ldV_zero, ldV_succ, pick, List.getElem?_cons_zero, List.getElem?_cons_succ, if_true, len_fix, range_len', add_ii, sub_ii, List.length_cons, List.length_nil, len_l, len_t, Wp_lift, lift, Option.map_some, src_l, src_t, tr_bl, sl_l, sl_t, List.append_nil, Nat.reduceAdd, Nat.reduceLeDiff, hline, tuple_l, list_t, List.cons_append, List.nil_append, Bool.not_true, Bool.not_false, Bool.false_eq_true, if_false, any_l, dfl]
    refine wp_of_l f11 f12 (dfl 11) dl9 (by simp) (by simp) fun late h10 hlate dl10 bt10 => ?_
    obtain ⟨ql, nl, sl, dl⟩ : plain late = true ∧ isN' 0 9999 late = false ∧ Sm 112 late ∧ dpt 5 late = true := by
      simp only [List.mem_cons, List.not_mem_nil, or_false] at hlate
      rcases hlate with rfl | rfl | rfl | rfl | rfl <;> exact ⟨by decide, by decide, Sm.of (by decide), by decide⟩
    clear hlate
    simp only [b1, b19_9, evSs, evS, evT, evE, evEs, evIt, evOp, evIfs, bind_one, List.set_cons_succ, List.set_cons_zero, Wp_ok, Wp_bind, Wp_bindX, Wp_noexc, bind_ok, bindX_ok, ldV_zero, ldV_succ, pick, List.getElem?_cons_zero, List.getElem?_cons_succ, if_true, len_fix, range_len', add_ii, sub_ii, List.length_cons, List.length_nil, len_l, len_t, Wp_lift, lift, Option.map_some, src_l, src_t, tr_bl, sl_l, sl_t, List.append_nil, Nat.reduceAdd, Nat.reduceLeDiff, hline, tuple_l, list_t, List.cons_append, List.nil_append, Bool.not_true, Bool.not_false, Bool.false_eq_true, if_false, any_l, dfl]
    refine wp_of_l f11 f12 (dfl 11) dl10 (by simp) (by simp) fun odd h11 hodd dl11 bt11 => ?_
    obtain ⟨qo, no, so, od⟩ : plain odd = true ∧ isW odd = false ∧ Sm 112 odd ∧ dpt 5 odd = true := by
      simp only [List.mem_cons, List.not_mem_nil, or_false] at hodd
      rcases hodd with rfl | rfl | rfl | rfl | rfl | rfl <;> exact ⟨by decide, by decide, Sm.of (by decide), by decide⟩
    clear hodd
    have up : ∀ {d : D}, dpt 5 d = true → ∀ k, 5 ≤ k → dpt k d = true := fun {d} hd k hk => dpt_up hd hk
    have db1 := up db 57 (by decide)
    have dl1' := up dl 57 (by decide)
    have do1 := up od 57 (by decide)
    have do2 := up od 56 (by decide)
    have stup : ∀ {k : Nat} {x : D}, Sm k x → Sm (k + 1) (.tup [x]) := fun {k x} hx => Sm.tup (k := k) (fun y hy => by rw [List.mem_singleton.mp hy]; exact hx) (by simp)
    have cds : ∀ cd ∈ [cdWork, cdYear, cdWord, cdWords, told], Sm 500 (.str cd) := fun cd hc => by
      simp only [List.mem_cons, List.not_mem_nil, or_false] at hc
      rcases hc with rfl | rfl | rfl | rfl | rfl <;> exact Sm.of (by decide)
    have s2p : ∀ {cd : List Nat} {x : D}, cd ∈ [cdWork, cdYear, cdWord, cdWords, told] → Sm 500 x → Sm 1001 (.tup [.str cd, x]) := fun {cd x} hc hx => Sm.tup (k := 500) (fun y hy => by
      simp only [List.mem_cons, List.not_mem_nil, or_false] at hy
      rcases hy with rfl | rfl
      · exact cds _ hc
      · exact hx) (by simp)
    have sa : Sm 400 (.tup [.str [97], odd]) := Sm.tup (k := 112) (fun y hy => by
      simp only [List.mem_cons, List.not_mem_nil, or_false] at hy
      rcases hy with rfl | rfl
      · exact Sm.of (by decide)
      · exact so) (by simp)
    have sw : Sm 400 (.tup [wordsD w.folk, .int w.year, .tup [.str [97], .str [98], .str [99], .str [100]]]) := Sm.tup (k := 37) (fun y hy => by
      simp only [List.mem_cons, List.not_mem_nil, or_false] at hy
      rcases hy with rfl | rfl | rfl
      · exact hw.folk.sm
      · exact sI _ yI
      · exact Sm.of (by decide)) (by simp)
    have s2 : ∀ h, (cN p.G 11).f true 13 [.lst [.tup [.str cdWork, .tup [bad]], .tup [.str cdYear, .tup [late]], .tup [.str cdWork, .tup [bad]],
        .tup [.str cdWords, .tup [.tup [.str [97], odd]]], .tup [.str cdWords, .tup [.tup []]], .tup [.str cdWork, .tup [bad]], .tup [.str cdWord, .tup [odd]], .tup [.str cdWord, .tup [odd]],
        .tup [.str told, .tup [wordsD w.folk, .int w.year, .tup [.str [97], .str [98], .str [99], .str [100]]]], .tup [.str cdWords, .tup [.tup [.str [97], .str [98], .str [99], .str [100], .str [101]]]]],
        .lst [.tup [.str cdWork, .tup [bad]], .tup [.str cdYear, .tup [late]], .tup [.str cdWork, .tup [bad]],
        .tup [.str cdWords, .tup [.tup [.str [97], odd]]], .tup [.str cdWords, .tup [.tup []]], .tup [.str cdWork, .tup [bad]], .tup [.str cdWord, .tup [odd]], .tup [.str cdWord, .tup [odd]],
        .tup [.str told, .tup [wordsD w.folk, .int w.year, .tup [.str [97], .str [98], .str [99], .str [100]]]], .tup [.str cdWords, .tup [.tup [.str [97], .str [98], .str [99], .str [100], .str [101]]]]]] h = .ok (.bl true) h := fun h => by
      refine same_sm f13 rfl (Sm.lst (k := 1001) (fun x hx => ?_) (by simp)) ?_
      · simp only [List.mem_cons, List.not_mem_nil, or_false] at hx
        rcases hx with rfl | rfl | rfl | rfl | rfl | rfl | rfl | rfl | rfl | rfl
        · exact s2p (by simp) ((stup sb).up (by decide))
        · exact s2p (by simp) ((stup sl).up (by decide))
        · exact s2p (by simp) ((stup sb).up (by decide))
        · exact s2p (by simp) ((stup sa).up (by decide))
        · exact s2p (by simp) (Sm.of (by decide))
        · exact s2p (by simp) ((stup sb).up (by decide))
        · exact s2p (by simp) ((stup so).up (by decide))
        · exact s2p (by simp) ((stup so).up (by decide))
        · exact s2p (by simp) (sw.up (by decide))
        · exact s2p (by simp) (Sm.of (by decide))
      · simp only [dpt, dpts, dpts_str, db1, dl1', do1, do2, Bool.and_self, Bool.and_true]
    have ak := fun a4 a5 a7 a8 h => ask (h := h) (a0 := .v (.scr l)) (a1 := .v (.ref r)) (a2 := .v (.lst pool)) (a3 := .v x) (a4 := a4) (a5 := a5) (a7 := a7) (a8 := a8) (a10 := .v (.int y)) (a11 := .v (.tup (.str s0 :: ms))) (a12 := .v (.str o)) (a13 := .v (.str f)) (a16 := v16) hw pb nb ql nl qo no
    rw [eW] at ak
    simp only [b19_8, b19_7, b19_6, b19_5, b19_4, evSs, evS, evT, evE, evEs, evIt, evOp, evIfs, bind_one, List.set_cons_succ, List.set_cons_zero, Wp_ok, Wp_bind, Wp_bindX, Wp_noexc, bind_ok, bindX_ok, ldV_zero, ldV_succ, pick, List.getElem?_cons_zero, List.getElem?_cons_succ, if_true, len_fix, range_len', add_ii, sub_ii, List.length_cons, List.length_nil, len_l, len_t, Wp_lift, lift, Option.map_some, src_l, src_t, tr_bl, sl_l, sl_t, List.append_nil, Nat.reduceAdd, Nat.reduceLeDiff, hline, tuple_l, list_t, List.cons_append, List.nil_append, Bool.not_true, Bool.not_false, Bool.false_eq_true, if_false, any_l, dfl, lams_at]
    simp only [b19_3, evSs, evS, evT, evE, evEs, evIt, evOp, evIfs, bind_one, List.set_cons_succ, List.set_cons_zero, Wp_ok, Wp_bind, Wp_bindX, Wp_noexc, bind_ok, bindX_ok, ldV_zero, ldV_succ, pick, List.getElem?_cons_zero, List.getElem?_cons_succ, if_true, len_fix, range_len', add_ii, sub_ii, List.length_cons, List.length_nil, len_l, len_t, Wp_lift, lift, Option.map_some, src_l, src_t, tr_bl, sl_l, sl_t, List.append_nil, Nat.reduceAdd, Nat.reduceLeDiff, hline, tuple_l, list_t, List.cons_append, List.nil_append, Bool.not_true, Bool.not_false, Bool.false_eq_true, if_false, any_l, dfl, c2, add_ll, add_tt, l1', ]
    simp only [b19_2, evSs, evS, evT, evE, evEs, evIt, evOp, evIfs, bind_one, List.set_cons_succ, List.set_cons_zero, Wp_ok, Wp_bind, Wp_bindX, Wp_noexc, bind_ok, bindX_ok, ldV_zero, ldV_succ, pick, List.getElem?_cons_zero, List.getElem?_cons_succ, if_true, len_fix, range_len', add_ii, sub_ii, List.length_cons, List.length_nil, len_l, len_t, Wp_lift, lift, Option.map_some, src_l, src_t, tr_bl, sl_l, sl_t, List.append_nil, Nat.reduceAdd, Nat.reduceLeDiff, hline, tuple_l, list_t, List.cons_append, List.nil_append, Bool.not_true, Bool.not_false, Bool.false_eq_true, if_false, any_l, dfl, lams_at, ak]
    simp only [cdWork, cdYear, cdWord, cdWords, told] at s2 ⊢
    simp only [s2, bind_one, List.set_cons_succ, List.set_cons_zero, Wp_ok, Wp_bind, Wp_bindX, Wp_noexc, bind_ok, bindX_ok, ldV_zero, ldV_succ, pick, List.getElem?_cons_zero, List.getElem?_cons_succ, if_true, len_fix, range_len', add_ii, sub_ii, List.length_cons, List.length_nil, len_l, len_t, Wp_lift, lift, Option.map_some, src_l, src_t, tr_bl, sl_l, sl_t, List.append_nil, Nat.reduceAdd, Nat.reduceLeDiff, hline, tuple_l, list_t, List.cons_append, List.nil_append, Bool.not_true, Bool.not_false, Bool.false_eq_true, if_false, any_l, dfl]
    exact ⟨dl11, _, _, _, _, _, _, _, _, _, _, _, _, _, _, rfl⟩
  · rintro env h3 ⟨dl3, v3, v4, v5, v6, v7, v8, v9, v10, v11, v12, v13, v14, v15, v16, rfl⟩
    simp only [b19_1, evSs, evS, evT, evE, evEs, evIt, evOp, evIfs, bind_one, List.set_cons_succ, List.set_cons_zero, Wp_ok, Wp_bind, Wp_bindX, Wp_noexc, bind_ok, bindX_ok, ldV_zero, ldV_succ, pick, List.getElem?_cons_zero, List.getElem?_cons_succ, if_true, len_fix, range_len', add_ii, sub_ii, List.length_cons, List.length_nil, len_l, len_t, Wp_lift, lift, Option.map_some, src_l, src_t, tr_bl, sl_l, sl_t, List.append_nil, Nat.reduceAdd, Nat.reduceLeDiff, hline, tuple_l, list_t, List.cons_append, List.nil_append, Bool.not_true, Bool.not_false, Bool.false_eq_true, if_false, any_l, dfl]
theorem hv : ∀ l : List Int, l.length ≤ 63 → ∃ h, callN p.G 12 true 19 [.scr l] ⟨0, fun _ => .no⟩ = .ok (.bl true) h := by
  intro l hl
  obtain ⟨a, h, e, rfl⟩ := (hv' l hl ⟨0, fun _ => .no⟩).ok
  exact ⟨h, e⟩
end K05

/-! the law's end, printed by endp.py -/
open PySem PySem.W PySem.Calls PyProof.Rows in
theorem PySem.Challenge.cw_rivalkeys_k05_works_changed_holds : PySem.Challenge.rw_rivalkeys_k05_works_changed.Holds := by
  w_on; o_law
  refine HandSHeadRun.head_any (r := OpenLaw.row PySem.Challenge.rw_rivalkeys_k05_works_changed) (q := view (OpenLaw.row PySem.Challenge.rw_rivalkeys_k05_works_changed).prog [32]) (H := K05.hk) (ob := K05.ob) (M := 3000) (loose := ["RivalError", "Missing", "InvalidWord", "InvalidWords", "InvalidYear", "InvalidWork", "NothingLeft", "LETTERS", "is_number", "is_word", "is_words", "is_year", "is_work", "need_work", "dated", "retitled", "need_word", "spelled", "_law_deal", "_law_pick", "_law_of", "_law_same", "_law_field", "_law_why", "_law_whys", "_law_pool", "_law_some_words", "_law_year", "_law_work"]) (d := HandSHeadRun.topDef (OpenLaw.row PySem.Challenge.rw_rivalkeys_k05_works_changed).prog 32) (kwd := []) K05.ob_eq
    (by kernel_rfl) (fun s => by kernel_rfl) K05.run (by kernel_rfl) (by kernel_rfl) (by kernel_rfl) (by rfl) (by first | assumption | decide +kernel) (by decide +kernel) ⟨rfl, rfl, rfl, rfl, rfl, by decide +kernel⟩ ?hw ?hc
  case hw => w_witness2
  case hc =>
    refine Rk.walkG (l := PySem.Challenge.rw_rivalkeys_k05_works_changed) (n := 63) (k := 12) (x := "_law_script") rfl (by decide) (by kernel_rfl) ⟨by decide, by decide, rfl⟩ ?F
    intro w mg fa h Y G hmg0
    obtain ⟨Kf, KX, c⟩ := Y
    have S := Rk.says_of KX c
    have hmg : mg ("law" : PySem.Str) = some (.ref fa) := by
      have e : (HandSHeadRun.topDef (OpenLaw.row PySem.Challenge.rw_rivalkeys_k05_works_changed).prog 32).name = ("law" : PySem.Str) := by kernel_rfl
      rw [← e]
      exact hmg0
    have efa : fa = Rk.DE.ad (K05.p.K Kf) K05.d19 := by
      have z := hmg.symm.trans (He.glo_ok S.inK G (Rk.faOk S (Rk.glo_fa (show K05.p.ds[19]? = some K05.d19 from rfl) rfl)))
      rw [Rk.ad_glo (d := K05.d19) rfl]
      cases z
      rfl
    subst efa
    have F := Rk.fdOf_ok S K05.pok (show K05.p.ds[19]? = some K05.d19 from rfl)
    refine ⟨K05.p.K Kf, K05.p.cs (K05.p.K Kf), Rk.fdOf K05.p (K05.p.K Kf) 19, Rk.spF (Rk.giOf K05.p (K05.p.K Kf)) (Rk.cN K05.p.G 12) true 19, S.inK, S.tab, fun s u => ?_, fun H a l hl hT hS => Rk.law_sp K05.hv S H a l hl hT hS, fun base _ _ tb => Rk.prog_fn S G K05.pok K05.pbd tb 12 12 (Nat.le_refl 12) 19 K05.d19 rfl⟩
    exact L2.FunD.bindsA (ps := ["_law_script"]) F (fun _ _ _ _ _ _ us hl => match us, hl with | [_], _ => rfl) s [u] rfl

