import PyProof.Rows.All
import HandS.ForMost
import HandS.ForExc
import HandS.Codes
import HandS.TupAny
import HandS.TupMul
import HandS.Deep
import HandS.IsInst
import HandS.RaiseMore
import HandS.Flow
import HandS.Exc
import HandS.Defaults
import HandS.Iter
import HandS.Comp
import HandS.Style
import HandS.Lambda
import HandS.Ends
import HandS.HeadHook1
import HandS.HeadHook2
import HandS.Head0
import HandS.Head1
import HandS.Head2
import Open.Row
import PySem.Challenge.RW_rivalkeys_k03_works_told_from_other_valu
set_option Elab.async false
set_option linter.all false
set_option maxRecDepth 100000
/-! Rk.A: plain data, a small language, its evaluator. -/
namespace Rk
open PySem
/-- plain data -/
inductive D where
  | non | bl (b : Bool) | int (i : Int) | str (s : List Nat)
  | tup (l : List D) | lst (l : List D) | dct (l : List (D × D)) | set (l : List D)
  | ref (n : Nat) | ins (c : Nat) (fs : List (Nat × D)) | exc (c : Nat) (fs : List (Nat × D)) | lam (k : Nat) | scr (l : List Int)
  deriving Inhabited
inductive Cell where
  | no | lst (l : List D) | dct (l : List (D × D)) | ins (c : Nat) (fs : List (Nat × D))
  deriving Inhabited
structure AH where
  nx : Nat
  cell : Nat → Cell
def AH.put (h : AH) (n : Nat) (c : Cell) : AH := ⟨h.nx, fun k => if k = n then c else h.cell k⟩
def AH.new (h : AH) (c : Cell) : AH := ⟨h.nx + 1, fun k => if k = h.nx then c else h.cell k⟩
abbrev Env := List (Option D)
inductive Res (α : Type) where
  | ok (a : α) (h : AH) | exc (x : D) (h : AH) | stuck
def Res.bind {α β : Type} (r : Res α) (f : α → AH → Res β) : Res β := match r with
  | .ok a h => f a h
  | .exc x h => .exc x h
  | .stuck => .stuck
@[simp] theorem bind_ok {α β : Type} (a : α) (h : AH) (f : α → AH → Res β) : (Res.ok a h).bind f = f a h := rfl
@[simp] theorem bind_exc {α β : Type} (x : D) (h : AH) (f : α → AH → Res β) : (Res.exc x h : Res α).bind f = .exc x h := rfl
@[simp] theorem bind_stuck {α β : Type} (f : α → AH → Res β) : (Res.stuck : Res α).bind f = .stuck := rfl

inductive Bi where
  | len | all | any | tuple | list | int | str | abs
  deriving DecidableEq
inductive Mt where
  | join | upper
  deriving DecidableEq
/-- kinds asked by isinstance -/
inductive IK where
  | int | str | bool | tuple | list | seq | cls (c : Nat)
  deriving DecidableEq
mutual
inductive E where
  | var (i : Nat) | cst (d : D) | glb (g : Nat)
  | bin (o : Operator) (a b : E) | neg (a : E) | not (a : E) | and (es : Es) | or (es : Es) | ife (c a b : E)
  | cmp (o : CmpOp) (a b : E) | cmp2 (o1 o2 : CmpOp) (a b c : E) | isn (a : E) | isnn (a : E)
  | tup (es : Es) | lst (es : Es) | hls (es : Es)
  | idx (a i : E) | slc (a : E) (lo hi : Op)
  | cal (f : Nat) (args kws : Es) (sel : List Nat)
  | bi (b : Bi) (a : E) | isi (a : E) (k : IK) | mt (m : Mt) (o a : E) | same (i j : Nat)
  | cmpr (elt : E) (tg : List Nat) (it : It) (ifs : Es)
inductive Es where
  | nil | cons (e : E) (r : Es)
inductive Op where
  | no | so (e : E)
inductive It where
  | seq (e : E) | rng (a : E) | rng2 (a b : E) | enum (e : E) | zip (a b : E)
end
mutual
inductive S where
  | expr (e : E) | asg (i : Nat) (e : E) | asgt (is : List Nat) (e : E) | aug (i : Nat) (o : Operator) (e : E)
  | ret (e : E) | retn | ifs (c : E) (a b : Ss) | for (tg : List Nat) (it : It) (b : Ss) | whl (c : E) (b : Ss)
  | brk | cnt | pass | seti (o i e : E)
inductive Ss where
  | nil | cons (s : S) (r : Ss)
end
structure FnD where
  np : Nat
  nb : Nat
  body : Ss
structure G where
  fn : Nat → Option FnD
  glb : Nat → D
  dfl : Nat → List D

/-! ### operations -/
mutual
def deq : D → D → Bool
  | .non, .non => true
  | .bl a, .bl b => a == b
  | .bl a, .int j => (if a then 1 else 0) == j
  | .int i, .bl b => i == (if b then 1 else 0)
  | .int i, .int j => i == j
  | .str x, .str y => x == y
  | .tup l, .tup m => deqs l m
  | .lst l, .lst m => deqs l m
  | _, _ => false
def deqs : List D → List D → Bool
  | [], [] => true
  | x :: l, y :: m => deq x y && deqs l m
  | _, _ => false
end
mutual
/-- the very same data -/
def dsame : D → D → Bool
  | .non, .non => true
  | .bl a, .bl b => a == b
  | .int i, .int j => i == j
  | .str x, .str y => x == y
  | .tup l, .tup m => dsames l m
  | .lst l, .lst m => dsames l m
  | _, _ => false
def dsames : List D → List D → Bool
  | [], [] => true
  | x :: l, y :: m => dsame x y && dsames l m
  | _, _ => false
end
mutual
/-- the weight of data: none where it is no plain data -/
def wt : D → Option Nat
  | .non => some 1
  | .bl _ => some 1
  | .int i => if i.natAbs < 1000000000000 then some 1 else none
  | .str s => some (s.length + 1)
  | .tup l => (wts l).map (· + 1)
  | .lst l => (wts l).map (· + 1)
  | _ => none
def wts : List D → Option Nat
  | [] => some 0
  | x :: l => match wt x, wts l with
    | some a, some b => some (a + b)
    | _, _ => none
end
mutual
/-- plain data of a depth of at most so many; ints of any size -/
def dpt : Nat → D → Bool
  | _, .non => true
  | _, .bl _ => true
  | _, .int _ => true
  | _, .str _ => true
  | 0, .tup _ => false
  | 0, .lst _ => false
  | n + 1, .tup l => dpts n l
  | n + 1, .lst l => dpts n l
  | _, _ => false
def dpts : Nat → List D → Bool
  | _, [] => true
  | n, x :: l => dpt n x && dpts n l
end
def line : Nat := 16777216
def binop (o : Operator) (x y : D) (h : AH) : Res D := match o, x, y with
  | .Add, .int i, .int j => .ok (.int (i + j)) h
  | .Add, .str a, .str b => if a.length + b.length ≤ line then .ok (.str (a ++ b)) h else .stuck
  | .Add, .lst a, .lst b => if a.length + b.length ≤ line then .ok (.lst (a ++ b)) h else .stuck
  | .Add, .tup a, .tup b => if a.length + b.length ≤ line then .ok (.tup (a ++ b)) h else .stuck
  | .Sub, .int i, .int j => .ok (.int (i - j)) h
  | .Mult, .int i, .int j => if (-(2 ^ 64) < i ∧ i < 2 ^ 64) ∨ (-(2 ^ 64) < j ∧ j < 2 ^ 64) then .ok (.int (i * j)) h else .stuck
  | .Mult, .tup l, .int k => if l.isEmpty = false ∧ 2 ≤ k ∧ k ≤ 1000 ∧ l.length ≤ 1000 then .ok (.tup (List.replicate k.toNat l).flatten) h else .stuck
  | .Mod, .int i, .int j => if 0 < j then .ok (.int (i % j)) h else .stuck
  | .FloorDiv, .int i, .int j => if 0 < j ∧ j < 1073741824 then .ok (.int (i / j)) h else .stuck
  | .Pow, .int i, .int j => if 0 ≤ j ∧ j ≤ 1000000 ∧ i.natAbs < 2 ^ 64 then .ok (.int (i ^ j.toNat)) h else .stuck
  | _, _, _ => .stuck
def leL : List Nat → List Nat → Bool
  | [], _ => true
  | _ :: _, [] => false
  | a :: l, b :: m => if a < b then true else if b < a then false else leL l m
def ltL (a b : List Nat) : Bool := !leL b a
def hasSub (s : List Nat) : List Nat → Bool
  | [] => s.isEmpty
  | c :: r => s.isPrefixOf (c :: r) || hasSub s r
def cmpop (o : CmpOp) (x y : D) : Option Bool := match o with
  | .Eq => if dpt 60 x && dpt 60 y then some (deq x y) else none
  | .NotEq => if dpt 60 x && dpt 60 y then some (!deq x y) else none
  | .Lt => match x, y with
    | .int i, .int j => some (decide (i < j))
    | _, _ => none
  | .LtE => match x, y with
    | .int i, .int j => some (decide (i ≤ j))
    | _, _ => none
  | .Gt => match x, y with
    | .int i, .int j => some (decide (j < i))
    | _, _ => none
  | .GtE => match x, y with
    | .int i, .int j => some (decide (j ≤ i))
    | _, _ => none
  | .In => match x, y with
    | .str [c], .str s => some (decide (c ∈ s))
    | x, .tup l => if dpt 60 x && dpts 60 l then some (l.any fun z => deq z x) else none
    | x, .lst l => if dpt 60 x && dpts 60 l then some (l.any fun z => deq z x) else none
    | _, _ => none
  | .NotIn => match x, y with
    | .str [c], .str s => some (!decide (c ∈ s))
    | x, .tup l => if dpt 60 x && dpts 60 l then some (!l.any fun z => deq z x) else none
    | x, .lst l => if dpt 60 x && dpts 60 l then some (!l.any fun z => deq z x) else none
    | _, _ => none
  | _ => none
def truth : D → Option Bool
  | .non => some false
  | .bl b => some b
  | .int i => some (i != 0)
  | .str s => if s.length ≤ line then some (!s.isEmpty) else none
  | .tup l => some (!l.isEmpty)
  | .lst l => some (!l.isEmpty)
  | _ => none
def isN : D → Bool
  | .non => true
  | _ => false
def lift {α : Type} (o : Option α) (h : AH) : Res α := match o with
  | some a => .ok a h
  | none => .stuck
def idxop (x i : D) (h : AH) : Res D := match x, i with
  | .lst l, .int i => lift (L2.atI l i) h
  | .tup l, .int i => lift (L2.atI l i) h
  | .str s, .int i => if s.length ≤ line then lift ((L2.atI s i).map fun c => .str [c]) h else .stuck
  | .ref n, .int i => match h.cell n with
    | .lst l => lift (L2.atI l i) h
    | _ => .stuck
  | _, _ => .stuck
def cut {α : Type} (l : List α) (lo hi : Option Int) : List α := (l.drop (HT.sIx l.length 0 lo)).take (HT.sIx l.length l.length hi - HT.sIx l.length 0 lo)
def slcop (x : D) (a b : Option Int) (h : AH) : Res D := match x with
  | .str s => if s.length ≤ line then .ok (.str (cut s a b)) h else .stuck
  | .lst l => .ok (.lst (cut l a b)) h
  | .tup l => .ok (.tup (cut l a b)) h
  | .scr l => .ok (.lst ((cut l a b).map .int)) h
  | .ref n => match h.cell n with
    | .lst l => .ok (.lst (cut l a b)) h
    | _ => .stuck
  | _ => .stuck
def isk : D → IK → Option Bool
  | .ref _, _ => none
  | .ins _ _, _ => none
  | .exc _ _, _ => none
  | .lam _, _ => none
  | .scr _, _ => none
  | .dct _, _ => none
  | .set _, _ => none
  | _, .cls _ => none
  | .bl _, .int => some true
  | .bl _, .bool => some true
  | .int _, .int => some true
  | .str _, .str => some true
  | .tup _, .tuple => some true
  | .tup _, .seq => some true
  | .lst _, .list => some true
  | .lst _, .seq => some true
  | _, _ => some false
def bls : List D → Option (List Bool)
  | [] => some []
  | .bl b :: r => (bls r).map (b :: ·)
  | _ => none
def strL : List D → Option (List (List Nat))
  | [] => some []
  | .str s :: r => (strL r).map (s :: ·)
  | _ => none
/-- what a loop walks: values that stay, a list in the heap as it stands at each turn, that with its places -/
inductive Src where
  | fix (l : List D) | cell (n : Nat) | ecell (n : Nat)
def Src.get (s : Src) (i : Nat) (h : AH) : Option (Option D) := match s with
  | .fix l => some l[i]?
  | .cell n => match h.cell n with
    | .lst l => some l[i]?
    | _ => none
  | .ecell n => match h.cell n with
    | .lst l => some (l[i]?.map fun d => .tup [.int i, d])
    | _ => none
def Src.len (s : Src) (h : AH) : Nat := match s with
  | .fix l => l.length
  | .cell n => match h.cell n with
    | .lst l => l.length
    | _ => 0
  | .ecell n => match h.cell n with
    | .lst l => l.length
    | _ => 0
def srcOf (x : D) (h : AH) : Option Src := match x with
  | .lst l => some (.fix l)
  | .tup l => some (.fix l)
  | .str s => some (.fix (s.map fun c => .str [c]))
  | .ref n => match h.cell n with
    | .lst _ => some (.cell n)
    | _ => none
  | _ => none
def pairs : Nat → List D → List D
  | _, [] => []
  | i, x :: l => .tup [.int i, x] :: pairs (i + 1) l
def zips : List D → List D → List D
  | x :: l, y :: m => .tup [x, y] :: zips l m
  | _, _ => []
def enumOf (x : D) (h : AH) : Option Src := match x with
  | .lst l => some (.fix (pairs 0 l))
  | .ref n => match h.cell n with
    | .lst _ => some (.ecell n)
    | _ => none
  | _ => none
def zipOf (x y : D) : Option Src := match x, y with
  | .lst l, .lst m => some (.fix (zips l m))
  | _, _ => none
def sumN : List (List Nat) → Nat
  | [] => 0
  | x :: r => x.length + sumN r
def biop (b : Bi) (x : D) (h : AH) : Res D := match b with
  | .len => match x with
    | .str s => if s.length ≤ line then .ok (.int s.length) h else .stuck
    | .lst l => .ok (.int l.length) h
    | .tup l => .ok (.int l.length) h
    | .ref n => match h.cell n with
      | .lst l => .ok (.int l.length) h
      | _ => .stuck
    | _ => .stuck
  | .all => match x with
    | .lst l => lift ((bls l).map fun b => .bl (b.all id)) h
    | _ => .stuck
  | .any => match x with
    | .lst l => lift ((bls l).map fun b => .bl (b.any id)) h
    | _ => .stuck
  | .tuple => match x with
    | .lst l => .ok (.tup l) h
    | .tup l => .ok (.tup l) h
    | _ => .stuck
  | .list => match x with
    | .lst l => .ok (.lst l) h
    | .tup l => .ok (.lst l) h
    | .ref n => match h.cell n with
      | .lst l => .ok (.lst l) h
      | _ => .stuck
    | _ => .stuck
  | .int => match x with
    | .int i => .ok (.int i) h
    | _ => .stuck
  | .str => .stuck
  | .abs => .stuck
def mtop (m : Mt) (o a : D) (h : AH) : Res D := match m with
  | .join => match o, a with
    | .str s, .lst l => match strL l with
      | some ys => if sumN ys + ys.length * s.length ≤ line then .ok (.str (TL.joinL s ys)) h else .stuck
      | none => .stuck
    | .str s, .tup l => match strL l with
      | some ys => if sumN ys + ys.length * s.length ≤ line then .ok (.str (TL.joinL s ys)) h else .stuck
      | none => .stuck
    | _, _ => .stuck
  | _ => .stuck
def sameop (x y : D) (h : AH) : Res D :=
  if dsame x y then match wt x with
    | some w => if w ≤ 60000 ∧ dpt 60 x then .ok (.bl true) h else .stuck
    | none => .stuck
  else .stuck
/-- what is stored at names: one name, or a tuple's items -/
def bindT (tg : List Nat) (v : D) (env : Env) : Option Env := match tg with
  | [i] => some (env.set i (some v))
  | _ => match v with
    | .tup l => if l.length = tg.length then some ((tg.zip l).foldl (fun e p => e.set p.1 (some p.2)) env) else none
    | _ => none
def range (a b : Int) : List D := (List.range (b - a).toNat).map fun k => .int (a + (k : Nat))
inductive Fl where
  | nx (e : Env) | rt (d : D) | bk (e : Env) | ct (e : Env) | xc (x : D) (e : Env)
def Res.bindX {α : Type} (r : Res α) (env : Env) (f : α → AH → Res Fl) : Res Fl := match r with
  | .ok a h => f a h
  | .exc x h => .ok (.xc x env) h
  | .stuck => .stuck
@[simp] theorem bindX_ok {α : Type} (a : α) (h : AH) (env : Env) (f : α → AH → Res Fl) : (Res.ok a h).bindX env f = f a h := rfl
@[simp] theorem bindX_exc {α : Type} (x : D) (h : AH) (env : Env) (f : α → AH → Res Fl) : (Res.exc x h : Res α).bindX env f = .ok (.xc x env) h := rfl
@[simp] theorem bindX_stuck {α : Type} (env : Env) (f : α → AH → Res Fl) : (Res.stuck : Res α).bindX env f = .stuck := rfl
/-- a loop's turns -/
def forI (s : Src) (f : D → Env → AH → Res Fl) : Nat → Nat → Env → AH → Res Fl
  | 0, _, _, _ => .stuck
  | k + 1, i, env, h => match s.get i h with
    | none => .stuck
    | some none => .ok (.nx env) h
    | some (some x) => (f x env h).bind fun r h' => match r with
      | .nx e => forI s f k (i + 1) e h'
      | .ct e => forI s f k (i + 1) e h'
      | .bk e => .ok (.nx e) h'
      | r => .ok r h'
/-- .. over values that stay -/
def forL (f : D → Env → AH → Res Fl) : List D → Env → AH → Res Fl
  | [], env, h => .ok (.nx env) h
  | x :: l, env, h => (f x env h).bind fun r h' => match r with
    | .nx e => forL f l e h'
    | .ct e => forL f l e h'
    | .bk e => .ok (.nx e) h'
    | r => .ok r h'
theorem forI_fix (l : List D) (f : D → Env → AH → Res Fl) : ∀ (k i : Nat) (env : Env) (h : AH), k + i = l.length → forI (.fix l) f (k + 1) i env h = forL f (l.drop i) env h
  | k, i, env, h, e => by
    by_cases hi : i < l.length
    · obtain ⟨j, rfl⟩ : ∃ j, k = j + 1 := ⟨k - 1, by omega⟩
      rw [List.drop_eq_getElem_cons hi]
      unfold forI forL
      simp only [Src.get, List.getElem?_eq_getElem hi]
      congr 1
      funext r h'
      cases r <;> first
        | rfl
        | exact forI_fix l f j (i + 1) _ h' (by omega)
    · have : l.length ≤ i := by omega
      rw [List.drop_eq_nil_of_le this]
      unfold forI forL
      simp only [Src.get, List.getElem?_eq_none this]
def whileN (t : Env → AH → Res Bool) (f : Env → AH → Res Fl) : Nat → Env → AH → Res Fl
  | 0, _, _ => .stuck
  | k + 1, env, h => (t env h).bindX env fun b h' => if b then (f env h').bind fun r h'' => match r with
      | .nx e => whileN t f k e h''
      | .ct e => whileN t f k e h''
      | .bk e => .ok (.nx e) h''
      | r => .ok r h''
    else .ok (.nx env) h'
def push (o : Option D) (r : List D) : List D := match o with
  | some y => y :: r
  | none => r
/-- a comprehension's turns -/
def mapI (s : Src) (f : D → AH → Res (Option D)) : Nat → Nat → AH → Res (List D)
  | 0, _, _ => .stuck
  | k + 1, i, h => match s.get i h with
    | none => .stuck
    | some none => .ok [] h
    | some (some x) => (f x h).bind fun o h' => (mapI s f k (i + 1) h').bind fun r h'' => .ok (push o r) h''
def mapL (f : D → AH → Res (Option D)) : List D → AH → Res (List D)
  | [], h => .ok [] h
  | x :: l, h => (f x h).bind fun o h' => (mapL f l h').bind fun r h'' => .ok (push o r) h''
theorem mapI_fix (l : List D) (f : D → AH → Res (Option D)) : ∀ (k i : Nat) (h : AH), k + i = l.length → mapI (.fix l) f (k + 1) i h = mapL f (l.drop i) h
  | k, i, h, e => by
    by_cases hi : i < l.length
    · obtain ⟨j, rfl⟩ : ∃ j, k = j + 1 := ⟨k - 1, by omega⟩
      rw [List.drop_eq_getElem_cons hi]
      unfold mapI mapL
      simp only [Src.get, List.getElem?_eq_getElem hi]
      congr 1
      funext r h'
      rw [mapI_fix l f j (i + 1) h' (by omega)]
    · have : l.length ≤ i := by omega
      rw [List.drop_eq_nil_of_le this]
      unfold mapI mapL
      simp only [Src.get, List.getElem?_eq_none this]
def noexc {α : Type} (r : Res α) : Res α := match r with
  | .exc _ _ => .stuck
  | r => r
def ldV (env : Env) (i : Nat) (h : AH) : Res D := match env[i]? with
  | some (some d) => .ok d h
  | _ => .stuck
def pick {α : Type} (sel : List Nat) (l : List α) : Option (List α) := match sel with
  | [] => some []
  | i :: r => match l[i]?, pick r l with
    | some d, some s => some (d :: s)
    | _, _ => none

section
variable (g : G) (call : Bool → Nat → List D → AH → Res D) (c : Bool)
mutual
def evE : E → Env → AH → Res D
  | .var i, env, h => ldV env i h
  | .cst d, _, h => .ok d h
  | .glb n, _, h => .ok (g.glb n) h
  | .bin o a b, env, h => (evE a env h).bind fun x h => (evE b env h).bind fun y h => binop o x y h
  | .neg a, env, h => (evE a env h).bind fun x h => match x with
    | .int i => .ok (.int (-i)) h
    | _ => .stuck
  | .not a, env, h => (evE a env h).bind fun x h => lift ((truth x).map fun b => .bl !b) h
  | .and es, env, h => evAnd es env h
  | .or es, env, h => evOr es env h
  | .ife t a b, env, h => (evE t env h).bind fun x h => match truth x with
    | some true => evE a env h
    | some false => evE b env h
    | none => .stuck
  | .cmp o a b, env, h => (evE a env h).bind fun x h => (evE b env h).bind fun y h => lift ((cmpop o x y).map .bl) h
  | .cmp2 o1 o2 a b d, env, h => (evE a env h).bind fun x h => (evE b env h).bind fun y h => match cmpop o1 x y with
    | some true => (evE d env h).bind fun z h => lift ((cmpop o2 y z).map .bl) h
    | some false => .ok (.bl false) h
    | none => .stuck
  | .isn a, env, h => (evE a env h).bind fun x h => .ok (.bl (isN x)) h
  | .isnn a, env, h => (evE a env h).bind fun x h => .ok (.bl (!isN x)) h
  | .tup es, env, h => (evEs es env h).bind fun l h => if l.length ≤ line then .ok (.tup l) h else .stuck
  | .lst es, env, h => (evEs es env h).bind fun l h => if l.length ≤ line then .ok (.lst l) h else .stuck
  | .hls es, env, h => (evEs es env h).bind fun l h => if l.length ≤ line then .ok (.ref h.nx) (h.new (.lst l)) else .stuck
  | .idx a i, env, h => (evE a env h).bind fun x h => (evE i env h).bind fun y h => idxop x y h
  | .slc a lo hi, env, h => (evE a env h).bind fun x h => (evOp lo env h).bind fun l h => (evOp hi env h).bind fun u h => slcop x l u h
  | .cal f args kws sel, env, h => (evEs args env h).bind fun l h => (evEs kws env h).bind fun m h => match pick sel (l ++ m ++ g.dfl f) with
    | some vs => call c f vs h
    | none => .stuck
  | .bi b a, env, h => (evE a env h).bind fun x h => biop b x h
  | .isi a k, env, h => (evE a env h).bind fun x h => lift ((isk x k).map .bl) h
  | .mt m o a, env, h => (evE o env h).bind fun x h => match x with
    | .str s => (evE a env h).bind fun y h => mtop m (.str s) y h
    | _ => .stuck
  | .same i j, env, h => (ldV env i h).bind fun x h => (ldV env j h).bind fun y h => sameop x y h
  | .cmpr elt tg it ifs, env, h => (evIt it env h).bind fun s h => if s.len h ≤ line then
      (noexc (mapI s (fun x h => match bindT tg x env with
        | some e => (evIfs ifs e h).bind fun b h => if b then (evE elt e h).bind fun y h => .ok (some y) h else .ok none h
        | none => .stuck) (s.len h + 1) 0 h)).bind fun r h => .ok (.lst r) h
    else .stuck
def evEs : Es → Env → AH → Res (List D)
  | .nil, _, h => .ok [] h
  | .cons e r, env, h => (evE e env h).bind fun x h => (evEs r env h).bind fun l h => .ok (x :: l) h
def evAnd : Es → Env → AH → Res D
  | .nil, _, _ => .stuck
  | .cons e r, env, h => match r with
    | .nil => evE e env h
    | .cons _ _ => (evE e env h).bind fun x h => match truth x with
      | some true => evAnd r env h
      | some false => .ok x h
      | none => .stuck
def evOr : Es → Env → AH → Res D
  | .nil, _, _ => .stuck
  | .cons e r, env, h => match r with
    | .nil => evE e env h
    | .cons _ _ => (evE e env h).bind fun x h => match truth x with
      | some true => .ok x h
      | some false => evOr r env h
      | none => .stuck
def evOp : Op → Env → AH → Res (Option Int)
  | .no, _, h => .ok none h
  | .so e, env, h => (evE e env h).bind fun x h => match x with
    | .int i => .ok (some i) h
    | _ => .stuck
def evIfs : Es → Env → AH → Res Bool
  | .nil, _, h => .ok true h
  | .cons e _, env, h => (evE e env h).bind fun x h => lift (truth x) h
def evIt : It → Env → AH → Res Src
  | .seq e, env, h => (evE e env h).bind fun x h => lift (srcOf x h) h
  | .rng a, env, h => (evE a env h).bind fun x h => match x with
    | .int i => if -(2 ^ 62) ≤ i ∧ i < 2 ^ 62 then .ok (.fix (range 0 i)) h else .stuck
    | _ => .stuck
  | .rng2 a b, env, h => (evE a env h).bind fun x h => (evE b env h).bind fun y h => match x, y with
    | .int i, .int j => if (-(2 ^ 62) ≤ i ∧ i < 2 ^ 62) ∧ -(2 ^ 62) ≤ j ∧ j < 2 ^ 62 then .ok (.fix (range i j)) h else .stuck
    | _, _ => .stuck
  | .enum e, env, h => (evE e env h).bind fun x h => lift (enumOf x h) h
  | .zip a b, env, h => (evE a env h).bind fun x h => (evE b env h).bind fun y h => lift (zipOf x y) h
end
def evT (e : E) (env : Env) (h : AH) : Res Bool := (evE g call c e env h).bind fun x h => lift (truth x) h
mutual
def evS : S → Env → AH → Res Fl
  | .expr e, env, h => (evE g call c e env h).bindX env fun _ h => .ok (.nx env) h
  | .asg i e, env, h => (evE g call c e env h).bindX env fun x h => .ok (.nx (env.set i (some x))) h
  | .asgt is e, env, h => (evE g call c e env h).bindX env fun x h => lift ((bindT is x env).map .nx) h
  | .aug i o e, env, h => (ldV env i h).bindX env fun x h => (evE g call c e env h).bindX env fun y h => (match x, y with
      | .int _, .int _ => binop o x y h
      | _, _ => .stuck).bindX env fun z h => .ok (.nx (env.set i (some z))) h
  | .ret e, env, h => (evE g call c e env h).bindX env fun x h => .ok (.rt x) h
  | .retn, _, h => .ok (.rt .non) h
  | .ifs t a b, env, h => (evT g call c t env h).bindX env fun k h => if k then evSs a env h else evSs b env h
  | .for tg it b, env, h => (evIt g call c it env h).bindX env fun s h => forI s (fun x env h => match bindT tg x env with
      | some e => evSs b e h
      | none => .stuck) (s.len h + 1) 0 env h
  | .whl t b, env, h => whileN (evT g call c t) (evSs b) 4096 env h
  | .brk, env, h => .ok (.bk env) h
  | .cnt, env, h => .ok (.ct env) h
  | .pass, env, h => .ok (.nx env) h
  | .seti o i e, env, h => (evE g call c e env h).bindX env fun x h => (evE g call c o env h).bindX env fun y h => (evE g call c i env h).bindX env fun z h => match y, z with
    | .ref n, .int k => match h.cell n with
      | .lst l => match L2.ixN l.length k with
        | some j => .ok (.nx env) (h.put n (.lst (l.set j x)))
        | none => .stuck
      | _ => .stuck
    | _, _ => .stuck
def evSs : Ss → Env → AH → Res Fl
  | .nil, env, h => .ok (.nx env) h
  | .cons s r, env, h => (evS s env h).bind fun f h => match f with
    | .nx e => evSs r e h
    | f => .ok f h
end
end
/-- a def's end -/
def fin (r : Res Fl) : Res D := (noexc r).bind fun f h => match f with
  | .nx _ => .ok .non h
  | .rt d => .ok d h
  | .xc x _ => .exc x h
  | _ => .stuck
def callN (g : G) : Nat → Bool → Nat → List D → AH → Res D
  | 0, _, _, _, _ => .stuck
  | n + 1, c, f, vs, h => match g.fn f with
    | some fd => if vs.length = fd.np then fin (evSs g (callN g n) c fd.body (vs.map some ++ List.replicate (fd.nb - fd.np) none) h) else .stuck
    | none => .stuck
end Rk

set_option maxHeartbeats 1000000
/-! Rk.B: plain data in the layer's heaps. -/
namespace Rk
open PySem PySem.Spec PyProof.Rows L2
/-- what is fixed: the written part, the classes, the attributes' names -/
structure Gi where
  K : PySem.W.Frag
  ca : Nat → Addr
  an : Nat → Str
  fa : Nat → Addr
  fd : Nat → FuncData
  fps : Nat → List Str
  fdv : Nat → List V
/-- where the heap's cells stand; what never changes -/
structure Wd where
  m : Nat → Addr
  F : Hp
  Z : Hp
abbrev stt (s : List Nat) : Str := ⟨s.toArray⟩
def okS (s : List Nat) : Bool := s.all fun c => decide (c < 1114112)
mutual
def RV (g : Gi) (w : Wd) (n : Nat) : D → V → Prop
  | .non, v => v = .non
  | .bl b, v => v = .bl b
  | .int i, v => v = .int i
  | .str s, v => v = .str (stt s) ∧ okS s = true
  | .tup l, v => ∃ a xs, v = .ref a ∧ SqT g.K w.F a xs ∧ RVs g w n l xs
  | .lst l, v => ∃ a xs, v = .ref a ∧ w.F a = some (.lst xs) ∧ RVs g w n l xs
  | .scr l, v => ∃ a, v = .ref a ∧ SqL g.K w.F a (l.map V.int)
  | .ref k, v => v = .ref (w.m k) ∧ k < n
  | .ins c fs, v => ∃ a dx gs, v = .ref a ∧ w.F a = some (.ins (g.ca c) dx gs) ∧ w.F dx = some (.own a) ∧ RVf g w n fs gs
  | _, _ => False
def RVs (g : Gi) (w : Wd) (n : Nat) : List D → List V → Prop
  | [], xs => xs = []
  | d :: l, xs => ∃ x r, xs = x :: r ∧ RV g w n d x ∧ RVs g w n l r
def RVf (g : Gi) (w : Wd) (n : Nat) : List (Nat × D) → List (Str × V) → Prop
  | [], xs => xs = []
  | p :: l, xs => ∃ x r, xs = (g.an p.1, x) :: r ∧ RV g w n p.2 x ∧ RVf g w n l r
end
structure Ext (w : Wd) (n : Nat) (w' : Wd) (n' : Nat) : Prop where
  le : n ≤ n'
  m : ∀ k, k < n → w'.m k = w.m k
  F : ∀ a o, w.F a = some o → w'.F a = some o
  Z : ∀ a o, w.Z a = some o → w'.Z a = some o
/-- what values lean on -/
structure ExtF (w : Wd) (n : Nat) (w' : Wd) (n' : Nat) : Prop where
  le : n ≤ n'
  m : ∀ k, k < n → w'.m k = w.m k
  F : ∀ a o, w.F a = some o → w'.F a = some o
theorem Ext.f {w w' : Wd} {n n' : Nat} (x : Ext w n w' n') : ExtF w n w' n' := ⟨x.le, x.m, x.F⟩
theorem Ext.refl (w : Wd) (n : Nat) : Ext w n w n := ⟨Nat.le_refl _, fun _ _ => rfl, fun _ _ e => e, fun _ _ e => e⟩
theorem Ext.trans {w w1 w2 : Wd} {n n1 n2 : Nat} (a : Ext w n w1 n1) (b : Ext w1 n1 w2 n2) : Ext w n w2 n2 :=
  ⟨Nat.le_trans a.le b.le, fun k hk => (b.m k (Nat.lt_of_lt_of_le hk a.le)).trans (a.m k hk), fun c o e => b.F c o (a.F c o e), fun c o e => b.Z c o (a.Z c o e)⟩
theorem SqT.ext {K : PySem.W.Frag} {F F' : Hp} (e : ∀ a o, F a = some o → F' a = some o) {a : Addr} {xs : List V} (h : SqT K F a xs) : SqT K F' a xs := by
  rcases h with (h | ⟨o, h⟩) | h
  · exact .inl (.inl (e _ _ h))
  · exact .inl (.inr ⟨o, e _ _ h⟩)
  · exact .inr h
theorem SqL.ext {K : PySem.W.Frag} {F F' : Hp} (e : ∀ a o, F a = some o → F' a = some o) {a : Addr} {xs : List V} (h : SqL K F a xs) : SqL K F' a xs := by
  rcases h with (h | ⟨o, h⟩) | h
  · exact .inl (.inl (e _ _ h))
  · exact .inl (.inr ⟨o, e _ _ h⟩)
  · exact .inr h
section
variable {g : Gi} {w w' : Wd} {n n' : Nat}
mutual
theorem RV.extF (x : ExtF w n w' n') : ∀ (d : D) (v : V), RV g w n d v → RV g w' n' d v
  | .non, v, h => by unfold RV at *; exact h
  | .bl b, v, h => by unfold RV at *; exact h
  | .int i, v, h => by unfold RV at *; exact h
  | .str s, v, h => by unfold RV at *; exact h
  | .tup l, v, h => by
    unfold RV at *
    obtain ⟨a, xs, e, q, r⟩ := h
    exact ⟨a, xs, e, SqT.ext x.F q, RVs.extF x l xs r⟩
  | .lst l, v, h => by
    unfold RV at *
    obtain ⟨a, xs, e, q, r⟩ := h
    exact ⟨a, xs, e, x.F _ _ q, RVs.extF x l xs r⟩
  | .ref k, v, h => by
    unfold RV at *
    exact ⟨by rw [x.m k h.2]; exact h.1, Nat.lt_of_lt_of_le h.2 x.le⟩
  | .ins c fs, v, h => by
    unfold RV at *
    obtain ⟨a, dx, gs, e, q, q2, r⟩ := h
    exact ⟨a, dx, gs, e, x.F _ _ q, x.F _ _ q2, RVf.extF x fs gs r⟩
  | .dct l, v, h => by unfold RV at h; exact h.elim
  | .set l, v, h => by unfold RV at h; exact h.elim
  | .exc c l, v, h => by unfold RV at h; exact h.elim
  | .lam k, v, h => by unfold RV at h; exact h.elim
  | .scr l, v, h => by
    unfold RV at *
    obtain ⟨a, e, q⟩ := h
    exact ⟨a, e, SqL.ext x.F q⟩
theorem RVs.extF (x : ExtF w n w' n') : ∀ (l : List D) (xs : List V), RVs g w n l xs → RVs g w' n' l xs
  | [], xs, h => by unfold RVs at *; exact h
  | d :: l, xs, h => by
    unfold RVs at *
    obtain ⟨y, r, e, h1, h2⟩ := h
    exact ⟨y, r, e, RV.extF x d y h1, RVs.extF x l r h2⟩
theorem RVf.extF (x : ExtF w n w' n') : ∀ (l : List (Nat × D)) (xs : List (Str × V)), RVf g w n l xs → RVf g w' n' l xs
  | [], xs, h => by unfold RVf at *; exact h
  | (k, d) :: l, xs, h => by
    unfold RVf at *
    obtain ⟨y, r, e, h1, h2⟩ := h
    exact ⟨y, r, e, RV.extF x d y h1, RVf.extF x l r h2⟩
end
theorem RV.ext (x : Ext w n w' n') (d : D) (v : V) (h : RV g w n d v) : RV g w' n' d v := RV.extF x.f d v h
theorem RVs.ext (x : Ext w n w' n') (d : List D) (v : List V) (h : RVs g w n d v) : RVs g w' n' d v := RVs.extF x.f d v h
theorem RVf.ext (x : Ext w n w' n') (d : List (Nat × D)) (v : List (Str × V)) (h : RVf g w n d v) : RVf g w' n' d v := RVf.extF x.f d v h
theorem RVs.noZ {w : Wd} {Z' : Hp} {l : List D} {xs : List V} (h : RVs g w n l xs) : RVs g ⟨w.m, w.F, Z'⟩ n l xs := RVs.extF (show ExtF w n ⟨w.m, w.F, Z'⟩ n from ⟨Nat.le_refl _, fun _ _ => rfl, fun _ _ e => e⟩) l xs h
theorem RVf.noZ {w : Wd} {Z' : Hp} {l : List (Nat × D)} {xs : List (Str × V)} (h : RVf g w n l xs) : RVf g ⟨w.m, w.F, Z'⟩ n l xs := RVf.extF (show ExtF w n ⟨w.m, w.F, Z'⟩ n from ⟨Nat.le_refl _, fun _ _ => rfl, fun _ _ e => e⟩) l xs h
theorem RVs.moreF {w : Wd} {F' Z' : Hp} (k : ∀ a o, w.F a = some o → F' a = some o) {l : List D} {xs : List V} (h : RVs g w n l xs) : RVs g ⟨w.m, F', Z'⟩ n l xs := RVs.extF (show ExtF w n ⟨w.m, F', Z'⟩ n from ⟨Nat.le_refl _, fun _ _ => rfl, k⟩) l xs h
theorem RVf.moreF {w : Wd} {F' Z' : Hp} (k : ∀ a o, w.F a = some o → F' a = some o) {l : List (Nat × D)} {xs : List (Str × V)} (h : RVf g w n l xs) : RVf g ⟨w.m, F', Z'⟩ n l xs := RVf.extF (show ExtF w n ⟨w.m, F', Z'⟩ n from ⟨Nat.le_refl _, fun _ _ => rfl, k⟩) l xs h
theorem rvs_nil {xs : List V} : RVs g w n [] xs ↔ xs = [] := by unfold RVs; exact Iff.rfl
theorem rvs_cons {d : D} {l : List D} {xs : List V} : RVs g w n (d :: l) xs ↔ ∃ x r, xs = x :: r ∧ RV g w n d x ∧ RVs g w n l r := by
  conv => lhs; unfold RVs
theorem RVs.mk {d : D} {l : List D} {x : V} {xs : List V} (a : RV g w n d x) (b : RVs g w n l xs) : RVs g w n (d :: l) (x :: xs) := rvs_cons.mpr ⟨x, xs, rfl, a, b⟩
theorem RVs.nil : RVs g w n [] [] := rvs_nil.mpr rfl
theorem RVs.length : ∀ {l : List D} {xs : List V}, RVs g w n l xs → xs.length = l.length
  | [], xs, h => by rw [rvs_nil.mp h]; rfl
  | d :: l, xs, h => by
    obtain ⟨x, r, rfl, _, h2⟩ := rvs_cons.mp h
    rw [List.length_cons, List.length_cons, RVs.length h2]
theorem RVs.get : ∀ {l : List D} {xs : List V} {i : Nat} {d : D}, RVs g w n l xs → l[i]? = some d → ∃ x, xs[i]? = some x ∧ RV g w n d x
  | [], _, _, _, _, e => by simp at e
  | d :: l, xs, 0, d', h, e => by
    obtain ⟨x, r, rfl, h1, _⟩ := rvs_cons.mp h
    have e : d = d' := by simpa using e
    exact ⟨x, rfl, e ▸ h1⟩
  | d :: l, xs, i + 1, _, h, e => by
    obtain ⟨x, r, rfl, _, h2⟩ := rvs_cons.mp h
    obtain ⟨y, h3, h4⟩ := RVs.get h2 (show l[i]? = some _ by simpa using e)
    exact ⟨y, by simpa using h3, h4⟩
theorem RVs.append : ∀ {l m : List D} {xs ys : List V}, RVs g w n l xs → RVs g w n m ys → RVs g w n (l ++ m) (xs ++ ys)
  | [], _, xs, _, h, k => by rw [rvs_nil.mp h]; exact k
  | d :: l, m, xs, ys, h, k => by
    obtain ⟨x, r, rfl, h1, h2⟩ := rvs_cons.mp h
    exact RVs.mk h1 (RVs.append h2 k)
theorem RVs.drop : ∀ {l : List D} {xs : List V} (k : Nat), RVs g w n l xs → RVs g w n (l.drop k) (xs.drop k)
  | _, _, 0, h => h
  | [], xs, k + 1, h => by rw [rvs_nil.mp h]; exact RVs.nil
  | d :: l, xs, k + 1, h => by
    obtain ⟨x, r, rfl, _, h2⟩ := rvs_cons.mp h
    exact RVs.drop k h2
theorem RVs.take : ∀ {l : List D} {xs : List V} (k : Nat), RVs g w n l xs → RVs g w n (l.take k) (xs.take k)
  | l, xs, 0, h => by rw [List.take_zero, List.take_zero]; exact RVs.nil
  | [], xs, k + 1, h => by rw [rvs_nil.mp h]; exact RVs.nil
  | d :: l, xs, k + 1, h => by
    obtain ⟨x, r, rfl, h1, h2⟩ := rvs_cons.mp h
    exact RVs.mk h1 (RVs.take k h2)
theorem RVs.set : ∀ {l : List D} {xs : List V} (k : Nat) {d : D} {x : V}, RVs g w n l xs → RV g w n d x → RVs g w n (l.set k d) (xs.set k x)
  | [], xs, k, _, _, h, _ => by rw [rvs_nil.mp h]; exact RVs.nil
  | d :: l, xs, 0, _, _, h, q => by
    obtain ⟨x, r, rfl, _, h2⟩ := rvs_cons.mp h
    exact RVs.mk q h2
  | d :: l, xs, k + 1, _, _, h, q => by
    obtain ⟨x, r, rfl, h1, h2⟩ := rvs_cons.mp h
    exact RVs.mk h1 (RVs.set k h2 q)
theorem RVs.cut {l : List D} {xs : List V} (h : RVs g w n l xs) (lo hi : Option Int) : RVs g w n (cut l lo hi) (cutV xs lo hi) := by
  unfold Rk.cut cutV
  rw [h.length]
  exact (h.drop _).take _
end
/-- the heap's cells -/
def RC (g : Gi) (w : Wd) (n : Nat) (H : Hp) (a : Addr) : Cell → Prop
  | .no => True
  | .lst l => (w.F a = none ∧ w.Z a = none) ∧ ∃ xs, H a = some (.lst xs) ∧ RVs g w n l xs
  | .ins c fs => (w.F a = none ∧ w.Z a = none) ∧ ∃ dx gs, (w.F dx = none ∧ w.Z dx = none) ∧ H a = some (.ins (g.ca c) dx gs) ∧ H dx = some (.own a) ∧ RVf g w n fs gs
  | .dct _ => False
structure RR (g : Gi) (w : Wd) (h : AH) (H : Hp) : Prop where
  sub : ∀ a o, w.F a = some o → H a = some o
  subz : ∀ a o, w.Z a = some o → H a = some o ∧ w.F a = none
  cell : ∀ k, k < h.nx → RC g w h.nx H (w.m k) (h.cell k)
  inj : ∀ j k, j < h.nx → k < h.nx → w.m j = w.m k → j = k
  oc : ∀ k, k < h.nx → H (w.m k) ≠ none
structure RE (g : Gi) (w : Wd) (n : Nat) (env : Env) (σ : L2.St) : Prop where
  len : env.length = σ.length
  at_ : ∀ (i : Nat) (d : D), env[i]? = some (some d) → ∃ v, σ[i]? = some (some v) ∧ RV g w n d v
section
variable {g : Gi} {w w' : Wd} {h h' : AH} {H H' : Hp} {n n' : Nat} {env : Env} {σ : L2.St}
theorem RE.ext (r : RE g w n env σ) (x : Ext w n w' n') : RE g w' n' env σ := ⟨r.len, fun i d e => by
  obtain ⟨v, h1, h2⟩ := r.at_ i d e
  exact ⟨v, h1, RV.ext x d v h2⟩⟩
theorem RE.set (r : RE g w n env σ) (i : Nat) {d : D} {v : V} (q : RV g w n d v) : RE g w n (env.set i (some d)) (σ.set i (some v)) := by
  refine ⟨by simp [r.len], fun j e h => ?_⟩
  by_cases hj : i = j
  · subst hj
    by_cases hi : i < env.length
    · rw [List.getElem?_set_self hi] at h
      rw [List.getElem?_set_self (r.len ▸ hi)]
      cases h
      exact ⟨v, rfl, q⟩
    · rw [List.getElem?_eq_none (by simpa using hi)] at h
      cases h
  · rw [List.getElem?_set_ne hj] at h
    rw [List.getElem?_set_ne hj]
    exact r.at_ j e h
/-- a cell's word in another world -/
theorem RC.to {a : Addr} {c : Cell} (q : RC g w n H a c) (x : Ext w n w' n') (hF : ∀ b, H b ≠ none → w.F b = none → w.Z b = none → w'.F b = none ∧ w'.Z b = none) (keep : ∀ b o, H b = some o → w.F b = none → w.Z b = none → H' b = some o) : RC g w' n' H' a c := by
  cases c with
  | no => trivial
  | lst l =>
    obtain ⟨q1, xs, q2, q3⟩ := q
    exact ⟨hF _ (by rw [q2]; exact fun z => nomatch z) q1.1 q1.2, xs, keep _ _ q2 q1.1 q1.2, RVs.ext x l xs q3⟩
  | ins c fs =>
    obtain ⟨q1, dx, gs, q4, q2, q5, q3⟩ := q
    exact ⟨hF _ (by rw [q2]; exact fun z => nomatch z) q1.1 q1.2, dx, gs, hF _ (by rw [q5]; exact fun z => nomatch z) q4.1 q4.2, keep _ _ q2 q1.1 q1.2, keep _ _ q5 q4.1 q4.2, RVf.ext x fs gs q3⟩
  | dct l => exact q
theorem RR.noF (r : RR g w h H) {p : Addr} (hp : H p = none) : w.F p = none := by
  cases e : w.F p with
  | none => rfl
  | some u => rw [r.sub p u e] at hp; cases hp
theorem RR.noZ (r : RR g w h H) {p : Addr} (hp : H p = none) : w.Z p = none := by
  cases e : w.Z p with
  | none => rfl
  | some u => rw [(r.subz p u e).1] at hp; cases hp
/-- a new thing that never changes -/
theorem RR.freeze (r : RR g w h H) {p : Addr} {o : HO} (hp : H p = none) : RR g ⟨w.m, upd w.F p o, w.Z⟩ h (upd H p o) ∧ Ext w h.nx ⟨w.m, upd w.F p o, w.Z⟩ h.nx := by
  have fp := r.noF hp
  have zp := r.noZ hp
  have x : Ext w h.nx ⟨w.m, upd w.F p o, w.Z⟩ h.nx := ⟨Nat.le_refl _, fun _ _ => rfl, fun a u e => by
    show upd w.F p o a = some u
    rw [upd_ne (ne_of_none e fp)]; exact e, fun _ _ e => e⟩
  have nm : ∀ k, k < h.nx → w.m k ≠ p := fun k hk e => r.oc k hk (by rw [e]; exact hp)
  refine ⟨⟨fun a u e => ?_, fun a u e => ?_, fun k hk => ?_, r.inj, fun k hk e => ?_⟩, x⟩
  · by_cases ha : a = p
    · subst ha
      have e : upd w.F a o a = some u := e
      rw [upd_same] at e ⊢
      exact e
    · have e : upd w.F p o a = some u := e
      rw [upd_ne ha] at e ⊢
      exact r.sub a u e
  · have ha : a ≠ p := ne_of_none e zp
    obtain ⟨e1, e2⟩ := r.subz a u e
    exact ⟨by rw [upd_ne ha]; exact e1, by show upd w.F p o a = none; rw [upd_ne ha]; exact e2⟩
  · refine (r.cell k hk).to x (fun b hb e1 e2 => ?_) (fun b u e e1 e2 => by rw [upd_ne (ne_of_none e hp)]; exact e)
    have hbp : b ≠ p := fun z => hb (by rw [z]; exact hp)
    exact ⟨by show upd w.F p o b = none; rw [upd_ne hbp]; exact e1, e2⟩
  · have e : upd H p o (w.m k) = none := e
    rw [upd_ne (nm k hk)] at e
    exact r.oc k hk e
/-- a new cell -/
theorem RR.alloc (r : RR g w h H) {p : Addr} {l : List D} {xs : List V} (hp : H p = none) (q : RVs g w h.nx l xs) :
    RR g ⟨fun k => if k = h.nx then p else w.m k, w.F, w.Z⟩ (h.new (.lst l)) (upd H p (.lst xs)) ∧ Ext w h.nx ⟨fun k => if k = h.nx then p else w.m k, w.F, w.Z⟩ (h.nx + 1) := by
  have fp := r.noF hp
  have zp := r.noZ hp
  have x : Ext w h.nx ⟨fun k => if k = h.nx then p else w.m k, w.F, w.Z⟩ (h.nx + 1) := ⟨Nat.le_succ _, fun k hk => if_neg (Nat.ne_of_lt hk), fun _ _ e => e, fun _ _ e => e⟩
  have nm : ∀ k, k < h.nx → w.m k ≠ p := fun k hk e => r.oc k hk (by rw [e]; exact hp)
  have keep : ∀ a u, H a = some u → upd H p (.lst xs) a = some u := fun a u e => by rw [upd_ne (ne_of_none e hp)]; exact e
  refine ⟨⟨fun a u e => keep _ _ (r.sub a u e), fun a u e => ⟨keep _ _ (r.subz a u e).1, (r.subz a u e).2⟩, fun k hk => ?_, fun j k hj hk e => ?_, fun k hk => ?_⟩, x⟩
  · show RC g _ (h.nx + 1) _ (if k = h.nx then p else w.m k) (if k = h.nx then Cell.lst l else h.cell k)
    by_cases e : k = h.nx
    · rw [if_pos e, if_pos e]
      exact ⟨⟨fp, zp⟩, xs, upd_same, RVs.ext x l xs q⟩
    · rw [if_neg e, if_neg e]
      have hk' : k < h.nx := by have : k < h.nx + 1 := hk; omega
      exact (r.cell k hk').to x (fun b _ e1 e2 => ⟨e1, e2⟩) fun b u e _ _ => keep b u e
  · have hj : j < h.nx + 1 := hj
    have hk : k < h.nx + 1 := hk
    have e : (if j = h.nx then p else w.m j) = (if k = h.nx then p else w.m k) := e
    by_cases e1 : j = h.nx <;> by_cases e2 : k = h.nx
    · rw [e1, e2]
    · rw [if_pos e1, if_neg e2] at e
      exact absurd e.symm (nm k (by omega))
    · rw [if_neg e1, if_pos e2] at e
      exact absurd e (nm j (by omega))
    · rw [if_neg e1, if_neg e2] at e
      exact r.inj j k (by omega) (by omega) e
  · show upd H p (.lst xs) (if k = h.nx then p else w.m k) ≠ none
    have hk : k < h.nx + 1 := hk
    by_cases e : k = h.nx
    · rw [if_pos e, upd_same]; exact fun z => nomatch z
    · rw [if_neg e, upd_ne (nm k (by omega))]
      exact r.oc k (by omega)
/-- a list cell is stored -/
theorem RR.store (r : RR g w h H) {k : Nat} {l l' : List D} {xs : List V} (hk : k < h.nx) (e : h.cell k = .lst l) (q : RVs g w h.nx l' xs) :
    RR g w (h.put k (.lst l')) (upd H (w.m k) (.lst xs)) := by
  have c := r.cell k hk
  rw [e] at c
  obtain ⟨c1, ys, c2, c3⟩ := c
  have nF : ∀ a u, w.F a = some u → a ≠ w.m k := fun a u e z => by rw [z, c1.1] at e; cases e
  have nZ : ∀ a u, w.Z a = some u → a ≠ w.m k := fun a u e z => by rw [z, c1.2] at e; cases e
  refine ⟨fun a u e => by rw [upd_ne (nF a u e)]; exact r.sub a u e, fun a u e => by rw [upd_ne (nZ a u e)]; exact r.subz a u e, fun j hj => ?_, r.inj, fun j hj => ?_⟩
  · show RC g w h.nx _ (w.m j) (if j = k then Cell.lst l' else h.cell j)
    by_cases e2 : j = k
    · subst e2
      rw [if_pos rfl]
      exact ⟨c1, xs, upd_same, q⟩
    · rw [if_neg e2]
      have nj : w.m j ≠ w.m k := fun z => e2 (r.inj j k hj hk z)
      have q := r.cell j hj
      cases ec : h.cell j with
      | no => trivial
      | lst m =>
        rw [ec] at q
        obtain ⟨q1, zs, q2, q3⟩ := q
        exact ⟨q1, zs, by rw [upd_ne nj]; exact q2, q3⟩
      | ins c fs =>
        rw [ec] at q
        obtain ⟨q1, dx, gs, q4, q2, q5, q3⟩ := q
        have nd : dx ≠ w.m k := fun z => by rw [z, c2] at q5; cases q5
        exact ⟨q1, dx, gs, q4, by rw [upd_ne nj]; exact q2, by rw [upd_ne nd]; exact q5, q3⟩
      | dct l => rw [ec] at q; exact q
  · by_cases e2 : j = k
    · subst e2
      rw [upd_same]; exact fun z => nomatch z
    · rw [upd_ne fun z => e2 (r.inj j k hj hk z)]
      exact r.oc j hj
/-- a thing at the side: new, changed, then frozen -/
theorem RR.side (r : RR g w h H) {p : Addr} {o : HO} (hp : H p = none) : RR g ⟨w.m, w.F, upd w.Z p o⟩ h (upd H p o) ∧ Ext w h.nx ⟨w.m, w.F, upd w.Z p o⟩ h.nx := by
  have fp := r.noF hp
  have zp := r.noZ hp
  have x : Ext w h.nx ⟨w.m, w.F, upd w.Z p o⟩ h.nx := ⟨Nat.le_refl _, fun _ _ => rfl, fun _ _ e => e, fun a u e => by
    show upd w.Z p o a = some u
    rw [upd_ne (ne_of_none e zp)]; exact e⟩
  refine ⟨⟨fun a u e => by rw [upd_ne (ne_of_none e fp)]; exact r.sub a u e, fun a u e => ?_, fun k hk => ?_, r.inj, fun k hk => ?_⟩, x⟩
  · by_cases ha : a = p
    · subst ha
      have e : upd w.Z a o a = some u := e
      rw [upd_same] at e ⊢
      exact ⟨e, fp⟩
    · have e : upd w.Z p o a = some u := e
      rw [upd_ne ha] at e ⊢
      exact r.subz a u e
  · refine (r.cell k hk).to x (fun b hb e1 e2 => ?_) (fun b u e e1 e2 => by rw [upd_ne (ne_of_none e hp)]; exact e)
    have hbp : b ≠ p := fun z => hb (by rw [z]; exact hp)
    exact ⟨e1, by show upd w.Z p o b = none; rw [upd_ne hbp]; exact e2⟩
  · rw [upd_ne fun e => r.oc k hk (by rw [e]; exact hp)]
    exact r.oc k hk
theorem RR.side2 (r : RR g w h H) {p : Addr} {o o' : HO} (hp : w.Z p = some o) : RR g ⟨w.m, w.F, upd w.Z p o'⟩ h (upd H p o') := by
  have fp := (r.subz p o hp).2
  refine ⟨fun a u e => by rw [upd_ne (ne_of_none e fp)]; exact r.sub a u e, fun a u e => ?_, fun k hk => ?_, r.inj, fun k hk => ?_⟩
  · by_cases ha : a = p
    · subst ha
      have e : upd w.Z a o' a = some u := e
      rw [upd_same] at e ⊢
      exact ⟨e, fp⟩
    · have e : upd w.Z p o' a = some u := e
      rw [upd_ne ha] at e ⊢
      exact r.subz a u e
  · have q := r.cell k hk
    have nz : ∀ b, w.Z b = none → b ≠ p := fun b e z => by rw [z, hp] at e; cases e
    show RC g _ h.nx _ (w.m k) (h.cell k)
    cases ec : h.cell k with
    | no => trivial
    | lst m =>
      rw [ec] at q
      obtain ⟨q1, zs, q2, q3⟩ := q
      exact ⟨⟨q1.1, by show upd w.Z p o' _ = none; rw [upd_ne (nz _ q1.2)]; exact q1.2⟩, zs, by rw [upd_ne (nz _ q1.2)]; exact q2, RVs.noZ q3⟩
    | ins c fs =>
      rw [ec] at q
      obtain ⟨q1, dx, gs, q4, q2, q5, q3⟩ := q
      exact ⟨⟨q1.1, by show upd w.Z p o' _ = none; rw [upd_ne (nz _ q1.2)]; exact q1.2⟩, dx, gs, ⟨q4.1, by show upd w.Z p o' _ = none; rw [upd_ne (nz _ q4.2)]; exact q4.2⟩, by rw [upd_ne (nz _ q1.2)]; exact q2, by rw [upd_ne (nz _ q4.2)]; exact q5, RVf.noZ q3⟩
    | dct l => rw [ec] at q; exact q
  · by_cases e2 : w.m k = p
    · rw [e2, upd_same]; exact fun z => nomatch z
    · rw [upd_ne e2]
      exact r.oc k hk
/-- what stood at the side never changes from now on -/
theorem RR.sideF (r : RR g w h H) {p : Addr} {o : HO} (hp : w.Z p = some o) : RR g ⟨w.m, upd w.F p o, fun a => if a = p then none else w.Z a⟩ h H := by
  have fp := (r.subz p o hp).2
  have hH := (r.subz p o hp).1
  have eF : ∀ a u, w.F a = some u → upd w.F p o a = some u := fun a u e => by rw [upd_ne (ne_of_none e fp)]; exact e
  have nz : ∀ b, w.Z b = none → b ≠ p := fun b e z => by rw [z, hp] at e; cases e
  refine ⟨fun a u e => ?_, fun a u e => ?_, fun k hk => ?_, r.inj, r.oc⟩
  · by_cases ha : a = p
    · subst ha
      have e : upd w.F a o a = some u := e
      rw [upd_same] at e
      cases e
      exact hH
    · have e : upd w.F p o a = some u := e
      rw [upd_ne ha] at e
      exact r.sub a u e
  · have e : (if a = p then none else w.Z a) = some u := e
    by_cases ha : a = p
    · rw [if_pos ha] at e; cases e
    · rw [if_neg ha] at e
      obtain ⟨e1, e2⟩ := r.subz a u e
      exact ⟨e1, by show upd w.F p o a = none; rw [upd_ne ha]; exact e2⟩
  · have q := r.cell k hk
    have g2 : ∀ b, w.F b = none ∧ w.Z b = none → upd w.F p o b = none ∧ (if b = p then none else w.Z b) = none := fun b hb => ⟨by rw [upd_ne (nz _ hb.2)]; exact hb.1, by rw [if_neg (nz _ hb.2)]; exact hb.2⟩
    show RC g _ h.nx _ (w.m k) (h.cell k)
    cases ec : h.cell k with
    | no => trivial
    | lst m =>
      rw [ec] at q
      obtain ⟨q1, zs, q2, q3⟩ := q
      exact ⟨g2 _ q1, zs, q2, RVs.moreF eF q3⟩
    | ins c fs =>
      rw [ec] at q
      obtain ⟨q1, dx, gs, q4, q2, q5, q3⟩ := q
      exact ⟨g2 _ q1, dx, gs, g2 _ q4, q2, q5, RVf.moreF eF q3⟩
    | dct l => rw [ec] at q; exact q
end

/-! ### what is wanted of a result -/
/-- an exception's data (none so far) -/
def RX (g : Gi) (w : Wd) (n : Nat) (x : D) (cls : Value) (d : Option Addr) (H : Hp) : Prop := True
def Post {α : Type} (g : Gi) (w : Wd) (n : Nat) (r : Res α) (X : XK) (P : Wd → AH → Hp → α → Prop) : Prop := match r with
  | .ok a h' => ∀ w' H', Ext w n w' h'.nx → RR g w' h' H' → P w' h' H' a
  | .exc x h' => ∀ w' H' cls d, Ext w n w' h'.nx → RR g w' h' H' → RX g w' h'.nx x cls d H' → X cls d H'
  | .stuck => False
theorem Post.mono {α : Type} {g : Gi} {w : Wd} {n : Nat} {r : Res α} {X : XK} {P P' : Wd → AH → Hp → α → Prop} (h : Post g w n r X P) (k : ∀ w' h' H' a, Ext w n w' h'.nx → RR g w' h' H' → P w' h' H' a → P' w' h' H' a) : Post g w n r X P' := by
  cases r with
  | ok a h' => exact fun w' H' e rr => k w' h' H' a e rr (h w' H' e rr)
  | exc x h' => exact h
  | stuck => exact h
theorem Post.bind {α β : Type} {g : Gi} {w : Wd} {n : Nat} {r : Res α} {f : α → AH → Res β} {X : XK} {P : Wd → AH → Hp → β → Prop} (q : Post g w n (r.bind f) X P) :
    Post g w n r X (fun w1 h1 H1 a => Post g w1 h1.nx (f a h1) X P) := by
  cases r with
  | ok a h1 =>
    intro w1 H1 e1 rr1
    have q : Post g w n (f a h1) X P := q
    cases e : f a h1 with
    | ok b h2 =>
      rw [e] at q
      exact fun w2 H2 e2 rr2 => q w2 H2 (e1.trans e2) rr2
    | exc x h2 =>
      rw [e] at q
      exact fun w2 H2 cls d e2 rr2 rx => q w2 H2 cls d (e1.trans e2) rr2 rx
    | stuck => rw [e] at q; exact q
  | exc x h1 => exact q
  | stuck => exact q
/-- a result at hand -/
theorem Post.now {α : Type} {g : Gi} {w : Wd} {h : AH} {H : Hp} {a : α} {X : XK} {P : Wd → AH → Hp → α → Prop} (q : Post g w h.nx (.ok a h) X P) (rr : RR g w h H) : P w h H a := q w H (Ext.refl _ _) rr
theorem Post.noexc {α : Type} {g : Gi} {w : Wd} {n : Nat} {r : Res α} {X X' : XK} {P : Wd → AH → Hp → α → Prop} (q : Post g w n (noexc r) X P) : Post g w n r X' P := by
  cases r with
  | ok a h => exact q
  | exc x h => exact q.elim
  | stuck => exact q
abbrev PV (g : Gi) (Q : VK) : Wd → AH → Hp → D → Prop := fun w h H d => ∀ x, RV g w h.nx d x → Q x H
abbrev PVs (g : Gi) (Q : List V → Hp → Prop) : Wd → AH → Hp → List D → Prop := fun w h H l => ∀ xs, RVs g w h.nx l xs → Q xs H
abbrev PB (Q : Bool → Hp → Prop) : Wd → AH → Hp → Bool → Prop := fun _ _ H b => Q b H
abbrev PF (g : Gi) (W : L2.WX) (D : Ends) : Wd → AH → Hp → Fl → Prop := fun w h H f => match f with
  | .nx e => ∀ σ, RE g w h.nx e σ → D.nx σ H
  | .bk e => ∀ σ, RE g w h.nx e σ → D.bk σ H
  | .ct e => ∀ σ, RE g w h.nx e σ → D.ct σ H
  | .rt d => ∀ x, RV g w h.nx d x → D.rt x H
  | .xc x e => ∀ σ cls d, RE g w h.nx e σ → RX g w h.nx x cls d H → W cls d σ H
def tE (g : Gi) (X : L2.St → XK) (run : Env → AH → Res D) : TE := fun σ H Q => ∃ w env h, RR g w h H ∧ RE g w h.nx env σ ∧ Post g w h.nx (run env h) (X σ) (PV g Q)
def tEs (g : Gi) (X : L2.St → XK) (run : Env → AH → Res (List D)) : TA := fun σ H Q => ∃ w env h, RR g w h H ∧ RE g w h.nx env σ ∧ Post g w h.nx (run env h) (X σ) (PVs g Q)
def tB' (g : Gi) (X : L2.St → XK) (run : Env → AH → Res Bool) : TT := fun σ H Q => ∃ w env h, RR g w h H ∧ RE g w h.nx env σ ∧ Post g w h.nx (run env h) (X σ) (PB Q)
def tS (g : Gi) (W : L2.WX) (run : Env → AH → Res Fl) : TS := fun D σ H => ∃ w env h, RR g w h H ∧ RE g w h.nx env σ ∧ Post g w h.nx (run env h) (fun _ _ _ => False) (PF g W D)
/-- a promise by what the evaluator yields -/
def spF (g : Gi) (call : Bool → Nat → List D → AH → Res D) (c : Bool) (f : Nat) : Sp := fun vs H Q E => ∃ w ds h, RR g w h H ∧ RVs g w h.nx ds vs ∧ Post g w h.nx (call c f ds h) E (PV g Q)
end Rk

set_option maxHeartbeats 1000000
/-! Rk.C: operators. -/
namespace Rk
open PySem PySem.Spec PyProof.Rows L2
/-! ### data as the library's -/
mutual
def py : D → PyData
  | .bl b => .bool b
  | .int i => .int i
  | .str s => .str (stt s)
  | .tup l => .tuple (pys l)
  | .lst l => .list (pys l)
  | _ => .none
def pys : List D → List PyData
  | [] => []
  | x :: l => py x :: pys l
end
theorem stt_len (s : List Nat) : (stt s).length = s.length := by simp [Str.length]
theorem stt_inj {a b : List Nat} (h : stt a = stt b) : a = b := congrArg (fun x : Str => x.cps.toList) h
theorem stt_eq (a b : List Nat) : (stt a == stt b) = (a == b) := by
  by_cases h : a = b
  · subst h; rw [beq_self_eq_true, beq_self_eq_true]
  · have : ¬ stt a = stt b := fun e => h (stt_inj e)
    rw [beq_eq_false_iff_ne.mpr this, beq_eq_false_iff_ne.mpr h]
section
variable {g : Gi} {w : Wd} {n : Nat} {H : Hp}
mutual
theorem dp_of (sub : ∀ a o, w.F a = some o → H a = some o) : ∀ (k : Nat) (d : D) (v : V), dpt k d = true → RV g w n d v → Dp g.K H v (py d)
  | k, .non, v, _, h => by unfold RV at h; subst h; unfold py; exact .non
  | k, .bl b, v, _, h => by unfold RV at h; subst h; unfold py; exact .bl b
  | k, .int i, v, _, h => by unfold RV at h; subst h; unfold py; exact .int i
  | k, .str s, v, _, h => by unfold RV at h; obtain ⟨rfl, _⟩ := h; unfold py; exact .str _
  | 0, .tup l, v, h, _ => by unfold dpt at h; cases h
  | 0, .lst l, v, h, _ => by unfold dpt at h; cases h
  | k + 1, .tup l, v, h, r => by
    unfold dpt at h; unfold RV at r; unfold py
    obtain ⟨a, xs, rfl, q, r⟩ := r
    exact .tup (SqT.ext sub q) (dps_of sub k l xs h r)
  | k + 1, .lst l, v, h, r => by
    unfold dpt at h; unfold RV at r; unfold py
    obtain ⟨a, xs, rfl, q, r⟩ := r
    exact .lst (SqL.of (sub _ _ q)) (dps_of sub k l xs h r)
  | k, .ref _, _, h, _ => by cases k <;> (unfold dpt at h; cases h)
  | k, .ins _ _, _, h, _ => by cases k <;> (unfold dpt at h; cases h)
  | k, .exc _ _, _, h, _ => by cases k <;> (unfold dpt at h; cases h)
  | k, .lam _, _, h, _ => by cases k <;> (unfold dpt at h; cases h)
  | k, .scr _, _, h, _ => by cases k <;> (unfold dpt at h; cases h)
  | k, .dct _, _, h, _ => by cases k <;> (unfold dpt at h; cases h)
  | k, .set _, _, h, _ => by cases k <;> (unfold dpt at h; cases h)
theorem dps_of (sub : ∀ a o, w.F a = some o → H a = some o) : ∀ (k : Nat) (l : List D) (xs : List V), dpts k l = true → RVs g w n l xs → DpAll g.K H xs (pys l)
  | k, [], xs, _, h => by rw [rvs_nil.mp h]; unfold pys; exact .nil
  | k, d :: l, xs, h, r => by
    unfold dpts at h
    rw [Bool.and_eq_true] at h
    obtain ⟨x, ys, rfl, h1, h2⟩ := rvs_cons.mp r
    unfold pys
    exact .cons (dp_of sub k d x h.1 h1) (dps_of sub k l ys h.2 h2)
end
mutual
theorem lay_of : ∀ (k : Nat) (d : D) (v : V), dpt k d = true → RV g w n d v → (py d).canLay0 = true ∧ (py d).depth ≤ k
  | k, .non, v, _, h => by unfold py; exact ⟨by simp only [PyData.canLay0], by simp only [PyData.depth]; omega⟩
  | k, .bl b, v, _, h => by unfold py; exact ⟨by simp only [PyData.canLay0], by simp only [PyData.depth]; omega⟩
  | k, .int i, v, _, h => by unfold py; exact ⟨by simp only [PyData.canLay0], by simp only [PyData.depth]; omega⟩
  | k, .str s, v, _, h => by
    unfold RV at h
    obtain ⟨_, h⟩ := h
    unfold py
    refine ⟨?_, by simp only [PyData.depth]; omega⟩
    simp only [PyData.canLay0, PyData.strOk]
    unfold okS at h
    simpa using h
  | 0, .tup l, v, h, _ => by unfold dpt at h; cases h
  | 0, .lst l, v, h, _ => by unfold dpt at h; cases h
  | k + 1, .tup l, v, h, r => by
    unfold dpt at h; unfold RV at r; unfold py
    obtain ⟨a, xs, rfl, q, r⟩ := r
    obtain ⟨h1, h2⟩ := lays_of k l xs h r
    exact ⟨by simp only [PyData.canLay0]; exact h1, by simp only [PyData.depth]; omega⟩
  | k + 1, .lst l, v, h, r => by
    unfold dpt at h; unfold RV at r; unfold py
    obtain ⟨a, xs, rfl, q, r⟩ := r
    obtain ⟨h1, h2⟩ := lays_of k l xs h r
    exact ⟨by simp only [PyData.canLay0]; exact h1, by simp only [PyData.depth]; omega⟩
  | k, .ref _, _, h, _ => by cases k <;> (unfold dpt at h; cases h)
  | k, .ins _ _, _, h, _ => by cases k <;> (unfold dpt at h; cases h)
  | k, .exc _ _, _, h, _ => by cases k <;> (unfold dpt at h; cases h)
  | k, .lam _, _, h, _ => by cases k <;> (unfold dpt at h; cases h)
  | k, .scr _, _, h, _ => by cases k <;> (unfold dpt at h; cases h)
  | k, .dct _, _, h, _ => by cases k <;> (unfold dpt at h; cases h)
  | k, .set _, _, h, _ => by cases k <;> (unfold dpt at h; cases h)
theorem lays_of : ∀ (k : Nat) (l : List D) (xs : List V), dpts k l = true → RVs g w n l xs → PyData.canLayAll0 (pys l) = true ∧ PyData.depthAll (pys l) ≤ k
  | k, [], xs, _, h => by unfold pys; exact ⟨by simp only [PyData.canLayAll0], by simp only [PyData.depthAll]; omega⟩
  | k, d :: l, xs, h, r => by
    unfold dpts at h
    rw [Bool.and_eq_true] at h
    obtain ⟨x, ys, rfl, h1, h2⟩ := rvs_cons.mp r
    unfold pys
    obtain ⟨a1, a2⟩ := lay_of k d x h.1 h1
    obtain ⟨b1, b2⟩ := lays_of k l ys h.2 h2
    exact ⟨by simp only [PyData.canLayAll0, a1, b1, Bool.and_self], by simp only [PyData.depthAll]; omega⟩
end
theorem shaped_of {d : D} {v : V} (h : dpt 60 d = true) (r : RV g w n d v) : SeqAt.shaped (py d) = true := by
  obtain ⟨h1, h2⟩ := lay_of 60 d v h r
  unfold SeqAt.shaped
  rw [h1, decide_eq_true (show (py d).depth ≤ 64 by omega)]
  rfl
mutual
theorem deq_py : ∀ (k : Nat) (d e : D), dpt k d = true → (∃ j, dpt j e = true) → deq d e = PyData.eqv (py d) (py e)
  | k, .non, e, _, he => by
    obtain ⟨j, he⟩ := he
    cases e <;> first | (unfold deq py PyData.eqv; rfl) | (cases j <;> (unfold dpt at he; cases he))
  | k, .bl b, e, _, he => by
    obtain ⟨j, he⟩ := he
    cases e <;> first | (unfold deq py PyData.eqv; rfl) | (cases j <;> (unfold dpt at he; cases he))
  | k, .int b, e, _, he => by
    obtain ⟨j, he⟩ := he
    cases e <;> first | (unfold deq py PyData.eqv; rfl) | (cases j <;> (unfold dpt at he; cases he))
  | k, .str b, e, _, he => by
    obtain ⟨j, he⟩ := he
    cases e <;> first | (unfold deq py PyData.eqv; first | rfl | exact (stt_eq _ _).symm) | (cases j <;> (unfold dpt at he; cases he))
  | 0, .tup l, v, h, _ => by unfold dpt at h; cases h
  | 0, .lst l, v, h, _ => by unfold dpt at h; cases h
  | k + 1, .tup l, e, h, he => by
    obtain ⟨j, he⟩ := he
    unfold dpt at h
    cases e with
    | tup m =>
      cases j with
      | zero => unfold dpt at he; cases he
      | succ j => unfold dpt at he; unfold deq py PyData.eqv; exact deqs_py k l m h ⟨j, he⟩
    | _ => first | (unfold deq py PyData.eqv; rfl) | (cases j <;> (unfold dpt at he; cases he))
  | k + 1, .lst l, e, h, he => by
    obtain ⟨j, he⟩ := he
    unfold dpt at h
    cases e with
    | lst m =>
      cases j with
      | zero => unfold dpt at he; cases he
      | succ j => unfold dpt at he; unfold deq py PyData.eqv; exact deqs_py k l m h ⟨j, he⟩
    | _ => first | (unfold deq py PyData.eqv; rfl) | (cases j <;> (unfold dpt at he; cases he))
  | k, .ref _, _, h, _ => by cases k <;> (unfold dpt at h; cases h)
  | k, .ins _ _, _, h, _ => by cases k <;> (unfold dpt at h; cases h)
  | k, .exc _ _, _, h, _ => by cases k <;> (unfold dpt at h; cases h)
  | k, .lam _, _, h, _ => by cases k <;> (unfold dpt at h; cases h)
  | k, .scr _, _, h, _ => by cases k <;> (unfold dpt at h; cases h)
  | k, .dct _, _, h, _ => by cases k <;> (unfold dpt at h; cases h)
  | k, .set _, _, h, _ => by cases k <;> (unfold dpt at h; cases h)
theorem deqs_py : ∀ (k : Nat) (l m : List D), dpts k l = true → (∃ j, dpts j m = true) → deqs l m = PyData.eqvAll (pys l) (pys m)
  | k, [], [], _, _ => by unfold deqs pys PyData.eqvAll; rfl
  | k, [], _ :: _, _, _ => by unfold deqs pys PyData.eqvAll; rfl
  | k, _ :: _, [], _, _ => by unfold deqs pys PyData.eqvAll; rfl
  | k, d :: l, e :: m, h, hm => by
    obtain ⟨j, hm⟩ := hm
    unfold dpts at h hm
    rw [Bool.and_eq_true] at h hm
    unfold deqs pys PyData.eqvAll
    rw [deq_py k d e h.1 ⟨j, hm.1⟩, deqs_py k l m h.2 ⟨j, hm.2⟩]
end
theorem pys_any {d : D} (hd : ∃ j, dpt j d = true) : ∀ {k : Nat} {l : List D}, dpts k l = true → ((pys l).any fun z => PyData.eqv z (py d)) = l.any fun z => deq z d
  | k, [], _ => by unfold pys; rfl
  | k, e :: l, h => by
    unfold dpts at h
    rw [Bool.and_eq_true] at h
    unfold pys
    rw [List.any_cons, List.any_cons, pys_any hd h.2, deq_py k e d h.1 hd]
end

/-! ### contexts -/
structure GX (g : Gi) (c : Bool) (k : Nat) (X : Cx) : Prop where
  K : X.K = g.K
  calm : c = true → X.calm = true
  dp : X.A.depth + 3 * k + 5 < recursionLimit
  un : X.A.units + 16 * k + 200 < cLine
  gd : X.A.guards = some []
  nd : X.N.Nodup
/-- an operation of two values by the evaluator's -/
def rO (g : Gi) (E : XK) (f : D → D → AH → Res D) : R2 := fun x y H Q => ∃ w h d e, RR g w h H ∧ RV g w h.nx d x ∧ RV g w h.nx e y ∧ Post g w h.nx (f d e h) E (PV g Q)
theorem _root_.L2.PE.imp {X : Cx} {e : Expr} {t t' : TE} (h : PE X e t) (k : ∀ σ H Q, t' σ H Q → t σ H Q) : PE X e t' := ⟨fun pins s σ H Q I q => h.run pins s σ H Q I (k _ _ _ q)⟩
theorem _root_.L2.PT.imp {X : Cx} {e : Expr} {t t' : TT} (h : PT X e t) (k : ∀ σ H Q, t' σ H Q → t σ H Q) : PT X e t' := ⟨fun pins s σ H Q I q => h.run pins s σ H Q I (k _ _ _ q)⟩
theorem _root_.L2.PS.imp {X : Cx} {e : Stmt} {t t' : TS} (h : PS X e t) (k : ∀ D σ H, t' D σ H → t D σ H) : PS X e t' := ⟨fun pins s σ H D I q => h.run pins s σ H D I (k _ _ _ q)⟩
theorem _root_.L2.PSs.imp {X : Cx} {e : List Stmt} {t t' : TS} (h : PSs X e t) (k : ∀ D σ H, t' D σ H → t D σ H) : PSs X e t' := ⟨fun pins s σ H D I q => h.run pins s σ H D I (k _ _ _ q)⟩
theorem _root_.L2.PA.imp {X : Cx} {es : List Expr} {t t' : TA} (h : PA X es t) (k : ∀ σ H Q, t' σ H Q → t σ H Q) : PA X es t' := ⟨fun pos pins s σ H Q I q => h.run pos pins s σ H Q I (k _ _ _ q)⟩
theorem _root_.L2.OpR.imp {X : Cx} {f : Value → Value → Sem Value} {r r' : R2} (h : OpR X f r) (k : ∀ x y H Q, r' x y H Q → r x y H Q) : OpR X f r' := fun pins s σ H x y v u Q I rx ry q => h pins s σ H x y v u Q I rx ry (k _ _ _ _ q)

section
variable {g : Gi} {w : Wd} {h : AH} {H : Hp} {n : Nat} {x y : V} {Q : VK} {E : XK}
theorem rv_int {i : Int} : RV g w n (.int i) x ↔ x = .int i := by unfold RV; exact Iff.rfl
theorem rv_bl {b : Bool} : RV g w n (.bl b) x ↔ x = .bl b := by unfold RV; exact Iff.rfl
theorem rv_non : RV g w n .non x ↔ x = .non := by unfold RV; exact Iff.rfl
theorem rv_str {s : List Nat} : RV g w n (.str s) x ↔ x = .str (stt s) ∧ okS s = true := by unfold RV; exact Iff.rfl
theorem rv_tup {l : List D} : RV g w n (.tup l) x ↔ ∃ a xs, x = .ref a ∧ SqT g.K w.F a xs ∧ RVs g w n l xs := by unfold RV; exact Iff.rfl
theorem rv_lst {l : List D} : RV g w n (.lst l) x ↔ ∃ a xs, x = .ref a ∧ w.F a = some (.lst xs) ∧ RVs g w n l xs := by unfold RV; exact Iff.rfl
theorem rv_ref {k : Nat} : RV g w n (.ref k) x ↔ x = .ref (w.m k) ∧ k < n := by unfold RV; exact Iff.rfl
theorem rv_scr {l : List Int} : RV g w n (.scr l) x ↔ ∃ a, x = .ref a ∧ SqL g.K w.F a (l.map V.int) := by unfold RV; exact Iff.rfl
/-- a value without a heap's help is handed on -/
theorem pv_now {d : D} (q : Post g w h.nx (.ok d h) E (PV g Q)) (rr : RR g w h H) (rv : RV g w h.nx d x) : Q x H := q.now rr x rv
/-- a new frozen thing is handed on -/
theorem pv_frz {d : D} {o : HO} {p : Addr} (q : Post g w h.nx (.ok d h) E (PV g Q)) (rr : RR g w h H) (hp : H p = none)
    (rv : RV g ⟨w.m, upd w.F p o, w.Z⟩ h.nx d (.ref p)) : Q (.ref p) (upd H p o) := by
  obtain ⟨r2, x⟩ := rr.freeze (o := o) hp
  exact q _ _ x r2 _ rv
theorem okS_app {a b : List Nat} (ha : okS a = true) (hb : okS b = true) : okS (a ++ b) = true := by
  unfold okS at *
  rw [List.all_append, ha, hb]
  rfl
theorem sizeL : sizeLine = line := by rw [sizeLine_eq]; rfl
theorem stt_app (a b : List Nat) : stt a ++ stt b = stt (a ++ b) := by
  show Str.append _ _ = _
  unfold Str.append stt
  simp
theorem rvs_ne {l : List D} {xs : List V} (r : RVs g w n l xs) : xs = [] ↔ l = [] := by
  cases l with
  | nil => rw [rvs_nil.mp r]; simp
  | cons d l =>
    obtain ⟨x, ys, rfl, _, _⟩ := rvs_cons.mp r
    simp
end
theorem if_ok {c : Prop} [Decidable c] {α : Type} {g : Gi} {w : Wd} {n : Nat} {r : Res α} {E : XK} {P : Wd → AH → Hp → α → Prop} (q : Post g w n (if c then r else .stuck) E P) : c ∧ Post g w n r E P := by
  by_cases hc : c
  · rw [if_pos hc] at q; exact ⟨hc, q⟩
  · rw [if_neg hc] at q; exact q.elim
end Rk

set_option maxHeartbeats 1000000
/-! Rk.D: the operations' rules. -/
namespace Rk
open PySem PySem.Spec PyProof.Rows L2
theorem OpR.cas {X : Cx} {f : Value → Value → Sem Value} {r : R2} (h : ∀ x y H Q, r x y H Q → ∃ r', OpR X f r' ∧ r' x y H Q) : OpR X f r := fun pins s σ H x y v u Q I rx ry q => by
  obtain ⟨r', o, q'⟩ := h x y H Q q
  exact o pins s σ H x y v u Q I rx ry q'
theorem rvs_rep {g : Gi} {w : Wd} {n : Nat} {l : List D} {xs : List V} (r : RVs g w n l xs) : ∀ k : Nat, RVs g w n (List.replicate k l).flatten (List.replicate k xs).flatten
  | 0 => RVs.nil
  | k + 1 => by
    rw [List.replicate_succ, List.replicate_succ, List.flatten_cons, List.flatten_cons]
    exact r.append (rvs_rep r k)
section
variable {X : Cx} {g : Gi} {c : Bool} {k : Nat} {E : XK}
theorem stuckE {α : Type} {w : Wd} {n : Nat} {P : Wd → AH → Hp → α → Prop} {p : Prop} (q : Post g w n (.stuck : Res α) E P) : p := q.elim
/-- + - * // % ** by the evaluator -/
theorem op_bin (G : GX g c k X) (o : Operator) : OpR X (binaryOp o) (rO g E (binop o)) := by
  refine OpR.cas fun x y H Q ⟨w, h, d, e, rr, rd, re, q⟩ => ?_
  have hK := G.K
  unfold binop at q
  split at q
  · rw [rv_int] at rd re; subst rd re
    exact ⟨_, op_add, _, _, rfl, rfl, pv_now q rr (rv_int.mpr rfl)⟩
  · rw [rv_str] at rd re
    obtain ⟨rfl, k1⟩ := rd
    obtain ⟨rfl, k2⟩ := re
    obtain ⟨hl, q⟩ := if_ok q
    refine ⟨_, op_add_str, _, _, rfl, rfl, by rw [stt_len, stt_len, sizeL]; exact hl, ?_⟩
    rw [stt_app]
    exact pv_now q rr (rv_str.mpr ⟨rfl, okS_app k1 k2⟩)
  · rw [rv_lst] at rd re
    obtain ⟨a, xs, rfl, q1, r1⟩ := rd
    obtain ⟨b, ys, rfl, q2, r2⟩ := re
    obtain ⟨hl, q⟩ := if_ok q
    refine ⟨_, op_cat, _, _, _, _, rfl, rfl, rr.sub _ _ q1, rr.sub _ _ q2, by rw [r1.length, r2.length, sizeL]; exact hl, fun p hp => ?_⟩
    exact pv_frz q rr hp (rv_lst.mpr ⟨p, _, rfl, upd_same, (r1.append r2).ext (rr.freeze hp).2⟩)
  · rw [rv_tup] at rd re
    obtain ⟨a, xs, rfl, q1, r1⟩ := rd
    obtain ⟨b, ys, rfl, q2, r2⟩ := re
    obtain ⟨hl, q⟩ := if_ok q
    refine ⟨_, op_catA, _, _, _, _, rfl, rfl, by rw [hK]; exact SqT.ext rr.sub q1, by rw [hK]; exact SqT.ext rr.sub q2, by rw [r1.length, r2.length, sizeL]; exact hl, fun e => ?_, fun _ e => ?_, fun _ _ p hp => ?_⟩
    · rw [(rvs_ne r1).mp e, List.nil_append] at q
      exact pv_now q rr (rv_tup.mpr ⟨_, _, rfl, q2, r2⟩)
    · rw [(rvs_ne r2).mp e, List.append_nil] at q
      exact pv_now q rr (rv_tup.mpr ⟨_, _, rfl, q1, r1⟩)
    · exact pv_frz q rr hp (rv_tup.mpr ⟨p, _, rfl, .inl (.inl upd_same), (r1.append r2).ext (rr.freeze hp).2⟩)
  · rw [rv_int] at rd re; subst rd re
    exact ⟨_, op_sub, _, _, rfl, rfl, pv_now q rr (rv_int.mpr rfl)⟩
  · rw [rv_int] at rd re; subst rd re
    obtain ⟨hl, q⟩ := if_ok q
    exact ⟨_, op_mul, _, _, rfl, rfl, hl, pv_now q rr (rv_int.mpr rfl)⟩
  · rw [rv_tup] at rd; rw [rv_int] at re; subst re
    obtain ⟨a, xs, rfl, q1, r1⟩ := rd
    obtain ⟨⟨h0, h1, h2, h3⟩, q⟩ := if_ok q
    refine ⟨_, op_repT, a, _, xs, rfl, rfl, by rw [hK]; exact SqT.ext rr.sub q1, fun z => ?_, h1, h2, by rw [r1.length]; exact h3, fun p hp => ?_⟩
    · rw [(rvs_ne r1).mp z] at h0; cases h0
    · exact pv_frz q rr hp (rv_tup.mpr ⟨p, _, rfl, .inl (.inl upd_same), (rvs_rep r1 _).ext (rr.freeze hp).2⟩)
  · rw [rv_int] at rd re; subst rd re
    obtain ⟨hl, q⟩ := if_ok q
    exact ⟨_, op_mod, _, _, rfl, rfl, hl, pv_now q rr (rv_int.mpr rfl)⟩
  · rw [rv_int] at rd re; subst rd re
    obtain ⟨hl, q⟩ := if_ok q
    exact ⟨_, op_fdiv, _, _, rfl, rfl, hl, pv_now q rr (rv_int.mpr rfl)⟩
  · rw [rv_int] at rd re; subst rd re
    obtain ⟨hl, q⟩ := if_ok q
    exact ⟨_, op_pow, _, _, rfl, rfl, hl, pv_now q rr (rv_int.mpr rfl)⟩
  · exact q.elim
theorem lift_ok {α : Type} {o : Option α} {w : Wd} {h : AH} {P : Wd → AH → Hp → α → Prop} (q : Post g w h.nx (lift o h) E P) : ∃ a, o = some a ∧ Post g w h.nx (.ok a h) E P := by
  cases o with
  | none => exact q.elim
  | some a => exact ⟨a, rfl, q⟩
theorem lift_map {α β : Type} {o : Option α} {f : α → β} {w : Wd} {h : AH} {P : Wd → AH → Hp → β → Prop} (q : Post g w h.nx (lift (o.map f) h) E P) : ∃ a, o = some a ∧ Post g w h.nx (.ok (f a) h) E P := by
  obtain ⟨b, e, q⟩ := lift_ok q
  cases o with
  | none => cases e
  | some a => cases e; exact ⟨a, rfl, q⟩
theorem opt_if {c : Prop} [Decidable c] {α : Type} {a b : α} (h : (if c then some a else none) = some b) : c ∧ a = b := by
  by_cases hc : c
  · rw [if_pos hc] at h; exact ⟨hc, Option.some.inj h⟩
  · rw [if_neg hc] at h; cases h
theorem notin_tuple (hu : X.A.units + 65 < cLine) : OpR X (compareOp .NotIn) (fun x y H Q => ∃ d ds, Dp X.K H x d ∧ Dp X.K H y (.tuple ds) ∧ SeqAt.shaped d = true ∧ SeqAt.shaped (.tuple ds) = true ∧ Q (.bl (!ds.any fun z => PyData.eqv z d)) H) := by
  intro pins s σ H x y v u Q I rx ry h
  obtain ⟨d, ds, hd, he, sd, se, q⟩ := h
  obtain ⟨as, r1⟩ := Dp.reads I d x v hd rx
  obtain ⟨bs, r2⟩ := Dp.reads I (.tuple ds) y u he ry
  exact SeqAt.notIn_tuple_reads r2 r1 (SeqAt.canLay_of_shaped se) (SeqAt.canLay_of_shaped sd) (room_in_shaped sd hu) ⟨.bl _, H, I, rfl, q⟩
theorem in_tuple (hu : X.A.units + 65 < cLine) : OpR X (compareOp .In) (fun x y H Q => ∃ d ds, Dp X.K H x d ∧ Dp X.K H y (.tuple ds) ∧ SeqAt.shaped d = true ∧ SeqAt.shaped (.tuple ds) = true ∧ Q (.bl (ds.any fun z => PyData.eqv z d)) H) := by
  intro pins s σ H x y v u Q I rx ry h
  obtain ⟨d, ds, hd, he, sd, se, q⟩ := h
  obtain ⟨as, r1⟩ := Dp.reads I d x v hd rx
  obtain ⟨bs, r2⟩ := Dp.reads I (.tuple ds) y u he ry
  exact SeqAt.in_tuple_reads r2 r1 (SeqAt.canLay_of_shaped se) (SeqAt.canLay_of_shaped sd) (room_in_shaped sd hu) ⟨.bl _, H, I, rfl, q⟩
theorem dpt_tup {n : Nat} {l : List D} (h : dpts n l = true) : dpt (n + 1) (.tup l) = true := by unfold dpt; exact h
theorem dpt_lst {n : Nat} {l : List D} (h : dpts n l = true) : dpt (n + 1) (.lst l) = true := by unfold dpt; exact h
theorem shaped_of61 {w : Wd} {n : Nat} {d : D} {v : V} (h : dpt 61 d = true) (r : RV g w n d v) : SeqAt.shaped (py d) = true := by
  obtain ⟨h1, h2⟩ := lay_of 61 d v h r
  unfold SeqAt.shaped
  rw [h1, decide_eq_true (show (py d).depth ≤ 64 by omega)]
  rfl
theorem dp_tup {w : Wd} {n : Nat} {H : Hp} {l : List D} {v : V} (sub : ∀ a o, w.F a = some o → H a = some o) (hc : dpts 60 l = true) (r : RV g w n (.tup l) v) : Dp g.K H v (.tuple (pys l)) ∧ SeqAt.shaped (.tuple (pys l)) = true := by
  have ht := dpt_tup hc
  have z := dp_of sub 61 _ v ht r
  have z2 := shaped_of61 ht r
  unfold py at z z2
  exact ⟨z, z2⟩
theorem dp_lst {w : Wd} {n : Nat} {H : Hp} {l : List D} {v : V} (sub : ∀ a o, w.F a = some o → H a = some o) (hc : dpts 60 l = true) (r : RV g w n (.lst l) v) : Dp g.K H v (.list (pys l)) ∧ SeqAt.shaped (.list (pys l)) = true := by
  have ht := dpt_lst hc
  have z := dp_of sub 61 _ v ht r
  have z2 := shaped_of61 ht r
  unfold py at z z2
  exact ⟨z, z2⟩
/-- what a comparison by the evaluator asks -/
def rC (g : Gi) (o : CmpOp) : R2 := fun x y H Q => ∃ w h d e b, RR g w h H ∧ RV g w h.nx d x ∧ RV g w h.nx e y ∧ cmpop o d e = some b ∧ Q (.bl b) H
theorem op_cmp (G : GX g c k X) (o : CmpOp) : OpR X (compareOp o) (rC g o) := by
  refine OpR.cas fun x y H Q ⟨w, h, d, e, b, rr, rd, re, hb, q⟩ => ?_
  have hK := G.K
  have hu : X.A.units + 65 < cLine := by have := G.un; omega
  unfold cmpop at hb
  split at hb
  · obtain ⟨hc, rfl⟩ := opt_if hb
    rw [Bool.and_eq_true] at hc
    rw [deq_py 60 d e hc.1 ⟨_, hc.2⟩] at q
    exact ⟨_, op_eqD (by omega), _, _, by rw [hK]; exact dp_of rr.sub 60 d x hc.1 rd, by rw [hK]; exact dp_of rr.sub 60 e y hc.2 re, shaped_of hc.1 rd, shaped_of hc.2 re, q⟩
  · obtain ⟨hc, rfl⟩ := opt_if hb
    rw [Bool.and_eq_true] at hc
    rw [deq_py 60 d e hc.1 ⟨_, hc.2⟩] at q
    exact ⟨_, op_neD (by omega), _, _, by rw [hK]; exact dp_of rr.sub 60 d x hc.1 rd, by rw [hK]; exact dp_of rr.sub 60 e y hc.2 re, shaped_of hc.1 rd, shaped_of hc.2 re, q⟩
  · split at hb
    · rw [rv_int] at rd re; subst rd re; cases hb
      exact ⟨_, op_lt, _, _, rfl, rfl, q⟩
    · cases hb
  · split at hb
    · rw [rv_int] at rd re; subst rd re; cases hb
      exact ⟨_, op_le, _, _, rfl, rfl, q⟩
    · cases hb
  · split at hb
    · rw [rv_int] at rd re; subst rd re; cases hb
      exact ⟨_, op_gt, _, _, rfl, rfl, q⟩
    · cases hb
  · split at hb
    · rw [rv_int] at rd re; subst rd re; cases hb
      exact ⟨_, op_ge, _, _, rfl, rfl, q⟩
    · cases hb
  · split at hb
    · rw [rv_str] at rd re
      obtain ⟨rfl, _⟩ := rd
      obtain ⟨rfl, _⟩ := re
      cases hb
      exact ⟨_, op_in_sign, _, _, rfl, rfl, q⟩
    · skip
      obtain ⟨hc, rfl⟩ := opt_if hb
      rw [Bool.and_eq_true] at hc
      obtain ⟨hp, hs⟩ := dp_tup rr.sub hc.2 re
      rw [← hK] at hp
      exact ⟨_, in_tuple hu, _, _, by rw [hK]; exact dp_of rr.sub 60 d x hc.1 rd, hp, shaped_of hc.1 rd, hs, by rw [pys_any ⟨_, hc.1⟩ hc.2]; exact q⟩
    · skip
      obtain ⟨hc, rfl⟩ := opt_if hb
      rw [Bool.and_eq_true] at hc
      obtain ⟨hp, hs⟩ := dp_lst rr.sub hc.2 re
      rw [← hK] at hp
      exact ⟨_, op_inD hu, _, _, by rw [hK]; exact dp_of rr.sub 60 d x hc.1 rd, hp, shaped_of hc.1 rd, hs, by rw [pys_any ⟨_, hc.1⟩ hc.2]; exact q⟩
    · cases hb
  · split at hb
    · rw [rv_str] at rd re
      obtain ⟨rfl, _⟩ := rd
      obtain ⟨rfl, _⟩ := re
      cases hb
      exact ⟨_, op_notIn_sign, _, _, rfl, rfl, q⟩
    · skip
      obtain ⟨hc, rfl⟩ := opt_if hb
      rw [Bool.and_eq_true] at hc
      obtain ⟨hp, hs⟩ := dp_tup rr.sub hc.2 re
      rw [← hK] at hp
      exact ⟨_, notin_tuple hu, _, _, by rw [hK]; exact dp_of rr.sub 60 d x hc.1 rd, hp, shaped_of hc.1 rd, hs, by rw [pys_any ⟨_, hc.1⟩ hc.2]; exact q⟩
    · skip
      obtain ⟨hc, rfl⟩ := opt_if hb
      rw [Bool.and_eq_true] at hc
      obtain ⟨hp, hs⟩ := dp_lst rr.sub hc.2 re
      rw [← hK] at hp
      exact ⟨_, op_notInD hu, _, _, by rw [hK]; exact dp_of rr.sub 60 d x hc.1 rd, hp, shaped_of hc.1 rd, hs, by rw [pys_any ⟨_, hc.1⟩ hc.2]; exact q⟩
    · cases hb
  · cases hb
/-! ### subscripts -/
theorem atI_rv {w : Wd} {n : Nat} {l : List D} {xs : List V} {i : Int} {d : D} (r : RVs g w n l xs) (h : atI l i = some d) : ∃ v, atI xs i = some v ∧ RV g w n d v := by
  unfold atI at *
  rw [r.length]
  cases e : ixN l.length i with
  | none => rw [e] at h; cases h
  | some j =>
    rw [e] at h
    exact r.get h
theorem IxR.cas {r : R2} (h : ∀ x y H Q, r x y H Q → ∃ r', IxR X r' ∧ r' x y H Q) : IxR X r := fun value slice pins s σ H x y v u Q I rx ry q hs => by
  obtain ⟨r', o, q'⟩ := h x y H Q q
  exact o value slice pins s σ H x y v u Q I rx ry q' hs
theorem cell_lst {w : Wd} {h : AH} {H : Hp} {m : Nat} {l : List D} (rr : RR g w h H) (hm : m < h.nx) (e : h.cell m = .lst l) : ∃ xs, H (w.m m) = some (.lst xs) ∧ RVs g w h.nx l xs := by
  have q := rr.cell m hm
  rw [e] at q
  exact q.2
theorem okS_get {s : List Nat} {i : Nat} {c : Nat} (h : okS s = true) (e : s[i]? = some c) : okS [c] = true := by
  unfold okS at *
  have := List.all_eq_true.mp h c (List.mem_of_getElem? e)
  simpa using this
theorem ix_ev (G : GX g c k X) : IxR X (rO g E idxop) := by
  refine IxR.cas fun x y H Q ⟨w, h, d, e, rr, rd, re, q⟩ => ?_
  have hK := G.K
  unfold idxop at q
  split at q
  · rw [rv_lst] at rd; rw [rv_int] at re; subst re
    obtain ⟨a, xs, rfl, q1, r1⟩ := rd
    obtain ⟨z, hz, q⟩ := lift_ok q
    obtain ⟨v, hv, rv⟩ := atI_rv r1 hz
    exact ⟨_, ix_list, _, _, _, _, rfl, rfl, SqL.of (rr.sub _ _ q1), hv, pv_now q rr rv⟩
  · rw [rv_tup] at rd; rw [rv_int] at re; subst re
    obtain ⟨a, xs, rfl, q1, r1⟩ := rd
    obtain ⟨z, hz, q⟩ := lift_ok q
    obtain ⟨v, hv, rv⟩ := atI_rv r1 hz
    exact ⟨_, ix_tup, _, _, _, _, rfl, rfl, by rw [hK]; exact SqT.ext rr.sub q1, hv, pv_now q rr rv⟩
  · rw [rv_str] at rd; rw [rv_int] at re; subst re
    obtain ⟨rfl, ks⟩ := rd
    obtain ⟨hl, q⟩ := if_ok q
    obtain ⟨z, hz, q⟩ := lift_map q
    refine ⟨_, ix_str, _, _, z, rfl, rfl, by rw [stt_len, sizeL]; exact hl, hz, pv_now q rr (rv_str.mpr ⟨rfl, ?_⟩)⟩
    unfold atI at hz
    obtain ⟨j, _, hj⟩ := Option.bind_eq_some_iff.mp hz
    exact okS_get ks hj
  · rename_i m i
    rw [rv_ref] at rd; rw [rv_int] at re; subst re
    obtain ⟨rfl, hm⟩ := rd
    cases ec : h.cell m with
    | lst l =>
      rw [ec] at q
      obtain ⟨xs, q1, r1⟩ := cell_lst rr hm ec
      obtain ⟨z, hz, q⟩ := lift_ok q
      obtain ⟨v, hv, rv⟩ := atI_rv r1 hz
      exact ⟨_, ix_list, _, _, _, _, rfl, rfl, SqL.of q1, hv, pv_now q rr rv⟩
    | _ => rw [ec] at q; exact q.elim
  · exact q.elim
/-! ### slices -/
def rS (g : Gi) (E : XK) : V → Option Int → Option Int → Hp → VK → Prop := fun x lo hi H Q => ∃ w h d, RR g w h H ∧ RV g w h.nx d x ∧ Post g w h.nx (slcop d lo hi h) E (PV g Q)
theorem SlR.cas {r : V → Option Int → Option Int → Hp → VK → Prop} (h : ∀ x lo hi H Q, r x lo hi H Q → ∃ r', SlR X r' ∧ r' x lo hi H Q) : SlR X r := fun pins s σ H x v vl vu lo hi sl Q I rx a b cc q => by
  obtain ⟨r', o, q'⟩ := h x lo hi H Q q
  exact o pins s σ H x v vl vu lo hi sl Q I rx a b cc q'
theorem cut_stt (s : List Nat) (lo hi : Option Int) : cutS (stt s) lo hi = stt (cut s lo hi) := by
  unfold cutS cut
  rw [stt_len]
theorem okS_cut {s : List Nat} (h : okS s = true) (lo hi : Option Int) : okS (cut s lo hi) = true := by
  unfold okS at *
  rw [List.all_eq_true] at *
  exact fun x hx => h x (List.mem_of_mem_drop (List.mem_of_mem_take hx))
theorem rvs_ints (w : Wd) (n : Nat) : ∀ l : List Int, RVs g w n (l.map D.int) (l.map V.int)
  | [] => RVs.nil
  | i :: l => RVs.mk (rv_int.mpr rfl) (rvs_ints w n l)
theorem cut_map {α β : Type} (f : α → β) (l : List α) (lo hi : Option Int) : cut (l.map f) lo hi = (cut l lo hi).map f := by
  unfold cut
  rw [List.length_map, List.map_take, List.map_drop]
theorem cutV_cut (xs : List V) (lo hi : Option Int) : cutV xs lo hi = cut xs lo hi := rfl
theorem cut_whole {α : Type} {l : List α} {lo hi : Option Int} (h : HT.sIx l.length 0 lo = 0 ∧ HT.sIx l.length l.length hi = l.length) : cut l lo hi = l := by
  unfold cut
  rw [h.1, h.2, List.drop_zero, Nat.sub_zero, List.take_length]
theorem sl_ev (G : GX g c k X) : SlR X (rS g E) := by
  refine SlR.cas fun x lo hi H Q ⟨w, h, d, rr, rd, q⟩ => ?_
  have hK := G.K
  unfold slcop at q
  split at q
  · rw [rv_str] at rd
    obtain ⟨rfl, ks⟩ := rd
    obtain ⟨hl, q⟩ := if_ok q
    exact ⟨_, sl_str, _, rfl, by rw [stt_len, sizeL]; exact hl, by rw [cut_stt]; exact pv_now q rr (rv_str.mpr ⟨rfl, okS_cut ks _ _⟩)⟩
  · rw [rv_lst] at rd
    obtain ⟨a, xs, rfl, q1, r1⟩ := rd
    exact ⟨_, sl_list, _, _, rfl, SqL.of (rr.sub _ _ q1), fun p hp => pv_frz q rr hp (rv_lst.mpr ⟨p, _, rfl, upd_same, (r1.cut lo hi).ext (rr.freeze hp).2⟩)⟩
  · rw [rv_tup] at rd
    obtain ⟨a, xs, rfl, q1, r1⟩ := rd
    refine ⟨_, sl_tupA, _, _, rfl, by rw [hK]; exact SqT.ext rr.sub q1, fun e => ?_, fun _ p hp => ?_⟩
    · rw [r1.length] at e
      rw [cut_whole e] at q
      exact pv_now q rr (rv_tup.mpr ⟨_, _, rfl, q1, r1⟩)
    · exact pv_frz q rr hp (rv_tup.mpr ⟨p, _, rfl, .inl (.inl upd_same), (r1.cut lo hi).ext (rr.freeze hp).2⟩)
  · rename_i l
    rw [rv_scr] at rd
    obtain ⟨a, rfl, q1⟩ := rd
    refine ⟨_, sl_list, _, _, rfl, by rw [hK]; exact SqL.ext rr.sub q1, fun p hp => pv_frz q rr hp (rv_lst.mpr ⟨p, _, rfl, upd_same, ?_⟩)⟩
    rw [cutV_cut, cut_map]
    exact rvs_ints _ _ _
  · rename_i m
    rw [rv_ref] at rd
    obtain ⟨rfl, hm⟩ := rd
    cases ec : h.cell m with
    | lst l =>
      rw [ec] at q
      obtain ⟨xs, q1, r1⟩ := cell_lst rr hm ec
      exact ⟨_, sl_list, _, _, rfl, SqL.of q1, fun p hp => pv_frz q rr hp (rv_lst.mpr ⟨p, _, rfl, upd_same, (r1.cut lo hi).ext (rr.freeze hp).2⟩)⟩
    | _ => rw [ec] at q; exact q.elim
  · exact q.elim
end
end Rk

set_option maxHeartbeats 1000000
/-! Rk.E: built-ins, truth, repr. -/
namespace Rk
open PySem PySem.Spec PyProof.Rows L2
section
variable {X : Cx} {g : Gi} {c : Bool} {k : Nat} {E : XK}
theorem CallR.cas {f : Value} {r : List V → Hp → VK → Prop} (h : ∀ xs H Q, r xs H Q → ∃ r', CallR X f r' ∧ r' xs H Q) : CallR X f r := fun pins s σ H xs us Q I rx q => by
  obtain ⟨r', o, q'⟩ := h xs H Q q
  exact o pins s σ H xs us Q I rx q'
theorem MtR.cas {id : String} {r : V → List V → Hp → VK → Prop} (h : ∀ x xs H Q, r x xs H Q → ∃ r', MtR X id r' ∧ r' x xs H Q) : MtR X id r := fun pins s σ H x xs v us Q I rx rs q => by
  obtain ⟨r', o, q'⟩ := h x xs H Q q
  exact o pins s σ H x xs v us Q I rx rs q'
/-- a built-in of one value by the evaluator -/
def rB (g : Gi) (E : XK) (b : Bi) : List V → Hp → VK → Prop := fun xs H Q => ∃ w h d x, RR g w h H ∧ RV g w h.nx d x ∧ xs = [x] ∧ Post g w h.nx (biop b d h) E (PV g Q)
def bname : Bi → Str
  | .len => "len" | .all => "all" | .any => "any" | .tuple => "tuple" | .list => "list" | .int => "int" | .str => "str" | .abs => "abs"
def bval : Bi → Value
  | .len => .builtin "len" | .all => .builtin "all" | .any => .builtin "any" | .tuple => .type "tuple" | .list => .type "list" | .int => .type "int" | .str => .type "str" | .abs => .builtin "abs"
theorem bls_rv {w : Wd} {n : Nat} : ∀ {l : List D} {bs : List Bool} {xs : List V}, bls l = some bs → RVs g w n l xs → xs = bs.map V.bl
  | [], bs, xs, h, r => by cases h; exact rvs_nil.mp r
  | d :: l, bs, xs, h, r => by
    obtain ⟨x, ys, rfl, h1, h2⟩ := rvs_cons.mp r
    cases d with
    | bl b =>
      have h : (bls l).map (b :: ·) = some bs := h
      obtain ⟨cs, e, rfl⟩ := Option.map_eq_some_iff.mp h
      rw [rv_bl.mp h1, bls_rv e h2]
      rfl
    | _ => cases h
theorem strL_rv {w : Wd} {n : Nat} : ∀ {l : List D} {ys : List (List Nat)} {xs : List V}, strL l = some ys → RVs g w n l xs → xs = (ys.map stt).map V.str ∧ ∀ y ∈ ys, okS y = true
  | [], ys, xs, h, r => by cases h; exact ⟨rvs_nil.mp r, fun _ h => nomatch h⟩
  | d :: l, ys, xs, h, r => by
    obtain ⟨x, zs, rfl, h1, h2⟩ := rvs_cons.mp r
    cases d with
    | str s =>
      have h : (strL l).map (s :: ·) = some ys := h
      obtain ⟨cs, e, rfl⟩ := Option.map_eq_some_iff.mp h
      obtain ⟨e1, o1⟩ := rv_str.mp h1
      obtain ⟨e2, o2⟩ := strL_rv e h2
      rw [e1, e2]
      exact ⟨rfl, fun y hy => by
        rcases List.mem_cons.mp hy with rfl | hy
        · exact o1
        · exact o2 y hy⟩
    | _ => cases h
theorem SqR.tl {w : Wd} {h : AH} {H : Hp} {a : Addr} {xs : List V} (rr : RR g w h H) (e : w.F a = some (.lst xs)) : SqL X.K H a xs := SqL.of (rr.sub _ _ e)
theorem call_bi (G : GX g c k X) (hc : c = true) (b : Bi) : CallR X (bval b) (rB g E b) := by
  cases b with
  | len =>
    refine CallR.cas fun xs H Q ⟨w, h, d, x, rr, rd, ex, q⟩ => ?_
    subst ex
    have hK := G.K
    simp only [biop] at q
    cases d with
    | str s =>
      obtain ⟨rfl, ks⟩ := rv_str.mp rd
      obtain ⟨hl, q⟩ := if_ok q
      refine ⟨_, call_len_str, _, rfl, by rw [stt_len, sizeL]; exact hl, ?_⟩
      rw [stt_len]
      exact pv_now q rr (rv_int.mpr rfl)
    | lst l =>
      obtain ⟨a, xs, rfl, q1, r1⟩ := rv_lst.mp rd
      refine ⟨_, call_len_seq, _, _, rfl, .inl (SqL.of (rr.sub _ _ q1)), ?_⟩
      rw [r1.length]
      exact pv_now q rr (rv_int.mpr rfl)
    | tup l =>
      obtain ⟨a, xs, rfl, q1, r1⟩ := rv_tup.mp rd
      refine ⟨_, call_len_seq, _, _, rfl, .inr (by rw [hK]; exact SqT.ext rr.sub q1), ?_⟩
      rw [r1.length]
      exact pv_now q rr (rv_int.mpr rfl)
    | ref m =>
      obtain ⟨rfl, hm⟩ := rv_ref.mp rd
      cases ec : h.cell m with
      | lst l =>
        simp only [ec] at q
        obtain ⟨xs, q1, r1⟩ := cell_lst rr hm ec
        refine ⟨_, call_len_seq, _, _, rfl, .inl (SqL.of q1), ?_⟩
        rw [r1.length]
        exact pv_now q rr (rv_int.mpr rfl)
      | _ => simp only [ec] at q; exact q.elim
    | _ => exact q.elim
  | all =>
    refine CallR.cas fun xs H Q ⟨w, h, d, x, rr, rd, ex, q⟩ => ?_
    subst ex
    simp only [biop] at q
    cases d with
    | lst l =>
      obtain ⟨a, xs, rfl, q1, r1⟩ := rv_lst.mp rd
      obtain ⟨bs, e, q⟩ := lift_map q
      have ex := bls_rv e r1
      subst ex
      exact ⟨_, cr_all (G.calm hc), _, _, rfl, SqL.of (rr.sub _ _ q1), pv_now q rr (rv_bl.mpr rfl)⟩
    | _ => exact q.elim
  | any =>
    refine CallR.cas fun xs H Q ⟨w, h, d, x, rr, rd, ex, q⟩ => ?_
    subst ex
    simp only [biop] at q
    cases d with
    | lst l =>
      obtain ⟨a, xs, rfl, q1, r1⟩ := rv_lst.mp rd
      obtain ⟨bs, e, q⟩ := lift_map q
      have ex := bls_rv e r1
      subst ex
      exact ⟨_, cr_any (G.calm hc), _, _, rfl, SqL.of (rr.sub _ _ q1), pv_now q rr (rv_bl.mpr rfl)⟩
    | _ => exact q.elim
  | tuple =>
    refine CallR.cas fun xs H Q ⟨w, h, d, x, rr, rd, ex, q⟩ => ?_
    subst ex
    have hK := G.K
    simp only [biop] at q
    cases d with
    | lst l =>
      obtain ⟨a, xs, rfl, q1, r1⟩ := rv_lst.mp rd
      exact ⟨_, call_tuple_of, _, _, rfl, .inl ⟨SqL.of (rr.sub _ _ q1), fun p hp => pv_frz q rr hp (rv_tup.mpr ⟨p, _, rfl, .inl (.inl upd_same), r1.ext (rr.freeze hp).2⟩)⟩⟩
    | tup l =>
      obtain ⟨a, xs, rfl, q1, r1⟩ := rv_tup.mp rd
      exact ⟨_, call_tupleT, _, _, rfl, by rw [hK]; exact SqT.ext rr.sub q1, pv_now q rr rd⟩
    | _ => exact q.elim
  | list =>
    refine CallR.cas fun xs H Q ⟨w, h, d, x, rr, rd, ex, q⟩ => ?_
    subst ex
    have hK := G.K
    simp only [biop] at q
    cases d with
    | lst l =>
      obtain ⟨a, xs, rfl, q1, r1⟩ := rv_lst.mp rd
      exact ⟨_, call_list_of, _, _, rfl, .inl (SqL.of (rr.sub _ _ q1)), fun p hp => pv_frz q rr hp (rv_lst.mpr ⟨p, _, rfl, upd_same, r1.ext (rr.freeze hp).2⟩)⟩
    | tup l =>
      obtain ⟨a, xs, rfl, q1, r1⟩ := rv_tup.mp rd
      exact ⟨_, call_list_of, _, _, rfl, .inr (by rw [hK]; exact SqT.ext rr.sub q1), fun p hp => pv_frz q rr hp (rv_lst.mpr ⟨p, _, rfl, upd_same, r1.ext (rr.freeze hp).2⟩)⟩
    | ref m =>
      obtain ⟨rfl, hm⟩ := rv_ref.mp rd
      cases ec : h.cell m with
      | lst l =>
        simp only [ec] at q
        obtain ⟨xs, q1, r1⟩ := cell_lst rr hm ec
        exact ⟨_, call_list_of, _, _, rfl, .inl (SqL.of q1), fun p hp => pv_frz q rr hp (rv_lst.mpr ⟨p, _, rfl, upd_same, r1.ext (rr.freeze hp).2⟩)⟩
      | _ => simp only [ec] at q; exact q.elim
    | _ => exact q.elim
  | int =>
    refine CallR.cas fun xs H Q ⟨w, h, d, x, rr, rd, ex, q⟩ => ?_
    subst ex
    simp only [biop] at q
    cases d with
    | int i =>
      rw [rv_int.mp rd]
      exact ⟨_, call_int1, .inl ⟨_, rfl, pv_now q rr (rv_int.mpr rfl)⟩⟩
    | _ => exact q.elim
  | str =>
    refine CallR.cas fun xs H Q ⟨w, h, d, x, rr, rd, ex, q⟩ => ?_
    exact q.elim
  | abs =>
    refine CallR.cas fun xs H Q ⟨w, h, d, x, rr, rd, ex, q⟩ => ?_
    exact q.elim
/-! ### isinstance -/
def kname : IK → String
  | .int => "int" | .str => "str" | .bool => "bool" | .tuple => "tuple" | .list => "list" | _ => ""
/-- a kind that is one built-in type -/
def ksimple : IK → Bool
  | .int | .str | .bool | .tuple | .list => true
  | _ => false
def tyn : D → String
  | .non => "NoneType" | .bl _ => "bool" | .int _ => "int" | .str _ => "str" | .tup _ => "tuple" | .lst _ => "list" | _ => ""
theorem tyx_of {w : Wd} {h : AH} {H : Hp} {d : D} {x : V} {K : PySem.W.Frag} (hK : K = g.K) (rr : RR g w h H) (rv : RV g w h.nx d x) {kk : IK} {b : Bool} (hi : isk d kk = some b) : TyX K H x (.type (tyn d)) := by
  cases d with
  | non => rw [rv_non.mp rv]; exact .base .non
  | bl b => rw [rv_bl.mp rv]; exact .base (.bl _)
  | int b => rw [rv_int.mp rv]; exact .base (.int _)
  | str b => rw [(rv_str.mp rv).1]; exact .base (.str _)
  | tup l =>
    obtain ⟨a, xs, rfl, q1, r1⟩ := rv_tup.mp rv
    rcases q1 with (q1 | ⟨o, q1⟩) | ⟨o, its, n, q1, q2, _⟩
    · exact .base (.tup (rr.sub _ _ q1))
    · exact .fTuple (rr.sub _ _ q1)
    · exact .kTuple (by rw [hK]; exact q1) q2
  | lst l =>
    obtain ⟨a, xs, rfl, q1, r1⟩ := rv_lst.mp rv
    exact .base (.lst (rr.sub _ _ q1))
  | _ => cases kk <;> cases hi
theorem kit_tyn {d : D} {kk : IK} {b : Bool} {K : PySem.W.Frag} (hs : ksimple kk = true) (hi : isk d kk = some b) : PySem.W.kitOne K (.type (tyn d)) (.type (kname kk)) = some b := by
  have e : ∀ {a z : String} {r : Bool}, kitB a z = some r → r = b → PySem.W.kitOne K (.type a) (.type z) = some b := fun h e => e ▸ kit_ty h
  cases kk <;> first
    | exact absurd hs (by decide)
    | (cases d <;> first
        | (cases hi; simp only [tyn, kname]; exact kit_ty (by decide +kernel))
        | exact absurd hi (by unfold isk; exact fun z => nomatch z))
/-! ### truth -/
theorem tru_of {w : Wd} {h : AH} {H : Hp} {d : D} {x : V} {b : Bool} {K : PySem.W.Frag} (hK : K = g.K) (rr : RR g w h H) (rv : RV g w h.nx d x) (ht : truth d = some b) : TruV K x H b := by
  cases d with
  | non => rw [rv_non.mp rv]; cases ht; exact rfl
  | bl b => rw [rv_bl.mp rv]; cases ht; exact rfl
  | int b => rw [rv_int.mp rv]; cases ht; exact rfl
  | str s =>
    obtain ⟨rfl, _⟩ := rv_str.mp rv
    obtain ⟨hl, rfl⟩ := opt_if ht
    refine ⟨by rw [stt_len, sizeL]; exact hl, ?_⟩
    rw [stt_len]
    cases s <;> rfl
  | tup l =>
    obtain ⟨a, xs, rfl, q1, r1⟩ := rv_tup.mp rv
    cases ht
    refine .inr (.inl ⟨xs, by rw [hK]; exact SqT.ext rr.sub q1, ?_⟩)
    cases l with
    | nil => rw [rvs_nil.mp r1]; rfl
    | cons d l => obtain ⟨y, ys, rfl, _, _⟩ := rvs_cons.mp r1; rfl
  | lst l =>
    obtain ⟨a, xs, rfl, q1, r1⟩ := rv_lst.mp rv
    cases ht
    refine .inl ⟨xs, SqL.of (rr.sub _ _ q1), ?_⟩
    cases l with
    | nil => rw [rvs_nil.mp r1]; rfl
    | cons d l => obtain ⟨y, ys, rfl, _, _⟩ := rvs_cons.mp r1; rfl
  | _ => cases ht
/-! ### join -/
theorem sumN_eq (ys : List (List Nat)) : ((ys.map stt).map (·.length)).sum = sumN ys := by
  induction ys with
  | nil => rfl
  | cons y ys ih =>
    rw [List.map_cons, List.map_cons, List.sum_cons, ih, stt_len]
    rfl
theorem okS_join {s : List Nat} (hs : okS s = true) : ∀ {ys : List (List Nat)}, (∀ y ∈ ys, okS y = true) → okS (TL.joinL s ys) = true
  | [], _ => rfl
  | [y], h => h y List.mem_cons_self
  | y :: z :: r, h => by
    show okS (y ++ (s ++ TL.joinL s (z :: r))) = true
    exact okS_app (h y List.mem_cons_self) (okS_app hs (okS_join hs fun x hx => h x (List.mem_cons_of_mem _ hx)))
/-- a method of one argument by the evaluator -/
def rM (g : Gi) (E : XK) (m : Mt) : V → List V → Hp → VK → Prop := fun x xs H Q => ∃ w h d e y, RR g w h H ∧ RV g w h.nx d x ∧ RV g w h.nx e y ∧ xs = [y] ∧ Post g w h.nx (mtop m d e h) E (PV g Q)
theorem mt_joinE (G : GX g c k X) : MtR X "str.join" (rM g E .join) := by
  refine MtR.cas fun x xs H Q ⟨w, h, d, e, y, rr, rd, re, exs, q⟩ => ?_
  subst exs
  have hK := G.K
  simp only [mtop] at q
  cases d with
  | str s =>
    obtain ⟨rfl, ks⟩ := rv_str.mp rd
    cases e with
    | lst l =>
      obtain ⟨a, xs, rfl, q1, r1⟩ := rv_lst.mp re
      cases es : strL l with
      | none => simp only [es] at q; exact q.elim
      | some ys =>
        simp only [es] at q
        obtain ⟨hl, q⟩ := if_ok q
        obtain ⟨e2, oy⟩ := strL_rv es r1
        subst e2
        refine ⟨_, mt_join, stt s, a, ys.map stt, rfl, rfl, .inl (SqL.of (rr.sub _ _ q1)), ?_, ?_⟩
        · rw [sumN_eq, List.length_map, stt_len]; exact hl
        · have ej : Txt.join (stt s) (ys.map stt) = stt (TL.joinL s ys) := SX.join_S s ys
          rw [ej]
          exact pv_now q rr (rv_str.mpr ⟨rfl, okS_join ks oy⟩)
    | tup l =>
      obtain ⟨a, xs, rfl, q1, r1⟩ := rv_tup.mp re
      cases es : strL l with
      | none => simp only [es] at q; exact q.elim
      | some ys =>
        simp only [es] at q
        obtain ⟨hl, q⟩ := if_ok q
        obtain ⟨e2, oy⟩ := strL_rv es r1
        subst e2
        refine ⟨_, mt_join, stt s, a, ys.map stt, rfl, rfl, .inr (by rw [hK]; exact SqT.ext rr.sub q1), ?_, ?_⟩
        · rw [sumN_eq, List.length_map, stt_len]; exact hl
        · have ej : Txt.join (stt s) (ys.map stt) = stt (TL.joinL s ys) := SX.join_S s ys
          rw [ej]
          exact pv_now q rr (rv_str.mpr ⟨rfl, okS_join ks oy⟩)
    | _ => exact q.elim
  | _ => exact q.elim
/-! ### repr -/
mutual
def okD : D → Bool
  | .str s => okS s
  | .tup l => okDs l
  | .lst l => okDs l
  | _ => true
def okDs : List D → Bool
  | [] => true
  | d :: l => okD d && okDs l
end
mutual
theorem okD_of {w : Wd} {n : Nat} : ∀ (d : D) (v : V), RV g w n d v → okD d = true
  | .str s, v, h => by unfold okD; exact (rv_str.mp h).2
  | .tup l, v, h => by
    obtain ⟨a, xs, _, _, r⟩ := rv_tup.mp h
    unfold okD
    exact okDs_of l xs r
  | .lst l, v, h => by
    obtain ⟨a, xs, _, _, r⟩ := rv_lst.mp h
    unfold okD
    exact okDs_of l xs r
  | .non, _, _ => by unfold okD; rfl
  | .bl _, _, _ => by unfold okD; rfl
  | .int _, _, _ => by unfold okD; rfl
  | .ref _, _, _ => by unfold okD; rfl
  | .ins _ _, _, _ => by unfold okD; rfl
  | .exc _ _, _, _ => by unfold okD; rfl
  | .lam _, _, _ => by unfold okD; rfl
  | .scr _, _, _ => by unfold okD; rfl
  | .dct _, _, _ => by unfold okD; rfl
  | .set _, _, _ => by unfold okD; rfl
theorem okDs_of {w : Wd} {n : Nat} : ∀ (l : List D) (xs : List V), RVs g w n l xs → okDs l = true
  | [], _, _ => by unfold okDs; rfl
  | d :: l, xs, h => by
    obtain ⟨x, ys, rfl, h1, h2⟩ := rvs_cons.mp h
    unfold okDs
    rw [okD_of d x h1, okDs_of l ys h2]
    rfl
end
mutual
theorem dsame_py : ∀ (d e : D), dsame d e = true → py d = py e
  | .non, e, h => by cases e <;> (unfold dsame at h; first | rfl | cases h)
  | .bl b, e, h => by cases e <;> (unfold dsame at h; first | (rw [beq_iff_eq] at h; rw [h]) | cases h)
  | .int b, e, h => by cases e <;> (unfold dsame at h; first | (rw [beq_iff_eq] at h; rw [h]) | cases h)
  | .str b, e, h => by cases e <;> (unfold dsame at h; first | (rw [beq_iff_eq] at h; rw [h]) | cases h)
  | .tup l, e, h => by
    cases e with
    | tup m => unfold dsame at h; unfold py; rw [dsames_py l m h]
    | _ => unfold dsame at h; cases h
  | .lst l, e, h => by
    cases e with
    | lst m => unfold dsame at h; unfold py; rw [dsames_py l m h]
    | _ => unfold dsame at h; cases h
  | .ref _, e, h => by cases e <;> (unfold dsame at h; cases h)
  | .ins _ _, e, h => by cases e <;> (unfold dsame at h; cases h)
  | .exc _ _, e, h => by cases e <;> (unfold dsame at h; cases h)
  | .lam _, e, h => by cases e <;> (unfold dsame at h; cases h)
  | .scr _, e, h => by cases e <;> (unfold dsame at h; cases h)
  | .dct _, e, h => by cases e <;> (unfold dsame at h; cases h)
  | .set _, e, h => by cases e <;> (unfold dsame at h; cases h)
theorem dsames_py : ∀ (l m : List D), dsames l m = true → pys l = pys m
  | [], [], _ => rfl
  | [], _ :: _, h => by unfold dsames at h; cases h
  | _ :: _, [], h => by unfold dsames at h; cases h
  | d :: l, e :: m, h => by
    unfold dsames at h
    rw [Bool.and_eq_true] at h
    unfold pys
    rw [dsame_py d e h.1, dsames_py l m h.2]
end
mutual
theorem eqv_refl' : ∀ (k : Nat) (d : D), dpt k d = true → PyData.eqv (py d) (py d) = true
  | k, .non, _ => by unfold py PyData.eqv; rfl
  | k, .bl b, _ => by unfold py PyData.eqv; exact beq_self_eq_true b
  | k, .int b, _ => by unfold py PyData.eqv; exact beq_self_eq_true b
  | k, .str b, _ => by unfold py PyData.eqv; exact beq_self_eq_true _
  | 0, .tup l, h => by unfold dpt at h; cases h
  | 0, .lst l, h => by unfold dpt at h; cases h
  | k + 1, .tup l, h => by unfold dpt at h; unfold py PyData.eqv; exact eqvs_refl' k l h
  | k + 1, .lst l, h => by unfold dpt at h; unfold py PyData.eqv; exact eqvs_refl' k l h
  | k, .ref _, h => by cases k <;> (unfold dpt at h; cases h)
  | k, .ins _ _, h => by cases k <;> (unfold dpt at h; cases h)
  | k, .exc _ _, h => by cases k <;> (unfold dpt at h; cases h)
  | k, .lam _, h => by cases k <;> (unfold dpt at h; cases h)
  | k, .scr _, h => by cases k <;> (unfold dpt at h; cases h)
  | k, .dct _, h => by cases k <;> (unfold dpt at h; cases h)
  | k, .set _, h => by cases k <;> (unfold dpt at h; cases h)
theorem eqvs_refl' : ∀ (k : Nat) (l : List D), dpts k l = true → PyData.eqvAll (pys l) (pys l) = true
  | k, [], _ => by unfold pys PyData.eqvAll; rfl
  | k, d :: l, h => by
    unfold dpts at h
    rw [Bool.and_eq_true] at h
    unfold pys PyData.eqvAll
    rw [eqv_refl' k d h.1, eqvs_refl' k l h.2]
    rfl
end
mutual
theorem short_of : ∀ (d : D) (m : Nat), wt d = some m → okD d = true → (py d).leavesShort 13 = true ∧ (py d).showable = true ∧ (py d).hasDict = false ∧ (py d).bulk + 1 ≤ 2 * m
  | .non, m, h, _ => by
    unfold wt at h
    have h : 1 = m := Option.some.inj h
    unfold py; simp [PyData.leavesShort, PyData.showable, PyData.hasDict, PyData.bulk]; omega
  | .bl b, m, h, _ => by
    unfold wt at h
    have h : 1 = m := Option.some.inj h
    unfold py; simp [PyData.leavesShort, PyData.showable, PyData.hasDict, PyData.bulk]; omega
  | .int i, m, h, _ => by
    unfold wt at h
    obtain ⟨hi, hm⟩ := opt_if h
    have hl : (toString i).length ≤ 13 := int_text_length_le10 (k := 12) (by decide) (by rw [show (10 : Nat) ^ 12 = 1000000000000 by decide]; exact hi)
    unfold py
    refine ⟨?_, ?_, by simp [PyData.hasDict], by simp only [PyData.bulk]; omega⟩
    · simp only [PyData.leavesShort]
      refine decide_eq_true ?_
      rw [PyData.shown_int]
      have e : (Str.ofString (toString i)).length = (toString i).length := by
        rw [Str.ofString_eq_toList]
        show ((toString i).toList.map Char.toNat).toArray.size = _
        rw [List.size_toArray, List.length_map]
        rfl
      exact e ▸ hl
    · simp only [PyData.showable]
      refine decide_eq_true ?_
      by_cases h0 : i.natAbs = 0
      · rw [h0]; decide
      · refine (Nat.log2_lt h0).mpr (Nat.lt_of_lt_of_le hi ?_)
        exact Nat.le_trans (show 1000000000000 ≤ 2 ^ 40 by decide) (Nat.pow_le_pow_right (by decide) (by decide))
  | .str s, m, h, ho => by
    unfold wt at h
    have h : s.length + 1 = m := Option.some.inj h
    unfold okD at ho
    unfold py
    refine ⟨?_, by simp [PyData.showable], by simp [PyData.hasDict], ?_⟩
    · simp only [PyData.leavesShort, List.all_eq_true, decide_eq_true_eq]
      intro x hx
      unfold okS at ho
      have := List.all_eq_true.mp ho x (by simpa using hx)
      have h1 : x < 1114112 := of_decide_eq_true this
      have e : (16:Nat) ^ 8 = 4294967296 := by decide
      omega
    · simp only [PyData.bulk]
      simp
      omega
  | .tup l, m, h, ho => by
    unfold wt at h
    obtain ⟨j, e, rfl⟩ := Option.map_eq_some_iff.mp h
    unfold okD at ho
    obtain ⟨h1, h2, h3, h4⟩ := shorts_of l j e ho
    unfold py
    simp only [PyData.leavesShort, PyData.showable, PyData.hasDict, PyData.bulk]
    exact ⟨h1, h2, h3, by omega⟩
  | .lst l, m, h, ho => by
    unfold wt at h
    obtain ⟨j, e, rfl⟩ := Option.map_eq_some_iff.mp h
    unfold okD at ho
    obtain ⟨h1, h2, h3, h4⟩ := shorts_of l j e ho
    unfold py
    simp only [PyData.leavesShort, PyData.showable, PyData.hasDict, PyData.bulk]
    exact ⟨h1, h2, h3, by omega⟩
  | .ref _, _, h, _ => by unfold wt at h; cases h
  | .ins _ _, _, h, _ => by unfold wt at h; cases h
  | .exc _ _, _, h, _ => by unfold wt at h; cases h
  | .lam _, _, h, _ => by unfold wt at h; cases h
  | .scr _, _, h, _ => by unfold wt at h; cases h
  | .dct _, _, h, _ => by unfold wt at h; cases h
  | .set _, _, h, _ => by unfold wt at h; cases h
theorem shorts_of : ∀ (l : List D) (m : Nat), wts l = some m → okDs l = true → PyData.leavesShortAll 13 (pys l) = true ∧ PyData.showableAll (pys l) = true ∧ PyData.hasDictAll (pys l) = false ∧ PyData.bulkAll (pys l) ≤ 2 * m
  | [], m, h, _ => by unfold pys; simp [PyData.leavesShortAll, PyData.showableAll, PyData.hasDictAll, PyData.bulkAll]
  | d :: l, m, h, ho => by
    unfold wts at h
    unfold okDs at ho
    rw [Bool.and_eq_true] at ho
    cases e1 : wt d with
    | none => rw [e1] at h; cases h
    | some a =>
      cases e2 : wts l with
      | none => rw [e1, e2] at h; cases h
      | some b =>
        rw [e1, e2] at h
        have h : a + b = m := Option.some.inj h
        obtain ⟨h1, h2, h3, h4⟩ := short_of d a e1 ho.1
        obtain ⟨k1, k2, k3, k4⟩ := shorts_of l b e2 ho.2
        unfold pys
        simp only [PyData.leavesShortAll, PyData.showableAll, PyData.hasDictAll, PyData.bulkAll, h1, h2, h3, k1, k2, k3, Bool.and_self, Bool.or_self]
        exact ⟨trivial, trivial, trivial, by omega⟩
end
end
end Rk

set_option maxHeartbeats 1000000
/-! Rk.F: expressions by the evaluator. -/
namespace Rk
open PySem PySem.Spec PyProof.Rows L2
abbrev Run (α : Type) := Env → AH → Res α
abbrev SX' := L2.St → XK
/-- the truth of what is reckoned -/
def runT (run : Run D) : Run Bool := fun env h => (run env h).bind fun x h => lift (truth x) h
structure EV (X : Cx) (g : Gi) (E : SX') (e : Expr) (run : Run D) : Prop where
  pe : PE X e (tE g E run)
  pt : PT X e (tB' g E (runT run))
section
variable {X : Cx} {g : Gi} {c : Bool} {k : Nat} {E : SX'} {e a b d : Expr} {pos : Pos} {run ra rb rd : Run D}
/-- from an expression's reading to that of a part, which goes on -/
theorem tE.step {α : Type} {ra : Run D} {f : D → AH → Res α} {P : Wd → AH → Hp → α → Prop} {w : Wd} {env : Env} {h : AH} {σ : L2.St} {H : Hp} {XE : XK}
    (q : Post g w h.nx ((ra env h).bind f) XE P) (rr : RR g w h H) (re : RE g w h.nx env σ) (hE : E σ = XE)
    {R : V → Hp → Prop} (hR : ∀ w1 h1 H1 x v, Ext w h.nx w1 h1.nx → RR g w1 h1 H1 → RE g w1 h1.nx env σ → RV g w1 h1.nx x v → Post g w1 h1.nx (f x h1) XE P → R v H1) : tE g E ra σ H R := by
  subst hE
  exact ⟨w, env, h, rr, re, q.bind.mono fun w1 h1 H1 x ext rr1 q1 v rv => hR w1 h1 H1 x v ext rr1 (re.ext ext) rv q1⟩
theorem EV.of (G : GX g c k X) (h : PE X e (tE g E run)) (he : ∀ whole, isTrue e X.env whole = (do let v ← whole; standAt e.pos; holding [v] (truthy v))) : EV X g E e run := by
  refine ⟨h, (pt_truth h he).imp fun σ H Q ⟨w, env, h, rr, re, q⟩ => ?_⟩
  exact tE.step q rr re rfl fun w1 h1 H1 x v ext rr1 re1 rv q1 => by
    obtain ⟨b, hb, q1⟩ := lift_ok q1
    exact ⟨b, tru_of G.K rr1 rv hb, q1.now rr1⟩
theorem ev_var (G : GX g c k X) {i : Nat} {x : Str} (hN : X.N[i]? = some x) (hv : Vis X.env.scope x) (hd : (x == ("__debug__" : Str)) = false) (hcd : (x == ("__classdict__" : Str)) = false) : EV X g E (.Name x pos) (fun env h => ldV env i h) := by
  refine EV.of G ((pe_var hN hv hd hcd).imp fun σ H Q ⟨w, env, h, rr, re, q⟩ => ?_) fun _ => rfl
  unfold ldV at q
  dsimp only at q
  split at q
  · rename_i dd he
    obtain ⟨v, h1, h2⟩ := re.at_ _ _ he
    exact ⟨v, h1, pv_now q rr h2⟩
  · exact q.elim
/-- a constant of the text -/
def cstOf : Const → Option D
  | .none => some .non
  | .bool b => some (.bl b)
  | .int i => some (.int i)
  | .str s => if okS s.cps.toList then some (.str s.cps.toList) else none
  | _ => none
theorem ev_cst (G : GX g c k X) {j : Nat} {cc : Const} {dd : D} (hc : cstOf cc = some dd) : EV X g E (.Constant cc j pos) (fun _ h => .ok dd h) := by
  cases cc with
  | none => cases hc; exact EV.of G (pe_non.imp fun σ H Q ⟨w, env, h, rr, re, q⟩ => pv_now q rr (rv_non.mpr rfl)) fun _ => rfl
  | bool b => cases hc; exact EV.of G (pe_bl.imp fun σ H Q ⟨w, env, h, rr, re, q⟩ => pv_now q rr (rv_bl.mpr rfl)) fun _ => rfl
  | int b => cases hc; exact EV.of G (pe_int.imp fun σ H Q ⟨w, env, h, rr, re, q⟩ => pv_now q rr (rv_int.mpr rfl)) fun _ => rfl
  | str s =>
    obtain ⟨ho, rfl⟩ := opt_if hc
    exact EV.of G (pe_str.imp fun σ H Q ⟨w, env, h, rr, re, q⟩ => pv_now q rr (rv_str.mpr ⟨rfl, ho⟩)) fun _ => rfl
  | _ => cases hc
theorem ev_glb (G : GX g c k X) {x : Str} {dd : D} {v : V} {u : Value} (hg : Gl X x) (hm : X.mg x = some u) (r : RelV v u) (hv : ∀ w n, RV g w n dd v) (hd : (x == ("__debug__" : Str)) = false) : EV X g E (.Name x pos) (fun _ h => .ok dd h) :=
  EV.of G ((pe_glob hg hm r hd).imp fun σ H Q ⟨w, env, h, rr, re, q⟩ => pv_now q rr (hv _ _)) fun _ => rfl
theorem ev_bin (G : GX g c k X) {o : Operator} (ha : EV X g E a ra) (hb : EV X g E b rb) : EV X g E (.BinOp a o b pos) (fun env h => (ra env h).bind fun x h => (rb env h).bind fun y h => binop o x y h) := by
  refine EV.of G (PE.mk fun pins s σ H Q I ⟨w, env, h, rr, re, q⟩ => ?_) fun _ => rfl
  refine (pe_op (op_bin (E := E σ) G o) ha.pe hb.pe).run pins s σ H Q I ?_
  refine tE.step q rr re rfl fun w1 h1 H1 x v ext rr1 re1 rv q1 => ?_
  refine tE.step q1 rr1 re1 rfl fun w2 h2 H2 y u ext2 rr2 re2 rv2 q2 => ?_
  exact ⟨w2, h2, x, y, rr2, rv.ext ext2 _ _, rv2, q2⟩
theorem ev_neg (G : GX g c k X) (ha : EV X g E a ra) : EV X g E (.UnaryOp .USub a pos) (fun env h => (ra env h).bind fun x h => match x with
    | .int i => .ok (.int (-i)) h
    | _ => .stuck) := by
  refine EV.of G ((pe_un un_neg ha.pe).imp fun σ H Q ⟨w, env, h, rr, re, q⟩ => ?_) fun _ => rfl
  refine tE.step q rr re rfl fun w1 h1 H1 x v ext rr1 re1 rv q1 => ?_
  cases x with
  | int i => exact ⟨i, rv_int.mp rv, pv_now q1 rr1 (rv_int.mpr rfl)⟩
  | _ => exact q1.elim
/-- a test's reading by steps -/
theorem tB'.step {α : Type} {ra : Run D} {f : Bool → AH → Res α} {P : Wd → AH → Hp → α → Prop} {w : Wd} {env : Env} {h : AH} {σ : L2.St} {H : Hp} {XE : XK}
    (q : Post g w h.nx ((runT ra env h).bind f) XE P) (rr : RR g w h H) (re : RE g w h.nx env σ) (hE : E σ = XE)
    {R : Bool → Hp → Prop} (hR : ∀ w1 h1 H1 x, Ext w h.nx w1 h1.nx → RR g w1 h1 H1 → RE g w1 h1.nx env σ → Post g w1 h1.nx (f x h1) XE P → R x H1) : tB' g E (runT ra) σ H R := by
  subst hE
  exact ⟨w, env, h, rr, re, q.bind.mono fun w1 h1 H1 x ext rr1 q1 => hR w1 h1 H1 x ext rr1 (re.ext ext) q1⟩
theorem bind_assoc {α β γ : Type} (r : Res α) (f : α → AH → Res β) (k : β → AH → Res γ) : (r.bind f).bind k = r.bind fun a h => (f a h).bind k := by
  cases r <;> rfl
theorem bind_congr {α β : Type} {r : Res α} {f k : α → AH → Res β} (h : ∀ a h, f a h = k a h) : r.bind f = r.bind k := by
  cases r with
  | ok a h' => exact h a h'
  | _ => rfl
theorem ev_not (G : GX g c k X) (ha : EV X g E a ra) : EV X g E (.UnaryOp .Not a pos) (fun env h => (ra env h).bind fun x h => lift ((truth x).map fun b => .bl !b) h) := by
  refine ⟨(pe_notT ha.pe).imp fun σ H Q ⟨w, env, h, rr, re, q⟩ => ?_, (pt_not ha.pt).imp fun σ H Q ⟨w, env, h, rr, re, q⟩ => ?_⟩
  · refine tE.step q rr re rfl fun w1 h1 H1 x v ext rr1 re1 rv q1 => ?_
    obtain ⟨b, hb, q1⟩ := lift_map q1
    exact ⟨b, tru_of G.K rr1 rv hb, pv_now q1 rr1 (rv_bl.mpr rfl)⟩
  · have e : runT (fun env h => (ra env h).bind fun x h => lift ((truth x).map fun b => D.bl !b) h) env h = (runT ra env h).bind fun b h => .ok (!b) h := by
      unfold runT
      rw [bind_assoc, bind_assoc]
      refine bind_congr fun x h => ?_
      cases truth x <;> rfl
    rw [e] at q
    exact tB'.step q rr re rfl fun w1 h1 H1 x ext rr1 re1 q1 => q1.now rr1
/-! ### and, or: lists of values -/
structure BV (X : Cx) (g : Gi) (E : SX') (o : BoolOp) (l : List Expr) (run : Run D) : Prop where
  pe : ∀ pos, PE X (.BoolOp o l pos) (tE g E run)
  pw : ∀ pos, PW X (.BoolOp o l pos) (tB' g E (runT run))
theorem PW.imp' {X : Cx} {e : Expr} {t t' : TT} (h : PW X e t) (k : ∀ σ H Q, t' σ H Q → t σ H Q) : PW X e t' := ⟨fun wh pins s σ H Q I q => h.run wh pins s σ H Q I (k _ _ _ q)⟩
theorem bv_one (ha : EV X g E a ra) (o : BoolOp) : BV X g E o [a] ra := by
  cases o with
  | And => exact ⟨fun _ => pe_one ha.pe, fun _ => pw_and1 ha.pt⟩
  | Or => exact ⟨fun _ => pe_one ha.pe, fun _ => pw_or1 ha.pt⟩
def andR (ra rb : Run D) : Run D := fun env h => (ra env h).bind fun x h => match truth x with
    | some true => rb env h
    | some false => .ok x h
    | none => .stuck
def orR (ra rb : Run D) : Run D := fun env h => (ra env h).bind fun x h => match truth x with
    | some true => .ok x h
    | some false => rb env h
    | none => .stuck
theorem bv_and (G : GX g c k X) {l : List Expr} (ha : EV X g E a ra) (hb : BV X g E .And (b :: l) rb) : BV X g E .And (a :: b :: l) (andR ra rb) := by
  refine ⟨fun pos => (pe_andT ha.pe (hb.pe pos)).imp fun σ H Q ⟨w, env, h, rr, re, q⟩ => ?_, fun pos => PW.imp' (pw_and ha.pt (hb.pw pos)) fun σ H Q ⟨w, env, h, rr, re, q⟩ => ?_⟩
  · refine tE.step q rr re rfl fun w1 h1 H1 x v ext rr1 re1 rv q1 => ?_
    cases ht : truth x with
    | none => simp only [ht] at q1; exact q1.elim
    | some t =>
      refine ⟨t, tru_of G.K rr1 rv ht, ?_⟩
      cases t with
      | true => simp only [ht] at q1; exact iteT ⟨w1, env, h1, rr1, re1, q1⟩
      | false => simp only [ht] at q1; exact iteF (pv_now q1 rr1 rv)
  · have e : runT (andR ra rb) env h = (runT ra env h).bind fun t h => if t then runT rb env h else .ok false h := by
      unfold runT andR
      rw [bind_assoc, bind_assoc]
      refine bind_congr fun x h => ?_
      cases ht : truth x with
      | none => rfl
      | some t => cases t with
        | true => rfl
        | false => show (Res.ok x h).bind _ = _; rw [bind_ok, ht]; rfl
    rw [e] at q
    refine tB'.step q rr re rfl fun w1 h1 H1 x ext rr1 re1 q1 => ?_
    cases x with
    | true => exact iteT ⟨w1, env, h1, rr1, re1, q1⟩
    | false => exact iteF (q1.now rr1)
theorem bv_or (G : GX g c k X) {l : List Expr} (ha : EV X g E a ra) (hb : BV X g E .Or (b :: l) rb) : BV X g E .Or (a :: b :: l) (orR ra rb) := by
  refine ⟨fun pos => (pe_orT ha.pe (hb.pe pos)).imp fun σ H Q ⟨w, env, h, rr, re, q⟩ => ?_, fun pos => PW.imp' (pw_or ha.pt (hb.pw pos)) fun σ H Q ⟨w, env, h, rr, re, q⟩ => ?_⟩
  · refine tE.step q rr re rfl fun w1 h1 H1 x v ext rr1 re1 rv q1 => ?_
    cases ht : truth x with
    | none => simp only [ht] at q1; exact q1.elim
    | some t =>
      refine ⟨t, tru_of G.K rr1 rv ht, ?_⟩
      cases t with
      | false => simp only [ht] at q1; exact iteF ⟨w1, env, h1, rr1, re1, q1⟩
      | true => simp only [ht] at q1; exact iteT (pv_now q1 rr1 rv)
  · have e : runT (orR ra rb) env h = (runT ra env h).bind fun t h => if t then .ok true h else runT rb env h := by
      unfold runT orR
      rw [bind_assoc, bind_assoc]
      refine bind_congr fun x h => ?_
      cases ht : truth x with
      | none => rfl
      | some t => cases t with
        | false => rfl
        | true => show (Res.ok x h).bind _ = _; rw [bind_ok, ht]; rfl
    rw [e] at q
    refine tB'.step q rr re rfl fun w1 h1 H1 x ext rr1 re1 q1 => ?_
    cases x with
    | false => exact iteF ⟨w1, env, h1, rr1, re1, q1⟩
    | true => exact iteT (q1.now rr1)
theorem BV.ev {o : BoolOp} {l : List Expr} (h : BV X g E o l run) : EV X g E (.BoolOp o l pos) run := ⟨h.pe pos, (h.pw pos).pt⟩
def ifeR (rt ra rb : Run D) : Run D := fun env h => (rt env h).bind fun x h => match truth x with
    | some true => ra env h
    | some false => rb env h
    | none => .stuck
theorem pt_ifExp {cnd : Expr} {tc ta tb : TT} (hc : PT X cnd tc) (ha : PT X a ta) (hb : PT X b tb) : PT X (.IfExp cnd a b pos) (fun σ H Q => tc σ H fun c H1 => if c = true then ta σ H1 Q else tb σ H1 Q) := by
  refine ⟨fun pins s σ H Q I h => ?_⟩
  refine isTrue_IfExp (thn (hc.run pins s σ H _ I h) fun d s1 ⟨H1, I1, q1⟩ => ?_)
  cases d with
  | true => exact ha.run pins s1 σ H1 Q I1 q1
  | false => exact hb.run pins s1 σ H1 Q I1 q1
theorem ev_ife (G : GX g c k X) {cnd : Expr} {rt : Run D} (ht : EV X g E cnd rt) (ha : EV X g E a ra) (hb : EV X g E b rb) : EV X g E (.IfExp cnd a b pos) (ifeR rt ra rb) := by
  have e0 : ∀ (env : Env) (h : AH), ifeR rt ra rb env h = (runT rt env h).bind fun t h => if t then ra env h else rb env h := fun env h => by
    unfold runT ifeR
    rw [bind_assoc]
    refine bind_congr fun x h => ?_
    cases hx : truth x with
    | none => rfl
    | some t => cases t <;> rfl
  refine ⟨(pe_ifExp ht.pt ha.pe hb.pe).imp fun σ H Q ⟨w, env, h, rr, re, q⟩ => ?_, (pt_ifExp ht.pt ha.pt hb.pt).imp fun σ H Q ⟨w, env, h, rr, re, q⟩ => ?_⟩
  · rw [e0] at q
    refine tB'.step q rr re rfl fun w1 h1 H1 x ext rr1 re1 q1 => ?_
    cases x with
    | true => exact iteT ⟨w1, env, h1, rr1, re1, q1⟩
    | false => exact iteF ⟨w1, env, h1, rr1, re1, q1⟩
  · have e1 : runT (ifeR rt ra rb) env h = (runT rt env h).bind fun t h => if t then runT ra env h else runT rb env h := by
      unfold runT
      rw [e0]
      unfold runT
      rw [bind_assoc]
      refine bind_congr fun x h => ?_
      cases x <;> rfl
    rw [e1] at q
    refine tB'.step q rr re rfl fun w1 h1 H1 x ext rr1 re1 q1 => ?_
    cases x with
    | true => exact iteT ⟨w1, env, h1, rr1, re1, q1⟩
    | false => exact iteF ⟨w1, env, h1, rr1, re1, q1⟩
/-! ### comparisons -/
theorem ev_cmp (G : GX g c k X) {o : CmpOp} (ha : EV X g E a ra) (hb : EV X g E b rb) (hm : behindInMarks o b = false) : EV X g E (.Compare a [o] [b] pos) (fun env h => (ra env h).bind fun x h => (rb env h).bind fun y h => lift ((cmpop o x y).map .bl) h) := by
  refine ⟨(pe_cmpR (op_cmp G o) ha.pe hb.pe hm).imp fun σ H Q ⟨w, env, h, rr, re, q⟩ => ?_, (pt_cmpR (op_cmp G o) ha.pe hb.pe hm).imp fun σ H Q ⟨w, env, h, rr, re, q⟩ => ?_⟩
  · refine tE.step q rr re rfl fun w1 h1 H1 x v ext rr1 re1 rv q1 => ?_
    refine tE.step q1 rr1 re1 rfl fun w2 h2 H2 y u ext2 rr2 re2 rv2 q2 => ?_
    obtain ⟨bb, hb, q2⟩ := lift_map q2
    exact ⟨w2, h2, x, y, bb, rr2, rv.ext ext2 _ _, rv2, hb, pv_now q2 rr2 (rv_bl.mpr rfl)⟩
  · have e : runT (fun env h => (ra env h).bind fun x h => (rb env h).bind fun y h => lift ((cmpop o x y).map .bl) h) env h = (ra env h).bind fun x h => (rb env h).bind fun y h => lift (cmpop o x y) h := by
      unfold runT
      rw [bind_assoc]
      refine bind_congr fun x h => ?_
      rw [bind_assoc]
      refine bind_congr fun y h => ?_
      cases cmpop o x y <;> rfl
    rw [e] at q
    refine tE.step q rr re rfl fun w1 h1 H1 x v ext rr1 re1 rv q1 => ?_
    refine tE.step q1 rr1 re1 rfl fun w2 h2 H2 y u ext2 rr2 re2 rv2 q2 => ?_
    obtain ⟨bb, hb, q2⟩ := lift_ok q2
    exact ⟨w2, h2, x, y, bb, rr2, rv.ext ext2 _ _, rv2, hb, bb, rfl, q2.now rr2⟩
def cmp2R (o1 o2 : CmpOp) (ra rb rd : Run D) : Run D := fun env h => (ra env h).bind fun x h => (rb env h).bind fun y h => match cmpop o1 x y with
    | some true => (rd env h).bind fun z h => lift ((cmpop o2 y z).map .bl) h
    | some false => .ok (.bl false) h
    | none => .stuck
theorem ev_cmp2 (G : GX g c k X) {o1 o2 : CmpOp} (ha : EV X g E a ra) (hb : EV X g E b rb) (hd : EV X g E d rd) (hm : lastMarks [o1, o2] [b, d] = false) : EV X g E (.Compare a [o1, o2] [b, d] pos) (cmp2R o1 o2 ra rb rd) := by
  refine ⟨(pe_chain (op_cmp G o1) (op_cmp G o2) ha.pe hb.pe hd.pe hm).imp fun σ H Q ⟨w, env, h, rr, re, q⟩ => ?_, (pt_chain (op_cmp G o1) (op_cmp G o2) ha.pe hb.pe hd.pe hm).imp fun σ H Q ⟨w, env, h, rr, re, q⟩ => ?_⟩
  · unfold cmp2R at q
    refine tE.step q rr re rfl fun w1 h1 H1 x v ext rr1 re1 rv q1 => ?_
    refine tE.step q1 rr1 re1 rfl fun w2 h2 H2 y u ext2 rr2 re2 rv2 q2 => ?_
    cases hc : cmpop o1 x y with
    | none => simp only [hc] at q2; exact q2.elim
    | some t =>
      simp only [hc] at q2
      refine ⟨w2, h2, x, y, t, rr2, rv.ext ext2 _ _, rv2, hc, t, rfl, ?_⟩
      cases t with
      | false => exact iteF (pv_now q2 rr2 (rv_bl.mpr rfl))
      | true =>
        refine iteT (tE.step q2 rr2 re2 rfl fun w3 h3 H3 z u3 ext3 rr3 re3 rv3 q3 => ?_)
        obtain ⟨bb, hb, q3⟩ := lift_map q3
        exact ⟨w3, h3, y, z, bb, rr3, rv2.ext ext3 _ _, rv3, hb, pv_now q3 rr3 (rv_bl.mpr rfl)⟩
  · have e : runT (cmp2R o1 o2 ra rb rd) env h = (ra env h).bind fun x h => (rb env h).bind fun y h => match cmpop o1 x y with
        | some true => (rd env h).bind fun z h => lift (cmpop o2 y z) h
        | some false => .ok false h
        | none => .stuck := by
      unfold runT cmp2R
      rw [bind_assoc]
      refine bind_congr fun x h => ?_
      rw [bind_assoc]
      refine bind_congr fun y h => ?_
      cases cmpop o1 x y with
      | none => rfl
      | some t => cases t with
        | false => rfl
        | true =>
          show ((rd env h).bind _).bind _ = _
          rw [bind_assoc]
          refine bind_congr fun z h => ?_
          cases cmpop o2 y z <;> rfl
    rw [e] at q
    refine tE.step q rr re rfl fun w1 h1 H1 x v ext rr1 re1 rv q1 => ?_
    refine tE.step q1 rr1 re1 rfl fun w2 h2 H2 y u ext2 rr2 re2 rv2 q2 => ?_
    cases hc : cmpop o1 x y with
    | none => simp only [hc] at q2; exact q2.elim
    | some t =>
      simp only [hc] at q2
      refine ⟨w2, h2, x, y, t, rr2, rv.ext ext2 _ _, rv2, hc, t, rfl, ?_⟩
      cases t with
      | false => exact iteF ⟨false, rfl, q2.now rr2⟩
      | true =>
        refine iteT (tE.step q2 rr2 re2 rfl fun w3 h3 H3 z u3 ext3 rr3 re3 rv3 q3 => ?_)
        obtain ⟨bb, hb, q3⟩ := lift_ok q3
        exact ⟨w3, h3, y, z, bb, rr3, rv2.ext ext3 _ _, rv3, hb, bb, rfl, q3.now rr3⟩
theorem none_dec {w : Wd} {n : Nat} {x : D} {v : V} (rv : RV g w n x v) : decide (v = .non) = isN x := by
  cases x with
  | non => rw [rv_non.mp rv]; rfl
  | bl b => rw [rv_bl.mp rv]; rfl
  | int b => rw [rv_int.mp rv]; rfl
  | str b => rw [(rv_str.mp rv).1]; rfl
  | tup l => obtain ⟨a, xs, rfl, _⟩ := rv_tup.mp rv; rfl
  | lst l => obtain ⟨a, xs, rfl, _⟩ := rv_lst.mp rv; rfl
  | ref l => obtain ⟨rfl, _⟩ := rv_ref.mp rv; rfl
  | scr l => obtain ⟨a, rfl, _⟩ := rv_scr.mp rv; rfl
  | ins c fs => unfold RV at rv; obtain ⟨a, dx, gs, rfl, _⟩ := rv; rfl
  | _ => unfold RV at rv; exact rv.elim
theorem ev_isn (G : GX g c k X) {j : Nat} {p2 : Pos} (ha : EV X g E a ra) : EV X g E (.Compare a [.Is] [.Constant .none j p2] pos) (fun env h => (ra env h).bind fun x h => .ok (.bl (isN x)) h) := by
  refine ⟨(pe_cmp (pc_isN ha.pe) rfl).imp fun σ H Q ⟨w, env, h, rr, re, q⟩ => ?_, (pt_cmp (pc_isN ha.pe) rfl).imp fun σ H Q ⟨w, env, h, rr, re, q⟩ => ?_⟩
  · refine tE.step q rr re rfl fun w1 h1 H1 x v ext rr1 re1 rv q1 => ?_
    exact pv_now q1 rr1 (rv_bl.mpr (by rw [none_dec rv]))
  · unfold runT at q
    rw [bind_assoc] at q
    refine tE.step q rr re rfl fun w1 h1 H1 x v ext rr1 re1 rv q1 => ?_
    exact ⟨_, rfl, by rw [none_dec rv]; exact q1.now rr1⟩
theorem ev_isnn (G : GX g c k X) {j : Nat} {p2 : Pos} (ha : EV X g E a ra) : EV X g E (.Compare a [.IsNot] [.Constant .none j p2] pos) (fun env h => (ra env h).bind fun x h => .ok (.bl (!isN x)) h) := by
  refine ⟨(pe_cmp (pc_notN ha.pe) rfl).imp fun σ H Q ⟨w, env, h, rr, re, q⟩ => ?_, (pt_cmp (pc_notN ha.pe) rfl).imp fun σ H Q ⟨w, env, h, rr, re, q⟩ => ?_⟩
  · refine tE.step q rr re rfl fun w1 h1 H1 x v ext rr1 re1 rv q1 => ?_
    exact pv_now q1 rr1 (rv_bl.mpr (by rw [none_dec rv]))
  · unfold runT at q
    rw [bind_assoc] at q
    refine tE.step q rr re rfl fun w1 h1 H1 x v ext rr1 re1 rv q1 => ?_
    exact ⟨_, rfl, by rw [none_dec rv]; exact q1.now rr1⟩
end
end Rk

set_option maxHeartbeats 1000000
/-! Rk.G: arguments, displays, subscripts, built-ins, calls. -/
namespace Rk
open PySem PySem.Spec PyProof.Rows L2
/-! ### syntactic facts -/
def nst : Expr → Bool
  | .Starred _ _ => false
  | _ => true
theorem nst_ok {e : Expr} (h : nst e = true) (es : List Expr) (env : PySem.Env) : starEach (e :: es) env = (false, eval e env) :: starEach es env := by
  cases e <;> first
    | rfl
    | exact absurd h (by unfold nst; exact Bool.false_ne_true)
def nsts (l : List Expr) : Bool := l.all nst
theorem nsts_any {l : List Expr} (h : nsts l = true) (pos : Pos) (env : PySem.Env) : (backTo pos (starEach l env)).any (·.1) = false := by
  induction l with
  | nil => rfl
  | cons e l ih =>
    unfold nsts at h
    rw [List.all_cons, Bool.and_eq_true] at h
    rw [nst_ok h.1]
    show (false || (backTo pos (starEach l env)).any (·.1)) = false
    rw [ih h.2]
    rfl
def nsl : Expr → Bool
  | .Slice .. => false
  | _ => true
theorem nsl_ok {e : Expr} (h : nsl e = true) : PlainIx e := by
  intro o i
  cases e <;> first
    | rfl
    | exact absurd h (by unfold nsl; exact Bool.false_ne_true)
/-- an expression whose test is its value's truth -/
def plainT : Expr → Bool
  | .UnaryOp .Not _ _ | .BoolOp .. | .IfExp .. | .Compare .. => false
  | _ => true
def nsuper : Expr → Bool
  | .Call (.Name _ _) [] [] _ => false
  | _ => true
theorem nsuper_ok {e : Expr} (h : nsuper e = true) (a : Str) (env : PySem.Env) : attributeBase e a env (eval e env) = eval e env := by
  unfold nsuper at h
  split at h
  · cases h
  · rename_i hn
    unfold attributeBase
    split
    · rename_i id p pos
      exact absurd rfl (hn id p pos)
    · rfl
/-- keywords, all with names -/
def kwn (kws : List Keyword) : Option (List Str) := match kws with
  | [] => some []
  | ⟨some n, _, _⟩ :: r => (kwn r).map (n :: ·)
  | _ => none
theorem kwn_ok {pos : Pos} {env : PySem.Env} : ∀ {kws : List Keyword} {ks : List Str}, kwn kws = some ks → (backToKw pos (keywordEach kws env)).all (·.1.isSome) = true ∧ (backToKw pos (keywordEach kws env)).filterMap (·.1) = ks ∧ (backToKw pos (keywordEach kws env)).any (·.1.isNone) = false
  | [], ks, h => by cases h; exact ⟨rfl, rfl, rfl⟩
  | ⟨none, _, _⟩ :: r, ks, h => by cases h
  | ⟨some n, e, p⟩ :: r, ks, h => by
    obtain ⟨js, h1, rfl⟩ := Option.map_eq_some_iff.mp (show (kwn r).map (n :: ·) = some ks from h)
    obtain ⟨a, b, c⟩ := kwn_ok (pos := pos) (env := env) h1
    refine ⟨?_, ?_, ?_⟩
    · show (true && (backToKw pos (keywordEach r env)).all (·.1.isSome)) = true
      rw [a]; rfl
    · show n :: (backToKw pos (keywordEach r env)).filterMap (·.1) = n :: js
      rw [b]
    · show (false || (backToKw pos (keywordEach r env)).any (·.1.isNone)) = false
      rw [c]; rfl
section
variable {X : Cx} {g : Gi} {c : Bool} {k : Nat} {E : SX'} {e a b d : Expr} {pos p1 p2 : Pos} {run ra rb rd : Run D} {es : List Expr} {rs : Run (List D)}
/-! ### argument lists -/
def consR (ra : Run D) (rs : Run (List D)) : Run (List D) := fun env h => (ra env h).bind fun x h => (rs env h).bind fun l h => .ok (x :: l) h
theorem tEs.step {α : Type} {rs : Run (List D)} {f : List D → AH → Res α} {P : Wd → AH → Hp → α → Prop} {w : Wd} {env : Env} {h : AH} {σ : L2.St} {H : Hp} {XE : XK}
    (q : Post g w h.nx ((rs env h).bind f) XE P) (rr : RR g w h H) (re : RE g w h.nx env σ) (hE : E σ = XE)
    {R : List V → Hp → Prop} (hR : ∀ w1 h1 H1 l xs, Ext w h.nx w1 h1.nx → RR g w1 h1 H1 → RE g w1 h1.nx env σ → RVs g w1 h1.nx l xs → Post g w1 h1.nx (f l h1) XE P → R xs H1) : tEs g E rs σ H R := by
  subst hE
  exact ⟨w, env, h, rr, re, q.bind.mono fun w1 h1 H1 l ext rr1 q1 xs rv => hR w1 h1 H1 l xs ext rr1 (re.ext ext) rv q1⟩
theorem av_nil : PA X [] (tEs g E (fun _ h => .ok [] h)) := pa_nil.imp fun σ H Q ⟨w, env, h, rr, re, q⟩ => q.now rr [] RVs.nil
theorem av_cons (hn : nst e = true) (ha : PE X e (tE g E ra)) (hs : PA X es (tEs g E rs)) : PA X (e :: es) (tEs g E (consR ra rs)) := by
  refine (pa_cons ha hs (nst_ok hn es X.env)).imp fun σ H Q ⟨w, env, h, rr, re, q⟩ => ?_
  refine tE.step q rr re rfl fun w1 h1 H1 x v ext rr1 re1 rv q1 => ?_
  exact tEs.step q1 rr1 re1 rfl fun w2 h2 H2 l xs ext2 rr2 re2 rvs q2 => q2.now rr2 _ (RVs.mk (rv.ext ext2 _ _) rvs)
theorem kv_nil : PK X [] (tEs g E (fun _ h => .ok [] h)) := ⟨fun pos pins s σ H Q I ⟨w, env, h, rr, re, q⟩ => pk_nil.run pos pins s σ H Q I (q.now rr [] RVs.nil)⟩
theorem kv_cons {nm : Option Str} {kp : Pos} {kws : List Keyword} (ha : PE X e (tE g E ra)) (hs : PK X kws (tEs g E rs)) : PK X (⟨nm, e, kp⟩ :: kws) (tEs g E (consR ra rs)) := by
  refine ⟨fun pos pins s σ H Q I ⟨w, env, h, rr, re, q⟩ => (pk_cons ha hs).run pos pins s σ H Q I ?_⟩
  refine tE.step q rr re rfl fun w1 h1 H1 x v ext rr1 re1 rv q1 => ?_
  exact tEs.step q1 rr1 re1 rfl fun w2 h2 H2 l xs ext2 rr2 re2 rvs q2 => q2.now rr2 _ (RVs.mk (rv.ext ext2 _ _) rvs)
/-! ### displays -/
theorem ev_tup (G : GX g c k X) {j : Nat} (hs : PA X es (tEs g E rs)) : EV X g E (.Tuple es j pos) (fun env h => (rs env h).bind fun l h => if l.length ≤ line then .ok (.tup l) h else .stuck) := by
  refine EV.of G ((pe_tup hs).imp fun σ H Q ⟨w, env, h, rr, re, q⟩ => ?_) fun _ => rfl
  refine tEs.step q rr re rfl fun w1 h1 H1 l xs ext rr1 re1 rvs q1 => ?_
  obtain ⟨hl, q1⟩ := if_ok q1
  exact ⟨by rw [rvs.length, sizeL]; exact hl, fun p hp => pv_frz q1 rr1 hp (rv_tup.mpr ⟨p, _, rfl, .inl (.inl upd_same), rvs.ext (rr1.freeze hp).2⟩)⟩
theorem ev_lst (G : GX g c k X) (hs : PA X es (tEs g E rs)) : EV X g E (.List es pos) (fun env h => (rs env h).bind fun l h => if l.length ≤ line then .ok (.lst l) h else .stuck) := by
  refine EV.of G ((pe_lst hs).imp fun σ H Q ⟨w, env, h, rr, re, q⟩ => ?_) fun _ => rfl
  refine tEs.step q rr re rfl fun w1 h1 H1 l xs ext rr1 re1 rvs q1 => ?_
  obtain ⟨hl, q1⟩ := if_ok q1
  exact ⟨by rw [rvs.length, sizeL]; exact hl, fun p hp => pv_frz q1 rr1 hp (rv_lst.mpr ⟨p, _, rfl, upd_same, rvs.ext (rr1.freeze hp).2⟩)⟩
theorem ev_hls (G : GX g c k X) (hs : PA X es (tEs g E rs)) : EV X g E (.List es pos) (fun env h => (rs env h).bind fun l h => if l.length ≤ line then .ok (.ref h.nx) (h.new (.lst l)) else .stuck) := by
  refine EV.of G ((pe_lst hs).imp fun σ H Q ⟨w, env, h, rr, re, q⟩ => ?_) fun _ => rfl
  refine tEs.step q rr re rfl fun w1 h1 H1 l xs ext rr1 re1 rvs q1 => ?_
  obtain ⟨hl, q1⟩ := if_ok q1
  refine ⟨by rw [rvs.length, sizeL]; exact hl, fun p hp => ?_⟩
  obtain ⟨r2, x2⟩ := rr1.alloc hp rvs
  exact q1 _ _ x2 r2 _ (rv_ref.mpr ⟨by show _ = V.ref (if h1.nx = h1.nx then p else _); rw [if_pos rfl], Nat.lt_succ_self _⟩)
/-! ### subscripts -/
theorem ev_idx (G : GX g c k X) (ha : EV X g E a ra) (hb : EV X g E b rb) (hn : nsl b = true) : EV X g E (.Subscript a b pos) (fun env h => (ra env h).bind fun x h => (rb env h).bind fun y h => idxop x y h) := by
  refine EV.of G (PE.mk fun pins s σ H Q I ⟨w, env, h, rr, re, q⟩ => ?_) fun _ => rfl
  refine (pe_ix (ix_ev (E := E σ) G) ha.pe hb.pe (nsl_ok hn)).run pins s σ H Q I ?_
  refine tE.step q rr re rfl fun w1 h1 H1 x v ext rr1 re1 rv q1 => ?_
  refine tE.step q1 rr1 re1 rfl fun w2 h2 H2 y u ext2 rr2 re2 rv2 q2 => ?_
  exact ⟨w2, h2, x, y, rr2, rv.ext ext2 _ _, rv2, q2⟩
/-- an optional part of a slice -/
def tO' (g : Gi) (E : SX') (run : Run (Option Int)) : TO := fun σ H Q => ∃ w env h, RR g w h H ∧ RE g w h.nx env σ ∧ Post g w h.nx (run env h) (E σ) (fun _ _ H' o => Q o H')
def opR (ra : Run D) : Run (Option Int) := fun env h => (ra env h).bind fun x h => match x with
    | .int i => .ok (some i) h
    | _ => .stuck
theorem ov_no : PO X none (tO' g E (fun _ h => .ok none h)) := ⟨fun pins s σ H Q I ⟨w, env, h, rr, re, q⟩ => po_none.run pins s σ H Q I (q.now rr)⟩
theorem ov_so (ha : EV X g E a ra) : PO X (some a) (tO' g E (opR ra)) := by
  refine ⟨fun pins s σ H Q I ⟨w, env, h, rr, re, q⟩ => (po_some ha.pe).run pins s σ H Q I ?_⟩
  refine tE.step q rr re rfl fun w1 h1 H1 x v ext rr1 re1 rv q1 => ?_
  cases x with
  | int i => exact ⟨i, rv_int.mp rv, q1.now rr1⟩
  | _ => exact q1.elim
theorem tO'.step {α : Type} {ro : Run (Option Int)} {f : Option Int → AH → Res α} {P : Wd → AH → Hp → α → Prop} {w : Wd} {env : Env} {h : AH} {σ : L2.St} {H : Hp} {XE : XK}
    (q : Post g w h.nx ((ro env h).bind f) XE P) (rr : RR g w h H) (re : RE g w h.nx env σ) (hE : E σ = XE)
    {R : Option Int → Hp → Prop} (hR : ∀ w1 h1 H1 o, Ext w h.nx w1 h1.nx → RR g w1 h1 H1 → RE g w1 h1.nx env σ → Post g w1 h1.nx (f o h1) XE P → R o H1) : tO' g E ro σ H R := by
  subst hE
  exact ⟨w, env, h, rr, re, q.bind.mono fun w1 h1 H1 l ext rr1 q1 => hR w1 h1 H1 l ext rr1 (re.ext ext) q1⟩
theorem ev_slc (G : GX g c k X) {lo hi : Option Expr} {rl rh : Run (Option Int)} (ha : EV X g E a ra) (hl : PO X lo (tO' g E rl)) (hh : PO X hi (tO' g E rh)) :
    EV X g E (.Subscript a (.Slice lo hi none p2) pos) (fun env h => (ra env h).bind fun x h => (rl env h).bind fun l h => (rh env h).bind fun u h => slcop x l u h) := by
  refine EV.of G (PE.mk fun pins s σ H Q I ⟨w, env, h, rr, re, q⟩ => ?_) fun _ => rfl
  refine (pe_slice (sl_ev (E := E σ) G) ha.pe hl hh).run pins s σ H Q I ?_
  refine tE.step q rr re rfl fun w1 h1 H1 x v ext rr1 re1 rv q1 => ?_
  refine tO'.step q1 rr1 re1 rfl fun w2 h2 H2 l ext2 rr2 re2 q2 => ?_
  refine tO'.step q2 rr2 re2 rfl fun w3 h3 H3 u ext3 rr3 re3 q3 => ?_
  exact ⟨w3, h3, x, rr3, (rv.ext ext2 _ _).ext ext3 _ _, q3⟩
/-! ### built-ins -/
theorem bboot (b : Bi) : bootBuiltins (bname b) = some (bval b) := by cases b <;> decide +kernel
theorem bname_ok (b : Bi) : bname b ≠ "__name__" ∧ (bname b == ("__debug__" : Str)) = false := by cases b <;> decide +kernel
theorem ev_bi (G : GX g c k X) (hc : c = true) (bb : Bi) (hg : Gl X (bname bb)) (hm : X.mg (bname bb) = none) (hn : nst a = true) (ha : EV X g E a ra) : EV X g E (.Call (.Name (bname bb) p1) [a] [] pos) (fun env h => (ra env h).bind fun x h => biop bb x h) := by
  have hv := bboot bb
  obtain ⟨k1, k2⟩ := bname_ok bb
  refine EV.of G (PE.mk fun pins s σ H Q I ⟨w, env, h, rr, re, q⟩ => ?_) fun _ => rfl
  have hA : PA X [a] (tCons (tE g E ra) tNil) := pa_cons ha.pe pa_nil (nst_ok hn [] X.env)
  have hR : tCB (rB g (E σ) bb) (tCons (tE g E ra) tNil) σ H Q := by
    refine tE.step q rr re rfl fun w1 h1 H1 x v ext rr1 re1 rv q1 => ?_
    exact ⟨w1, h1, x, v, rr1, rv, rfl, q1⟩
  have hC := call_bi (E := E σ) G hc bb
  cases bb with
  | len => exact (pe_callB hC hg hm hv hA k1 k2 (nst_ok hn [] X.env)).run pins s σ H Q I hR
  | all => exact (pe_callB hC hg hm hv hA k1 k2 (nst_ok hn [] X.env)).run pins s σ H Q I hR
  | any => exact (pe_callB hC hg hm hv hA k1 k2 (nst_ok hn [] X.env)).run pins s σ H Q I hR
  | abs => exact (pe_callB hC hg hm hv hA k1 k2 (nst_ok hn [] X.env)).run pins s σ H Q I hR
  | tuple => exact (pe_callTy hC hg hm hv hA k1 k2 (nst_ok hn [] X.env)).run pins s σ H Q I hR
  | list => exact (pe_callTy hC hg hm hv hA k1 k2 (nst_ok hn [] X.env)).run pins s σ H Q I hR
  | int => exact (pe_callTy hC hg hm hv hA k1 k2 (nst_ok hn [] X.env)).run pins s σ H Q I hR
  | str => exact (pe_callTy hC hg hm hv hA k1 k2 (nst_ok hn [] X.env)).run pins s σ H Q I hR
/-- isinstance(x, T), T one built-in type -/
theorem ev_isi (G : GX g c k X) {kk : IK} (hs : ksimple kk = true) (hg : Gl X "isinstance") (hm : X.mg "isinstance" = none) (hg2 : Gl X (Str.ofString (kname kk))) (hm2 : X.mg (Str.ofString (kname kk)) = none) (hn : nst a = true) (ha : EV X g E a ra) :
    EV X g E (.Call (.Name "isinstance" p1) [a, .Name (Str.ofString (kname kk)) p2] [] pos) (fun env h => (ra env h).bind fun x h => lift ((isk x kk).map .bl) h) := by
  have hv2 : bootBuiltins (Str.ofString (kname kk)) = some (.type (kname kk)) ∧ Str.ofString (kname kk) ≠ "__name__" ∧ (Str.ofString (kname kk) == ("__debug__" : Str)) = false := by
    cases kk <;> first
      | exact absurd hs (by unfold ksimple; exact Bool.false_ne_true)
      | (simp only [kname]; decide +kernel)
  have hB : PE X (.Name (Str.ofString (kname kk)) p2) (tC (.ty (kname kk))) := pe_bltn hg2 hm2 hv2.1 rfl hv2.2.1 hv2.2.2
  have hA : PA X [a, .Name (Str.ofString (kname kk)) p2] (tCons (tE g E ra) (tCons (tC (.ty (kname kk))) tNil)) := pa_cons ha.pe (pa_cons hB pa_nil) (nst_ok hn _ X.env)
  refine EV.of G ((pe_callB call_isi hg hm (by decide +kernel) hA (by decide +kernel) (by decide +kernel) (nst_ok hn _ X.env)).imp fun σ H Q ⟨w, env, h, rr, re, q⟩ => ?_) fun _ => rfl
  refine tE.step q rr re rfl fun w1 h1 H1 x v ext rr1 re1 rv q1 => ?_
  obtain ⟨bb, hb, q1⟩ := lift_map q1
  exact ⟨v, .ty (kname kk), .type (tyn x), .type (kname kk), bb, rfl, .ty _, tyx_of G.K rr1 rv hb, kit_tyn hs hb, pv_now q1 rr1 (rv_bl.mpr rfl)⟩
/-- isinstance(x, (list, tuple)) -/
theorem ev_isiT (G : GX g c k X) {j : Nat} {p3 p4 : Pos} (hg : Gl X "isinstance") (hm : X.mg "isinstance" = none) (hgl : Gl X "list") (hml : X.mg "list" = none) (hgt : Gl X "tuple") (hmt : X.mg "tuple" = none) (hn : nst a = true) (ha : EV X g E a ra) :
    EV X g E (.Call (.Name "isinstance" p1) [a, .Tuple [.Name "list" p3, .Name "tuple" p4] j p2] [] pos) (fun env h => (ra env h).bind fun x h => lift ((isk x .seq).map .bl) h) := by
  have hB : PE X (.Tuple [.Name "list" p3, .Name "tuple" p4] j p2) (tTup (tCons (tC (.ty "list")) (tCons (tC (.ty "tuple")) tNil))) :=
    pe_tup (pa_cons (pe_bltn hgl hml (by decide +kernel) rfl (by decide +kernel) (by decide +kernel)) (pa_cons (pe_bltn hgt hmt (by decide +kernel) rfl (by decide +kernel) (by decide +kernel)) pa_nil))
  have hA : PA X [a, .Tuple [.Name "list" p3, .Name "tuple" p4] j p2] (tCons (tE g E ra) (tCons (tTup (tCons (tC (.ty "list")) (tCons (tC (.ty "tuple")) tNil))) tNil)) := pa_cons ha.pe (pa_cons hB pa_nil) (nst_ok hn _ X.env)
  refine EV.of G ((pe_callB call_isiT hg hm (by decide +kernel) hA (by decide +kernel) (by decide +kernel) (nst_ok hn _ X.env)).imp fun σ H Q ⟨w, env, h, rr, re, q⟩ => ?_) fun _ => rfl
  refine tE.step q rr re rfl fun w1 h1 H1 x v ext rr1 re1 rv q1 => ?_
  obtain ⟨bb, hb, q1⟩ := lift_map q1
  refine ⟨by show 2 ≤ sizeLine; rw [sizeLine_eq]; decide, fun p hp => ?_⟩
  obtain ⟨r2, x2⟩ := rr1.freeze (o := .tup [.ty "list", .ty "tuple"]) hp
  have kt : PySem.W.kitAny X.K (.type (tyn x)) [.type "list", .type "tuple"] = some bb := by
    obtain ⟨b1, e1⟩ : ∃ b1, isk x .list = some b1 := by
      cases x <;> first
        | exact ⟨_, rfl⟩
        | exact absurd hb (by unfold isk; exact fun z => nomatch z)
    obtain ⟨b2, e2⟩ : ∃ b2, isk x .tuple = some b2 := by
      cases x <;> first
        | exact ⟨_, rfl⟩
        | exact absurd hb (by unfold isk; exact fun z => nomatch z)
    have k1 := kit_tyn (K := X.K) (kk := .list) rfl e1
    have k2 := kit_tyn (K := X.K) (kk := .tuple) rfl e2
    have eb : bb = (b1 || b2) := by
      cases x <;> first
        | (cases hb; cases e1; cases e2; rfl)
        | exact absurd hb (by unfold isk; exact fun z => nomatch z)
    refine kitAny_cons k1 (fun z => kitAny_cons k2 (fun z2 => ?_) (fun z2 => ?_)) (fun z => ?_)
    · rw [eb, z, z2]; rfl
    · rw [eb, z2, Bool.or_true]
    · rw [eb, z, Bool.true_or]
  exact ⟨v, p, _, .type (tyn x), _, bb, rfl, upd_same, .cons (.ty _) (.cons (.ty _) .nil), tyx_of (kk := .seq) (b := bb) G.K r2 (rv.ext x2 _ _) hb, kt, q1 _ _ x2 r2 _ (rv_bl.mpr rfl)⟩
def mtR (m : Mt) (ra rb : Run D) : Run D := fun env h => (ra env h).bind fun x h => match x with
    | .str s => (rb env h).bind fun y h => mtop m (.str s) y h
    | _ => .stuck
/-- sep.join(xs) -/
theorem ev_join (G : GX g c k X) {p3 : Pos} (ha : EV X g E a ra) (hb : EV X g E b rb) (hn : nst b = true) (hsup : nsuper a = true) (hline : (p3.endLine == pos.line) = true) : EV X g E (.Call (.Attribute a "join" p3) [b] [] pos) (mtR .join ra rb) := by
  refine EV.of G (PE.mk fun pins s σ H Q I ⟨w, env, h, rr, re, q⟩ => ?_) fun _ => rfl
  refine (pe_m1 F.slot_str_join F.type_str_join (mt_joinE (E := E σ) G) ha.pe hb.pe (nst_ok hn [] X.env) (nsuper_ok hsup _ _) hline).run pins s σ H Q I ?_
  unfold mtR at q
  refine tE.step q rr re rfl fun w1 h1 H1 x v ext rr1 re1 rv q1 => ?_
  cases x with
  | str s =>
    obtain ⟨rfl, _⟩ := rv_str.mp rv
    refine ⟨⟨_, rfl⟩, tE.step q1 rr1 re1 rfl fun w2 h2 H2 y u ext2 rr2 re2 rv2 q2 => ?_⟩
    exact ⟨w2, h2, .str s, y, u, rr2, rv.ext ext2 _ _, rv2, rfl, q2⟩
  | _ => exact q1.elim
end
end Rk

set_option maxHeartbeats 1000000
/-! Rk.H: calls of the text's defs. -/
namespace Rk
open PySem PySem.Spec PyProof.Rows L2
structure RoomG (k : Nat) (A : Around) : Prop where
  dp : A.depth + 3 * k + 5 < recursionLimit
  un : A.units + 16 * k + 200 < cLine
  gd : A.guards = some []
theorem RoomG.deeper {k : Nat} {A : Around} (r : RoomG (k + 1) A) (env : PySem.Env) : RoomG k (A.deeper env) :=
  ⟨by have := r.dp; show A.depth + 1 + 3 * k + 5 < _; omega, by have := r.un; show A.units + 3 + 16 * k + 200 < _; omega, r.gd⟩
theorem RoomG.mono {j k : Nat} {A : Around} (r : RoomG k A) (h : j ≤ k) : RoomG j A := ⟨by have := r.dp; omega, by have := r.un; omega, r.gd⟩
theorem GX.room {g : Gi} {c : Bool} {k : Nat} {X : Cx} (G : GX g c k X) : RoomG k X.A := ⟨G.dp, G.un, G.gd⟩
/-- a def keeps its promise -/
structure FnG (P : Program) (w : World) (K : PySem.W.Frag) (mg : Str → Option Value) (base : Heap) (k : Nat) (c : Bool) (f : Addr) (fd : FuncData) (ps : List Str) (sp : Sp) : Prop where
  run : ∀ (A : Around) (outer : List PySem.Env) (s : Shared) (H : Hp) (args : Args) (us : List Value) (vs : List V) (Q : VK) (E : XK), RoomG k A → (c = true → A.handled = none) → Env0 P w K mg base A outer s H → vs.length = ps.length → BindsTo s fd args (ps.zip us) → Vals vs us → sp vs H Q E →
    codeAny (model P w) A (.call (.ref f) args) (CR (L2.CX P w) outer P w H s Q E) s
theorem pick_paired {α β : Type} {R : α → β → Prop} : ∀ {sel : List Nat} {xs : List α} {us : List β} {vs : List α}, Paired R xs us → pick sel xs = some vs → ∃ ws, pick sel us = some ws ∧ Paired R vs ws
  | [], xs, us, vs, r, h => by cases h; exact ⟨[], rfl, .nil⟩
  | i :: sel, xs, us, vs, r, h => by
    unfold pick at h
    split at h
    · rename_i d s h1 h2
      cases h
      obtain ⟨ws, e, rw'⟩ := pick_paired r h2
      have hu : ∃ u, us[i]? = some u ∧ R d u := by
        clear h2 e rw'
        induction r generalizing i with
        | nil => simp at h1
        | cons r1 r2 ih =>
          cases i with
          | zero => simp at h1; subst h1; exact ⟨_, rfl, r1⟩
          | succ i => simpa using ih i (by simpa using h1)
      obtain ⟨u, hu, ru⟩ := hu
      refine ⟨u :: ws, ?_, .cons ru rw'⟩
      unfold pick
      rw [hu, e]
    · cases h
theorem pick_rvs {g : Gi} {w : Wd} {n : Nat} : ∀ {sel : List Nat} {l : List D} {xs : List V} {m : List D}, RVs g w n l xs → pick sel l = some m → ∃ ys, pick sel xs = some ys ∧ RVs g w n m ys
  | [], l, xs, m, r, h => by cases h; exact ⟨[], rfl, RVs.nil⟩
  | i :: sel, l, xs, m, r, h => by
    unfold pick at h
    split at h
    · rename_i d s h1 h2
      cases h
      obtain ⟨ys, e, rw'⟩ := pick_rvs r h2
      obtain ⟨y, hy, ry⟩ := r.get h1
      refine ⟨y :: ys, ?_, RVs.mk ry rw'⟩
      unfold pick
      rw [hy, e]
    · cases h
theorem vals_app {xs ys : List V} {us ws : List Value} (a : Vals xs us) (b : Vals ys ws) : Vals (xs ++ ys) (us ++ ws) := Vals.append a b
/-- how a call's values come to the parameters: n by place, those of the names ks, then the defaults, by sel -/
structure KB (g : Gi) (f n : Nat) (ks : List Str) (sel : List Nat) : Prop where
  bind : ∃ ds : List Value, Vals (g.fdv f) ds ∧ ∀ (s : Shared) (us ws vs : List Value), g.K.In s.heap → us.length = n → ws.length = ks.length → pick sel (us ++ ws ++ ds) = some vs → BindsTo s (g.fd f) ⟨us, ks.zip ws⟩ ((g.fps f).zip vs)
section
variable {X : Cx} {g : Gi} {c : Bool} {k : Nat} {E : SX'} {e a b d : Expr} {pos p1 p2 : Pos} {es : List Expr} {rs rk : Run (List D)}
/-- the callee runs -/
theorem run_fnG {fa : Addr} {fd : FuncData} {ps : List Str} {sp : Sp} {pins : List (Addr × Obj)} {σ : L2.St} {H : Hp} {s : Shared} {Q : VK} {us ws zs : List Value} {vs : List V} {ks : List Str} (G : GX g c k X) (F : FnG X.prog X.w X.K X.mg X.base k c fa fd ps sp)
    (tk : Takes X (fun cls d σ H => E σ cls d H)) (I : Inv X pins σ H s) (hl : vs.length = ps.length) (hb : BindsTo s fd ⟨us, ks.zip ws⟩ (ps.zip zs)) (r : Vals vs zs) (h : sp vs H Q (E σ)) :
    wpAny (model X.prog X.w) X.A (call (.ref fa) us (ks.zip ws)) (EP X pins σ Q) X.xe s := by
  refine wpAny_call (codeAny_mono (F.run X.A X.stack s H ⟨us, ks.zip ws⟩ zs vs Q (E σ) G.room (fun hc => I.ok.hd (G.calm hc)) I.env0 hl hb r h) fun r s' hq => ?_)
  cases r with
  | error e => exact tk e s' (XE.of_call I (fun cls d H' h => h) hq)
  | ok fl =>
    cases fl with
    | ret u => exact I.after hq
    | next => exact False.elim hq
    | brk => exact False.elim hq
    | cont => exact False.elim hq
def calR (call : Bool → Nat → List D → AH → Res D) (dfl : List D) (c : Bool) (f : Nat) (sel : List Nat) (rs rk : Run (List D)) : Run D := fun env h => (rs env h).bind fun l h => (rk env h).bind fun m h => match pick sel (l ++ m ++ dfl) with
    | some vs => call c f vs h
    | none => .stuck
/-- a call's values reach the callee -/
theorem cal_core {pins : List (Addr × Obj)} {σ : L2.St} {H : Hp} {s : Shared} {Q : VK} {call' : Bool → Nat → List D → AH → Res D} {f n : Nat} {dfl : List D} {ks : List Str} {sel : List Nat} {w : Wd} {h : AH} {l m : List D} {xs ys : List V} {us ws : List Value}
    (G : GX g c k X) (F : FnG X.prog X.w X.K X.mg X.base k c (g.fa f) (g.fd f) (g.fps f) (spF g call' c f)) (hb : KB g f n ks sel) (hps : (g.fps f).length = sel.length) (hd : ∀ w n, RVs g w n dfl (g.fdv f)) (tk : Takes X (fun cls d σ H => E σ cls d H))
    (I : Inv X pins σ H s) (rr : RR g w h H) (r1 : RVs g w h.nx l xs) (r2 : RVs g w h.nx m ys) (v1 : Vals xs us) (v2 : Vals ys ws) (hn : us.length = n) (hk : ws.length = ks.length)
    (q : Post g w h.nx (match pick sel (l ++ m ++ dfl) with
      | some vs => call' c f vs h
      | none => .stuck) (E σ) (PV g Q)) :
    wpAny (model X.prog X.w) X.A (PySem.call (.ref (g.fa f)) us (ks.zip ws)) (EP X pins σ Q) X.xe s := by
  cases hp : pick sel (l ++ m ++ dfl) with
  | none => rw [hp] at q; exact q.elim
  | some vs =>
    rw [hp] at q
    obtain ⟨ds, vd, hbind⟩ := hb.bind
    obtain ⟨zs, hz, rz⟩ := pick_rvs ((r1.append r2).append (hd w h.nx)) hp
    obtain ⟨bs, hbs, rb⟩ := pick_paired (vals_app (vals_app v1 v2) vd) hz
    have hlen : ∀ {α : Type} {sel : List Nat} {l : List α} {r : List α}, pick sel l = some r → r.length = sel.length := by
      intro α sel
      induction sel with
      | nil => intro l r h; cases h; rfl
      | cons i sel ih =>
        intro l r h
        unfold pick at h
        split at h
        · rename_i d s h1 h2
          cases h
          rw [List.length_cons, List.length_cons, ih h2]
        · cases h
    exact run_fnG G F tk I (by rw [hlen hz, hps]) (hbind s us ws bs (G.K ▸ I.kIn) hn hk hbs) rb ⟨w, vs, h, rr, rz, q⟩
theorem starEach_len : ∀ {l : List Expr} {env : PySem.Env}, (starEach l env).length = l.length
  | [], _ => rfl
  | e :: l, env => by
    cases e <;> (show (starEach l env).length + 1 = l.length + 1; rw [starEach_len])
/-- f(a, .., k = b, ..) -/
theorem ev_cal (G : GX g c k X) {x : Str} {call' : Bool → Nat → List D → AH → Res D} {f : Nat} {dfl : List D} {ks : List Str} {sel : List Nat} {kws : List Keyword}
    (F : FnG X.prog X.w X.K X.mg X.base k c (g.fa f) (g.fd f) (g.fps f) (spF g call' c f)) (hg : Gl X x) (hm : X.mg x = some (.ref (g.fa f))) (hkp : PySem.W.keepIn X.K (.ref (g.fa f)) = true) (hdb : (x == ("__debug__" : Str)) = false)
    (hb : KB g f es.length ks sel) (hps : (g.fps f).length = sel.length) (hd : ∀ w n, RVs g w n dfl (g.fdv f)) (tk : Takes X (fun cls d σ H => E σ cls d H))
    (hn : nsts es = true) (hk : kwn kws = some ks) (ha : PA X es (tEs g E rs)) (hkw : PK X kws (tEs g E rk)) (h0 : es = [] → ∀ env h, rs env h = .ok [] h) (hl1 : ∀ env h l h', rs env h = .ok l h' → l.length = es.length) (hl2 : ∀ env h l h', rk env h = .ok l h' → l.length = ks.length) :
    EV X g E (.Call (.Name x p1) es kws pos) (calR call' dfl c f sel rs rk) := by
  obtain ⟨k1, k2, k3⟩ := kwn_ok (pos := pos) (env := X.env) hk
  refine EV.of G (PE.mk fun pins s σ H Q I ⟨w, env, h, rr, re, q⟩ => ?_) fun _ => rfl
  refine wpAny_Call_Name_kw (ld_glob I hg hm ?_ hdb)
  unfold calR at q
  have hpl : ((backTo pos (starEach es X.env)).any (·.1) || (backToKw pos (keywordEach kws X.env)).any (·.1.isNone)) = false := by rw [nsts_any hn, k3]; rfl
  have tail : ∀ (us : List Value) (s1 : Shared) (xs : List V) (H1 : Hp), Inv X pins σ H1 s1 → Vals xs us → us.length = es.length → (∃ w1 h1 l, RR g w1 h1 H1 ∧ RE g w1 h1.nx env σ ∧ RVs g w1 h1.nx l xs ∧ Post g w1 h1.nx ((rk env h1).bind fun m h => match pick sel (l ++ m ++ dfl) with
      | some vs => call' c f vs h
      | none => .stuck) (E σ) (PV g Q)) →
      wpAny (model X.prog X.w) X.A (evalAll ((backToKw pos (keywordEach kws X.env)).map (·.2))) (fun ws s₂ => X.K.In s₂.heap ∧ wpAny (model X.prog X.w) X.A (PySem.call (.ref (g.fa f)) ([] ++ us) (((backToKw pos (keywordEach kws X.env)).filterMap (·.1)).zip ws)) (EP X pins σ Q) X.xe s₂) X.xe s1 := by
    rintro us s1 xs H1 I1 v1 hlu ⟨w1, h1, l, rr1, re1, rvs, q1⟩
    cases hrk : rk env h1 with
    | stuck => rw [hrk] at q1; exact q1.elim
    | _ =>
      refine thn (hkw.run pos pins s1 σ H1 (fun ys H2 => ys.length = ks.length ∧ ∃ w2 h2 m, RR g w2 h2 H2 ∧ RVs g w2 h2.nx l xs ∧ RVs g w2 h2.nx m ys ∧ Post g w2 h2.nx (match pick sel (l ++ m ++ dfl) with
        | some vs => call' c f vs h2
        | none => .stuck) (E σ) (PV g Q)) I1 ?_) fun ws s2 ⟨ys, H2, I2, v2, e2, w2, h2, m, rr2, r1, r2, q2⟩ => ⟨I2.kIn, ?_⟩
      · refine ⟨w1, env, h1, rr1, re1, ?_⟩
        have q1 := q1.bind
        cases hrk : rk env h1 with
        | ok m h2 =>
          rw [hrk] at q1
          exact fun w2 H2 ext rr2 ys rv => ⟨by rw [rv.length]; exact hl2 _ _ _ _ hrk, w2, h2, m, rr2, rvs.ext ext, rv, q1 w2 H2 ext rr2⟩
        | exc x h2 => rw [hrk] at q1; exact q1
        | stuck => rw [hrk] at q1; exact q1
      · rw [k2, List.nil_append]
        exact cal_core G F hb hps hd tk I2 rr2 r1 r2 v1 v2 hlu (by rw [← v2.length]; exact e2) q2
  cases es with
  | nil =>
    refine PySem.W.callWith_KW0 (h₀ := X.base) I.ok.mod.kin hkp k1 ?_ hpl
    rw [h0 rfl, bind_ok] at q
    exact tail [] s [] H I .nil rfl ⟨w, h, [], rr, re, RVs.nil, q⟩
  | cons e es =>
    have hn1 : nst e = true := by unfold nsts at hn; rw [List.all_cons, Bool.and_eq_true] at hn; exact hn.1
    refine PySem.W.callWith_KW (h₀ := X.base) I.ok.mod.kin hkp k1 (thn (ha.run pos pins s σ H (fun xs H1 => xs.length = (e :: es).length ∧ ∃ w1 h1 l, RR g w1 h1 H1 ∧ RE g w1 h1.nx env σ ∧ RVs g w1 h1.nx l xs ∧ Post g w1 h1.nx ((rk env h1).bind fun m h => match pick sel (l ++ m ++ dfl) with
      | some vs => call' c f vs h
      | none => .stuck) (E σ) (PV g Q)) I ⟨w, env, h, rr, re, ?_⟩) fun us s1 ⟨xs, H1, I1, v1, e1, q1⟩ => tail us s1 xs H1 I1 v1 (by rw [← v1.length]; exact e1) q1) hpl (nst_ok hn1 _ _)
    have q0 := q.bind
    cases hr : rs env h with
    | ok l h1 =>
      rw [hr] at q0
      exact fun w1 H1 ext rr1 xs rv => ⟨by rw [rv.length]; exact hl1 _ _ _ _ hr, w1, h1, l, rr1, re.ext ext, rv, q0 w1 H1 ext rr1⟩
    | exc x h1 => rw [hr] at q0; exact q0
    | stuck => rw [hr] at q0; exact q0
end
end Rk

set_option maxHeartbeats 1000000
/-! Rk.I: what loops walk; targets; comprehensions. -/
namespace Rk
open PySem PySem.Spec PyProof.Rows L2
/-- an iterator yields what the evaluator's source yields -/
structure Serves (g : Gi) (J : L2.It) (w0 : Wd) (n0 : Nat) (s : Src) : Prop where
  it : ∀ w h H i d, Ext w0 n0 w h.nx → RR g w h H → s.get i h = some (some d) → J.go i H ∧ ∀ x H', J.yld i H x H' → ∃ w', Ext w h.nx w' h.nx ∧ RR g w' h H' ∧ RV g w' h.nx d x
  stop : ∀ w h H i, Ext w0 n0 w h.nx → RR g w h H → s.get i h = some none → J.stop i H
section
variable {g : Gi} {w0 : Wd} {n0 : Nat} {K : PySem.W.Frag} {a : Addr}
theorem RVs.none {w : Wd} {n : Nat} {l : List D} {xs : List V} {i : Nat} (r : RVs g w n l xs) (h : l[i]? = none) : xs.length ≤ i := by
  rw [r.length]
  exact List.getElem?_eq_none_iff.mp h
theorem serves_lst {l : List D} {xs : List V} (r : RVs g w0 n0 l xs) (hq : ∀ w h H, Ext w0 n0 w h.nx → RR g w h H → SqL K H a xs) : Serves g (Itl K a) w0 n0 (.fix l) := by
  refine ⟨fun w h H i d ext rr e => ?_, fun w h H i ext rr e => ?_⟩
  · have e : l[i]? = some d := Option.some.inj e
    obtain ⟨x, hx, rx⟩ := r.get e
    refine ⟨⟨xs, x, hq w h H ext rr, hx⟩, fun x' H' y => ?_⟩
    obtain ⟨e1, y⟩ := y
    subst e1
    have := y xs (hq w h _ ext rr)
    rw [hx] at this
    cases this
    exact ⟨w, Ext.refl _ _, rr, rx.ext ext _ _⟩
  · exact ⟨xs, hq w h H ext rr, r.none (Option.some.inj e)⟩
theorem serves_tup {l : List D} {xs : List V} (r : RVs g w0 n0 l xs) (hq : ∀ w h H, Ext w0 n0 w h.nx → RR g w h H → SqT K H a xs) : Serves g (Itt K a) w0 n0 (.fix l) := by
  refine ⟨fun w h H i d ext rr e => ?_, fun w h H i ext rr e => ?_⟩
  · have e : l[i]? = some d := Option.some.inj e
    obtain ⟨x, hx, rx⟩ := r.get e
    refine ⟨⟨xs, x, hq w h H ext rr, hx⟩, fun x' H' y => ?_⟩
    obtain ⟨e1, y⟩ := y
    subst e1
    have := y xs (hq w h _ ext rr)
    rw [hx] at this
    cases this
    exact ⟨w, Ext.refl _ _, rr, rx.ext ext _ _⟩
  · exact ⟨xs, hq w h H ext rr, r.none (Option.some.inj e)⟩
theorem serves_str {s : List Nat} (hs : okS s = true) : Serves g (Its (stt s)) w0 n0 (.fix (s.map fun c => .str [c])) := by
  refine ⟨fun w h H i d ext rr e => ?_, fun w h H i ext rr e => ?_⟩
  · have e : (s.map fun c => D.str [c])[i]? = some d := Option.some.inj e
    rw [List.getElem?_map] at e
    obtain ⟨c, hc, rfl⟩ := Option.map_eq_some_iff.mp e
    have hi : i < s.length := (List.getElem?_eq_some_iff.mp hc).1
    refine ⟨by show i < s.toArray.size; simpa using hi, fun x' H' y => ?_⟩
    obtain ⟨e1, c', hc', e2⟩ := y
    subst e1 e2
    have hc' : s[i]? = some c' := by simpa [stt] using hc'
    rw [hc] at hc'
    cases hc'
    exact ⟨w, Ext.refl _ _, rr, rv_str.mpr ⟨rfl, okS_get hs hc⟩⟩
  · have e : (s.map fun c => D.str [c])[i]? = none := Option.some.inj e
    have := List.getElem?_eq_none_iff.mp e
    show s.toArray.size ≤ i
    simpa using this
theorem range_len (i j : Int) : (range i j).length = (j - i).toNat := by unfold range; rw [List.length_map, List.length_range]
theorem serves_rng {i j : Int} : Serves g (Itr i (j - i).toNat) w0 n0 (.fix (range i j)) := by
  refine ⟨fun w h H k d ext rr e => ?_, fun w h H k ext rr e => ?_⟩
  · have e : (range i j)[k]? = some d := Option.some.inj e
    have hk : k < (range i j).length := (List.getElem?_eq_some_iff.mp e).1
    rw [range_len] at hk
    refine ⟨hk, fun x' H' y => ?_⟩
    obtain ⟨e1, e2⟩ := y
    subst e1 e2
    refine ⟨w, Ext.refl _ _, rr, ?_⟩
    unfold range at e
    rw [List.getElem?_map, List.getElem?_range hk] at e
    cases e
    exact rv_int.mpr rfl
  · have e : (range i j)[k]? = none := Option.some.inj e
    have := List.getElem?_eq_none_iff.mp e
    rw [range_len] at this
    exact this
theorem get_cell {m i : Nat} {h : AH} {o : Option D} (e : (Src.cell m).get i h = some o) : ∃ l, h.cell m = .lst l ∧ l[i]? = o := by
  have e : (match h.cell m with
    | .lst l => some l[i]?
    | _ => none) = some o := e
  cases ec : h.cell m with
  | lst l => rw [ec] at e; exact ⟨l, rfl, Option.some.inj e⟩
  | _ => rw [ec] at e; cases e
theorem get_ecell {m i : Nat} {h : AH} {o : Option D} (e : (Src.ecell m).get i h = some o) : ∃ l, h.cell m = .lst l ∧ (l[i]?.map fun d => D.tup [.int i, d]) = o := by
  have e : (match h.cell m with
    | .lst l => some (l[i]?.map fun d => D.tup [.int i, d])
    | _ => none) = some o := e
  cases ec : h.cell m with
  | lst l => rw [ec] at e; exact ⟨l, rfl, Option.some.inj e⟩
  | _ => rw [ec] at e; cases e
theorem serves_cell {m : Nat} (hm : m < n0) : Serves g (Itl K (w0.m m)) w0 n0 (.cell m) := by
  refine ⟨fun w h H i d ext rr e => ?_, fun w h H i ext rr e => ?_⟩
  · obtain ⟨l, ec, e⟩ := get_cell e
    obtain ⟨xs, q1, r1⟩ := cell_lst rr (Nat.lt_of_lt_of_le hm ext.le) ec
    rw [ext.m m hm] at q1
    obtain ⟨x, hx, rx⟩ := r1.get e
    refine ⟨⟨xs, x, SqL.of q1, hx⟩, fun x' H' y => ?_⟩
    obtain ⟨e1, y⟩ := y
    subst e1
    have := y xs (SqL.of q1)
    rw [hx] at this
    cases this
    exact ⟨w, Ext.refl _ _, rr, rx⟩
  · obtain ⟨l, ec, e⟩ := get_cell e
    obtain ⟨xs, q1, r1⟩ := cell_lst rr (Nat.lt_of_lt_of_le hm ext.le) ec
    rw [ext.m m hm] at q1
    exact ⟨xs, SqL.of q1, r1.none e⟩
theorem pairs_get : ∀ (l : List D) (j i : Nat), (pairs j l)[i]? = l[i]?.map fun d => .tup [.int ((j + i : Nat) : Int), d]
  | [], j, i => by unfold pairs; simp
  | x :: l, j, 0 => by unfold pairs; simp
  | x :: l, j, i + 1 => by
    unfold pairs
    rw [List.getElem?_cons_succ, List.getElem?_cons_succ, pairs_get l (j + 1) i, show j + 1 + i = j + (i + 1) by omega]
/-- a new pair -/
theorem new_pair {w : Wd} {h : AH} {H : Hp} {T : Addr} {d e : D} {x y : V} (rr : RR g w h H) (hT : H T = none) (r1 : RV g w h.nx d x) (r2 : RV g w h.nx e y) :
    ∃ w', Ext w h.nx w' h.nx ∧ RR g w' h (upd H T (.tup [x, y])) ∧ RV g w' h.nx (.tup [d, e]) (.ref T) := by
  obtain ⟨r3, ext⟩ := rr.freeze (o := .tup [x, y]) hT
  exact ⟨_, ext, r3, rv_tup.mpr ⟨T, [x, y], rfl, .inl (.inl upd_same), RVs.mk (r1.ext ext _ _) (RVs.mk (r2.ext ext _ _) RVs.nil)⟩⟩
theorem serves_enum {l : List D} {xs : List V} (r : RVs g w0 n0 l xs) (hq : ∀ w h H, Ext w0 n0 w h.nx → RR g w h H → SqL K H a xs) : Serves g (Ite K a) w0 n0 (.fix (pairs 0 l)) := by
  refine ⟨fun w h H i d ext rr e => ?_, fun w h H i ext rr e => ?_⟩
  · have e : (pairs 0 l)[i]? = some d := Option.some.inj e
    rw [pairs_get, Nat.zero_add] at e
    obtain ⟨d', hd, rfl⟩ := Option.map_eq_some_iff.mp e
    obtain ⟨x, hx, rx⟩ := r.get hd
    refine ⟨⟨xs, x, hq w h H ext rr, hx⟩, fun x' H' y => ?_⟩
    obtain ⟨T, x2, e1, hT, e2, y⟩ := y
    subst e1 e2
    have := y xs (hq w h _ ext rr)
    rw [hx] at this
    cases this
    exact new_pair rr hT (rv_int.mpr rfl) (rx.ext ext _ _)
  · have e : (pairs 0 l)[i]? = none := Option.some.inj e
    rw [pairs_get] at e
    have e : l[i]? = none := by simpa using e
    exact ⟨xs, hq w h H ext rr, r.none e⟩
theorem serves_ecell {m : Nat} (hm : m < n0) : Serves g (Ite K (w0.m m)) w0 n0 (.ecell m) := by
  refine ⟨fun w h H i d ext rr e => ?_, fun w h H i ext rr e => ?_⟩
  · obtain ⟨l, ec, e⟩ := get_ecell e
    obtain ⟨xs, q1, r1⟩ := cell_lst rr (Nat.lt_of_lt_of_le hm ext.le) ec
    rw [ext.m m hm] at q1
    obtain ⟨d', hd, rfl⟩ := Option.map_eq_some_iff.mp e
    obtain ⟨x, hx, rx⟩ := r1.get hd
    refine ⟨⟨xs, x, SqL.of q1, hx⟩, fun x' H' y => ?_⟩
    obtain ⟨T, x2, e1, hT, e2, y⟩ := y
    subst e1 e2
    have := y xs (SqL.of q1)
    rw [hx] at this
    cases this
    exact new_pair rr hT (rv_int.mpr rfl) rx
  · obtain ⟨l, ec, e⟩ := get_ecell e
    obtain ⟨xs, q1, r1⟩ := cell_lst rr (Nat.lt_of_lt_of_le hm ext.le) ec
    rw [ext.m m hm] at q1
    exact ⟨xs, SqL.of q1, r1.none (by simpa using e)⟩
theorem zips_get : ∀ (l m : List D) (i : Nat), (zips l m)[i]? = (match l[i]?, m[i]? with
    | some x, some y => some (.tup [x, y])
    | _, _ => none)
  | [], m, i => by unfold zips; simp
  | x :: l, [], i => by
    unfold zips
    simp
  | x :: l, y :: m, 0 => by unfold zips; simp
  | x :: l, y :: m, i + 1 => by
    unfold zips
    rw [List.getElem?_cons_succ, List.getElem?_cons_succ, List.getElem?_cons_succ, zips_get l m i]
theorem serves_zip {b : Addr} {l m : List D} {xs ys : List V} (r : RVs g w0 n0 l xs) (hq : ∀ w h H, Ext w0 n0 w h.nx → RR g w h H → SqL K H a xs) (r' : RVs g w0 n0 m ys) (hq' : ∀ w h H, Ext w0 n0 w h.nx → RR g w h H → SqL K H b ys) : Serves g (Itz K a b) w0 n0 (.fix (zips l m)) := by
  refine ⟨fun w h H i d ext rr e => ?_, fun w h H i ext rr e => ?_⟩
  · have e : (zips l m)[i]? = some d := Option.some.inj e
    rw [zips_get] at e
    split at e
    · rename_i d1 d2 h1 h2
      cases e
      obtain ⟨x, hx, rx⟩ := r.get h1
      obtain ⟨y, hy, ry⟩ := r'.get h2
      refine ⟨⟨xs, ys, x, y, hq w h H ext rr, hq' w h H ext rr, hx, hy⟩, fun x' H' z => ?_⟩
      obtain ⟨T, x2, y2, e1, hT, e2, z1, z2⟩ := z
      subst e1 e2
      have := z1 xs (hq w h _ ext rr)
      rw [hx] at this
      cases this
      have := z2 ys (hq' w h _ ext rr)
      rw [hy] at this
      cases this
      exact new_pair rr hT (rx.ext ext _ _) (ry.ext ext _ _)
    · cases e
  · have e : (zips l m)[i]? = none := Option.some.inj e
    rw [zips_get] at e
    refine ⟨xs, ys, hq w h H ext rr, hq' w h H ext rr, ?_⟩
    cases h1 : l[i]? with
    | none => exact .inl (r.none h1)
    | some x =>
      cases h2 : m[i]? with
      | none => exact .inr (r'.none h2)
      | some y => rw [h1, h2] at e; cases e
end
theorem PI.cas {X : Cx} {tg iter : Expr} {wi : TI} (h : ∀ σ H R, wi σ H R → ∃ wi', PI X tg iter wi' ∧ wi' σ H R) : PI X tg iter wi := ⟨fun pins s σ H R I q => by
  obtain ⟨wi', o, q'⟩ := h σ H R q
  exact o.run pins s σ H R I q'⟩
def tI (g : Gi) (X : SX') (run : Run Src) : TI := fun σ H R => ∃ w env h, RR g w h H ∧ RE g w h.nx env σ ∧ Post g w h.nx (run env h) (X σ) (fun w1 h1 H1 src => ∀ J, Serves g J w1 h1.nx src → R J H1)
section
variable {X : Cx} {g : Gi} {c : Bool} {k : Nat} {E : SX'} {e a b d tg iter : Expr} {pos : Pos} {run ra rb rd : Run D}
theorem lst_sq {K : PySem.W.Frag} {w0 : Wd} {n0 : Nat} {a : Addr} {xs : List V} (q : w0.F a = some (.lst xs)) : ∀ (w : Wd) (h : AH) (H : Hp), Ext w0 n0 w h.nx → RR g w h H → SqL K H a xs := fun w h H ext rr => SqL.of (rr.sub _ _ (ext.F _ _ q))
theorem src_ref {m : Nat} {h : AH} {s : Src} (e : srcOf (.ref m) h = some s) : ∃ l, h.cell m = .lst l ∧ s = .cell m := by
  have e : (match h.cell m with
    | .lst _ => some (Src.cell m)
    | _ => none) = some s := e
  cases ec : h.cell m with
  | lst l => rw [ec] at e; exact ⟨l, rfl, (Option.some.inj e).symm⟩
  | _ => rw [ec] at e; cases e
theorem enum_ref {m : Nat} {h : AH} {s : Src} (e : enumOf (.ref m) h = some s) : ∃ l, h.cell m = .lst l ∧ s = .ecell m := by
  have e : (match h.cell m with
    | .lst _ => some (Src.ecell m)
    | _ => none) = some s := e
  cases ec : h.cell m with
  | lst l => rw [ec] at e; exact ⟨l, rfl, (Option.some.inj e).symm⟩
  | _ => rw [ec] at e; cases e
theorem lift_ok' {α : Type} {o : Option α} {w : Wd} {n : Nat} {h : AH} {E : XK} {P : Wd → AH → Hp → α → Prop} (q : Post g w n (lift o h) E P) : ∃ a, o = some a ∧ Post g w n (.ok a h) E P := by
  cases o with
  | none => exact q.elim
  | some a => exact ⟨a, rfl, q⟩
theorem iv_seq (G : GX g c k X) (ha : EV X g E e ra) : PI X tg e (tI g E (fun env h => (ra env h).bind fun x h => lift (srcOf x h) h)) := by
  refine PI.cas fun σ H R ⟨w, env, h, rr, re, q⟩ => ?_
  dsimp only at q
  cases hra : ra env h with
  | stuck => rw [hra] at q; exact q.elim
  | exc y h1 =>
    rw [hra] at q
    exact ⟨_, pi_list ha.pe, w, env, h, rr, re, by rw [hra]; exact q⟩
  | ok x h1 =>
    rw [hra, bind_ok] at q
    obtain ⟨src, hs, q⟩ := lift_ok' q
    have use : ∀ {T : V → Hp → Prop}, (∀ w1 H1 v, Ext w h.nx w1 h1.nx → RR g w1 h1 H1 → RV g w1 h1.nx x v → T v H1) → tE g E ra σ H T := fun {T} hT => ⟨w, env, h, rr, re, by
      rw [hra]
      exact fun w1 H1 ext rr1 v rv => hT w1 H1 v ext rr1 rv⟩
    cases x with
    | lst l =>
      cases hs
      refine ⟨_, pi_list ha.pe, use fun w1 H1 v ext rr1 rv => ?_⟩
      obtain ⟨a, xs, rfl, q1, r1⟩ := rv_lst.mp rv
      exact ⟨a, rfl, ⟨xs, SqL.of (rr1.sub _ _ q1)⟩, q w1 H1 ext rr1 _ (serves_lst r1 (lst_sq q1))⟩
    | tup l =>
      cases hs
      refine ⟨_, pi_tup ha.pe, use fun w1 H1 v ext rr1 rv => ?_⟩
      obtain ⟨a, xs, rfl, q1, r1⟩ := rv_tup.mp rv
      have sq : ∀ (w : Wd) (h : AH) (H : Hp), Ext w1 h1.nx w h.nx → RR g w h H → SqT X.K H a xs := fun w h H ext rr => by rw [G.K]; exact SqT.ext (fun b o e => rr.sub _ _ (ext.F _ _ e)) q1
      exact ⟨a, rfl, ⟨xs, sq w1 h1 H1 (Ext.refl _ _) rr1⟩, q w1 H1 ext rr1 _ (serves_tup r1 sq)⟩
    | str s =>
      cases hs
      refine ⟨_, pi_str ha.pe, use fun w1 H1 v ext rr1 rv => ?_⟩
      obtain ⟨rfl, ho⟩ := rv_str.mp rv
      exact ⟨_, rfl, q w1 H1 ext rr1 _ (serves_str ho)⟩
    | ref m =>
      obtain ⟨l, ec, rfl⟩ := src_ref hs
      refine ⟨_, pi_list ha.pe, use fun w1 H1 v ext rr1 rv => ?_⟩
      obtain ⟨rfl, hm⟩ := rv_ref.mp rv
      obtain ⟨xs, q1, r1⟩ := cell_lst rr1 hm ec
      exact ⟨_, rfl, ⟨xs, SqL.of q1⟩, q w1 H1 ext rr1 _ (serves_cell hm)⟩
    | _ => cases hs
theorem iv_rng (G : GX g c k X) {p : Pos} (hgl : Gl X "range") (hml : X.mg "range" = none) (ha : EV X g E a ra) (hn : nst a = true) : PI X tg (.Call (.Name "range" p) [a] [] pos) (tI g E (fun env h => (ra env h).bind fun x h => match x with
    | .int i => if -(2 ^ 62) ≤ i ∧ i < 2 ^ 62 then .ok (.fix (range 0 i)) h else .stuck
    | _ => .stuck)) := by
  refine PI.cas fun σ H R ⟨w, env, h, rr, re, q⟩ => ⟨_, pi_range1 hgl hml (pa_cons ha.pe pa_nil (nst_ok hn _ _)) (nst_ok hn _ _), ?_⟩
  refine tE.step q rr re rfl fun w1 h1 H1 x v ext rr1 re1 rv q1 => ?_
  cases x with
  | int i =>
    rw [rv_int.mp rv]
    obtain ⟨hl, q1⟩ := if_ok q1
    refine ⟨i, rfl, hl.1, hl.2, q1.now rr1 _ ?_⟩
    have := serves_rng (g := g) (w0 := w1) (n0 := h1.nx) (i := 0) (j := i)
    rw [Int.sub_zero] at this
    exact this
  | _ => exact q1.elim
theorem iv_rng2 (G : GX g c k X) {p : Pos} (hgl : Gl X "range") (hml : X.mg "range" = none) (ha : EV X g E a ra) (hb : EV X g E b rb) (hn : nst a = true) (hn2 : nst b = true) : PI X tg (.Call (.Name "range" p) [a, b] [] pos) (tI g E (fun env h => (ra env h).bind fun x h => (rb env h).bind fun y h => match x, y with
    | .int i, .int j => if (-(2 ^ 62) ≤ i ∧ i < 2 ^ 62) ∧ -(2 ^ 62) ≤ j ∧ j < 2 ^ 62 then .ok (.fix (range i j)) h else .stuck
    | _, _ => .stuck)) := by
  refine PI.cas fun σ H R ⟨w, env, h, rr, re, q⟩ => ⟨_, pi_range2 hgl hml (pa_cons ha.pe (pa_cons hb.pe pa_nil (nst_ok hn2 _ _)) (nst_ok hn _ _)) (by rw [nst_ok hn, nst_ok hn2]; rfl) (nst_ok hn2 _ _), ?_⟩
  refine tE.step q rr re rfl fun w1 h1 H1 x v ext rr1 re1 rv q1 => ?_
  refine tE.step q1 rr1 re1 rfl fun w2 h2 H2 y u ext2 rr2 re2 rv2 q2 => ?_
  have rv := rv.ext ext2 _ _
  cases x with
  | int i =>
    cases y with
    | int j =>
      rw [rv_int.mp rv, rv_int.mp rv2]
      obtain ⟨hl, q2⟩ := if_ok q2
      exact ⟨i, j, rfl, ⟨hl.1.1, hl.1.2, hl.2.1, hl.2.2⟩, q2.now rr2 _ serves_rng⟩
    | _ => exact q2.elim
  | _ => exact q2.elim
theorem iv_enum (G : GX g c k X) {p tpos : Pos} {elts : List Expr} {kk : Nat} (hgl : Gl X "enumerate") (hml : X.mg "enumerate" = none) (ha : EV X g E a ra) (hn : nst a = true) : PI X (.Tuple elts kk tpos) (.Call (.Name "enumerate" p) [a] [] pos) (tI g E (fun env h => (ra env h).bind fun x h => lift (enumOf x h) h)) := by
  refine PI.cas fun σ H R ⟨w, env, h, rr, re, q⟩ => ⟨_, pi_enum hgl hml (pa_cons ha.pe pa_nil (nst_ok hn _ _)) (nst_ok hn _ _), ?_⟩
  refine tE.step q rr re rfl fun w1 h1 H1 x v ext rr1 re1 rv q1 => ?_
  obtain ⟨src, hs, q1⟩ := lift_ok q1
  cases x with
  | lst l =>
    cases hs
    obtain ⟨a, xs, rfl, q2, r1⟩ := rv_lst.mp rv
    exact ⟨a, xs, rfl, SqL.of (rr1.sub _ _ q2), q1.now rr1 _ (serves_enum r1 (lst_sq q2))⟩
  | ref m =>
    obtain ⟨l, ec, rfl⟩ := enum_ref hs
    obtain ⟨rfl, hm⟩ := rv_ref.mp rv
    obtain ⟨xs, q2, r1⟩ := cell_lst rr1 hm ec
    exact ⟨_, xs, rfl, SqL.of q2, q1.now rr1 _ (serves_ecell hm)⟩
  | _ => cases hs
theorem iv_zip (G : GX g c k X) {p tpos : Pos} {elts : List Expr} {kk : Nat} (hgl : Gl X "zip") (hml : X.mg "zip" = none) (ha : EV X g E a ra) (hb : EV X g E b rb) (hn : nst a = true) (hn2 : nst b = true) : PI X (.Tuple elts kk tpos) (.Call (.Name "zip" p) [a, b] [] pos) (tI g E (fun env h => (ra env h).bind fun x h => (rb env h).bind fun y h => lift (zipOf x y) h)) := by
  refine PI.cas fun σ H R ⟨w, env, h, rr, re, q⟩ => ⟨_, pi_zip hgl hml (pa_cons ha.pe (pa_cons hb.pe pa_nil (nst_ok hn2 _ _)) (nst_ok hn _ _)) (nst_ok hn _ _) (by rw [nst_ok hn2]; rfl), ?_⟩
  refine tE.step q rr re rfl fun w1 h1 H1 x v ext rr1 re1 rv q1 => ?_
  refine tE.step q1 rr1 re1 rfl fun w2 h2 H2 y u ext2 rr2 re2 rv2 q2 => ?_
  have rv := rv.ext ext2 _ _
  obtain ⟨src, hs, q2⟩ := lift_ok q2
  cases x with
  | lst l =>
    cases y with
    | lst m =>
      cases hs
      obtain ⟨a, xs, rfl, q3, r1⟩ := rv_lst.mp rv
      obtain ⟨b, ys, rfl, q4, r2⟩ := rv_lst.mp rv2
      exact ⟨a, b, xs, ys, rfl, SqL.of (rr2.sub _ _ q3), SqL.of (rr2.sub _ _ q4), q2.now rr2 _ (serves_zip r1 (lst_sq q3) r2 (lst_sq q4))⟩
    | _ => cases hs
  | _ => cases hs
/-! ### targets -/
/-- slots but those of U -/
structure REu (g : Gi) (w : Wd) (n : Nat) (U : Nat → Prop) (env : Env) (σ : L2.St) : Prop where
  len : env.length = σ.length
  at_ : ∀ (i : Nat) (d : D), ¬ U i → env[i]? = some (some d) → ∃ v, σ[i]? = some (some v) ∧ RV g w n d v
theorem REu.set {w : Wd} {n : Nat} {U : Nat → Prop} {env : Env} {σ : L2.St} (r : REu g w n U env σ) (i : Nat) {d : D} {v : V} (q : RV g w n d v) : REu g w n (fun j => U j ∧ j ≠ i) (env.set i (some d)) (σ.set i (some v)) := by
  refine ⟨by simp [r.len], fun j e hj h => ?_⟩
  by_cases hij : i = j
  · subst hij
    by_cases hi : i < env.length
    · rw [List.getElem?_set_self hi] at h
      rw [List.getElem?_set_self (r.len ▸ hi)]
      cases h
      exact ⟨v, rfl, q⟩
    · rw [List.getElem?_eq_none (by simpa using hi)] at h
      cases h
  · rw [List.getElem?_set_ne hij] at h
    rw [List.getElem?_set_ne hij]
    exact r.at_ j e (fun z => hj ⟨z, Ne.symm hij⟩) h
theorem REu.re {w : Wd} {n : Nat} {U : Nat → Prop} {env : Env} {σ : L2.St} (r : REu g w n U env σ) (h : ∀ i, ¬ U i) : RE g w n env σ := ⟨r.len, fun i d e => r.at_ i d (h i) e⟩
theorem REu.ext {w w' : Wd} {n n' : Nat} {U : Nat → Prop} {env : Env} {σ : L2.St} (r : REu g w n U env σ) (x : Ext w n w' n') : REu g w' n' U env σ := ⟨r.len, fun i d hu e => by
  obtain ⟨v, h1, h2⟩ := r.at_ i d hu e
  exact ⟨v, h1, RV.ext x d v h2⟩⟩
theorem REu.of_wipe {w : Wd} {n : Nat} {env : Env} {σ : L2.St} (r : RE g w n env σ) (vs : List Nat) : REu g w n (· ∈ vs) env (wipe σ vs) := ⟨by rw [wipe_length]; exact r.len, fun i d hu e => by
  obtain ⟨v, h1, h2⟩ := r.at_ i d e
  exact ⟨v, by rw [wipe_out hu]; exact h1, h2⟩⟩
theorem wipe_in {σ : L2.St} {i : Nat} : ∀ {vs : List Nat}, i ∈ vs → (wipe σ vs)[i]? = if i < σ.length then some none else none
  | [], h => by cases h
  | v :: vs, h => by
    unfold wipe
    by_cases e : v = i
    · subst e
      by_cases hi : v < σ.length
      · rw [if_pos hi, List.getElem?_set_self (by rw [wipe_length]; exact hi)]
      · rw [if_neg hi, List.getElem?_eq_none (by rw [List.length_set, wipe_length]; omega)]
    · rw [List.getElem?_set_ne e]
      exact wipe_in (by rcases List.mem_cons.mp h with z | z; exact absurd z.symm e; exact z)
theorem wipe_set {σ : L2.St} {i : Nat} {v : Option V} {vs : List Nat} (h : i ∈ vs) : wipe (σ.set i v) vs = wipe σ vs := by
  refine List.ext_getElem? fun j => ?_
  by_cases hj : j ∈ vs
  · rw [wipe_in hj, wipe_in hj, List.length_set]
  · rw [wipe_out hj, wipe_out hj, List.getElem?_set_ne fun (e : i = j) => hj (e ▸ h)]
def tG (g : Gi) (tg : List Nat) : TG := fun v σ H Q => ∃ w env h d env' U, RR g w h H ∧ REu g w h.nx U env σ ∧ (∀ i, U i → i ∈ tg) ∧ RV g w h.nx d v ∧ bindT tg d env = some env' ∧ ∀ σ', RE g w h.nx env' σ' → (∀ ws, (∀ i ∈ tg, i ∈ ws) → wipe σ' ws = wipe σ ws) → Q σ' H
theorem _root_.L2.PG.imp {X : Cx} {e : Expr} {t t' : TG} (h : PG X e t) (k : ∀ v σ H Q, t' v σ H Q → t v σ H Q) : PG X e t' := ⟨fun pins s σ H v u Q I r q => h.run pins s σ H v u Q I r (k _ _ _ _ q)⟩
theorem gv_one {i : Nat} {x : Str} (hN : X.N.Nodup) (hi : X.N[i]? = some x) (hx : Loc X.env.scope x) (hf : X.fn x = true ∨ X.env.scope.names.lookup x = some .local) : PG X (.Name x pos) (tG g [i]) := by
  refine (pg_name hN hi hx hf).imp fun v σ H Q ⟨w, env, h, d, env', U, rr, re, hu, rv, hb, q⟩ => ?_
  have hb : some (env.set i (some d)) = some env' := hb
  cases hb
  exact q _ ((re.set i rv).re fun j ⟨z, n⟩ => n (by simpa using hu j z)) fun ws hw => wipe_set (hw i List.mem_cons_self)
/-- names of a target and their slots -/
inductive TN (X : Cx) : List Expr → List Nat → Prop where
  | nil : TN X [] []
  | cons {x : Str} {pos : Pos} {i : Nat} {es : List Expr} {is : List Nat} (hi : X.N[i]? = some x) (hx : Loc X.env.scope x) (hf : X.fn x = true ∨ X.env.scope.names.lookup x = some .local) (r : TN X es is) : TN X (.Name x pos :: es) (i :: is)
def setAll {α : Type} (σ : List (Option α)) : List (Nat × α) → List (Option α)
  | [] => σ
  | p :: r => setAll (σ.set p.1 (some p.2)) r
theorem setAll_eq {α : Type} : ∀ (l : List (Nat × α)) (σ : List (Option α)), l.foldl (fun e p => e.set p.1 (some p.2)) σ = setAll σ l
  | [], _ => rfl
  | p :: l, σ => by rw [List.foldl_cons, setAll_eq l]; rfl
def gSets (is : List Nat) : TGs := fun vs σ H Q => vs.length = is.length ∧ Q (setAll σ (is.zip vs)) H
theorem PGs.imp {X : Cx} {e : List Expr} {t t' : TGs} (h : PGs X e t) (k : ∀ v σ H Q, t' v σ H Q → t v σ H Q) : PGs X e t' := ⟨fun pins s σ H v u Q I r q => h.run pins s σ H v u Q I r (k _ _ _ _ q)⟩
theorem TN.pgs (hN : X.N.Nodup) : ∀ {es : List Expr} {is : List Nat}, TN X es is → PGs X es (gSets is)
  | _, _, .nil => PGs.imp pgs_nil fun v σ H Q ⟨h1, h2⟩ => ⟨List.eq_nil_of_length_eq_zero h1, h2⟩
  | _, _, .cons hi hx hf r => PGs.imp (pgs_cons (pg_name hN hi hx hf) (TN.pgs hN r)) fun v σ H Q ⟨h1, h2⟩ => by
    cases v with
    | nil => cases h1
    | cons v vs => exact ⟨v, vs, rfl, by simpa using h1, h2⟩
theorem TN.each : ∀ {es : List Expr} {is : List Nat}, TN X es is → (assignEach es X.env).length = is.length ∧ (assignEach es X.env).findIdx? (·.1) = none
  | _, _, .nil => ⟨rfl, rfl⟩
  | _, _, .cons (x := x) (pos := pos) (es := es) hi hx hf r => by
    obtain ⟨h1, h2⟩ := TN.each r
    have e : assignEach (.Name x pos :: es) X.env = (false, assign (.Name x pos) X.env) :: assignEach es X.env := rfl
    rw [e]
    refine ⟨by rw [List.length_cons, List.length_cons, h1], ?_⟩
    rw [List.findIdx?_cons, h2]
    rfl
theorem REu.setAll {w : Wd} {n : Nat} : ∀ {is : List Nat} {l : List D} {xs : List V} {U : Nat → Prop} {env : Env} {σ : L2.St}, REu g w n U env σ → RVs g w n l xs → is.length = l.length → REu g w n (fun j => U j ∧ j ∉ is) (Rk.setAll env (is.zip l)) (Rk.setAll σ (is.zip xs))
  | [], _, _, U, env, σ, r, _, _ => ⟨r.len, fun i d hu e => r.at_ i d (fun z => hu ⟨z, by simp⟩) e⟩
  | i :: is, [], _, _, _, _, _, _, h => by cases h
  | i :: is, d :: l, xs, U, env, σ, r, q, h => by
    obtain ⟨x, ys, rfl, h1, h2⟩ := rvs_cons.mp q
    have z := REu.setAll (r.set i h1) h2 (by simpa using h)
    refine ⟨z.len, fun j e hu => z.at_ j e fun ⟨⟨y1, y2⟩, y3⟩ => hu ⟨y1, by simp only [List.mem_cons, not_or]; exact ⟨y2, y3⟩⟩⟩
theorem wipe_setAll {ws : List Nat} : ∀ {is : List Nat} {xs : List V} {σ : L2.St}, (∀ i ∈ is, i ∈ ws) → wipe (setAll σ (is.zip xs)) ws = wipe σ ws
  | [], _, _, _ => rfl
  | i :: is, [], _, _ => rfl
  | i :: is, x :: xs, σ, h => (wipe_setAll fun j hj => h j (List.mem_cons_of_mem _ hj)).trans (wipe_set (h i List.mem_cons_self))
theorem gv_tup (G : GX g c k X) (hc : X.calm = true) {es : List Expr} {is : List Nat} {kk : Nat} (t : TN X es is) (h2 : 2 ≤ is.length) : PG X (.Tuple es kk pos) (tG g is) := by
  obtain ⟨e1, e2⟩ := t.each
  refine (pg_tup (n := is.length) hc (t.pgs G.nd) e1 e2).imp fun v σ H Q ⟨w, env, h, d, env', U, rr, re, hu, rv, hb, q⟩ => ?_
  unfold bindT at hb
  split at hb
  · simp at h2
  · split at hb
    · rename_i l
      obtain ⟨a, xs, rfl, q1, r1⟩ := rv_tup.mp rv
      obtain ⟨hl, hb⟩ := opt_if hb
      subst hb
      refine ⟨a, xs, rfl, by rw [G.K]; exact SqT.ext rr.sub q1, by rw [r1.length, hl], by rw [r1.length, hl], ?_⟩
      refine q _ ?_ fun ws hw => wipe_setAll hw
      rw [setAll_eq]
      exact (re.setAll r1 hl.symm).re fun j ⟨z, n⟩ => n (hu j z)
    · cases hb
/-! ### [elt for target in iter if ..] -/
def E0 : SX' := fun _ _ _ _ => False
def itmR (tgs : List Nat) (rf : Run Bool) (re : Run D) (env : Env) : D → AH → Res (Option D) := fun x h => match bindT tgs x env with
        | some e => (rf e h).bind fun b h => if b then (re e h).bind fun y h => .ok (some y) h else .ok none h
        | none => .stuck
def cmprR (rI : Run Src) (tgs : List Nat) (rf : Run Bool) (re : Run D) : Run D := fun env h => (rI env h).bind fun s h => if s.len h ≤ line then
      (noexc (mapI s (itmR tgs rf re env) (s.len h + 1) 0 h)).bind fun r h => .ok (.lst r) h
    else .stuck
theorem Post.from {α : Type} {w w' : Wd} {n n' : Nat} {r : Res α} {X : XK} {P : Wd → AH → Hp → α → Prop} (q : Post g w n r X P) (x : Ext w n w' n') : Post g w' n' r X P := by
  cases r with
  | ok a h => exact fun w1 H1 e1 => q w1 H1 (x.trans e1)
  | exc y h => exact fun w1 H1 cls d e1 => q w1 H1 cls d (x.trans e1)
  | stuck => exact q
theorem noexc_push (o : Option D) (r : Res (List D)) (F : List D → AH → Res D) : (noexc (r.bind fun r h => .ok (push o r) h)).bind F = (noexc r).bind fun r h => F (push o r) h := by
  cases r <;> rfl
theorem cmpr_read {σ : L2.St} {H : Hp} {Q : VK} {rI : Run Src} {tgs vs : List Nat} {rf : Run Bool} {re : Run D} (hsub : ∀ i ∈ vs, i ∈ tgs) (hsup : ∀ i ∈ tgs, i ∈ vs) (h : tE g E (cmprR rI tgs rf re) σ H Q) : tLc (tI g E rI) (tG g tgs) (tB' g E0 rf) (tE g E0 re) vs σ H Q := by
  obtain ⟨w, env, h, rr, renv, q⟩ := h
  refine ⟨w, env, h, rr, renv, q.bind.mono fun w1 h1 H1 src ext rr1 q1 J sv L hD => ?_⟩
  obtain ⟨hl, q1⟩ := if_ok q1
  obtain ⟨rr2, ext2⟩ := rr1.side (o := .lst []) hD
  have zD : w1.Z L = none := rr1.noZ hD
  have re1 := renv.ext ext
  refine ⟨fun i m H => ∃ w3 h3 acc accv, Ext w1 h1.nx w3 h3.nx ∧ RR g w3 h3 H ∧ w3.Z L = some (.lst accv) ∧ RVs g w3 h3.nx acc accv ∧ acc.length + m ≤ line ∧
      Post g w1 h1.nx ((noexc (mapI src (itmR tgs rf re env) (m + 1) i h3)).bind fun r h => .ok (.lst (acc ++ r)) h) (E σ) (PV g Q),
    ⟨src.len h1, _, h1, [], [], ext2, rr2, upd_same, RVs.nil, by simpa using hl, by simpa using q1⟩, ?_⟩
  rintro i m H3 ⟨w3, h3, acc, accv, ext3, rr3, z3, r3, len3, q3⟩
  unfold mapI at q3
  cases hg : src.get i h3 with
  | none => rw [hg] at q3; exact q3.elim
  | some o =>
    cases o with
    | none =>
      rw [hg] at q3
      refine .inl ⟨sv.stop w3 h3 H3 i ext3 rr3 hg, ?_⟩
      have q3 : Post g w1 h1.nx (.ok (.lst (acc ++ [])) h3) (E σ) (PV g Q) := q3
      rw [List.append_nil] at q3
      refine q3 ⟨w3.m, upd w3.F L (.lst accv), fun a => if a = L then none else w3.Z a⟩ H3 ⟨ext3.le, ext3.m, fun a o e => ?_, fun a o e => ?_⟩ (rr3.sideF z3) _ (rv_lst.mpr ⟨L, accv, rfl, upd_same, RVs.moreF (fun a o e => ?_) r3⟩)
      · show upd w3.F L _ a = some o
        rw [upd_ne (ne_of_none (ext3.F _ _ e) (rr3.subz _ _ z3).2)]
        exact ext3.F _ _ e
      · show (if a = L then none else w3.Z a) = some o
        rw [if_neg (ne_of_none e zD)]
        exact ext3.Z _ _ e
      · rw [upd_ne (ne_of_none e (rr3.subz _ _ z3).2)]
        exact e
    | some x =>
      rw [hg] at q3
      obtain ⟨go, yl⟩ := sv.it w3 h3 H3 i x ext3 rr3 hg
      refine .inr ⟨go, fun H' => ∃ m', m' < m ∧ ∃ w3 h3 acc accv, Ext w1 h1.nx w3 h3.nx ∧ RR g w3 h3 H' ∧ w3.Z L = some (.lst accv) ∧ RVs g w3 h3.nx acc accv ∧ acc.length + m' ≤ line ∧
        Post g w1 h1.nx ((noexc (mapI src (itmR tgs rf re env) (m' + 1) (i + 1) h3)).bind fun r h => .ok (.lst (acc ++ r)) h) (E σ) (PV g Q), fun H' z => z, fun x' H' y => ?_⟩
      obtain ⟨w4, ext4, rr4, rv4⟩ := yl x' H' y
      have ext14 := ext3.trans ext4
      dsimp only at q3
      cases hb : bindT tgs x env with
      | none =>
        have e0 : itmR tgs rf re env x h3 = .stuck := by unfold itmR; rw [hb]
        rw [e0] at q3
        exact q3.elim
      | some env' =>
        have e0 : itmR tgs rf re env x h3 = ((rf env' h3).bind fun b h => if b then (re env' h).bind fun y h => .ok (some y) h else .ok none h) := by unfold itmR; rw [hb]
        rw [e0] at q3
        refine ⟨w4, env, h3, x, env', _, rr4, REu.of_wipe (re1.ext ext14) vs, hsub, rv4, hb, fun σ2 re2 hw => ⟨?_, ?_⟩⟩
        · rw [hw vs hsup]
          refine List.ext_getElem? fun j => ?_
          by_cases hj : j ∈ vs
          · rw [wipe_in hj, wipe_in hj, wipe_length]
          · rw [wipe_out hj]
        refine ⟨w4, env', h3, rr4, re2, ?_⟩
        -- what is left behind a turn
        have left : ∀ (w5 : Wd) (h5 : AH) (H5 : Hp) (o : Option D) (acc' : List D) (accv' : List V), Ext w1 h1.nx w5 h5.nx → RR g w5 h5 H5 → w5.Z L = some (.lst accv') → RVs g w5 h5.nx acc' accv' → acc'.length + m ≤ line + 1 → (∀ r, acc ++ push o r = acc' ++ r) →
            Post g w1 h1.nx ((noexc ((mapI src (itmR tgs rf re env) m (i + 1) h5).bind fun r h'' => .ok (push o r) h'')).bind fun r h => .ok (.lst (acc ++ r)) h) (E σ) (PV g Q) →
            ∃ m', m' < m ∧ ∃ w3 h3 acc accv, Ext w1 h1.nx w3 h3.nx ∧ RR g w3 h3 H5 ∧ w3.Z L = some (.lst accv) ∧ RVs g w3 h3.nx acc accv ∧ acc.length + m' ≤ line ∧
              Post g w1 h1.nx ((noexc (mapI src (itmR tgs rf re env) (m' + 1) (i + 1) h3)).bind fun r h => .ok (.lst (acc ++ r)) h) (E σ) (PV g Q) := by
          intro w5 h5 H5 o acc' accv' ext5 rr5 z5 r5 len5 hpush q5
          rw [noexc_push] at q5
          cases m with
          | zero => exact q5.elim
          | succ m' =>
            refine ⟨m', Nat.lt_succ_self _, w5, h5, acc', accv', ext5, rr5, z5, r5, by omega, ?_⟩
            have e : (fun (r : List D) (h : AH) => Res.ok (D.lst (acc ++ push o r)) h) = fun r h => Res.ok (D.lst (acc' ++ r)) h := by
              funext r h
              rw [hpush r]
            rw [e] at q5
            exact q5
        cases hrf : rf env' h3 with
        | stuck => rw [hrf] at q3; exact q3.elim
        | exc y h5 => rw [hrf] at q3; exact q3.elim
        | ok b h5 =>
          rw [hrf, bind_ok] at q3
          intro w5 H5 ext5 rr5
          show if b = true then _ else _
          cases b with
          | false =>
            refine iteF ?_
            exact left w5 h5 H5 none acc accv (ext14.trans ext5) rr5 (ext5.Z _ _ (ext4.Z _ _ z3)) ((r3.ext ext4).ext ext5) (by omega) (fun r => rfl) q3
          | true =>
            refine iteT ⟨w5, env', h5, rr5, re2.ext ext5, ?_⟩
            simp only [if_true] at q3
            cases hre : re env' h5 with
            | stuck => rw [hre] at q3; exact q3.elim
            | exc y h6 => rw [hre] at q3; exact q3.elim
            | ok yd h6 =>
              rw [hre, bind_ok, bind_ok] at q3
              intro w6 H6 ext6 rr6 yv rv6
              have z6 := ext6.Z _ _ (ext5.Z _ _ (ext4.Z _ _ z3))
              have r6 := (((r3.ext ext4).ext ext5).ext ext6).append (RVs.mk rv6 RVs.nil)
              have hm : 0 < m := by
                cases m with
                | zero => exact q3.elim
                | succ m' => exact Nat.succ_pos _
              refine ⟨accv, (rr6.subz _ _ z6).1, by rw [r3.length, sizeL]; omega, ?_⟩
              have ext16 := (ext14.trans ext5).trans ext6
              refine left ⟨w6.m, w6.F, upd w6.Z L (.lst (accv ++ [yv]))⟩ h6 _ (some yd) (acc ++ [yd]) (accv ++ [yv]) ⟨ext16.le, ext16.m, ext16.F, fun a o e => ?_⟩ (rr6.side2 z6) upd_same (RVs.noZ r6) (by rw [List.length_append]; simp; omega) (fun r => by simp [push]) q3
              show upd w6.Z L _ a = some o
              rw [upd_ne (ne_of_none e zD)]
              exact ext16.Z _ _ e
end
end Rk

set_option maxHeartbeats 1000000
/-! Rk.J: statements. -/
namespace Rk
open PySem PySem.Spec PyProof.Rows L2
abbrev xw (W : L2.WX) : SX' := fun σ cls d H => W cls d σ H
abbrev NoX : XK := fun _ _ _ => False
section
variable {X : Cx} {g : Gi} {c : Bool} {k : Nat} {W : L2.WX} {e a b d tg iter : Expr} {pos : Pos} {run ra rb rd : Run Rk.D} {env : Env} {w : Wd} {h : AH} {H : Hp} {σ : L2.St}
theorem bX.to {α : Type} {r : Res α} {f : α → AH → Res Fl} {D : Ends} (q : Post g w h.nx (r.bindX env f) NoX (PF g W D)) (re : RE g w h.nx env σ) :
    Post g w h.nx r (xw W σ) (fun w1 h1 H1 x => Post g w1 h1.nx (f x h1) NoX (PF g W D)) := by
  cases r with
  | ok x h1 =>
    intro w1 H1 e1 rr1
    exact Post.from (show Post g w h.nx (f x h1) NoX (PF g W D) from q) e1
  | exc x h1 =>
    intro w1 H1 cls d e1 rr1 rx
    exact q w1 H1 e1 rr1 σ cls d (re.ext e1) rx
  | stuck => exact q
theorem bX.step {f : D → AH → Res Fl} {D : Ends} (q : Post g w h.nx ((ra env h).bindX env f) NoX (PF g W D)) (rr : RR g w h H) (re : RE g w h.nx env σ)
    {R : V → Hp → Prop} (hR : ∀ w1 h1 H1 x v, Ext w h.nx w1 h1.nx → RR g w1 h1 H1 → RE g w1 h1.nx env σ → RV g w1 h1.nx x v → Post g w1 h1.nx (f x h1) NoX (PF g W D) → R v H1) : tE g (xw W) ra σ H R :=
  ⟨w, env, h, rr, re, (bX.to q re).mono fun w1 h1 H1 x ext rr1 q1 v rv => hR w1 h1 H1 x v ext rr1 (re.ext ext) rv q1⟩
theorem bXT.step {f : Bool → AH → Res Fl} {D : Ends} (q : Post g w h.nx ((runT ra env h).bindX env f) NoX (PF g W D)) (rr : RR g w h H) (re : RE g w h.nx env σ)
    {R : Bool → Hp → Prop} (hR : ∀ w1 h1 H1 x, Ext w h.nx w1 h1.nx → RR g w1 h1 H1 → RE g w1 h1.nx env σ → Post g w1 h1.nx (f x h1) NoX (PF g W D) → R x H1) : tB' g (xw W) (runT ra) σ H R :=
  ⟨w, env, h, rr, re, (bX.to q re).mono fun w1 h1 H1 x ext rr1 q1 => hR w1 h1 H1 x ext rr1 (re.ext ext) q1⟩
theorem bXA.step {ra : Run (List D)} {f : List D → AH → Res Fl} {D : Ends} (q : Post g w h.nx ((ra env h).bindX env f) NoX (PF g W D)) (rr : RR g w h H) (re : RE g w h.nx env σ)
    {R : List V → Hp → Prop} (hR : ∀ w1 h1 H1 x v, Ext w h.nx w1 h1.nx → RR g w1 h1 H1 → RE g w1 h1.nx env σ → RVs g w1 h1.nx x v → Post g w1 h1.nx (f x h1) NoX (PF g W D) → R v H1) : tEs g (xw W) ra σ H R :=
  ⟨w, env, h, rr, re, (bX.to q re).mono fun w1 h1 H1 x ext rr1 q1 v rv => hR w1 h1 H1 x v ext rr1 (re.ext ext) rv q1⟩
/-- a statement's reading -/
abbrev SV (X : Cx) (g : Gi) (W : L2.WX) (st : Stmt) (run : Run Fl) : Prop := PS X st (tS g W run)
abbrev SVs (X : Cx) (g : Gi) (W : L2.WX) (st : List Stmt) (run : Run Fl) : Prop := PSs X st (tS g W run)
theorem now' {α : Type} {w : Wd} {n : Nat} {h : AH} {H : Hp} {a : α} {X : XK} {P : Wd → AH → Hp → α → Prop} (q : Post g w n (.ok a h) X P) {w' : Wd} (e : Ext w n w' h.nx) (rr : RR g w' h H) : P w' h H a := q w' H e rr
theorem svs_nil : SVs X g W [] (fun env h => .ok (.nx env) h) := pss_nil.imp fun D σ H ⟨w, env, h, rr, re, q⟩ => q.now rr σ re
theorem svs_cons {st : Stmt} {rest : List Stmt} {rs rr' : Run Fl} (h1 : SV X g W st rs) (h2 : SVs X g W rest rr') : SVs X g W (st :: rest) (fun env h => (rs env h).bind fun f h => match f with
    | .nx e => rr' e h
    | f => .ok f h) := by
  refine (pss_cons h1 h2).imp fun D σ H ⟨w, env, h, rr, re, q⟩ => ⟨w, env, h, rr, re, q.bind.mono fun w1 h1 H1 f ext rr1 q1 => ?_⟩
  cases f with
  | nx e => exact fun σ1 re1 => ⟨w1, e, h1, rr1, re1, q1⟩
  | rt d => exact q1.now rr1
  | bk e => exact q1.now rr1
  | ct e => exact q1.now rr1
  | xc x e => exact q1.now rr1
/-- no comprehension -/
def ncp : Expr → Bool
  | .ListComp .. => false
  | .SetComp .. => false
  | .DictComp .. => false
  | _ => true
def nset : Expr → Bool
  | .Set .. => false
  | _ => true
theorem ncp_ok (h : ncp e = true) (t : Option Expr) (l : Nat) (env : PySem.Env) : swapsWith e t l env = pure false := by
  cases e <;> first
    | rfl
    | cases h
theorem nset_ok (h : nset e = true) (env : PySem.Env) (x : Value) : foldedSetIterable e env x = pure x := by
  cases e <;> first
    | rfl
    | cases h
theorem ncp_sole (h : ncp e = true) (t : Expr) (l : Nat) (env : PySem.Env) : swapsWithSole [t] e l env = pure false := ncp_ok h (some t) l env
theorem sv_expr (he : EV X g (xw W) e run) (hn : ncp e = true) : SV X g W (.Expr e pos) (fun env h => (run env h).bindX env fun _ h => .ok (.nx env) h) :=
  (ps_expr he.pe (ncp_ok hn _ _ _)).imp fun D σ H ⟨w, env, h, rr, re, q⟩ => bX.step q rr re fun w1 h1 H1 x v ext rr1 re1 rv q1 => q1.now rr1 σ re1
theorem sv_doc {x : Str} {j : Nat} {pos' : Pos} : SV X g W (.Expr (.Constant (.str x) j pos) pos') (fun env h => .ok (.nx env) h) := ps_doc.imp fun D σ H ⟨w, env, h, rr, re, q⟩ => q.now rr σ re
theorem asg_read {i : Nat} {D : Ends} {run : Run Rk.D} (q : tS g W (fun env h => (run env h).bindX env fun x h => .ok (.nx (env.set i (some x))) h) D σ H) : tAsg (tE g (xw W) run) (gName i) D σ H := by
  obtain ⟨w, env, h, rr, re, q⟩ := q
  exact bX.step q rr re fun w1 h1 H1 x v ext rr1 re1 rv q1 => q1.now rr1 _ (re1.set i rv)
theorem sv_asg (G : GX g c k X) {i : Nat} {x : Str} {pos' : Pos} (hi : X.N[i]? = some x) (hx : Loc X.env.scope x) (hf : X.fn x = true ∨ X.env.scope.names.lookup x = some .local) (he : EV X g (xw W) e run) (hn : ncp e = true) :
    SV X g W (.Assign [.Name x pos'] e pos) (fun env h => (run env h).bindX env fun x h => .ok (.nx (env.set i (some x))) h) :=
  (ps_set G.nd hi hx he.pe (ncp_ok hn _ _ _) hf).imp fun D σ H q => asg_read q
theorem bk_fun {env : PySem.Env} (h : env.scope.kind = .function) : env.blockKind = .function := by unfold Env.blockKind; rw [h]; rfl
/-- name = [..] -/
theorem sv_asgc (G : GX g c k X) (hc : X.calm = true) (hk : X.env.scope.kind = .function) {i : Nat} {y : Str} {py spos : Pos} {elt : Expr} {ifs : List Expr} {scope : Scope} {own : List (Str × Nat)} {tgs : List Nat} {rI : Run Src} {rf : Run Bool} {re : Run D}
    (hy : X.N[i]? = some y) (hx : Loc X.env.scope y) (hf : X.fn y = true ∨ X.env.scope.names.lookup y = some .local)
    (hi : PI X tg iter (tI g (xw W) rI)) (ok : BlkOk X.N X.env.scope scope own) (hsub : ∀ i ∈ own.map (·.2), i ∈ tgs) (hsup : ∀ i ∈ tgs, i ∈ own.map (·.2))
    (hg : ∀ (s : Shared) (H : Hp) (C : Addr) (cl : List (Str × Addr)) (fp : List Addr), PG (X.blk s H scope (compEnvC scope cl C X.env) fp) tg (tG g tgs)) (ht : ∀ (s : Shared) (H : Hp) (C : Addr) (cl : List (Str × Addr)) (fp : List Addr), PTs (X.blk s H scope (compEnvC scope cl C X.env) fp) ifs (tB' g E0 rf))
    (he : ∀ (s : Shared) (H : Hp) (C : Addr) (cl : List (Str × Addr)) (fp : List Addr), PE (X.blk s H scope (compEnvC scope cl C X.env) fp) elt (tE g E0 re)) (hs : nset iter = true) :
    SV X g W (.Assign [.Name y py] (.ListComp elt [⟨tg, iter, ifs, 0⟩] scope pos) spos) (fun env h => (cmprR rI tgs rf re env h).bindX env fun x h => .ok (.nx (env.set i (some x))) h) := by
  have hsw : swapsWith (.ListComp elt [⟨tg, iter, ifs, 0⟩] scope pos) (some (.Name y py)) spos.line X.env = pure (X.env.blockKind == .function && X.env.kindOf y == some .local && py.line == pos.line && !(scope.names.any fun (n, k) => n == y && (k == .local || k == .cell))) := rfl
  cases hb : (X.env.blockKind == .function && X.env.kindOf y == some .local && py.line == pos.line && !(scope.names.any fun (n, k) => n == y && (k == .local || k == .cell))) with
  | true =>
    rw [hb] at hsw
    simp only [Bool.and_eq_true] at hb
    have hyl : X.env.scope.names.lookup y = some .local := by
      have z : X.env.kindOf y = some .local := by simpa using hb.1.1.2
      exact z
    refine (ps_setLc hc G.nd hy hyl hsw hi ok hg ht he (nset_ok hs _)).imp fun D σ H q => ?_
    have q := asg_read q
    exact cmpr_read hsub hsup q
  | false =>
    rw [hb] at hsw
    exact (ps_set G.nd hy hx ((pe_lc hc G.nd hi ok hg ht he (nset_ok hs _)).imp fun σ H Q q => cmpr_read hsub hsup q) hsw hf).imp fun D σ H q => asg_read q
theorem ev_cmpr (G : GX g c k X) (hc : X.calm = true) {E : SX'} {elt : Expr} {ifs : List Expr} {scope : Scope} {own : List (Str × Nat)} {tgs : List Nat} {rI : Run Src} {rf : Run Bool} {re : Run D}
    (hi : PI X tg iter (tI g E rI)) (ok : BlkOk X.N X.env.scope scope own) (hsub : ∀ i ∈ own.map (·.2), i ∈ tgs) (hsup : ∀ i ∈ tgs, i ∈ own.map (·.2))
    (hg : ∀ (s : Shared) (H : Hp) (C : Addr) (cl : List (Str × Addr)) (fp : List Addr), PG (X.blk s H scope (compEnvC scope cl C X.env) fp) tg (tG g tgs)) (ht : ∀ (s : Shared) (H : Hp) (C : Addr) (cl : List (Str × Addr)) (fp : List Addr), PTs (X.blk s H scope (compEnvC scope cl C X.env) fp) ifs (tB' g E0 rf))
    (he : ∀ (s : Shared) (H : Hp) (C : Addr) (cl : List (Str × Addr)) (fp : List Addr), PE (X.blk s H scope (compEnvC scope cl C X.env) fp) elt (tE g E0 re)) (hs : nset iter = true) :
    EV X g E (.ListComp elt [⟨tg, iter, ifs, 0⟩] scope pos) (cmprR rI tgs rf re) :=
  EV.of G ((pe_lc hc G.nd hi ok hg ht he (nset_ok hs _)).imp fun σ H Q q => cmpr_read hsub hsup q) fun _ => rfl
/-! ### several names at once -/
def isTL : Expr → Bool
  | .Tuple .. => true
  | .List .. => true
  | _ => false
def isT : Expr → Bool
  | .Tuple .. => true
  | _ => false
/-- what stores a pair's values from the right -/
def swE (names : List (Str × NameKind)) (ts vs : List Expr) : Option (List Str) :=
  if !(ts.length == 2 || ts.length == 3) || vs.length != ts.length then none else
  if vs.any fun | .Starred .. => true | _ => false then none else
  let line := (ts.head?.map (·.pos.line)).getD 0
  let nm := ts.filterMap fun
    | .Name id pos => if names.lookup id == some .local && pos.line == line then some id else none
    | _ => none
  if nm.length != ts.length || nm.eraseDups.length != nm.length then none else
  if vs.all (foldedForSure 8) then none else
  if vs.all (constantsAlone 8) then none else some nm
def swOk (vs : List Expr) : Bool := vs.all (foldedForSure 8) || !vs.all (constantsAlone 8)
theorem swE_ok {env : PySem.Env} (hk : env.scope.kind = .function) {ts vs : List Expr} {k1 k2 : Nat} {p1 p2 : Pos} (ho : swOk vs = true) : swappedStores [.Tuple ts k1 p1] (.Tuple vs k2 p2) env = pure (swE env.scope.names ts vs) := by
  have hb := bk_fun hk
  have key : ∀ {c : Prop} [Decidable c] {a b : Sem (Option (List Str))} {a' b' : Option (List Str)}, a = pure a' → b = pure b' → (if c then a else b) = pure (if c then a' else b') := fun {c} _ {a b a' b'} h1 h2 => by
    by_cases hc : c
    · rw [if_pos hc, if_pos hc, h1]
    · rw [if_neg hc, if_neg hc, h2]
  unfold swappedStores swE
  simp only [hb]
  have e1 : (!(ts.length == 2 || ts.length == 3) || vs.length != ts.length || ScopeKind.function != ScopeKind.function) = (!(ts.length == 2 || ts.length == 3) || vs.length != ts.length) := by simp
  rw [e1]
  refine key rfl (key rfl (key rfl ?_))
  unfold swOk at ho
  by_cases h4 : vs.all (foldedForSure 8) = true
  · rw [if_pos h4, if_pos h4]
  · have h5 : vs.all (constantsAlone 8) = false := by
      rw [Bool.or_eq_true] at ho
      rcases ho with z | z
      · exact absurd z h4
      · simpa using z
    rw [if_neg h4, if_neg h4, h5]
    rfl
theorem setAll_two {α : Type} (σ : List (Option α)) (i j : Nat) (x y : α) : setAll σ ([i, j].zip [x, y]) = (σ.set i (some x)).set j (some y) := rfl
def asgtR (is : List Nat) (run : Run D) : Run Fl := fun env h => (run env h).bindX env fun x h => lift ((bindT is x env).map .nx) h
/-- the end of a store of several names -/
theorem lift_okX {α : Type} {o : Option α} {w : Wd} {n : Nat} {h : AH} {E : XK} {P : Wd → AH → Hp → α → Prop} (q : Post g w n (lift o h) E P) : ∃ a, o = some a ∧ Post g w n (.ok a h) E P := lift_ok' q
theorem asgt_read {is : List Nat} {D : Ends} {run : Run Rk.D} (q : tS g W (asgtR is run) D σ H) : tAsg (tE g (xw W) run) (tG g is) D σ H := by
  obtain ⟨w, env, h, rr, re, q⟩ := q
  refine bX.step q rr re fun w1 h1 H1 x v ext rr1 re1 rv q1 => ?_
  obtain ⟨f, hf, q1⟩ := lift_ok' q1
  obtain ⟨e, he, rfl⟩ := Option.map_eq_some_iff.mp hf
  exact ⟨w1, env, h1, x, e, fun _ => False, rr1, ⟨re1.len, fun i d _ z => re1.at_ i d z⟩, fun i z => z.elim, rv, he, fun σ' re' _ => q1.now rr1 σ' re'⟩
theorem sv_asgt (G : GX g c k X) (hc : X.calm = true) {es : List Expr} {is : List Nat} {kk : Nat} {p1 : Pos} (t : TN X es is) (h2 : 2 ≤ is.length) (he : EV X g (xw W) e run) (hn : ncp e = true) (ht : isT e = false) :
    SV X g W (.Assign [.Tuple es kk p1] e pos) (asgtR is run) := by
  refine (ps_asg he.pe (gv_tup G hc t h2) (ncp_sole hn _ _ _) ?_ rfl).imp fun D σ H q => asgt_read q
  cases e <;> first
    | rfl
    | cases ht
/-- a tuple of constants -/
theorem sv_asgtC (G : GX g c k X) (hc : X.calm = true) (hk : X.env.scope.kind = .function) {es vs : List Expr} {is : List Nat} {k1 k2 : Nat} {p1 p2 : Pos} (t : TN X es is) (h2 : 2 ≤ is.length) (he : EV X g (xw W) (.Tuple vs k2 p2) run) (ho : swOk vs = true) (hw : swE X.env.scope.names es vs = none) :
    SV X g W (.Assign [.Tuple es k1 p1] (.Tuple vs k2 p2) pos) (asgtR is run) :=
  (ps_asg he.pe (gv_tup G hc t h2) rfl (by rw [swE_ok hk ho, hw]) rfl).imp fun D σ H q => asgt_read q
def tupR (rs : Run (List D)) : Run D := fun env h => (rs env h).bind fun l h => if l.length ≤ line then .ok (.tup l) h else .stuck
theorem par_read {rs : Run (List Rk.D)} {is : List Nat} {D : Ends} (h2 : 2 ≤ is.length) (q : tS g W (asgtR is (tupR rs)) D σ H) : tEs g (xw W) rs σ H (fun vs H1 => vs.length = is.length ∧ D.nx (setAll σ (is.zip vs)) H1) := by
  obtain ⟨w, env, h, rr, re, q⟩ := q
  have e : asgtR is (tupR rs) env h = (rs env h).bindX env fun l h => if l.length ≤ line then lift ((bindT is (.tup l) env).map .nx) h else .stuck := by
    unfold asgtR tupR
    cases hr : rs env h with
    | ok l h1 =>
      rw [bind_ok, bindX_ok]
      by_cases hl : l.length ≤ line
      · rw [if_pos hl, if_pos hl]; rfl
      · rw [if_neg hl, if_neg hl]; rfl
    | _ => rfl
  rw [e] at q
  refine bXA.step q rr re fun w1 h1 H1 l vs ext rr1 re1 rvs q1 => ?_
  obtain ⟨_, q1⟩ := if_ok q1
  obtain ⟨f, hf, q1⟩ := lift_ok' q1
  obtain ⟨e, he, rfl⟩ := Option.map_eq_some_iff.mp hf
  unfold bindT at he
  split at he
  · simp at h2
  · obtain ⟨hl, he⟩ := opt_if he
    subst he
    refine ⟨by rw [rvs.length, hl], q1.now rr1 _ ?_⟩
    rw [setAll_eq]
    have z : REu g w1 h1.nx (fun _ => False) env σ := ⟨re1.len, fun i d _ z => re1.at_ i d z⟩
    exact (z.setAll rvs hl.symm).re fun j ⟨z, n⟩ => z
theorem nodup2 {i j : Nat} (h : [i, j].Nodup) : i ≠ j := by simp at h; exact h
theorem nodup3 {i j l : Nat} (h : [i, j, l].Nodup) : i ≠ j ∧ i ≠ l ∧ j ≠ l := by simp at h; exact ⟨h.1.1, h.1.2, h.2⟩
/-- a, b = x, y -/
theorem sv_par (G : GX g c k X) (hc : X.calm = true) (hk : X.env.scope.kind = .function) {es vs : List Expr} {is : List Nat} {k1 k2 : Nat} {p1 p2 : Pos} {rs : Run (List D)} (t : TN X es is) (hd : is.Nodup) (ha : PA X vs (tEs g (xw W) rs)) (ho : swOk vs = true) {nm : List Str} (hw : swE X.env.scope.names es vs = some nm)
    (hloc : ∀ e ∈ es, ∀ x p, e = .Name x p → X.env.scope.names.lookup x = some .local) (hnm : ∀ l, TN X es l → nm = es.filterMap fun | .Name x _ => some x | _ => none) (hl : es.length = vs.length) (h23 : es.length = 2 ∨ es.length = 3) :
    SV X g W (.Assign [.Tuple es k1 p1] (.Tuple vs k2 p2) pos) (asgtR is (tupR rs)) := by
  have hw2 := (swE_ok (k1 := k1) (k2 := k2) (p1 := p1) (p2 := p2) hk ho).trans (by rw [hw])
  have hnm := hnm _ t
  rcases h23 with h2 | h3
  · cases t with
    | nil => cases h2
    | cons hi hx hf t =>
      cases t with
      | nil => cases h2
      | cons hj hy hg t =>
        cases t with
        | cons _ _ _ _ => simp at h2
        | nil =>
          obtain ⟨v1, v2, rfl⟩ : ∃ a b, vs = [a, b] := by
            match vs, hl with
            | [a, b], _ => exact ⟨a, b, rfl⟩
          have hnm : nm = [_, _] := hnm
          subst hnm
          refine (ps_par hc G.nd hi hj (nodup2 hd) (hloc _ List.mem_cons_self _ _ rfl) (hloc _ (List.mem_cons_of_mem _ List.mem_cons_self) _ _ rfl) ha hw2 rfl).imp fun D σ H q => ?_
          have q := par_read (by simp) q
          obtain ⟨w, env, h, rr, re, q⟩ := q
          refine ⟨w, env, h, rr, re, q.mono fun w1 h1 H1 l ext rr1 q1 xs rv => ?_⟩
          obtain ⟨hl2, q1⟩ := q1 xs rv
          match xs, hl2 with
          | [a, b], _ => exact ⟨a, b, rfl, q1⟩
  · cases t with
    | nil => cases h3
    | cons hi hx hf t =>
      cases t with
      | nil => cases h3
      | cons hj hy hg t =>
        cases t with
        | nil => cases h3
        | cons hm hz hh t =>
          cases t with
          | cons _ _ _ _ => simp at h3
          | nil =>
            obtain ⟨v1, v2, v3, rfl⟩ : ∃ a b c, vs = [a, b, c] := by
              match vs, hl with
              | [a, b, c], _ => exact ⟨a, b, c, rfl⟩
            have hnm : nm = [_, _, _] := hnm
            subst hnm
            obtain ⟨n1, n2, n3⟩ := nodup3 hd
            refine (ps_par3 hc G.nd hi hj hm n1 n2 n3 (hloc _ List.mem_cons_self _ _ rfl) (hloc _ (List.mem_cons_of_mem _ List.mem_cons_self) _ _ rfl) (hloc _ (List.mem_cons_of_mem _ (List.mem_cons_of_mem _ List.mem_cons_self)) _ _ rfl) ha hw2 rfl).imp fun D σ H q => ?_
            have q := par_read (by simp) q
            obtain ⟨w, env, h, rr, re, q⟩ := q
            refine ⟨w, env, h, rr, re, q.mono fun w1 h1 H1 l ext rr1 q1 xs rv => ?_⟩
            obtain ⟨hl2, q1⟩ := q1 xs rv
            match xs, hl2 with
            | [a, b, c], _ => exact ⟨a, b, c, rfl, q1⟩
/-! ### return, if, for, while -/
theorem sv_ret (he : EV X g (xw W) e run) : SV X g W (.Return (some e) pos) (fun env h => (run env h).bindX env fun x h => .ok (.rt x) h) :=
  (ps_ret he.pe).imp fun D σ H ⟨w, env, h, rr, re, q⟩ => bX.step q rr re fun w1 h1 H1 x v ext rr1 re1 rv q1 => q1.now rr1 v rv
theorem sv_retn : SV X g W (.Return none pos) (fun env h => .ok (.rt .non) h) := ps_retN.imp fun D σ H ⟨w, env, h, rr, re, q⟩ => q.now rr _ (rv_non.mpr rfl)
theorem sv_if {rs rt : Run Fl} {p q : List Stmt} (he : EV X g (xw W) e run) (hp : SVs X g W p rs) (hq : SVs X g W q rt) : SV X g W (.If e p q pos) (fun env h => (runT run env h).bindX env fun k h => if k then rs env h else rt env h) :=
  (ps_if he.pt hp hq).imp fun D σ H ⟨w, env, h, rr, re, q⟩ => bXT.step q rr re fun w1 h1 H1 b ext rr1 re1 q1 => by
    cases b with
    | true => exact iteT ⟨w1, env, h1, rr1, re1, q1⟩
    | false => exact iteF ⟨w1, env, h1, rr1, re1, q1⟩
theorem sv_pass : SV X g W (.Pass pos) (fun env h => .ok (.nx env) h) := ps_pass.imp fun D σ H ⟨w, env, h, rr, re, q⟩ => q.now rr σ re
theorem sv_brk : SV X g W (.Break pos) (fun env h => .ok (.bk env) h) := ps_break.imp fun D σ H ⟨w, env, h, rr, re, q⟩ => q.now rr σ re
theorem sv_cnt : SV X g W (.Continue pos) (fun env h => .ok (.ct env) h) := ps_continue.imp fun D σ H ⟨w, env, h, rr, re, q⟩ => q.now rr σ re
def loopR (f : Fl → AH → Res Fl) (r : Fl) (h : AH) : Res Fl := f r h
def bodR (tgs : List Nat) (rb : Run Fl) : D → Env → AH → Res Fl := fun x env h => match bindT tgs x env with
      | some e => rb e h
      | none => .stuck
def forR' (rI : Run Src) (tgs : List Nat) (rb : Run Fl) : Run Fl := fun env h => (rI env h).bindX env fun s h => forI s (bodR tgs rb) (s.len h + 1) 0 env h
theorem sv_for {rI : Run Src} {tgs : List Nat} {rb : Run Fl} {body : List Stmt} (hc : X.calm = true) (hp : PassesOwn (model X.prog X.w) X.A X.env X.xe) (hi : PI X tg iter (tI g (xw W) rI)) (hg : PG X tg (tG g tgs)) (hb : SVs X g W body rb) (hs : nset iter = true) :
    SV X g W (.For tg iter body [] pos) (forR' rI tgs rb) := by
  refine (ps_for hp hc hi hg hb (nset_ok hs _)).imp fun D σ H ⟨w, env, h, rr, re, q⟩ => ?_
  refine ⟨w, env, h, rr, re, (bX.to q re).mono fun w1 h1 H1 src ext rr1 q1 J sv => ?_⟩
  refine ⟨fun i m σ H => ∃ w env h, Ext w1 h1.nx w h.nx ∧ RR g w h H ∧ RE g w h.nx env σ ∧ Post g w h.nx (forI src (bodR tgs rb) (m + 1) i env h) NoX (PF g W D), ⟨_, w1, env, h1, Ext.refl _ _, rr1, re.ext ext, q1⟩, ?_⟩
  rintro i m σ H ⟨w, env, h, ext, rr, re, q⟩
  unfold forI at q
  cases hg : src.get i h with
  | none => rw [hg] at q; exact q.elim
  | some o =>
    rw [hg] at q
    cases o with
    | none => exact .inl ⟨sv.stop w h H i ext rr hg, q.now rr σ re⟩
    | some x =>
      obtain ⟨go, yl⟩ := sv.it w h H i x ext rr hg
      refine .inr ⟨go, fun σ' H' => ∃ m', m' < m ∧ ∃ w env h, Ext w1 h1.nx w h.nx ∧ RR g w h H' ∧ RE g w h.nx env σ' ∧ Post g w h.nx (forI src (bodR tgs rb) (m' + 1) (i + 1) env h) NoX (PF g W D), fun _ _ z => z, fun x' H' y => ?_⟩
      obtain ⟨w4, ext4, rr4, rv4⟩ := yl x' H' y
      dsimp only at q
      cases hb : bindT tgs x env with
      | none =>
        have e0 : bodR tgs rb x env h = .stuck := by unfold bodR; rw [hb]
        rw [e0] at q
        exact q.elim
      | some env' =>
        have e0 : bodR tgs rb x env h = rb env' h := by unfold bodR; rw [hb]
        rw [e0] at q
        have re4 := re.ext ext4
        refine ⟨w4, env, h, x, env', fun _ => False, rr4, ⟨re4.len, fun i d _ z => re4.at_ i d z⟩, fun i z => z.elim, rv4, hb, fun σ2 re2 _ => ?_⟩
        refine ⟨w4, env', h, rr4, re2, (q.bind.from ext4).mono fun w5 h5 H5 f ext5 rr5 q5 => ?_⟩
        have next : ∀ (e : Env) (σ5 : L2.St), RE g w5 h5.nx e σ5 → Post g w5 h5.nx (forI src (bodR tgs rb) m (i + 1) e h5) NoX (PF g W D) → ∃ m', m' < m ∧ ∃ w env h, Ext w1 h1.nx w h.nx ∧ RR g w h H5 ∧ RE g w h.nx env σ5 ∧ Post g w h.nx (forI src (bodR tgs rb) (m' + 1) (i + 1) env h) NoX (PF g W D) := fun e σ5 re5 q5 => by
          cases m with
          | zero => exact q5.elim
          | succ m' => exact ⟨m', Nat.lt_succ_self _, w5, e, h5, (ext.trans ext4).trans ext5, rr5, re5, q5⟩
        cases f with
        | nx e => exact fun σ5 re5 => next e σ5 re5 q5
        | ct e => exact fun σ5 re5 => next e σ5 re5 q5
        | bk e => exact fun σ5 re5 => q5.now rr5 σ5 re5
        | rt d => exact q5.now rr5
        | xc x e => exact q5.now rr5
theorem sv_whl {rb : Run Fl} {body : List Stmt} (hp : PassesOwn (model X.prog X.w) X.A X.env X.xe) (he : EV X g (xw W) e run) (hb : SVs X g W body rb) :
    SV X g W (.While e body [] pos) (fun env h => whileN (runT run) rb 4096 env h) := by
  refine (ps_while hp he.pt hb).imp fun D σ H ⟨w, env, h, rr, re, q⟩ => ?_
  refine ⟨fun m σ H => ∃ w env h, RR g w h H ∧ RE g w h.nx env σ ∧ Post g w h.nx (whileN (runT run) rb m env h) NoX (PF g W D), ⟨_, w, env, h, rr, re, q⟩, ?_⟩
  rintro m σ H ⟨w, env, h, rr, re, q⟩
  cases m with
  | zero => exact q.elim
  | succ m =>
    unfold whileN at q
    refine bXT.step q rr re fun w1 h1 H1 b ext rr1 re1 q1 => ?_
    cases b with
    | false => exact iteF (q1.now rr1 σ re1)
    | true =>
      refine iteT ⟨fun σ' H' => ∃ w env h, RR g w h H' ∧ RE g w h.nx env σ' ∧ Post g w h.nx (whileN (runT run) rb m env h) NoX (PF g W D), fun σ' H' z => ⟨m, Nat.lt_succ_self _, z⟩, ?_⟩
      have q1 : Post g w1 h1.nx ((rb env h1).bind fun r h'' => match r with
        | .nx e => whileN (runT run) rb m e h''
        | .ct e => whileN (runT run) rb m e h''
        | .bk e => .ok (.nx e) h''
        | r => .ok r h'') NoX (PF g W D) := q1
      refine ⟨w1, env, h1, rr1, re1, q1.bind.mono fun w5 h5 H5 f ext5 rr5 q5 => ?_⟩
      cases f with
      | nx e => exact fun σ5 re5 => ⟨w5, e, h5, rr5, re5, q5⟩
      | ct e => exact fun σ5 re5 => ⟨w5, e, h5, rr5, re5, q5⟩
      | bk e => exact fun σ5 re5 => q5.now rr5 σ5 re5
      | rt d => exact q5.now rr5
      | xc x e => exact q5.now rr5
/-! ### o[i] = e -/
def setiR (ro ri re : Run D) : Run Fl := fun env h => (re env h).bindX env fun x h => (ro env h).bindX env fun y h => (ri env h).bindX env fun z h => match y, z with
    | .ref n, .int k => match h.cell n with
      | .lst l => match L2.ixN l.length k with
        | some j => .ok (.nx env) (h.put n (.lst (l.set j x)))
        | none => .stuck
      | _ => .stuck
    | _, _ => .stuck
theorem sv_seti {o i : Expr} {ro ri re : Run D} {p1 : Pos} (he : EV X g (xw W) e re) (ho : EV X g (xw W) o ro) (hi : EV X g (xw W) i ri) (hn : ncp e = true) (hp : nsl i = true) :
    SV X g W (.Assign [.Subscript o i p1] e pos) (setiR ro ri re) := by
  have store : PG X (.Subscript o i p1) (gSub (tE g (xw W) ro) (tE g (xw W) ri) rSetL) := by
    refine pg_sub ho.pe hi.pe set_list ?_
    intro v
    cases i <;> first
      | rfl
      | cases hp
  refine (ps_asg he.pe store (ncp_sole hn _ _ _) rfl rfl).imp fun D σ H ⟨w, env, h, rr, renv, q⟩ => ?_
  refine bX.step q rr renv fun w1 h1 H1 x v ext rr1 re1 rv q1 => ?_
  refine bX.step q1 rr1 re1 fun w2 h2 H2 y v2 ext2 rr2 re2 rv2 q2 => ?_
  refine bX.step q2 rr2 re2 fun w3 h3 H3 z v3 ext3 rr3 re3 rv3 q3 => ?_
  have rv := (rv.ext ext2 _ _).ext ext3 _ _
  have rv2 := rv2.ext ext3 _ _
  cases y with
  | ref n =>
    cases z with
    | int kk =>
      obtain ⟨rfl, hm⟩ := rv_ref.mp rv2
      rw [rv_int.mp rv3]
      dsimp only at q3
      cases ec : h3.cell n with
      | lst l =>
        rw [ec] at q3
        dsimp only at q3
        obtain ⟨xs, q4, r4⟩ := cell_lst rr3 hm ec
        cases hj : ixN l.length kk with
        | none => rw [hj] at q3; exact q3.elim
        | some j =>
          rw [hj] at q3
          refine ⟨_, xs, kk, j, rfl, rfl, q4, by rw [r4.length]; exact hj, ?_⟩
          exact q3 w3 _ (Ext.refl _ _) (rr3.store hm ec (r4.set j rv)) σ re3
      | _ => rw [ec] at q3; exact q3.elim
    | _ => exact q3.elim
  | _ => exact q3.elim
/-- name op= e, ints -/
theorem sv_aug (G : GX g c k X) {i : Nat} {x : Str} {pos' : Pos} {o : Operator} (ho : o = .Add ∨ o = .Sub) (hi : X.N[i]? = some x) (hx : Loc X.env.scope x) (hf : X.fn x = true ∨ X.env.scope.names.lookup x = some .local) (he : EV X g (xw W) e run) :
    SV X g W (.AugAssign (.Name x pos') o e pos) (fun env h => (ldV env i h).bindX env fun x h => (run env h).bindX env fun y h => (match x, y with
      | .int _, .int _ => binop o x y h
      | _, _ => .stuck).bindX env fun z h => .ok (.nx (env.set i (some z))) h) := by
  have main : ∀ (ti : TIp) (F : Int → Int → Int), PIp X o ti → (∀ a b, binop o (.int a) (.int b) = fun h => .ok (.int (F a b)) h) → (∀ (a b : Int) (H : Hp) (Q : VK), Q (.int (F a b)) H → ti (.int a) (.int b) H Q) → SV X g W (.AugAssign (.Name x pos') o e pos) (fun env h => (ldV env i h).bindX env fun x h => (run env h).bindX env fun y h => (match x, y with
      | .int _, .int _ => binop o x y h
      | _, _ => .stuck).bindX env fun z h => .ok (.nx (env.set i (some z))) h) := fun ti F hti hbin hq => by
    refine (ps_aug G.nd hi hx he.pe hti hf).imp fun D σ H ⟨w, env, h, rr, re, q⟩ => ?_
    unfold ldV at q
    dsimp only at q
    split at q
    · rename_i dd hd
      obtain ⟨v, h1, h2⟩ := re.at_ _ _ hd
      refine ⟨v, h1, bX.step q rr re fun w1 h1 H1 y v2 ext rr1 re1 rv q1 => ?_⟩
      have h2 := h2.ext ext _ _
      cases dd with
      | int a =>
        cases y with
        | int b =>
          rw [rv_int.mp h2, rv_int.mp rv]
          rw [hbin] at q1
          exact hq _ _ _ _ (q1.now rr1 _ (re1.set i (rv_int.mpr rfl)))
        | _ => exact q1.elim
      | _ => exact q1.elim
    · exact q.elim
  rcases ho with rfl | rfl
  · exact main _ (fun a b => a + b) ip_add (fun _ _ => rfl) fun a b H Q h => ⟨a, b, rfl, rfl, h⟩
  · exact main _ (fun a b => a - b) ip_sub (fun _ _ => rfl) fun a b H Q h => ⟨a, b, rfl, rfl, h⟩
end
end Rk

set_option maxHeartbeats 1000000
/-! Rk.K: the same value and the same text. -/
namespace Rk
open PySem PySem.Spec PyProof.Rows L2
def rtx : PyData → Str
  | .none => "None"
  | .bool b => if b then "True" else "False"
  | d => d.shown
def rRp (g : Gi) : List V → Hp → VK → Prop := fun xs H Q => ∃ w h d x m, RR g w h H ∧ RV g w h.nx d x ∧ xs = [x] ∧ wt d = some m ∧ m ≤ 60000 ∧ dpt 60 d = true ∧ Q (.str (rtx (py d))) H
mutual
theorem dsame_eq : ∀ (d e : D), dsame d e = true → d = e
  | .non, e, h => by cases e <;> (unfold dsame at h; first | rfl | cases h)
  | .bl b, e, h => by cases e <;> (unfold dsame at h; first | (rw [beq_iff_eq] at h; rw [h]) | cases h)
  | .int b, e, h => by cases e <;> (unfold dsame at h; first | (rw [beq_iff_eq] at h; rw [h]) | cases h)
  | .str b, e, h => by cases e <;> (unfold dsame at h; first | (rw [beq_iff_eq] at h; rw [h]) | cases h)
  | .tup l, e, h => by
    cases e with
    | tup m => unfold dsame at h; rw [dsames_eq l m h]
    | _ => unfold dsame at h; cases h
  | .lst l, e, h => by
    cases e with
    | lst m => unfold dsame at h; rw [dsames_eq l m h]
    | _ => unfold dsame at h; cases h
  | .ref _, e, h => by cases e <;> (unfold dsame at h; cases h)
  | .ins _ _, e, h => by cases e <;> (unfold dsame at h; cases h)
  | .exc _ _, e, h => by cases e <;> (unfold dsame at h; cases h)
  | .lam _, e, h => by cases e <;> (unfold dsame at h; cases h)
  | .scr _, e, h => by cases e <;> (unfold dsame at h; cases h)
  | .dct _, e, h => by cases e <;> (unfold dsame at h; cases h)
  | .set _, e, h => by cases e <;> (unfold dsame at h; cases h)
theorem dsames_eq : ∀ (l m : List D), dsames l m = true → l = m
  | [], [], _ => rfl
  | [], _ :: _, h => by unfold dsames at h; cases h
  | _ :: _, [], h => by unfold dsames at h; cases h
  | d :: l, e :: m, h => by
    unfold dsames at h
    rw [Bool.and_eq_true] at h
    rw [dsame_eq d e h.1, dsames_eq l m h.2]
end
section
variable {X : Cx} {g : Gi} {c : Bool} {k : Nat} {E : SX'} {e a b d tg iter : Expr} {pos : Pos}
theorem call_repr (G : GX g c k X) : CallR X (.builtin "repr") (rRp g) := by
  intro pins s σ H xs us Q I r h
  obtain ⟨w, h, d, x, m, rr, rv, rfl, hw, hm, hd, q⟩ := h
  obtain ⟨u, rfl, rx⟩ := vals1 r
  obtain ⟨h1, h2, h3, h4⟩ := short_of d m hw (okD_of d x rv)
  have hfit : (py d).shown.length ≤ sizeLine := PyData.shown_fits_bulk (B := 13) (by decide) (by decide) h1 (by omega)
  have hcont : ∀ (a : Addr), u = .ref a → (∀ i, d ≠ .int i) → rtx (py d) = (py d).shown → wpAny (model X.prog X.w) X.A (call (.builtin "repr") [u]) (EP X pins σ Q) X.xe s := fun a hu _ e => by
    obtain ⟨as, rd⟩ := Dp.reads I (py d) x u (by rw [G.K]; exact dp_of rr.sub 60 d x hd rv) rx
    subst hu
    have hdep := (lay_of 60 d x hd rv).2
    refine repr_of_reads' rd h2 (PyData.noDict_hsm h3) G.gd (by have := G.un; omega) (fun _ _ e => e) (fun h' u tk hk => ?_) hfit
    exact ⟨.str (py d).shown, H, I.kept (t' := tk) hk, ⟨u, rfl⟩, e ▸ q⟩
  cases d with
  | non =>
    rw [rv_non.mp rv] at rx
    cases rx
    exact P.repr_of_none ⟨.str (rtx (py .non)), H, I.tok _, ⟨_, by unfold py; rfl⟩, q⟩
  | bl bb =>
    rw [rv_bl.mp rv] at rx
    cases rx
    exact P.repr_of_bool ⟨.str (rtx (py (.bl bb))), H, I.tok _, ⟨_, by unfold py; cases bb <;> rfl⟩, q⟩
  | int i =>
    rw [rv_int.mp rv] at rx
    obtain ⟨t, rfl⟩ := rx
    have hl : i.natAbs.log2 < 1920 := by
      unfold py at h2
      simpa [PyData.showable] using h2
    refine P.repr_of_int hl ⟨.str (rtx (py (.int i))), H, I.tok _, ⟨s.toks, ?_⟩, q⟩
    unfold py
    show Value.str (Str.ofString (toString i)) _ = Value.str (PyData.int i).shown _
    rw [PyData.shown_int]
  | str z =>
    rw [(rv_str.mp rv).1] at rx
    obtain ⟨t, rfl⟩ := rx
    have e : (PyData.str (stt z)).shown = reprText (stt z) := by simp [PyData.shown]
    refine P.repr_of_str ⟨.str (rtx (py (.str z))), H, I.tok _, ⟨s.toks, ?_⟩, q⟩ (by rw [← e]; unfold py at hfit; exact hfit)
    unfold py
    show Value.str (reprText (stt z)) _ = Value.str (PyData.str (stt z)).shown _
    rw [e]
  | tup l =>
    obtain ⟨p, ys, ex, _, _⟩ := rv_tup.mp rv
    rw [ex] at rx
    cases rx
    exact hcont p rfl (fun _ z => nomatch z) (by unfold py; rfl)
  | lst l =>
    obtain ⟨p, ys, ex, _, _⟩ := rv_lst.mp rv
    rw [ex] at rx
    cases rx
    exact hcont p rfl (fun _ z => nomatch z) (by unfold py; rfl)
  | _ => unfold wt at hw; cases hw
theorem boot_repr' : bootBuiltins "repr" = some (.builtin "repr") := by decide +kernel
theorem ev_same (G : GX g c k X) {i j : Nat} {x y : Str} {p1 p2 p3 p4 p5 p6 p7 p8 p9 p10 : Pos} (hi : X.N[i]? = some x) (hj : X.N[j]? = some y) (hx : Vis X.env.scope x) (hy : Vis X.env.scope y) (dx : (x == ("__debug__" : Str)) = false) (cx : (x == ("__classdict__" : Str)) = false) (dy : (y == ("__debug__" : Str)) = false) (cy : (y == ("__classdict__" : Str)) = false)
    (hg : Gl X "repr") (hm : X.mg "repr" = none) :
    EV X g E (.BoolOp .And [.Compare (.Name x p1) [.Eq] [.Name y p2] p3, .Compare (.Call (.Name "repr" p4) [.Name x p5] [] p6) [.Eq] [.Call (.Name "repr" p7) [.Name y p8] [] p9] p10] pos) (fun env h => (ldV env i h).bind fun x h => (ldV env j h).bind fun y h => sameop x y h) := by
  have v1 : ∀ {p : Pos}, PE X (.Name x p) (tVar i) := fun {p} => pe_var hi hx dx cx
  have v2 : ∀ {p : Pos}, PE X (.Name y p) (tVar j) := fun {p} => pe_var hj hy dy cy
  have r1 : PE X (.Call (.Name "repr" p4) [.Name x p5] [] p6) (tCB (rRp g) (tCons (tVar i) tNil)) := pe_callB (call_repr G) hg hm boot_repr' (pa_cons v1 pa_nil)
  have r2 : PE X (.Call (.Name "repr" p7) [.Name y p8] [] p9) (tCB (rRp g) (tCons (tVar j) tNil)) := pe_callB (call_repr G) hg hm boot_repr' (pa_cons v2 pa_nil)
  have c1 : PE X (.Compare (.Name x p1) [.Eq] [.Name y p2] p3) (tOp (rEqD X.K) (tVar i) (tVar j)) := pe_cmpR (op_eqD (by have := G.un; omega)) v1 v2 rfl
  have c2 := pe_cmpR (pos := p10) op_eq r1 r2 rfl
  have c1t := pt_cmpR (pos := p3) (op_eqD (X := X) (by have := G.un; omega)) (v1 (p := p1)) (v2 (p := p2)) rfl
  have c2t := pt_cmpR (pos := p10) op_eq r1 r2 rfl
  have key : ∀ {w : Wd} {env : Env} {h : AH} {σ : L2.St} {H : Hp} {XE : XK} {P : Wd → AH → Hp → D → Prop}, RR g w h H → RE g w h.nx env σ → Post g w h.nx ((ldV env i h).bind fun x h => (ldV env j h).bind fun y h => sameop x y h) XE P →
      ∃ (d : D) (m : Nat) (x1 x2 : V), σ[i]? = some (some x1) ∧ σ[j]? = some (some x2) ∧ RV g w h.nx d x1 ∧ RV g w h.nx d x2 ∧ wt d = some m ∧ m ≤ 60000 ∧ dpt 60 d = true ∧ P w h H (.bl true) := by
    intro w env h σ H XE P rr re q
    unfold ldV at q
    split at q
    · rename_i d1 he1
      rw [bind_ok] at q
      split at q
      · rename_i d2 he2
        rw [bind_ok] at q
        obtain ⟨x1, s1, t1⟩ := re.at_ _ _ he1
        obtain ⟨x2, s2, t2⟩ := re.at_ _ _ he2
        unfold sameop at q
        obtain ⟨hs, q2⟩ := if_ok q
        clear q
        have ep := dsame_eq _ _ hs
        subst ep
        cases hw : wt d1 with
        | none => rw [hw] at q2; exact q2.elim
        | some m =>
          rw [hw] at q2
          obtain ⟨⟨hm1, hd⟩, q3⟩ := if_ok q2
          exact ⟨d1, m, x1, x2, s1, s2, t1, t2, hw, hm1, hd, q3.now rr⟩
      · exact q.elim
    · exact q.elim
  refine ⟨PE.imp (pe_andT c1 (pe_one (pos := pos) c2)) fun σ H Q ⟨w, env, h, rr, re, q⟩ => ?_, (PW.imp' (pw_and c1t (pw_and1 c2t)) fun σ H Q ⟨w, env, h, rr, re, q⟩ => ?_).pt⟩
  · obtain ⟨d, m, x1, x2, s1, s2, t1, t2, hw, hm1, hd, q⟩ := key rr re q
    have hp1 := dp_of rr.sub 60 d x1 hd t1
    have hp2 := dp_of rr.sub 60 d x2 hd t2
    refine ⟨x1, s1, x2, s2, py d, py d, by rw [G.K]; exact hp1, by rw [G.K]; exact hp2, shaped_of hd t1, shaped_of hd t2, true, ?_, iteT ?_⟩
    · rw [eqv_refl' 60 d hd]; exact rfl
    · refine ⟨x1, s1, w, h, d, x1, m, rr, t1, rfl, hw, hm1, hd, x2, s2, w, h, d, x2, m, rr, t2, rfl, hw, hm1, hd, rfl, ?_⟩
      rw [decide_eq_true rfl]
      exact q _ (rv_bl.mpr rfl)
  · have e : runT (fun env h => (ldV env i h).bind fun x h => (ldV env j h).bind fun y h => sameop x y h) env h = ((ldV env i h).bind fun x h => (ldV env j h).bind fun y h => sameop x y h).bind fun x h => lift (truth x) h := rfl
    rw [e] at q
    obtain ⟨d, m, x1, x2, s1, s2, t1, t2, hw, hm1, hd, q⟩ := key rr re q.bind
    have hp1 := dp_of rr.sub 60 d x1 hd t1
    have hp2 := dp_of rr.sub 60 d x2 hd t2
    refine ⟨x1, s1, x2, s2, py d, py d, by rw [G.K]; exact hp1, by rw [G.K]; exact hp2, shaped_of hd t1, shaped_of hd t2, true, by rw [eqv_refl' 60 d hd], iteT ?_⟩
    refine ⟨x1, s1, w, h, d, x1, m, rr, t1, rfl, hw, hm1, hd, x2, s2, w, h, d, x2, m, rr, t2, rfl, hw, hm1, hd, rfl, true, by rw [decide_eq_true rfl], ?_⟩
    exact q.now rr
end
end Rk

set_option maxHeartbeats 1000000
/-! Rk.L: the text is the evaluator's program: a check and its meaning. -/
namespace Rk
open PySem PySem.Spec PyProof.Rows L2
structure Tb where
  fnm : List (Str × Nat)
  gnm : List (Str × Nat)
  bnm : List Str
  kbs : List (Nat × Nat × List Str × List Nat)
abbrev Nm := List (Str × NameKind)
def glb' (nm : Nm) (x : Str) : Bool := decide (nm.lookup x = some .globalImplicit) && !(x == ("__debug__" : Str))
def visb (nm : Nm) (x : Str) : Bool := (decide (nm.lookup x = some .local) || decide (nm.lookup x = some .cell) || decide (nm.lookup x = some .free)) && !(x == ("__debug__" : Str)) && !(x == ("__classdict__" : Str))
def locb (nm : Nm) (x : Str) : Bool := decide (nm.lookup x = some .local) || decide (nm.lookup x = some .cell)
def blt (tb : Tb) (nm : Nm) (x : Str) : Bool := glb' nm x && tb.bnm.contains x
def slot (N : List Str) (i : Nat) (x : Str) : Bool := decide (N[i]? = some x)
def tnC (N : List Str) (nm : Nm) : List Nat → List Expr → Bool
  | [], [] => true
  | i :: is, .Name x _ :: es => slot N i x && locb nm x && tnC N nm is es
  | _, _ => false
def tgC (N : List Str) (nm : Nm) (tg : List Nat) (e : Expr) : Bool := match e with
  | .Name x _ => (match tg with
    | [i] => slot N i x && locb nm x
    | _ => false)
  | .Tuple es _ _ => decide (2 ≤ tg.length) && tnC N nm tg es
  | _ => false
def ownOf (N : List Str) (tg : List Nat) : List (Str × Nat) := tg.filterMap fun i => N[i]?.map (·, i)
/-- a block's names: what it captures of its def's cells are cells -/
def relN (nm names : Nm) : Nm := names.map fun (n, k) => if (k == .free && ScopeKind.function == .function && nm.lookup n == some .cell) then (n, .cell) else (n, k)
def isTup : Expr → Bool
  | .Tuple .. => true
  | _ => false
section
variable (tb : Tb) (N : List Str)
mutual
def chE : E → Nm → Expr → Bool
  | .var i, nm, e => match e with
    | .Name x _ => slot N i x && visb nm x
    | _ => false
  | .cst d, _, e => match e with
    | .Constant cc _ _ => (match cstOf cc with
      | some d' => dsame d' d
      | none => false)
    | _ => false
  | .glb n, nm, e => match e with
    | .Name x _ => decide (tb.gnm.lookup x = some n) && glb' nm x
    | _ => false
  | .bin o a b, nm, e => match e with
    | .BinOp a' o' b' _ => decide (o' = o) && chE a nm a' && chE b nm b'
    | _ => false
  | .neg a, nm, e => match e with
    | .UnaryOp .USub a' _ => chE a nm a'
    | _ => false
  | .not a, nm, e => match e with
    | .UnaryOp .Not a' _ => chE a nm a'
    | _ => false
  | .and es, nm, e => match e with
    | .BoolOp .And l _ => !l.isEmpty && chEs es nm l
    | _ => false
  | .or es, nm, e => match e with
    | .BoolOp .Or l _ => !l.isEmpty && chEs es nm l
    | _ => false
  | .ife t a b, nm, e => match e with
    | .IfExp t' a' b' _ => chE t nm t' && chE a nm a' && chE b nm b'
    | _ => false
  | .cmp o a b, nm, e => match e with
    | .Compare a' [o'] [b'] _ => decide (o' = o) && chE a nm a' && chE b nm b' && nset b'
    | _ => false
  | .cmp2 o1 o2 a b d, nm, e => match e with
    | .Compare a' [o1', o2'] [b', d'] _ => decide (o1' = o1) && decide (o2' = o2) && chE a nm a' && chE b nm b' && chE d nm d' && nset d'
    | _ => false
  | .isn a, nm, e => match e with
    | .Compare a' [.Is] [.Constant .none _ _] _ => chE a nm a'
    | _ => false
  | .isnn a, nm, e => match e with
    | .Compare a' [.IsNot] [.Constant .none _ _] _ => chE a nm a'
    | _ => false
  | .tup es, nm, e => match e with
    | .Tuple l _ _ => nsts l && chEs es nm l
    | _ => false
  | .lst es, nm, e => match e with
    | .List l _ => nsts l && chEs es nm l
    | _ => false
  | .hls es, nm, e => match e with
    | .List l _ => nsts l && chEs es nm l
    | _ => false
  | .idx a i, nm, e => match e with
    | .Subscript a' i' _ => nsl i' && chE a nm a' && chE i nm i'
    | _ => false
  | .slc a lo hi, nm, e => match e with
    | .Subscript a' (.Slice l' h' none _) _ => chE a nm a' && chOp lo nm l' && chOp hi nm h'
    | _ => false
  | .cal f args kws sel, nm, e => match e with
    | .Call (.Name x _) l ks _ => decide (tb.fnm.lookup x = some f) && glb' nm x && nsts l && chEs args nm l && (match kwn ks with
      | some kn => tb.kbs.contains (f, l.length, kn, sel) && chKs kws nm ks
      | none => false)
    | _ => false
  | .bi b a, nm, e => match e with
    | .Call (.Name x _) [a'] [] _ => decide (x = bname b) && blt tb nm x && nst a' && chE a nm a'
    | _ => false
  | .isi a k, nm, e => match e with
    | .Call (.Name x _) [a', .Name y _] [] _ => decide (x = ("isinstance" : Str)) && blt tb nm x && ksimple k && decide (y = Str.ofString (kname k)) && blt tb nm y && nst a' && chE a nm a'
    | .Call (.Name x _) [a', .Tuple [.Name y _, .Name z _] _ _] [] _ => decide (x = ("isinstance" : Str)) && blt tb nm x && decide (k = .seq) && decide (y = ("list" : Str)) && blt tb nm y && decide (z = ("tuple" : Str)) && blt tb nm z && nst a' && chE a nm a'
    | _ => false
  | .mt m o a, nm, e => match e with
    | .Call (.Attribute o' at' p3) [a'] [] pos => decide (m = .join) && decide (at' = ("join" : Str)) && nst a' && nsuper o' && decide (p3.endLine = pos.line) && chE o nm o' && chE a nm a'
    | _ => false
  | .same i j, nm, e => match e with
    | .BoolOp .And [.Compare (.Name x1 _) [.Eq] [.Name y1 _] _, .Compare (.Call (.Name r1 _) [.Name x2 _] [] _) [.Eq] [.Call (.Name r2 _) [.Name y2 _] [] _] _] _ =>
      slot N i x1 && slot N j y1 && visb nm x1 && visb nm y1 && decide (x2 = x1) && decide (y2 = y1) && decide (r1 = ("repr" : Str)) && decide (r2 = ("repr" : Str)) && blt tb nm r1
    | _ => false
  | .cmpr elt tg it ifs, nm, e => match e with
    | .ListComp elt' [⟨tg', it', ifs', 0⟩] sc _ => blkC N ⟨.function, nm, false, false, []⟩ sc (ownOf N tg) && tgC N sc.names tg tg' && nset it' && chIt it nm tg' it' && decide (ifs'.length ≤ 1) && chEs ifs (relN nm sc.names) ifs' && chE elt (relN nm sc.names) elt'
    | _ => false
def chEs : Es → Nm → List Expr → Bool
  | .nil, _, l => match l with
    | [] => true
    | _ => false
  | .cons e r, nm, l => match l with
    | e' :: r' => chE e nm e' && chEs r nm r'
    | _ => false
def chKs : Es → Nm → List Keyword → Bool
  | .nil, _, l => match l with
    | [] => true
    | _ => false
  | .cons e r, nm, l => match l with
    | ⟨_, e', _⟩ :: r' => chE e nm e' && chKs r nm r'
    | _ => false
def chOp : Op → Nm → Option Expr → Bool
  | .no, _, l => match l with
    | none => true
    | _ => false
  | .so e, nm, l => match l with
    | some e' => chE e nm e'
    | _ => false
def chIt : It → Nm → Expr → Expr → Bool
  | .seq e, nm, _, e' => chE e nm e'
  | .rng a, nm, _, e' => match e' with
    | .Call (.Name x _) [a'] [] _ => decide (x = ("range" : Str)) && blt tb nm x && nst a' && chE a nm a'
    | _ => false
  | .rng2 a b, nm, _, e' => match e' with
    | .Call (.Name x _) [a', b'] [] _ => decide (x = ("range" : Str)) && blt tb nm x && nst a' && nst b' && chE a nm a' && chE b nm b'
    | _ => false
  | .enum a, nm, tg, e' => match e' with
    | .Call (.Name x _) [a'] [] _ => decide (x = ("enumerate" : Str)) && blt tb nm x && nst a' && isTup tg && chE a nm a'
    | _ => false
  | .zip a b, nm, tg, e' => match e' with
    | .Call (.Name x _) [a', b'] [] _ => decide (x = ("zip" : Str)) && blt tb nm x && nst a' && nst b' && isTup tg && chE a nm a' && chE b nm b'
    | _ => false
end
mutual
def chS : S → Nm → Stmt → Bool
  | .expr t, nm, st => match st with
    | .Expr e _ => ncp e && chE tb N t nm e
    | _ => false
  | .asg i t, nm, st => match st with
    | .Assign [.Name x _] e _ => slot N i x && locb nm x && chE tb N t nm e && (ncp e || (match t with
      | .cmpr .. => true
      | _ => false))
    | _ => false
  | .asgt is t, nm, st => match st with
    | .Assign [.Tuple es _ _] e _ => decide (2 ≤ is.length) && tnC N nm is es && chE tb N t nm e && ncp e && (match e with
      | .Tuple vs _ _ => swOk vs && (match swE nm es vs with
        | none => true
        | some l => decide (is.Nodup) && (match t with
          | .tup _ => true
          | _ => false) && decide (l = es.filterMap fun | .Name x _ => some x | _ => none) && es.all (fun | .Name x _ => decide (nm.lookup x = some .local) | _ => true) && decide (es.length = vs.length) && (decide (es.length = 2) || decide (es.length = 3)))
      | _ => true)
    | _ => false
  | .aug i o t, nm, st => match st with
    | .AugAssign (.Name x _) o' e _ => decide (o' = o) && (decide (o = .Add) || decide (o = .Sub)) && slot N i x && locb nm x && chE tb N t nm e
    | _ => false
  | .ret t, nm, st => match st with
    | .Return (some e) _ => chE tb N t nm e
    | _ => false
  | .retn, _, st => match st with
    | .Return none _ => true
    | _ => false
  | .ifs t a b, nm, st => match st with
    | .If e p q _ => chE tb N t nm e && chSs a nm p && chSs b nm q
    | _ => false
  | .for tg it b, nm, st => match st with
    | .For tg' it' body [] _ => tgC N nm tg tg' && nset it' && chIt tb N it nm tg' it' && chSs b nm body
    | _ => false
  | .whl t b, nm, st => match st with
    | .While e body [] _ => chE tb N t nm e && chSs b nm body
    | _ => false
  | .brk, _, st => match st with
    | .Break _ => true
    | _ => false
  | .cnt, _, st => match st with
    | .Continue _ => true
    | _ => false
  | .pass, _, st => match st with
    | .Pass _ => true
    | .Expr (.Constant (.str _) _ _) _ => true
    | _ => false
  | .seti o i t, nm, st => match st with
    | .Assign [.Subscript o' i' _] e _ => nsl i' && ncp e && chE tb N t nm e && chE tb N o nm o' && chE tb N i nm i'
    | _ => false
def chSs : Ss → Nm → List Stmt → Bool
  | .nil, _, l => match l with
    | [] => true
    | _ => false
  | .cons s r, nm, l => match l with
    | s' :: r' => chS s nm s' && chSs r nm r'
    | _ => false
end
end
end Rk

set_option maxHeartbeats 2000000
/-! Rk.M: what the check means. -/
namespace Rk
open PySem PySem.Spec PyProof.Rows L2
abbrev CallT := Bool → Nat → List D → AH → Res D
structure CK (X : Cx) (g : Gi) (gG : G) (tb : Tb) (N : List Str) (call : CallT) (k : Nat) (nm : Nm) : Prop where
  gx : GX g true k X
  hN : X.N = N
  nms : X.env.scope.names = nm
  kind : X.env.scope.kind = .function
  calm : X.calm = true
  fm : ∀ x f, tb.fnm.lookup x = some f → X.mg x = some (.ref (g.fa f)) ∧ PySem.W.keepIn X.K (.ref (g.fa f)) = true
  gm : ∀ x n, tb.gnm.lookup x = some n → ∃ v u, X.mg x = some u ∧ RelV v u ∧ ∀ w m, RV g w m (gG.glb n) v
  bm : ∀ x, tb.bnm.contains x = true → X.mg x = none
  kb : ∀ f n ks sel, tb.kbs.contains (f, n, ks, sel) = true → KB g f n ks sel ∧ (g.fps f).length = sel.length
  df : ∀ f w n, RVs g w n (gG.dfl f) (g.fdv f)
  calls : ∀ x f, tb.fnm.lookup x = some f → FnG X.prog X.w X.K X.mg X.base k true (g.fa f) (g.fd f) (g.fps f) (spF g call true f)
section
variable {X : Cx} {g : Gi} {gG : G} {tb : Tb} {N : List Str} {call : CallT} {k : Nat} {nm : Nm}
theorem CK.blk (C : CK X g gG tb N call k nm) (s : Shared) (H : Hp) (scope : Scope) (hk : scope.kind = .function) (L : Addr) (cl : List (Str × Addr)) (fp : List Addr) : CK (X.blk s H scope (compEnvC scope cl L X.env) fp) g gG tb N call k (relN nm scope.names) :=
  ⟨⟨C.gx.K, C.gx.calm, C.gx.dp, C.gx.un, C.gx.gd, C.gx.nd⟩, C.hN, by
    show (relS scope X.env.scope).names = _
    unfold relS relN
    rw [C.kind, C.nms], by show (relS scope X.env.scope).kind = _; exact hk, C.calm, C.fm, C.gm, C.bm, C.kb, C.df, C.calls⟩
theorem CK.gl (C : CK X g gG tb N call k nm) {x : Str} (h : glb' nm x = true) : Gl X x ∧ (x == ("__debug__" : Str)) = false := by
  unfold glb' at h
  rw [Bool.and_eq_true, decide_eq_true_eq] at h
  refine ⟨?_, by simpa using h.2⟩
  show X.env.scope.names.lookup x = _
  rw [C.nms]; exact h.1
theorem CK.bl (C : CK X g gG tb N call k nm) {x : Str} (h : blt tb nm x = true) : Gl X x ∧ X.mg x = none := by
  unfold blt at h
  rw [Bool.and_eq_true] at h
  exact ⟨(C.gl h.1).1, C.bm x h.2⟩
theorem CK.vis (C : CK X g gG tb N call k nm) {x : Str} (h : visb nm x = true) : Vis X.env.scope x ∧ (x == ("__debug__" : Str)) = false ∧ (x == ("__classdict__" : Str)) = false := by
  unfold visb at h
  simp only [Bool.and_eq_true, Bool.or_eq_true, decide_eq_true_eq] at h
  refine ⟨?_, by simpa using h.1.2, by simpa using h.2⟩
  unfold Vis
  rw [C.nms]
  rcases h.1.1 with (z | z) | z
  · exact .inl z
  · exact .inr (.inl z)
  · exact .inr (.inr z)
/-- which names may be stored -/
def LocF (X : Cx) (nm : Nm) : Prop := ∀ x, locb nm x = true → L2.Loc X.env.scope x ∧ (X.fn x = true ∨ X.env.scope.names.lookup x = some .local)
theorem CK.locD (C : CK X g gG tb N call k nm) (hf : ∀ x, X.fn x = true) : LocF X nm := by
  intro x h
  unfold locb at h
  rw [Bool.or_eq_true, decide_eq_true_eq, decide_eq_true_eq] at h
  unfold L2.Loc
  rw [C.nms]
  exact ⟨h, .inl (hf x)⟩
theorem CK.locB (C : CK X g gG tb N call k nm) (s : Shared) (H : Hp) (scope : Scope) (L : Addr) (cl : List (Str × Addr)) (fp : List Addr) : LocF (X.blk s H scope (compEnvC scope cl L X.env) fp) scope.names := by
  intro x h
  unfold locb at h
  rw [Bool.or_eq_true, decide_eq_true_eq, decide_eq_true_eq] at h
  have hs : (X.blk s H scope (compEnvC scope cl L X.env) fp).env.scope = relS scope X.env.scope := rfl
  unfold L2.Loc
  rw [hs]
  rcases h with z | z
  · have q := lookup_relS_keep (sc := X.env.scope) (by decide) z
    exact ⟨.inl q, .inr q⟩
  · have q := lookup_relS_keep (sc := X.env.scope) (by decide) z
    exact ⟨.inr q, .inl (by show (scope.names.lookup x == some .cell) = true; rw [z]; rfl)⟩
theorem CK.sl (C : CK X g gG tb N call k nm) {i : Nat} {x : Str} (h : slot N i x = true) : X.N[i]? = some x := by
  rw [C.hN]
  unfold slot at h
  exact of_decide_eq_true h
theorem CK.tn (C : CK X g gG tb N call k nm) {nm' : Nm} (hl : LocF X nm') : ∀ {is : List Nat} {es : List Expr}, tnC N nm' is es = true → TN X es is
  | [], [], _ => .nil
  | [], _ :: _, h => by unfold tnC at h; cases h
  | _ :: _, [], h => by unfold tnC at h; cases h
  | i :: is, e :: es, h => by
    unfold tnC at h
    split at h
    · rename_i e0; cases e0
    · rename_i e1 e2
      cases e1; cases e2
      simp only [Bool.and_eq_true] at h
      obtain ⟨l1, l2⟩ := hl _ h.1.2
      exact .cons (C.sl h.1.1) l1 l2 (C.tn hl h.2)
    · cases h
theorem CK.tg (C : CK X g gG tb N call k nm) {nm' : Nm} (hl : LocF X nm') {tg : List Nat} {e : Expr} (h : tgC N nm' tg e = true) : PG X e (tG g tg) := by
  unfold tgC at h
  split at h
  · split at h
    · rw [Bool.and_eq_true] at h
      obtain ⟨l1, l2⟩ := hl _ h.2
      exact gv_one C.gx.nd (C.sl h.1) l1 l2
    · cases h
  · rw [Bool.and_eq_true, decide_eq_true_eq] at h
    exact gv_tup C.gx C.calm (C.tn hl h.2) h.1
  · cases h
theorem tnC_some : ∀ {is : List Nat} {es : List Expr}, tnC N nm is es = true → ∀ i ∈ is, ∃ x, N[i]? = some x
  | [], _, _, i, hi => by cases hi
  | _ :: _, [], h, _, _ => by unfold tnC at h; cases h
  | i :: is, e :: es, h, j, hj => by
    unfold tnC at h
    split at h
    · rename_i e0; cases e0
    · rename_i e1 e2
      cases e1; cases e2
      simp only [Bool.and_eq_true] at h
      rcases List.mem_cons.mp hj with rfl | hj
      · exact ⟨_, of_decide_eq_true h.1.1⟩
      · exact tnC_some h.2 j hj
    · cases h
theorem tgC_some {tg : List Nat} {e : Expr} (h : tgC N nm tg e = true) : ∀ i ∈ tg, ∃ x, N[i]? = some x := by
  unfold tgC at h
  split at h
  · split at h
    · rw [Bool.and_eq_true] at h
      intro i hi
      rcases List.mem_cons.mp hi with rfl | hi
      · exact ⟨_, of_decide_eq_true h.1⟩
      · cases hi
    · cases h
  · rw [Bool.and_eq_true] at h
    exact tnC_some h.2
  · cases h
theorem own_sub {tg : List Nat} : ∀ i ∈ (ownOf N tg).map (·.2), i ∈ tg := by
  intro i hi
  obtain ⟨p, hp, rfl⟩ := List.mem_map.mp hi
  obtain ⟨j, hj, e⟩ := List.mem_filterMap.mp hp
  obtain ⟨x, _, rfl⟩ := Option.map_eq_some_iff.mp e
  exact hj
theorem own_sup {tg : List Nat} (h : ∀ i ∈ tg, ∃ x, N[i]? = some x) : ∀ i ∈ tg, i ∈ (ownOf N tg).map (·.2) := by
  intro i hi
  obtain ⟨x, hx⟩ := h i hi
  exact List.mem_map.mpr ⟨(x, i), List.mem_filterMap.mpr ⟨i, hi, by rw [hx]; rfl⟩, rfl⟩
def lenEs : Es → Nat
  | .nil => 0
  | .cons _ r => lenEs r + 1
theorem evEs_len (call : CallT) (c : Bool) : ∀ (t : Es) (env : Env) (h : AH) (l : List D) (h' : AH), evEs gG call c t env h = .ok l h' → l.length = lenEs t
  | .nil, env, h, l, h', e => by unfold evEs at e; cases e; rfl
  | .cons a r, env, h, l, h', e => by
    unfold evEs at e
    cases ha : evE gG call c a env h with
    | ok x h1 =>
      rw [ha, bind_ok] at e
      cases hr : evEs gG call c r env h1 with
      | ok m h2 =>
        rw [hr, bind_ok] at e
        cases e
        rw [List.length_cons, evEs_len call c r _ _ _ _ hr]
        rfl
      | _ => rw [hr] at e; cases e
    | _ => rw [ha] at e; cases e
theorem chEs_len : ∀ {t : Es} {l : List Expr}, chEs tb N t nm l = true → lenEs t = l.length
  | .nil, [], _ => rfl
  | .nil, _ :: _, h => by unfold chEs at h; cases h
  | .cons _ _, [], h => by unfold chEs at h; cases h
  | .cons a r, e :: l, h => by
    unfold chEs at h
    rw [Bool.and_eq_true] at h
    show lenEs r + 1 = l.length + 1
    rw [chEs_len h.2]
theorem chKs_len : ∀ {t : Es} {l : List Keyword} {ks : List Str}, chKs tb N t nm l = true → kwn l = some ks → lenEs t = ks.length
  | .nil, [], ks, _, e => by cases e; rfl
  | .nil, _ :: _, _, h, _ => by unfold chKs at h; cases h
  | .cons _ _, [], _, h, _ => by unfold chKs at h; cases h
  | .cons a r, ⟨some n, e, p⟩ :: l, ks, h, hk => by
    unfold chKs at h
    rw [Bool.and_eq_true] at h
    obtain ⟨js, h1, rfl⟩ := Option.map_eq_some_iff.mp (show (kwn l).map (n :: ·) = some ks from hk)
    show lenEs r + 1 = js.length + 1
    rw [chKs_len h.2 h1]
  | .cons a r, ⟨none, e, p⟩ :: l, ks, h, hk => by cases hk
theorem mk_ok {o : CmpOp} {e : Expr} (h : nset e = true) : behindInMarks o e = false := by
  cases e <;> first
    | rfl
    | cases h
theorem takesE0 {X : Cx} : Takes X (fun cls d σ H => E0 σ cls d H) := takes0
mutual
theorem chE_ok : ∀ (t : E) {X : Cx} {nm : Nm} (C : CK X g gG tb N call k nm) {E : SX'} (tk : Takes X (fun cls d σ H => E σ cls d H)) (e : Expr), chE tb N t nm e = true → EV X g E e (evE gG call true t)
  | .var i, X, nm, C, E, tk, e, h => by
    unfold chE at h
    split at h
    · rw [Bool.and_eq_true] at h
      obtain ⟨v1, v2, v3⟩ := C.vis h.2
      exact ev_var C.gx (C.sl h.1) v1 v2 v3
    · cases h
  | .cst d, X, nm, C, E, tk, e, h => by
    unfold chE at h
    split at h
    · split at h
      · rename_i d' hd
        have := dsame_eq _ _ h
        subst this
        exact ev_cst C.gx hd
      · cases h
    · cases h
  | .glb n, X, nm, C, E, tk, e, h => by
    unfold chE at h
    split at h
    · rw [Bool.and_eq_true, decide_eq_true_eq] at h
      obtain ⟨v, u, h1, h2, h3⟩ := C.gm _ _ h.1
      obtain ⟨g1, g2⟩ := C.gl h.2
      exact ev_glb C.gx g1 h1 h2 h3 g2
    · cases h
  | .bin o a b, X, nm, C, E, tk, e, h => by
    unfold chE at h
    split at h
    · simp only [Bool.and_eq_true, decide_eq_true_eq] at h
      obtain ⟨⟨rfl, h1⟩, h2⟩ := h
      exact ev_bin C.gx (chE_ok a C tk _ h1) (chE_ok b C tk _ h2)
    · cases h
  | .neg a, X, nm, C, E, tk, e, h => by
    unfold chE at h
    split at h
    · exact ev_neg C.gx (chE_ok a C tk _ h)
    · cases h
  | .not a, X, nm, C, E, tk, e, h => by
    unfold chE at h
    split at h
    · exact ev_not C.gx (chE_ok a C tk _ h)
    · cases h
  | .and es, X, nm, C, E, tk, e, h => by
    unfold chE at h
    split at h
    · rw [Bool.and_eq_true] at h
      exact (chAnd_ok es C tk _ (by intro z; rw [z] at h; exact absurd h.1 (by decide)) h.2).ev
    · cases h
  | .or es, X, nm, C, E, tk, e, h => by
    unfold chE at h
    split at h
    · rw [Bool.and_eq_true] at h
      exact (chOr_ok es C tk _ (by intro z; rw [z] at h; exact absurd h.1 (by decide)) h.2).ev
    · cases h
  | .ife t a b, X, nm, C, E, tk, e, h => by
    unfold chE at h
    split at h
    · simp only [Bool.and_eq_true] at h
      exact ev_ife C.gx (chE_ok t C tk _ h.1.1) (chE_ok a C tk _ h.1.2) (chE_ok b C tk _ h.2)
    · cases h
  | .cmp o a b, X, nm, C, E, tk, e, h => by
    unfold chE at h
    split at h
    · simp only [Bool.and_eq_true, decide_eq_true_eq] at h
      obtain ⟨⟨⟨rfl, h1⟩, h2⟩, h3⟩ := h
      exact ev_cmp C.gx (chE_ok a C tk _ h1) (chE_ok b C tk _ h2) (mk_ok h3)
    · cases h
  | .cmp2 o1 o2 a b d, X, nm, C, E, tk, e, h => by
    unfold chE at h
    split at h
    · simp only [Bool.and_eq_true, decide_eq_true_eq] at h
      obtain ⟨⟨⟨⟨⟨rfl, rfl⟩, h1⟩, h2⟩, h3⟩, h4⟩ := h
      exact ev_cmp2 C.gx (chE_ok a C tk _ h1) (chE_ok b C tk _ h2) (chE_ok d C tk _ h3) (mk_ok h4)
    · cases h
  | .isn a, X, nm, C, E, tk, e, h => by
    unfold chE at h
    split at h
    · exact ev_isn C.gx (chE_ok a C tk _ h)
    · cases h
  | .isnn a, X, nm, C, E, tk, e, h => by
    unfold chE at h
    split at h
    · exact ev_isnn C.gx (chE_ok a C tk _ h)
    · cases h
  | .tup es, X, nm, C, E, tk, e, h => by
    unfold chE at h
    split at h
    · rw [Bool.and_eq_true] at h
      exact ev_tup C.gx (chEs_ok es C tk _ h.1 h.2)
    · cases h
  | .lst es, X, nm, C, E, tk, e, h => by
    unfold chE at h
    split at h
    · rw [Bool.and_eq_true] at h
      exact ev_lst C.gx (chEs_ok es C tk _ h.1 h.2)
    · cases h
  | .hls es, X, nm, C, E, tk, e, h => by
    unfold chE at h
    split at h
    · rw [Bool.and_eq_true] at h
      exact ev_hls C.gx (chEs_ok es C tk _ h.1 h.2)
    · cases h
  | .idx a i, X, nm, C, E, tk, e, h => by
    unfold chE at h
    split at h
    · simp only [Bool.and_eq_true] at h
      exact ev_idx C.gx (chE_ok a C tk _ h.1.2) (chE_ok i C tk _ h.2) h.1.1
    · cases h
  | .slc a lo hi, X, nm, C, E, tk, e, h => by
    unfold chE at h
    split at h
    · simp only [Bool.and_eq_true] at h
      exact ev_slc C.gx (chE_ok a C tk _ h.1.1) (chOp_ok lo C tk _ h.1.2) (chOp_ok hi C tk _ h.2)
    · cases h
  | .cal f args kws sel, X, nm, C, E, tk, e, h => by
    unfold chE at h
    split at h
    · simp only [Bool.and_eq_true, decide_eq_true_eq] at h
      obtain ⟨⟨⟨⟨h1, h2⟩, h3⟩, h4⟩, h5⟩ := h
      split at h5
      · rename_i kn hkn
        rw [Bool.and_eq_true] at h5
        obtain ⟨m1, m2⟩ := C.fm _ _ h1
        obtain ⟨g1, g2⟩ := C.gl h2
        obtain ⟨b1, b2⟩ := C.kb _ _ _ _ h5.1
        refine ev_cal C.gx (C.calls _ _ h1) g1 m1 m2 g2 b1 b2 (C.df f) tk h3 hkn (chEs_ok args C tk _ h3 h4) (chKs_ok kws C tk _ h5.2) (fun z env h => ?_) (fun env h l h' z => ?_) (fun env h l h' z => ?_)
        · subst z
          cases args with
          | nil => unfold evEs; rfl
          | cons a r => unfold chEs at h4; cases h4
        · rw [evEs_len _ _ _ _ _ _ _ z, chEs_len h4]
        · rw [evEs_len _ _ _ _ _ _ _ z, chKs_len h5.2 hkn]
      · cases h5
    · cases h
  | .bi b a, X, nm, C, E, tk, e, h => by
    unfold chE at h
    split at h
    · simp only [Bool.and_eq_true, decide_eq_true_eq] at h
      obtain ⟨⟨⟨rfl, h1⟩, h2⟩, h3⟩ := h
      obtain ⟨g1, g2⟩ := C.bl h1
      exact ev_bi C.gx rfl b g1 g2 h2 (chE_ok a C tk _ h3)
    · cases h
  | .isi a kk, X, nm, C, E, tk, e, h => by
    unfold chE at h
    split at h
    · simp only [Bool.and_eq_true, decide_eq_true_eq] at h
      obtain ⟨⟨⟨⟨⟨⟨rfl, h1⟩, h2⟩, rfl⟩, h3⟩, h4⟩, h5⟩ := h
      obtain ⟨g1, g2⟩ := C.bl h1
      obtain ⟨g3, g4⟩ := C.bl h3
      exact ev_isi C.gx h2 g1 g2 g3 g4 h4 (chE_ok a C tk _ h5)
    · simp only [Bool.and_eq_true, decide_eq_true_eq] at h
      obtain ⟨⟨⟨⟨⟨⟨⟨⟨rfl, h1⟩, rfl⟩, rfl⟩, h3⟩, rfl⟩, h4⟩, h5⟩, h6⟩ := h
      obtain ⟨g1, g2⟩ := C.bl h1
      obtain ⟨g3, g4⟩ := C.bl h3
      obtain ⟨g5, g6⟩ := C.bl h4
      exact ev_isiT C.gx g1 g2 g3 g4 g5 g6 h5 (chE_ok a C tk _ h6)
    · cases h
  | .mt m o a, X, nm, C, E, tk, e, h => by
    unfold chE at h
    split at h
    · simp only [Bool.and_eq_true, decide_eq_true_eq] at h
      obtain ⟨⟨⟨⟨⟨⟨rfl, rfl⟩, h1⟩, h2⟩, h3⟩, h4⟩, h5⟩ := h
      exact ev_join C.gx (chE_ok o C tk _ h4) (chE_ok a C tk _ h5) h1 h2 (by rw [h3]; exact beq_self_eq_true _)
    · cases h
  | .same i j, X, nm, C, E, tk, e, h => by
    unfold chE at h
    split at h
    · simp only [Bool.and_eq_true, decide_eq_true_eq] at h
      obtain ⟨⟨⟨⟨⟨⟨⟨⟨h1, h2⟩, h3⟩, h4⟩, rfl⟩, rfl⟩, rfl⟩, rfl⟩, h5⟩ := h
      obtain ⟨g1, g2⟩ := C.bl h5
      obtain ⟨a1, a2, a3⟩ := C.vis h3
      obtain ⟨b1, b2, b3⟩ := C.vis h4
      exact ev_same C.gx (C.sl h1) (C.sl h2) a1 b1 a2 a3 b2 b3 g1 g2
    · cases h
  | .cmpr elt tg it ifs, X, nm, C, E, tk, e, h => by
    unfold chE at h
    split at h
    · rename_i elt' tg' it' ifs' sc pos
      simp only [Bool.and_eq_true, decide_eq_true_eq] at h
      obtain ⟨⟨⟨⟨⟨⟨h1, h2⟩, h3⟩, h4⟩, h5⟩, h6⟩, h7⟩ := h
      have ok : BlkOk X.N X.env.scope sc (ownOf N tg) := by
        refine blkOk_by ?_
        rw [C.hN]
        unfold blkC at h1 ⊢
        rw [C.nms]
        exact h1
      have hif : ∀ (s : Shared) (H : Hp) (L : Addr) (cl : List (Str × Addr)) (fp : List Addr), PTs (X.blk s H sc (compEnvC sc cl L X.env) fp) ifs' (tB' g E0 (evIfs gG call true ifs)) := fun s H L cl fp => by
        cases ifs with
        | nil =>
          cases ifs' with
          | nil => exact ⟨fun pins s σ H Q I ⟨w, env, h, rr, re, q⟩ => pts_nil.run pins s σ H Q I (by unfold evIfs at q; exact q.now rr)⟩
          | cons _ _ => unfold chEs at h6; cases h6
        | cons a r =>
          cases ifs' with
          | nil => unfold chEs at h6; cases h6
          | cons a' r' =>
            have e2 : r' = [] := List.eq_nil_of_length_eq_zero (by simp at h5; exact congrArg List.length h5)
            subst e2
            unfold chEs at h6
            rw [Bool.and_eq_true] at h6
            have z := (chE_ok a (C.blk s H sc ok.kind L cl fp) takesE0 _ h6.1).pt
            refine ⟨fun pins s σ H Q I q => (pts_one z).run pins s σ H Q I ?_⟩
            obtain ⟨w, env, h, rr, re, q⟩ := q
            exact ⟨w, env, h, rr, re, by unfold evIfs at q; exact q⟩
      exact ev_cmpr C.gx C.calm (chIt_ok it C tk tg' it' h4) ok own_sub (own_sup (tgC_some h2)) (fun s H L cl fp => (C.blk s H sc ok.kind L cl fp).tg (C.locB s H sc L cl fp) h2) hif (fun s H L cl fp => (chE_ok elt (C.blk s H sc ok.kind L cl fp) takesE0 _ h7).pe) h3
    · cases h
theorem chEs_ok : ∀ (t : Es) {X : Cx} {nm : Nm} (C : CK X g gG tb N call k nm) {E : SX'} (tk : Takes X (fun cls d σ H => E σ cls d H)) (l : List Expr), nsts l = true → chEs tb N t nm l = true → PA X l (tEs g E (evEs gG call true t))
  | .nil, X, nm, C, E, tk, l, hn, h => by
    cases l with
    | nil => exact av_nil
    | cons _ _ => unfold chEs at h; cases h
  | .cons a r, X, nm, C, E, tk, l, hn, h => by
    cases l with
    | nil => unfold chEs at h; cases h
    | cons a' l =>
      unfold chEs at h
      rw [Bool.and_eq_true] at h
      unfold nsts at hn
      rw [List.all_cons, Bool.and_eq_true] at hn
      exact av_cons hn.1 (chE_ok a C tk _ h.1).pe (chEs_ok r C tk _ hn.2 h.2)
theorem chKs_ok : ∀ (t : Es) {X : Cx} {nm : Nm} (C : CK X g gG tb N call k nm) {E : SX'} (tk : Takes X (fun cls d σ H => E σ cls d H)) (l : List Keyword), chKs tb N t nm l = true → PK X l (tEs g E (evEs gG call true t))
  | .nil, X, nm, C, E, tk, l, h => by
    cases l with
    | nil => exact kv_nil
    | cons _ _ => unfold chKs at h; cases h
  | .cons a r, X, nm, C, E, tk, l, h => by
    cases l with
    | nil => unfold chKs at h; cases h
    | cons a' l =>
      obtain ⟨n0, e0, p0⟩ := a'
      unfold chKs at h
      rw [Bool.and_eq_true] at h
      exact kv_cons (chE_ok a C tk _ h.1).pe (chKs_ok r C tk _ h.2)
theorem chAnd_ok : ∀ (t : Es) {X : Cx} {nm : Nm} (C : CK X g gG tb N call k nm) {E : SX'} (tk : Takes X (fun cls d σ H => E σ cls d H)) (l : List Expr), l ≠ [] → chEs tb N t nm l = true → BV X g E .And l (evAnd gG call true t)
  | .nil, X, nm, C, E, tk, l, hn, h => by
    cases l with
    | nil => exact absurd rfl hn
    | cons _ _ => unfold chEs at h; cases h
  | .cons a r, X, nm, C, E, tk, l, hn, h => by
    cases l with
    | nil => exact absurd rfl hn
    | cons a' l =>
      unfold chEs at h
      rw [Bool.and_eq_true] at h
      have ha := chE_ok a C tk _ h.1
      have hr := chAnd_ok r C tk l
      cases l with
      | nil =>
        cases r with
        | nil => exact bv_one ha .And
        | cons _ _ => have z := h.2; unfold chEs at z; cases z
      | cons b' l =>
        cases r with
        | nil => have z := h.2; unfold chEs at z; cases z
        | cons b r => exact bv_and C.gx ha (hr (fun z => nomatch z) h.2)
theorem chOr_ok : ∀ (t : Es) {X : Cx} {nm : Nm} (C : CK X g gG tb N call k nm) {E : SX'} (tk : Takes X (fun cls d σ H => E σ cls d H)) (l : List Expr), l ≠ [] → chEs tb N t nm l = true → BV X g E .Or l (evOr gG call true t)
  | .nil, X, nm, C, E, tk, l, hn, h => by
    cases l with
    | nil => exact absurd rfl hn
    | cons _ _ => unfold chEs at h; cases h
  | .cons a r, X, nm, C, E, tk, l, hn, h => by
    cases l with
    | nil => exact absurd rfl hn
    | cons a' l =>
      unfold chEs at h
      rw [Bool.and_eq_true] at h
      have ha := chE_ok a C tk _ h.1
      have hr := chOr_ok r C tk l
      cases l with
      | nil =>
        cases r with
        | nil => exact bv_one ha .Or
        | cons _ _ => have z := h.2; unfold chEs at z; cases z
      | cons b' l =>
        cases r with
        | nil => have z := h.2; unfold chEs at z; cases z
        | cons b r => exact bv_or C.gx ha (hr (fun z => nomatch z) h.2)
theorem chOp_ok : ∀ (t : Op) {X : Cx} {nm : Nm} (C : CK X g gG tb N call k nm) {E : SX'} (tk : Takes X (fun cls d σ H => E σ cls d H)) (l : Option Expr), chOp tb N t nm l = true → PO X l (tO' g E (evOp gG call true t))
  | .no, X, nm, C, E, tk, l, h => by
    unfold chOp at h
    split at h
    · exact ov_no
    · cases h
  | .so a, X, nm, C, E, tk, l, h => by
    unfold chOp at h
    split at h
    · exact ov_so (chE_ok a C tk _ h)
    · cases h
theorem chIt_ok : ∀ (t : It) {X : Cx} {nm : Nm} (C : CK X g gG tb N call k nm) {E : SX'} (tk : Takes X (fun cls d σ H => E σ cls d H)) (tg e : Expr), chIt tb N t nm tg e = true → PI X tg e (tI g E (evIt gG call true t))
  | .seq a, X, nm, C, E, tk, tg, e, h => by
    unfold chIt at h
    exact iv_seq C.gx (chE_ok a C tk _ h)
  | .rng a, X, nm, C, E, tk, tg, e, h => by
    unfold chIt at h
    split at h
    · simp only [Bool.and_eq_true, decide_eq_true_eq] at h
      obtain ⟨⟨⟨rfl, h1⟩, h2⟩, h3⟩ := h
      obtain ⟨g1, g2⟩ := C.bl h1
      exact iv_rng C.gx g1 g2 (chE_ok a C tk _ h3) h2
    · cases h
  | .rng2 a b, X, nm, C, E, tk, tg, e, h => by
    unfold chIt at h
    split at h
    · simp only [Bool.and_eq_true, decide_eq_true_eq] at h
      obtain ⟨⟨⟨⟨⟨rfl, h1⟩, h2⟩, h3⟩, h4⟩, h5⟩ := h
      obtain ⟨g1, g2⟩ := C.bl h1
      exact iv_rng2 C.gx g1 g2 (chE_ok a C tk _ h4) (chE_ok b C tk _ h5) h2 h3
    · cases h
  | .enum a, X, nm, C, E, tk, tg, e, h => by
    unfold chIt at h
    split at h
    · simp only [Bool.and_eq_true, decide_eq_true_eq] at h
      obtain ⟨⟨⟨⟨rfl, h1⟩, h2⟩, h3⟩, h4⟩ := h
      obtain ⟨g1, g2⟩ := C.bl h1
      unfold isTup at h3
      split at h3
      · exact iv_enum C.gx g1 g2 (chE_ok a C tk _ h4) h2
      · cases h3
    · cases h
  | .zip a b, X, nm, C, E, tk, tg, e, h => by
    unfold chIt at h
    split at h
    · simp only [Bool.and_eq_true, decide_eq_true_eq] at h
      obtain ⟨⟨⟨⟨⟨⟨rfl, h1⟩, h2⟩, h3⟩, h4⟩, h5⟩, h6⟩ := h
      obtain ⟨g1, g2⟩ := C.bl h1
      unfold isTup at h4
      split at h4
      · exact iv_zip C.gx g1 g2 (chE_ok a C tk _ h5) (chE_ok b C tk _ h6) h2 h3
      · cases h4
    · cases h
end
end
end Rk

set_option maxHeartbeats 2000000
/-! Rk.N: statements, defs, the law's end. -/
namespace Rk
open PySem PySem.Spec PyProof.Rows L2
structure SK (X : Cx) (g : Gi) (gG : G) (tb : Tb) (N : List Str) (call : CallT) (k : Nat) (nm : Nm) (W : L2.WX) : Prop extends CK X g gG tb N call k nm where
  fn : ∀ x, X.fn x = true
  po : PassesOwn (model X.prog X.w) X.A X.env X.xe
  tk : Takes X W
section
variable {X : Cx} {g : Gi} {gG : G} {tb : Tb} {N : List Str} {call : CallT} {k : Nat} {nm : Nm} {W : L2.WX}
theorem SK.tk' (C : SK X g gG tb N call k nm W) : Takes X (fun cls d σ H => xw W σ cls d H) := C.tk
theorem SK.lf (C : SK X g gG tb N call k nm W) : LocF X nm := C.toCK.locD C.fn
/-- name = [..] -/
theorem chAsgc (C : SK X g gG tb N call k nm W) {i : Nat} {x : Str} {px pos : Pos} {elt : E} {tg : List Nat} {it : It} {ifs : Es} {e : Expr} (hi : slot N i x = true) (hx : locb nm x = true) (h : chE tb N (.cmpr elt tg it ifs) nm e = true) :
    SV X g W (.Assign [.Name x px] e pos) (evS gG call true (.asg i (.cmpr elt tg it ifs))) := by
  obtain ⟨l1, l2⟩ := C.lf _ hx
  unfold chE at h
  split at h
  · rename_i elt' tg' it' ifs' sc pos'
    simp only [Bool.and_eq_true, decide_eq_true_eq] at h
    obtain ⟨⟨⟨⟨⟨⟨h1, h2⟩, h3⟩, h4⟩, h5⟩, h6⟩, h7⟩ := h
    have ok : BlkOk X.N X.env.scope sc (ownOf N tg) := by
      refine blkOk_by ?_
      rw [C.hN]
      unfold blkC at h1 ⊢
      rw [C.nms]
      exact h1
    have hif : ∀ (s : Shared) (H : Hp) (L : Addr) (cl : List (Str × Addr)) (fp : List Addr), PTs (X.blk s H sc (compEnvC sc cl L X.env) fp) ifs' (tB' g E0 (evIfs gG call true ifs)) := fun s H L cl fp => by
      cases ifs with
      | nil =>
        cases ifs' with
        | nil => exact ⟨fun pins s σ H Q I ⟨w, env, h, rr, re, q⟩ => pts_nil.run pins s σ H Q I (by unfold evIfs at q; exact q.now rr)⟩
        | cons _ _ => unfold chEs at h6; cases h6
      | cons a r =>
        cases ifs' with
        | nil => unfold chEs at h6; cases h6
        | cons a' r' =>
          have e2 : r' = [] := List.eq_nil_of_length_eq_zero (by simp at h5; exact congrArg List.length h5)
          subst e2
          unfold chEs at h6
          rw [Bool.and_eq_true] at h6
          have z := (chE_ok a (C.toCK.blk s H sc ok.kind L cl fp) takesE0 _ h6.1).pt
          refine ⟨fun pins s σ H Q I q => (pts_one z).run pins s σ H Q I ?_⟩
          obtain ⟨w, env, h, rr, re, q⟩ := q
          exact ⟨w, env, h, rr, re, by unfold evIfs at q; exact q⟩
    exact sv_asgc C.gx C.calm C.kind (C.sl hi) l1 l2 (chIt_ok it C.toCK C.tk' tg' it' h4) ok own_sub (own_sup (tgC_some h2)) (fun s H L cl fp => (C.toCK.blk s H sc ok.kind L cl fp).tg (C.toCK.locB s H sc L cl fp) h2) hif (fun s H L cl fp => (chE_ok elt (C.toCK.blk s H sc ok.kind L cl fp) takesE0 _ h7).pe) h3
  · cases h
theorem tn_nm : ∀ {es : List Expr} {is : List Nat}, TN X es is → True := fun _ => trivial
mutual
theorem chS_ok : ∀ (t : S) (C : SK X g gG tb N call k nm W) (st : Stmt), chS tb N t nm st = true → SV X g W st (evS gG call true t)
  | .expr t, C, st, h => by
    unfold chS at h
    split at h
    · rw [Bool.and_eq_true] at h
      exact sv_expr (chE_ok t C.toCK C.tk' _ h.2) h.1
    · cases h
  | .asg i t, C, st, h => by
    unfold chS at h
    split at h
    · simp only [Bool.and_eq_true] at h
      obtain ⟨⟨⟨h1, h2⟩, h3⟩, h4⟩ := h
      rw [Bool.or_eq_true] at h4
      rcases h4 with h4 | h4
      · obtain ⟨l1, l2⟩ := C.lf _ h2
        exact sv_asg C.gx (C.sl h1) l1 l2 (chE_ok t C.toCK C.tk' _ h3) h4
      · split at h4
        · exact chAsgc C h1 h2 h3
        · cases h4
    · cases h
  | .asgt is t, C, st, h => by
    unfold chS at h
    split at h
    · simp only [Bool.and_eq_true, decide_eq_true_eq] at h
      obtain ⟨⟨⟨⟨h1, h2⟩, h3⟩, h4⟩, h5⟩ := h
      have tn := C.toCK.tn C.lf h2
      have he := chE_ok t C.toCK C.tk' _ h3
      split at h5
      · rename_i es k1 p1 e pos vs k2 p2
        simp only [Bool.and_eq_true] at h5
        obtain ⟨h6, h7⟩ := h5
        split at h7
        · rename_i hw
          exact sv_asgtC C.gx C.calm C.kind tn h1 he h6 (by rw [C.nms]; exact hw)
        · rename_i l hw
          simp only [Bool.and_eq_true, decide_eq_true_eq, Bool.or_eq_true] at h7
          obtain ⟨⟨⟨⟨⟨h8, h9⟩, h10⟩, h11⟩, h12⟩, h13⟩ := h7
          split at h9
          · rename_i es'
            unfold chE at h3
            rw [Bool.and_eq_true] at h3
            refine sv_par C.gx C.calm C.kind tn h8 (chEs_ok es' C.toCK C.tk' _ h3.1 h3.2) h6 (by rw [C.nms]; exact hw) (fun e0 he0 x p e1 => ?_) (fun _ _ => h10) h12 h13
            rw [List.all_eq_true] at h11
            have := h11 _ he0
            rw [e1] at this
            rw [C.nms]
            exact of_decide_eq_true this
          · cases h9
      · rename_i hne
        refine sv_asgt C.gx C.calm tn h1 he h4 ?_
        unfold isT
        split
        · rename_i a1 a2 a3
          exact absurd rfl (hne a1 a2 a3)
        · rfl
    · cases h
  | .aug i o t, C, st, h => by
    unfold chS at h
    split at h
    · simp only [Bool.and_eq_true, decide_eq_true_eq, Bool.or_eq_true] at h
      obtain ⟨⟨⟨⟨rfl, h1⟩, h2⟩, h3⟩, h4⟩ := h
      obtain ⟨l1, l2⟩ := C.lf _ h3
      exact sv_aug C.gx h1 (C.sl h2) l1 l2 (chE_ok t C.toCK C.tk' _ h4)
    · cases h
  | .ret t, C, st, h => by
    unfold chS at h
    split at h
    · exact sv_ret (chE_ok t C.toCK C.tk' _ h)
    · cases h
  | .retn, C, st, h => by
    unfold chS at h
    split at h
    · exact sv_retn
    · cases h
  | .ifs t a b, C, st, h => by
    unfold chS at h
    split at h
    · simp only [Bool.and_eq_true] at h
      exact sv_if (chE_ok t C.toCK C.tk' _ h.1.1) (chSs_ok a C _ h.1.2) (chSs_ok b C _ h.2)
    · cases h
  | .for tg it b, C, st, h => by
    unfold chS at h
    split at h
    · simp only [Bool.and_eq_true] at h
      exact sv_for C.calm C.po (chIt_ok it C.toCK C.tk' _ _ h.1.2) (C.toCK.tg C.lf h.1.1.1) (chSs_ok b C _ h.2) h.1.1.2
    · cases h
  | .whl t b, C, st, h => by
    unfold chS at h
    split at h
    · rw [Bool.and_eq_true] at h
      exact sv_whl C.po (chE_ok t C.toCK C.tk' _ h.1) (chSs_ok b C _ h.2)
    · cases h
  | .brk, C, st, h => by
    unfold chS at h
    split at h
    · exact sv_brk
    · cases h
  | .cnt, C, st, h => by
    unfold chS at h
    split at h
    · exact sv_cnt
    · cases h
  | .pass, C, st, h => by
    unfold chS at h
    split at h
    · exact sv_pass
    · exact sv_doc
    · cases h
  | .seti o i t, C, st, h => by
    unfold chS at h
    split at h
    · simp only [Bool.and_eq_true] at h
      obtain ⟨⟨⟨⟨h1, h2⟩, h3⟩, h4⟩, h5⟩ := h
      exact sv_seti (chE_ok t C.toCK C.tk' _ h3) (chE_ok o C.toCK C.tk' _ h4) (chE_ok i C.toCK C.tk' _ h5) h2 h1
    · cases h
theorem chSs_ok : ∀ (t : Ss) (C : SK X g gG tb N call k nm W) (st : List Stmt), chSs tb N t nm st = true → SVs X g W st (evSs gG call true t)
  | .nil, C, st, h => by
    cases st with
    | nil => exact svs_nil
    | cons _ _ => unfold chSs at h; cases h
  | .cons a r, C, st, h => by
    cases st with
    | nil => unfold chSs at h; cases h
    | cons s st =>
      unfold chSs at h
      rw [Bool.and_eq_true] at h
      exact svs_cons (chS_ok a C _ h.1) (chSs_ok r C _ h.2)
end
end
/-! ### a def by its body -/
section
variable {P : Program} {w : World} {K : PySem.W.Frag} {mg : Str → Option Value} {base : Heap}
theorem fn_ofG {k : Nat} {x qual : Str} {params : Arguments} {body : List Stmt} {scope : Scope} {dvs : List V} {kws : List (Str × V)} {f : Addr} {fd : FuncData} {N ps : List Str} {sp : Sp} (F : FunD K x qual params body scope dvs kws f fd) (S : FnScope N ps scope)
    (hbody : ∀ (cdv : Value) (A : Around) (outer : List PySem.Env) (s : Shared) (H : Hp) (vs : List V) (Q : VK) (E : XK), RoomG k (A.deeper (envOfC qual scope s.heap.objs.size f cdv)) → A.handled = none → vs.length = ps.length → sp vs H Q E →
      ∃ t, PSs (cxOf (L2.CX P w) P w K mg base N qual scope f cdv A outer s H E) body t ∧ t { nx := fun _ H' => Q .non H', rt := Q } (start N vs) H) : FnG P w K mg base (k + 1) true f fd ps sp := by
  obtain ⟨oc, od, dV, kV, doc, pm, an, cdv, ct, osl, rfl, lk, hcd, _, _⟩ := F.ex
  constructor
  intro A outer s H args us vs Q E room calm e0 hlen hb rel hsp
  have hcalm := calm rfl
  have inK : K.In s.heap := e0.mod.kin.keeps fun b o e => (e0.bs b o e).1
  have noLim : s.heap.NoLimit := e0.mod.nolimit.keeps fun b o e => (e0.bs b o e).1
  have kinds : ∀ y ∈ ps.zip us, scope.names.lookup y.1 = some .local ∨ (scope.names.lookup y.1 = some .cell ∧ ((cellsFrom (s.heap.objs.size + 1) scope.names []).lookup y.1).isSome = true) := by
    intro y hy
    have hm : y.1 ∈ ps := (List.of_mem_zip (a := y.1) (b := y.2) hy).1
    rcases S.par y.1 hm with z | z
    · left; exact z
    · right; exact ⟨z, PySem.W.cellsFrom_some _ _ _ (.inl z)⟩
  have hdep : A.depth < recursionLimit := by have := room.dp; omega
  refine codeAny_call_function hdep (inK _ _ lk) rfl S.co S.gen rfl (PySem.W.codeRec_of inK hcd) (hb _ _ _ _ ?_)
  refine wpAny_newFunctionEnv_cells S.kind kinds ?_
  intro env henv s1 entered
  subst henv
  refine ⟨noLim.keeps entered.toInCall.keep, codeAny_func ?_⟩
  obtain ⟨t, ht, hq⟩ := hbody cdv A outer s H vs Q E (room.deeper _) hcalm hlen hsp
  have inv := inv_start (CX := L2.CX P w) (E := E) S hcalm e0 hlen rel entered
  refine wpAny_mono (ht.run [] s1 (start N vs) H _ inv hq) ?_ fun e s' z => z
  intro fl s' hfl
  cases fl with
  | ret u =>
    obtain ⟨v, σ', H', J, rv, q⟩ := hfl
    exact ⟨v, H', J.os, J.bare, J.base, J.hok, rv, q⟩
  | next =>
    obtain ⟨σ', H', J, q⟩ := hfl
    exact ⟨.non, H', J.os, J.bare, J.base, J.hok, rfl, q⟩
  | brk =>
    obtain ⟨_, _, _, q⟩ := hfl
    exact q.elim
  | cont =>
    obtain ⟨_, _, _, q⟩ := hfl
    exact q.elim
end
/-- a def's result by its body's -/
theorem fin_post {g : Gi} {w : Wd} {n : Nat} {r : Res Fl} {E : XK} {Q : VK} (q : Post g w n (fin r) E (PV g Q)) : Post g w n r NoX (PF g (fun cls d _ H => E cls d H) { nx := fun _ H' => Q .non H', rt := Q }) := by
  cases r with
  | stuck => exact q
  | exc x h => exact q.elim
  | ok f h =>
    cases f with
    | nx e => exact fun w' H' ext rr σ re => q w' H' ext rr _ (rv_non.mpr rfl)
    | rt d => exact fun w' H' ext rr => q w' H' ext rr
    | bk e => exact q.elim
    | ct e => exact q.elim
    | xc x e => exact fun w' H' ext rr σ cls d re rx => q w' H' cls d ext rr rx
end Rk

set_option maxHeartbeats 2000000
/-! Rk.O: the law's call. -/
namespace Rk
open PySem PySem.Spec PyProof.Rows L2
section
variable {P : Program} {w : World} {K : PySem.W.Frag} {mg mb : Str → Option Value} {k : Nat} {fa a : Addr} {fd : FuncData} {x : Str} {sp : Sp} {s : Shared} {us : List Value} {ns : List Int}
/-- the heap's part that is told of: the script alone, if it is no object of the module -/
def scrH (K : PySem.W.Frag) (a : Addr) (us : List Value) (ns : List Int) : Hp := fun b =>
  if b = a ∧ K.lookup a = none then some (.frz { cls := .type "list", data := .seq us.toArray } (.lst (ns.map V.int))) else none
theorem scrH_some {b : Addr} {u : HO} (h : scrH K a us ns b = some u) : b = a ∧ K.lookup a = none ∧ u = .frz { cls := .type "list", data := .seq us.toArray } (.lst (ns.map V.int)) := by
  unfold scrH at h
  obtain ⟨⟨h1, h2⟩, h3⟩ := opt_if h
  exact ⟨h1, h2, h3.symm⟩
theorem scrH_sq (KX : K.In s.heap) (ha : s.heap.get? a = some { cls := .type "list", data := .seq us.toArray }) (hi : IntsAre us ns) (hl : ns.length ≤ sizeLine) : SqL K (scrH K a us ns) a (ns.map V.int) := by
  have rel := vals_ints hi
  have len := hi.length
  cases hk : K.lookup a with
  | none =>
    refine .inl (.inr ⟨{ cls := .type "list", data := .seq us.toArray }, ?_⟩)
    unfold scrH
    exact if_pos ⟨rfl, hk⟩
  | some o =>
    have e := KX a o hk
    rw [ha] at e
    have e := Option.some.inj e
    subst e
    refine .inr ⟨_, us.toArray, _, hk, rfl, rfl, rfl, ?_, ?_⟩
    · rw [List.size_toArray, len]; exact hl
    · simpa using rel
theorem scrH_ok (ha : s.heap.get? a = some { cls := .type "list", data := .seq us.toArray }) (hi : IntsAre us ns) (hl : ns.length ≤ sizeLine) : HOk P w (scrH K a us ns) s.heap := by
  intro b u hb
  obtain ⟨rfl, _, rfl⟩ := scrH_some hb
  refine ⟨ha, ?_, us, _, vals_ints hi, ha⟩
  rw [List.length_map]
  exact hl
/-- the ground below the law's call -/
theorem scr_env (KX : K.In s.heap) (hns : s.heap.Ns mainGlobals mg) (hb : s.heap.Ns builtinsNs mb) (hbb : ∀ x : Str, x ≠ "__name__" → mb x = bootBuiltins x) (hlim : s.heap.NoLimit) (hg : s.gens = #[])
    (ha : s.heap.get? a = some { cls := .type "list", data := .seq us.toArray }) (hi : IntsAre us ns) (hl : ns.length ≤ sizeLine) :
    Env0 P w K mg (hidT s.heap (scrH K a us ns)) callerA [] s (scrH K a us ns) := by
  have seen : ∀ {b : Addr} {o : Obj}, s.heap.get? b = some o → (b = a → K.lookup a ≠ none) → (hidT s.heap (scrH K a us ns)).get? b = some o := by
    intro b o hb hne
    refine hidT_get hb ?_
    cases q : scrH K a us ns b with
    | none => rfl
    | some u =>
      obtain ⟨h1, h2, _⟩ := scrH_some q
      exact absurd h2 (hne h1)
  have names : ∀ {b : Addr} {m : Str → Option Value}, s.heap.Ns b m → (hidT s.heap (scrH K a us ns)).Ns b m := by
    rintro b m ⟨o, es, ep, h1, h2, h3⟩
    refine ⟨o, es, ep, seen h1 fun hba => ?_, h2, h3⟩
    rw [hba, ha] at h1
    have e := Option.some.inj h1
    rw [← e] at h2
    have h2 : Data.seq us.toArray _ = Data.dict es ep := h2
    cases h2
  have kin : K.In (hidT s.heap (scrH K a us ns)) := fun b o hb => seen (KX b o hb) fun hba hn => by
    rw [hba, hn] at hb
    cases hb
  obtain ⟨mc, c1, c2⟩ := hlim
  exact { frames := rfl, mod := { kin := kin, glob := names hns, blt := ⟨mb, names hb, hbb⟩, nolimit := ⟨mc, names c1, c2⟩ }, bs := fun b o hb => of_hidT hb, bsz := Nat.le_of_eq (hidT_size _ _), funs := trivial, frf := fun b hb => absurd (show b ∈ ([] : List Addr) from hb) (by simp), hok := scrH_ok ha hi hl, bare := .of_eq hg }
theorem lawG (KX : K.In s.heap) (hns : s.heap.Ns mainGlobals mg) (hb : s.heap.Ns builtinsNs mb) (hbb : ∀ x : Str, x ≠ "__name__" → mb x = bootBuiltins x) (hlim : s.heap.NoLimit) (hg : s.gens = #[])
    (ha : s.heap.get? a = some { cls := .type "list", data := .seq us.toArray }) (hi : IntsAre us ns) (hl : ns.length ≤ sizeLine) (room : RoomG k callerA)
    (F : ∀ base : Heap, K.In base → base.Ns mainGlobals mg → FnG P w K mg base k true fa fd [x] sp) (bind : ∀ (s : Shared) (u : Value), BindsTo s fd ⟨[u], []⟩ [(x, u)])
    (hsp : ∀ H : Hp, SqL K H a (ns.map V.int) → sp [.ref a] H (fun v _ => v = .bl true) fun _ _ _ => False) :
    codeAny (model P w) callerA (.call (.ref fa) ⟨[.ref a], []⟩) (fun r s' => r = .ok (.ret (.bool true)) ∧ OldK s.heap s'.heap ∧ s'.os = s.os ∧ AllBare s'.gens) s := by
  have e0 := scr_env (P := P) (w := w) KX hns hb hbb hlim hg ha hi hl
  have fn := F _ e0.mod.kin e0.mod.glob
  refine codeAny_mono (fn.run callerA [] s _ ⟨[.ref a], []⟩ [.ref a] [.ref a] _ _ room (fun _ => rfl) e0 rfl (bind s (.ref a)) (.cons rfl .nil) (hsp _ (scrH_sq KX ha hi hl))) ?_
  intro r s' h
  cases r with
  | error e =>
    obtain ⟨_, _, _, _, _, _, _, _, _, _, _, _, z⟩ := h
    exact z.elim
  | ok fl =>
    cases fl with
    | next => exact h.elim
    | brk => exact h.elim
    | cont => exact h.elim
    | ret u =>
      obtain ⟨v, H', os, bare, un, ok', rel, q⟩ := h
      have q : v = .bl true := q
      rw [q] at rel
      have rel : u = Value.bool true := rel
      refine ⟨by rw [rel], OldK.of_keep fun b o hbo => ?_, os, bare⟩
      cases q : scrH K a us ns b with
      | none => exact un.keep b o hbo q (fun z => absurd (show b ∈ ([] : List Addr) from z) (by simp)) (by simp)
      | some u =>
        obtain ⟨e1, e2, e3⟩ := scrH_some q
        rw [e3] at q
        obtain ⟨k1, _⟩ := ok' b _ (un.frzs b _ _ q)
        rw [e1, ha] at hbo
        have e := Option.some.inj hbo
        rw [← e]
        exact k1
end
/-- a law's end -/
theorem walkG {l : PySem.W.OpenLaw} {n k : Nat} {q : Program} {loose : List Str} {XP : (Str → Option Value) → Heap → Prop} {YP : World → Heap → Prop} {d : DefRec} {x : Str}
    (most : l.most = some n) (small : n ≤ sizeLine) (nodef : d.params.defaults = []) (room : RoomG k callerA)
    (F : ∀ (w : World) (mg : Str → Option Value) (fa : Addr) (h : Heap), YP w h → h.Ns mainGlobals mg → mg d.name = some (.ref fa) →
      ∃ (K : PySem.W.Frag) (fd : FuncData) (sp : Sp), K.In h ∧ (∀ (s : Shared) (u : Value), BindsTo s fd ⟨[u], []⟩ [(x, u)]) ∧
        (∀ (H : Hp) (a : Addr) (ns : List Int), ns.length ≤ n → SqL K H a (ns.map V.int) → sp [.ref a] H (fun v _ => v = .bl true) fun _ _ _ => False) ∧
        ∀ base : Heap, K.In base → base.Ns mainGlobals mg → FnG l.prog w K mg base k true fa fd [x] sp) :
    PySem.W.WalkO q loose XP YP l.row.toRowW d [] (fun f vs => PySem.call f vs) := by
  refine Att.attach_call most nodef ?_
  intro w s₀ s₁ mg mb fa o pm cd doc a us ns ground told ho hd hcd hmg hobj hints hlen hg
  obtain ⟨K, fd, sp, kin, bind, hsp, fn⟩ := F w mg fa _ told ground.T.g hmg
  exact lawG kin ground.T.g ground.T.b ground.T.builtins ground.T.nolimit hg hobj hints (Nat.le_trans hlen small) room fn bind fun H hS => hsp H a ns hlen hS
end Rk

set_option maxHeartbeats 2000000
/-! Rk.P: the whole program. -/
namespace Rk
open PySem PySem.Spec PyProof.Rows L2
/-- one def: where it stands, its slots, its parameters, its text in our small language -/
structure DE where
  dd : He.DefD
  N : List Str
  ps : List Str
  fn : FnD
structure Pg where
  ds : List DE
  gs : List (Str × D)
  bs : List Str
  kb : List (Nat × Nat × List Str × List Nat)
def nums : Nat → List Str → List (Str × Nat)
  | _, [] => []
  | k, x :: r => (x, k) :: nums (k + 1) r
theorem nums_at : ∀ {l : List Str} {k i : Nat} {x : Str}, (nums k l).lookup x = some i → ∃ j, i = k + j ∧ l[j]? = some x
  | [], _, _, _, h => by cases h
  | y :: r, k, i, x, h => by
    unfold nums at h
    rw [List.lookup_cons] at h
    cases e : x == y with
    | true =>
      rw [e] at h
      cases h
      exact ⟨0, rfl, by rw [eq_of_beq e]; rfl⟩
    | false =>
      rw [e] at h
      obtain ⟨j, h1, h2⟩ := nums_at h
      exact ⟨j + 1, by omega, by simpa using h2⟩
def Pg.tb (p : Pg) : Tb := ⟨nums 0 (p.ds.map (·.dd.name)), nums 0 (p.gs.map (·.1)), p.bs, p.kb⟩
def Pg.G (p : Pg) : G := ⟨fun f => p.ds[f]?.map (·.fn), fun n => ((p.gs[n]?).map (·.2)).getD .non, fun _ => []⟩
def faG (q : Str × D) : He.Fa := match q.2 with
  | .str s => .str q.1 (stt s)
  | .int i => .int q.1 i
  | _ => .free q.1
def Pg.fa (p : Pg) : List He.Fa := p.ds.map (fun d => .glo d.dd.name) ++ p.gs.map faG ++ p.bs.map .free
def scopeC (N ps : List Str) (sc : Scope) : Bool :=
  decide (sc.kind = .function) && decide (sc.isCoroutine = false) && decide (sc.isGenerator = false) && decide N.Nodup && decide (N.take ps.length = ps) &&
    ps.all (fun x => decide (sc.names.lookup x = some .local) || decide (sc.names.lookup x = some .cell)) && sc.names.all fun y => decide (y.2 ≠ .free)
theorem scopeC_ok {N ps : List Str} {sc : Scope} (h : scopeC N ps sc = true) : FnScope N ps sc := by
  unfold scopeC at h
  simp only [Bool.and_eq_true, decide_eq_true_eq, List.all_eq_true, Bool.or_eq_true] at h
  obtain ⟨⟨⟨⟨⟨⟨h1, h2⟩, h3⟩, h4⟩, h5⟩, h6⟩, h7⟩ := h
  exact ⟨h1, h2, h3, h4, h5, h6, h7⟩
def DE.ok (tb : Tb) (d : DE) : Bool :=
  d.dd.dfl.isEmpty && d.dd.kwd.isEmpty && decide (d.dd.at_ = (d.dd.name, none)) && scopeC d.N d.ps d.dd.scope && decide (d.fn.np = d.ps.length) && decide (d.fn.nb = d.N.length) && chSs tb d.N d.fn.body d.dd.scope.names d.dd.body
def gOk (q : Str × D) : Bool := match q.2 with
  | .str s => okS s
  | .int _ => true
  | _ => false
def Pg.ok (p : Pg) : Bool := p.ds.all (DE.ok p.tb) && p.gs.all gOk
/-- a call's values come to the parameters -/
def KBd (d : DE) (n : Nat) (ks : List Str) (sel : List Nat) : Prop := d.ps.length = sel.length ∧
  ∀ (kV doc pm : Value) (an : Option Addr) (cdv ct : Value) (us ws : List Value), us.length = n → ws.length = ks.length →
    ∃ vs, pick sel (us ++ ws) = some vs ∧ bindArgs (PySem.W.fnOf d.dd.name d.dd.qual d.dd.params d.dd.body d.dd.scope .none kV doc pm an cdv ct) ⟨us, ks.zip ws⟩ = pure (d.ps.zip vs)
def Pg.kbOk (p : Pg) : Prop := ∀ q ∈ p.kb, ∃ d, p.ds[q.1]? = some d ∧ KBd d q.2.1 q.2.2.1 q.2.2.2
section
variable {P : Program} {w : World} {K : PySem.W.Frag} {h : Heap} {mg : Str → Option Value}
theorem faOk {p : Pg} (c : He.SaysD p.fa (p.ds.map (·.dd)) K) {f : He.Fa} (hf : f ∈ p.fa) : f.ok K = true := by
  obtain ⟨i, hi, e⟩ := List.mem_iff_getElem.mp hf
  exact c.fact i (by rw [List.getElem?_eq_getElem hi, e])
theorem funOf {p : Pg} (c : He.SaysD p.fa (p.ds.map (·.dd)) K) (ok : p.ok = true) {f : Nat} {d : DE} (hd : p.ds[f]? = some d) : ∃ fd, FunD K d.dd.name d.dd.qual d.dd.params d.dd.body d.dd.scope [] [] (He.ga K d.dd.name) fd := by
  obtain ⟨fd, F⟩ := c.def_ f (d := d.dd) (by rw [List.getElem?_map, hd]; rfl)
  unfold Pg.ok at ok
  rw [Bool.and_eq_true] at ok
  have q := List.all_eq_true.mp ok.1 d (List.mem_of_getElem? hd)
  unfold DE.ok at q
  simp only [Bool.and_eq_true, decide_eq_true_eq] at q
  obtain ⟨⟨⟨⟨⟨⟨h1, h2⟩, h3⟩, _⟩, _⟩, _⟩, _⟩ := q
  have e1 : d.dd.dvs K = [] := by
    unfold He.DefD.dvs
    rw [List.isEmpty_iff.mp h1]
    rfl
  have e2 : d.dd.kws K = [] := by
    unfold He.DefD.kws
    rw [List.isEmpty_iff.mp h2]
    rfl
  have e3 : He.fAd K d.dd.at_ = He.ga K d.dd.name := by rw [h3]; rfl
  rw [e1, e2, e3] at F
  exact ⟨fd, F⟩
open Classical in
noncomputable def fdOf (p : Pg) (K : PySem.W.Frag) (f : Nat) : FuncData := match p.ds[f]? with
  | some d => if h : ∃ fd, FunD K d.dd.name d.dd.qual d.dd.params d.dd.body d.dd.scope [] [] (He.ga K d.dd.name) fd then Classical.choose h else default
  | none => default
noncomputable def giOf (p : Pg) (K : PySem.W.Frag) : Gi := ⟨K, fun _ => 0, fun _ => "", fun f => He.ga K (((p.ds[f]?).map (·.dd.name)).getD ""), fdOf p K, fun f => ((p.ds[f]?).map (·.ps)).getD [], fun _ => []⟩
theorem fdOf_ok {p : Pg} (c : He.SaysD p.fa (p.ds.map (·.dd)) K) (ok : p.ok = true) {f : Nat} {d : DE} (hd : p.ds[f]? = some d) : FunD K d.dd.name d.dd.qual d.dd.params d.dd.body d.dd.scope [] [] (He.ga K d.dd.name) (fdOf p K f) := by
  have h := funOf c ok hd
  unfold fdOf
  rw [hd]
  dsimp only
  rw [dif_pos h]
  exact Classical.choose_spec h
theorem deOk {p : Pg} (ok : p.ok = true) {f : Nat} {d : DE} (hd : p.ds[f]? = some d) : FnScope d.N d.ps d.dd.scope ∧ d.fn.np = d.ps.length ∧ d.fn.nb = d.N.length ∧ chSs p.tb d.N d.fn.body d.dd.scope.names d.dd.body = true := by
  unfold Pg.ok at ok
  rw [Bool.and_eq_true] at ok
  have q := List.all_eq_true.mp ok.1 d (List.mem_of_getElem? hd)
  unfold DE.ok at q
  simp only [Bool.and_eq_true, decide_eq_true_eq] at q
  obtain ⟨⟨⟨⟨_, h1⟩, h2⟩, h3⟩, h4⟩ := q
  exact ⟨scopeC_ok h1, h2, h3, h4⟩
theorem fnAt {p : Pg} {x : Str} {f : Nat} (e : p.tb.fnm.lookup x = some f) : ∃ d, p.ds[f]? = some d ∧ d.dd.name = x := by
  obtain ⟨j, rfl, h⟩ := nums_at e
  rw [Nat.zero_add]
  rw [List.getElem?_map] at h
  exact Option.map_eq_some_iff.mp h
theorem re_start {g : Gi} {w : Wd} {n : Nat} {ds : List D} {vs : List V} {N : List Str} (r : RVs g w n ds vs) (m : Nat) (hm : m = N.length - vs.length) : RE g w n (ds.map some ++ List.replicate m none) (L2.start N vs) := by
  unfold L2.start
  refine ⟨?_, fun i d e => ?_⟩
  · rw [List.length_append, List.length_append, List.length_map, List.length_map, List.length_replicate, List.length_replicate, r.length, hm, r.length]
  · by_cases hi : i < ds.length
    · rw [List.getElem?_append_left (by simpa using hi), List.getElem?_map] at e
      obtain ⟨d', h1, h2⟩ := Option.map_eq_some_iff.mp e
      cases h2
      obtain ⟨v, h3, h4⟩ := r.get h1
      exact ⟨v, by rw [List.getElem?_append_left (by rw [List.length_map, r.length]; exact hi), List.getElem?_map, h3]; rfl, h4⟩
    · rw [List.getElem?_append_right (by simpa using hi), List.getElem?_replicate] at e
      split at e <;> cases e
theorem prog_fn (p : Pg) (inK : K.In h) (ns : h.Ns mainGlobals mg) (c : He.SaysD p.fa (p.ds.map (·.dd)) K) (ok : p.ok = true) (kb : p.kbOk) (base : Heap) :
    ∀ (n f : Nat) (d : DE), p.ds[f]? = some d → FnG P w K mg base n true ((giOf p K).fa f) ((giOf p K).fd f) ((giOf p K).fps f) (spF (giOf p K) (callN p.G n) true f)
  | 0, f, d, hd => ⟨fun A outer s H args us vs Q E _ _ _ _ _ _ hsp => by
      obtain ⟨w, ds, h, _, _, q⟩ := hsp
      exact q.elim⟩
  | n + 1, f, d, hd => by
    have ih := fun f d => prog_fn p inK ns c ok kb base n f d
    have F := fdOf_ok c ok hd
    obtain ⟨S, hnp, hnb, hch⟩ := deOk ok hd
    have e1 : (giOf p K).fa f = He.ga K d.dd.name := by show He.ga K (((p.ds[f]?).map (·.dd.name)).getD "") = _; rw [hd]; rfl
    have e2 : (giOf p K).fps f = d.ps := by show ((p.ds[f]?).map (·.ps)).getD [] = _; rw [hd]; rfl
    rw [e1, e2]
    refine fn_ofG F S fun cdv A outer s H vs Q E room calm hlen hsp => ?_
    obtain ⟨wd, ds, h, rr, rvs, q⟩ := hsp
    refine ⟨tS (giOf p K) (fun cls d _ H => E cls d H) (evSs p.G (callN p.G n) true d.fn.body), ?_, ?_⟩
    · refine chSs_ok (k := n) (tb := p.tb) (N := d.N) (nm := d.dd.scope.names) d.fn.body ?_ _ hch
      refine { gx := ⟨rfl, fun _ => rfl, room.dp, room.un, room.gd, S.nd⟩, hN := rfl, nms := rfl, kind := S.kind, calm := rfl, fm := fun x f' e => ?_, gm := fun x m e => ?_, bm := fun x e => ?_, kb := fun f' n' ks sel e => ?_, df := fun _ _ _ => RVs.nil, calls := fun x f' e => ?_, fn := fun _ => rfl, po := ?_, tk := ?_ }
      · obtain ⟨d', h1, rfl⟩ := fnAt e
        have F' := fdOf_ok c ok h1
        have e3 : (giOf p K).fa f' = He.ga K d'.dd.name := by show He.ga K (((p.ds[f']?).map (·.dd.name)).getD "") = _; rw [h1]; rfl
        rw [e3]
        exact ⟨He.glo_ok inK ns (faOk c (List.mem_append_left _ (List.mem_append_left _ (List.mem_map.mpr ⟨d', List.mem_of_getElem? h1, rfl⟩)))), F'.kp⟩
      · obtain ⟨j, rfl, hj⟩ := nums_at e
        rw [Nat.zero_add]
        rw [List.getElem?_map] at hj
        obtain ⟨⟨x', dd⟩, h1, rfl⟩ := Option.map_eq_some_iff.mp hj
        have hm := List.mem_of_getElem? h1
        have fok := faOk c (f := faG (x', dd)) (List.mem_append_left _ (List.mem_append_right _ (List.mem_map.mpr ⟨_, hm, rfl⟩)))
        unfold Pg.ok at ok
        rw [Bool.and_eq_true] at ok
        have g1 := List.all_eq_true.mp ok.2 _ hm
        have eg : p.G.glb j = dd := by show ((p.gs[j]?).map (·.2)).getD .non = _; rw [h1]; rfl
        rw [eg]
        cases dd with
        | str z =>
          obtain ⟨t, ht⟩ := He.str_ok inK ns fok
          exact ⟨.str (stt z), _, ht, ⟨t, rfl⟩, fun _ _ => rv_str.mpr ⟨rfl, g1⟩⟩
        | int i =>
          obtain ⟨t, ht⟩ := He.int_ok inK ns fok
          exact ⟨.int i, _, ht, ⟨t, rfl⟩, fun _ _ => rv_int.mpr rfl⟩
        | _ => cases g1
      · exact He.free_ok inK ns (faOk c (List.mem_append_right _ (List.mem_map.mpr ⟨x, List.contains_iff_mem.mp e, rfl⟩)))
      · obtain ⟨d', h1, h2, h3⟩ := kb _ (List.contains_iff_mem.mp e)
        have F' := fdOf_ok c ok h1
        have e4 : (giOf p K).fps f' = d'.ps := by show ((p.ds[f']?).map (·.ps)).getD [] = _; rw [h1]; rfl
        refine ⟨⟨[], .nil, fun s us ws vs _ l1 l2 hp => ?_⟩, by rw [e4]; exact h2⟩
        rw [List.append_nil] at hp
        rw [e4]
        obtain ⟨oc, od, dV, kV, doc, pm, an, cdv', ct, osl, hfd, lk, hcd, hD, hK⟩ := F'.ex
        have hfd : (giOf p K).fd f' = _ := hfd
        rw [hfd]
        rcases hD with ⟨_, rfl⟩ | ⟨e, _⟩
        · obtain ⟨vs', h5, h6⟩ := h3 kV doc pm an cdv' ct us ws l1 l2
          rw [hp] at h5
          cases h5
          exact .of_eq h6
        · exact absurd rfl e
      · obtain ⟨d', h1, _⟩ := fnAt e
        exact ih f' d' h1
      · exact passes_of rfl
      · exact takes_of rfl rfl rfl rfl
    · unfold callN at q
      have eg : p.G.fn f = some d.fn := by show (p.ds[f]?).map (·.fn) = _; rw [hd]; rfl
      rw [eg] at q
      obtain ⟨hl, q⟩ := if_ok q
      refine ⟨wd, _, h, rr, re_start rvs _ ?_, fin_post q⟩
      rw [hnb, hnp, hlen]
/-- the law's call -/
theorem law_sp {p : Pg} {n f : Nat} (hv : ∀ l : List Int, l.length ≤ 63 → ∃ h', callN p.G n true f [.scr l] ⟨0, fun _ => .no⟩ = .ok (.bl true) h') (H : Hp) (a : Addr) (l : List Int) (hl : l.length ≤ 63) (hS : SqL K H a (l.map V.int)) :
    spF (giOf p K) (callN p.G n) true f [.ref a] H (fun v _ => v = .bl true) fun _ _ _ => False := by
  obtain ⟨h', e⟩ := hv l hl
  refine ⟨⟨fun _ => 0, H, fun _ => none⟩, [.scr l], ⟨0, fun _ => .no⟩, ⟨fun _ _ e => e, fun _ _ e => (nomatch e), fun k hk => absurd hk (Nat.not_lt_zero k), fun j _ hj => absurd hj (Nat.not_lt_zero j), fun k hk => absurd hk (Nat.not_lt_zero k)⟩, RVs.mk (rv_scr.mpr ⟨a, rfl, hS⟩) RVs.nil, ?_⟩
  rw [e]
  exact fun w' H' _ _ x rv => rv_bl.mp rv
end
end Rk

set_option maxHeartbeats 2000000
/-! Rk.Q: reasoning about the evaluator. -/
namespace Rk
open PySem
/-- a result's end: P of a value, X of an exception -/
def Wp {α : Type} (r : Res α) (P : α → AH → Prop) (X : D → AH → Prop) : Prop := match r with
  | .ok a h => P a h
  | .exc x h => X x h
  | .stuck => False
section
variable {α β : Type} {P : α → AH → Prop} {X : D → AH → Prop}
@[simp] theorem Wp_ok {a : α} {h : AH} : Wp (.ok a h) P X = P a h := rfl
@[simp] theorem Wp_exc {a : D} {h : AH} : Wp (.exc a h : Res α) P X = X a h := rfl
@[simp] theorem Wp_stuck : Wp (.stuck : Res α) P X = False := rfl
@[simp] theorem Wp_bind {r : Res β} {f : β → AH → Res α} : Wp (r.bind f) P X = Wp r (fun a h => Wp (f a h) P X) X := by cases r <;> rfl
@[simp] theorem Wp_bindX {r : Res β} {env : Env} {f : β → AH → Res Fl} {P : Fl → AH → Prop} : Wp (r.bindX env f) P X = Wp r (fun a h => Wp (f a h) P X) (fun x h => P (.xc x env) h) := by cases r <;> rfl
@[simp] theorem Wp_noexc {r : Res α} : Wp (noexc r) P X = Wp r P (fun _ _ => False) := by cases r <;> rfl
@[simp] theorem Wp_lift {o : Option α} {h : AH} : Wp (lift o h) P X = match o with
  | some a => P a h
  | none => False := by cases o <;> rfl
theorem Wp_ite {c : Prop} [Decidable c] {a b : Res α} : Wp (if c then a else b) P X = if c then Wp a P X else Wp b P X := by
  by_cases h : c
  · rw [if_pos h, if_pos h]
  · rw [if_neg h, if_neg h]
theorem Wp.mono {r : Res α} {P' : α → AH → Prop} {X' : D → AH → Prop} (h : Wp r P X) (hP : ∀ a h, P a h → P' a h) (hX : ∀ a h, X a h → X' a h) : Wp r P' X' := by
  cases r with
  | ok a h' => exact hP _ _ h
  | exc a h' => exact hX _ _ h
  | stuck => exact h
theorem Wp.ok {r : Res α} (h : Wp r P (fun _ _ => False)) : ∃ a h', r = .ok a h' ∧ P a h' := by
  cases r with
  | ok a h' => exact ⟨a, h', rfl, h⟩
  | exc a h' => exact h.elim
  | stuck => exact h.elim
end
/-! ### steps -/
section
variable {d : D} {e : Env} {k : Nat} {h : AH}
@[simp] theorem ldV_zero : ldV (some d :: e) 0 h = .ok d h := rfl
@[simp] theorem ldV_succ {x : Option D} : ldV (x :: e) (k + 1) h = ldV e k h := by
  unfold ldV
  rw [List.getElem?_cons_succ]
@[simp] theorem add_ii {i j : Int} : binop .Add (.int i) (.int j) h = .ok (.int (i + j)) h := rfl
@[simp] theorem sub_ii {i j : Int} : binop .Sub (.int i) (.int j) h = .ok (.int (i - j)) h := rfl
@[simp] theorem mul_ii {i j : Int} : binop .Mult (.int i) (.int j) h = if (-(2 ^ 64) < i ∧ i < 2 ^ 64) ∨ (-(2 ^ 64) < j ∧ j < 2 ^ 64) then .ok (.int (i * j)) h else .stuck := rfl
@[simp] theorem mod_ii {i j : Int} : binop .Mod (.int i) (.int j) h = if 0 < j then .ok (.int (i % j)) h else .stuck := rfl
@[simp] theorem fdiv_ii {i j : Int} : binop .FloorDiv (.int i) (.int j) h = if 0 < j ∧ j < 1073741824 then .ok (.int (i / j)) h else .stuck := rfl
@[simp] theorem pow_ii {i j : Int} : binop .Pow (.int i) (.int j) h = if 0 ≤ j ∧ j ≤ 1000000 ∧ i.natAbs < 2 ^ 64 then .ok (.int (i ^ j.toNat)) h else .stuck := rfl
@[simp] theorem add_ss {i j : List Nat} : binop .Add (.str i) (.str j) h = if i.length + j.length ≤ line then .ok (.str (i ++ j)) h else .stuck := rfl
@[simp] theorem add_ll {i j : List D} : binop .Add (.lst i) (.lst j) h = if i.length + j.length ≤ line then .ok (.lst (i ++ j)) h else .stuck := rfl
@[simp] theorem add_tt {i j : List D} : binop .Add (.tup i) (.tup j) h = if i.length + j.length ≤ line then .ok (.tup (i ++ j)) h else .stuck := rfl
@[simp] theorem lt_ii {i j : Int} : cmpop .Lt (.int i) (.int j) = some (decide (i < j)) := rfl
@[simp] theorem le_ii {i j : Int} : cmpop .LtE (.int i) (.int j) = some (decide (i ≤ j)) := rfl
@[simp] theorem gt_ii {i j : Int} : cmpop .Gt (.int i) (.int j) = some (decide (j < i)) := rfl
@[simp] theorem ge_ii {i j : Int} : cmpop .GtE (.int i) (.int j) = some (decide (j ≤ i)) := rfl
@[simp] theorem in_cs {x : Nat} {s : List Nat} : cmpop .In (.str [x]) (.str s) = some (decide (x ∈ s)) := rfl
@[simp] theorem tr_bl {b : Bool} : truth (.bl b) = some b := rfl
@[simp] theorem tr_non : truth .non = some false := rfl
@[simp] theorem ix_li {l : List D} {i : Int} : idxop (.lst l) (.int i) h = lift (L2.atI l i) h := rfl
@[simp] theorem ix_ti {l : List D} {i : Int} : idxop (.tup l) (.int i) h = lift (L2.atI l i) h := rfl
@[simp] theorem ix_si {s : List Nat} {i : Int} : idxop (.str s) (.int i) h = if s.length ≤ line then lift ((L2.atI s i).map fun c => .str [c]) h else .stuck := rfl
@[simp] theorem ix_r {n : Nat} {i : Int} : idxop (.ref n) (.int i) h = match h.cell n with
    | .lst l => lift (L2.atI l i) h
    | _ => .stuck := rfl
@[simp] theorem len_r {n : Nat} : biop .len (.ref n) h = match h.cell n with
      | .lst l => .ok (.int l.length) h
      | _ => .stuck := rfl
theorem ix_ri {n : Nat} {l : List D} {i : Int} (hc : h.cell n = .lst l) : idxop (.ref n) (.int i) h = lift (L2.atI l i) h := by
  show (match h.cell n with
    | .lst l => lift (L2.atI l i) h
    | _ => .stuck) = _
  rw [hc]
@[simp] theorem len_s {s : List Nat} : biop .len (.str s) h = if s.length ≤ line then .ok (.int s.length) h else .stuck := rfl
@[simp] theorem len_l {s : List D} : biop .len (.lst s) h = .ok (.int s.length) h := rfl
@[simp] theorem len_t {s : List D} : biop .len (.tup s) h = .ok (.int s.length) h := rfl
@[simp] theorem int_i {i : Int} : biop .int (.int i) h = .ok (.int i) h := rfl
@[simp] theorem all_l {l : List D} : biop .all (.lst l) h = lift ((bls l).map fun b => .bl (b.all id)) h := rfl
@[simp] theorem any_l {l : List D} : biop .any (.lst l) h = lift ((bls l).map fun b => .bl (b.any id)) h := rfl
@[simp] theorem tuple_l {l : List D} : biop .tuple (.lst l) h = .ok (.tup l) h := rfl
@[simp] theorem list_t {l : List D} : biop .list (.tup l) h = .ok (.lst l) h := rfl
@[simp] theorem sl_s {s : List Nat} {a b : Option Int} : slcop (.str s) a b h = if s.length ≤ line then .ok (.str (cut s a b)) h else .stuck := rfl
@[simp] theorem sl_l {s : List D} {a b : Option Int} : slcop (.lst s) a b h = .ok (.lst (cut s a b)) h := rfl
@[simp] theorem sl_t {s : List D} {a b : Option Int} : slcop (.tup s) a b h = .ok (.tup (cut s a b)) h := rfl
@[simp] theorem sl_scr {s : List Int} {a b : Option Int} : slcop (.scr s) a b h = .ok (.lst ((cut s a b).map .int)) h := rfl
@[simp] theorem join_l {s : List Nat} {l : List D} : mtop .join (.str s) (.lst l) h = match strL l with
      | some ys => if sumN ys + ys.length * s.length ≤ line then .ok (.str (TL.joinL s ys)) h else .stuck
      | none => .stuck := rfl
@[simp] theorem src_l {l : List D} : srcOf (.lst l) h = some (.fix l) := rfl
@[simp] theorem src_t {l : List D} : srcOf (.tup l) h = some (.fix l) := rfl
@[simp] theorem src_s {l : List Nat} : srcOf (.str l) h = some (.fix (l.map fun c => .str [c])) := rfl
@[simp] theorem len_fix {l : List D} : Src.len (.fix l) h = l.length := rfl
@[simp] theorem bind_one {i : Nat} {v : D} : bindT [i] v e = some (e.set i (some v)) := rfl
end
/-! ### comprehensions -/
theorem mapI_all (l : List D) (f : D → AH → Res (Option D)) (h : AH) : mapI (.fix l) f (l.length + 1) 0 h = mapL f l h := by
  rw [mapI_fix l f l.length 0 h rfl]; rfl
theorem mapI_n {l : List D} {f : D → AH → Res (Option D)} {h : AH} {k : Nat} (e : k = l.length + 1) : mapI (.fix l) f k 0 h = mapL f l h := by rw [e, mapI_all]
theorem forI_all (l : List D) (f : D → Env → AH → Res Fl) (env : Env) (h : AH) : forI (.fix l) f (l.length + 1) 0 env h = forL f l env h := by
  rw [forI_fix l f l.length 0 env h rfl]; rfl
theorem mapL_pure {f : D → AH → Res (Option D)} {h : AH} {k : D → D} : ∀ {l : List D}, (∀ x ∈ l, f x h = .ok (some (k x)) h) → mapL f l h = .ok (l.map k) h
  | [], _ => rfl
  | x :: l, H => by
    unfold mapL
    rw [H x List.mem_cons_self, bind_ok, mapL_pure fun y hy => H y (List.mem_cons_of_mem _ hy), bind_ok]
    rfl
/-- .. with an invariant of the heap -/
theorem mapL_inv {f : D → AH → Res (Option D)} {I : AH → Prop} {p : D → Prop} {X : D → AH → Prop} : ∀ {l : List D} {h : AH} {P : List D → AH → Prop}, I h → (∀ x ∈ l, ∀ h, I h → Wp (f x h) (fun o h' => I h' ∧ ∃ y, o = some y ∧ p y) X) →
    (∀ ys h', I h' → (∀ y ∈ ys, p y) → ys.length = l.length → P ys h') → Wp (mapL f l h) P X
  | [], h, P, hI, _, hP => hP [] h hI (fun _ z => nomatch z) rfl
  | x :: l, h, P, hI, H, hP => by
    unfold mapL
    rw [Wp_bind]
    refine (H x List.mem_cons_self h hI).mono (fun o h' q => ?_) fun _ _ q => q
    obtain ⟨hI', y, rfl, py⟩ := q
    rw [Wp_bind]
    refine mapL_inv hI' (fun z hz => H z (List.mem_cons_of_mem _ hz)) fun ys h'' hI'' hys hl => ?_
    rw [Wp_ok]
    refine hP _ _ hI'' (fun z hz => ?_) (by show (y :: ys).length = _; rw [List.length_cons, List.length_cons, hl])
    rcases List.mem_cons.mp (show z ∈ y :: ys from hz) with rfl | hz
    · exact py
    · exact hys z hz
/-- a for over values that stay, with an invariant of the slots and the heap -/
theorem forL_inv {f : D → Env → AH → Res Fl} {X : D → AH → Prop} (I : Nat → Env → AH → Prop) {P : Fl → AH → Prop} : ∀ {l : List D} {k : Nat} {env : Env} {h : AH}, I k env h →
    (∀ (i : Nat) x env h, l[i]? = some x → I (k + i) env h → Wp (f x env h) (fun r h' => match r with
      | .nx e => I (k + i + 1) e h'
      | .ct e => I (k + i + 1) e h'
      | .bk e => P (.nx e) h'
      | r => P r h') X) → (∀ env h, I (k + l.length) env h → P (.nx env) h) → Wp (forL f l env h) P X
  | [], k, env, h, hI, _, hP => hP env h hI
  | x :: l, k, env, h, hI, H, hP => by
    unfold forL
    rw [Wp_bind]
    refine (H 0 x env h rfl hI).mono (fun r h' q => ?_) fun _ _ q => q
    have go : ∀ e, I (k + 0 + 1) e h' → Wp (forL f l e h') P X := fun e he => forL_inv I (k := k + 1) he (fun i y env h hy hI' => by
      have := H (i + 1) y env h (by simpa using hy) (by rw [show k + (i + 1) = k + 1 + i by omega]; exact hI')
      rw [show k + (i + 1) + 1 = k + 1 + i + 1 by omega] at this
      exact this) fun env h z => hP env h (by rw [List.length_cons, show k + (l.length + 1) = k + 1 + l.length by omega]; exact z)
    cases r with
    | nx e => exact go e q
    | ct e => exact go e q
    | _ => exact q
/-! ### the dice -/
/-- a deal stands at r -/
def Deal (r : Nat) (h : AH) : Prop := ∃ (cs : List Int) (a b m : Int), h.cell r = .lst [.lst (cs.map .int), .int a, .int b, .int m] ∧ 0 ≤ a
theorem callN_succ (g : G) (n : Nat) (c : Bool) (f : Nat) (vs : List D) (h : AH) : callN g (n + 1) c f vs h = match g.fn f with
    | some fd => if vs.length = fd.np then fin (evSs g (callN g n) c fd.body (vs.map some ++ List.replicate (fd.nb - fd.np) none) h) else .stuck
    | none => .stuck := rfl
end Rk

set_option maxHeartbeats 4000000
/-! Rk.R: the dice of all laws. -/
namespace Rk
open PySem
def dealB : Ss := (.cons (.asg 1 (.cmpr (.bi .int (.var 3)) [3] (.seq (.slc (.var 0) .no (.so (.cst (.int 63))))) .nil))
  (.cons (.asg 2 (.bin .Add (.cst (.int 10028)) (.bin .Mult (.cst (.int 89)) (.bi .len (.var 1)))))
  (.cons (.for [3] (.seq (.var 1)) (.cons (.asg 2 (.bin .Mod (.bi .int (.bin .Add (.bin .Mult (.var 2) (.cst (.int 7919))) (.var 3))) (.cst (.int 2147483497))))
  .nil))
  (.cons (.ret (.hls (.cons (.var 1) (.cons (.cst (.int 0)) (.cons (.cst (.int 0)) (.cons (.var 2) .nil))))))
  .nil))))
def pickB : Ss := (.cons (.ifs (.cmp .Lt (.idx (.var 0) (.cst (.int 2))) (.cst (.int 2))) (.cons (.seti (.var 0) (.cst (.int 1)) (.bin .Add (.idx (.var 0) (.cst (.int 1))) (.cst (.int 1))))
  (.cons (.asg 3 (.bin .Add (.idx (.var 0) (.cst (.int 3))) (.bin .Mult (.idx (.var 0) (.cst (.int 1))) (.cst (.int 9343)))))
  (.cons (.ifs (.cmp .LtE (.idx (.var 0) (.cst (.int 1))) (.bi .len (.idx (.var 0) (.cst (.int 0))))) (.cons (.asg 3 (.idx (.idx (.var 0) (.cst (.int 0))) (.bin .Sub (.idx (.var 0) (.cst (.int 1))) (.cst (.int 1)))))
  .nil) .nil)
  (.cons (.ifs (.or (.cons (.cmp .Gt (.idx (.var 0) (.cst (.int 1))) (.bi .len (.idx (.var 0) (.cst (.int 0))))) (.cons (.cmp .Lt (.var 3) (.bin .Pow (.cst (.int 10)) (.cst (.int 18)))) .nil))) (.cons (.asg 4 (.bin .Mod (.bi .int (.bin .Add (.bin .Add (.bin .Mult (.var 3) (.cst (.int 47303))) (.bin .Mult (.idx (.var 0) (.cst (.int 1))) (.cst (.int 38219)))) (.idx (.var 0) (.cst (.int 3))))) (.cst (.int 2147483647))))
  (.cons (.asg 5 (.bin .Mod (.bi .int (.bin .Add (.bin .Mult (.var 4) (.var 4)) (.bin .Mult (.idx (.var 0) (.cst (.int 1))) (.cst (.int 51041))))) (.cst (.int 998244353))))
  (.cons (.ret (.bin .Mod (.bin .FloorDiv (.bin .Mod (.bi .int (.bin .Add (.bin .Mult (.var 5) (.cst (.int 46643))) (.var 4))) (.cst (.int 2147483563))) (.cst (.int 17))) (.var 1)))
  .nil))) .nil)
  (.cons (.seti (.var 0) (.cst (.int 2)) (.var 3))
  .nil))))) .nil)
  (.cons (.asg 2 (.bin .Mod (.bi .int (.idx (.var 0) (.cst (.int 2)))) (.var 1)))
  (.cons (.seti (.var 0) (.cst (.int 2)) (.bin .FloorDiv (.bi .int (.idx (.var 0) (.cst (.int 2)))) (.var 1)))
  (.cons (.ret (.var 2))
  .nil))))
def ofB (k : Nat) : Ss := (.cons (.ret (.idx (.var 1) (.cal k (.cons (.var 0) (.cons (.bi .len (.var 1)) .nil)) .nil [0, 1])))
  .nil)
def sameB : Ss := (.cons (.ret (.same 0 1))
  .nil)
/-- nothing but the cell at r has changed -/
def But (r : Nat) (h h' : AH) : Prop := h'.nx = h.nx ∧ ∀ j, j ≠ r → h'.cell j = h.cell j
theorem But.refl (r : Nat) (h : AH) : But r h h := ⟨rfl, fun _ _ => rfl⟩
theorem But.trans {r : Nat} {h h1 h2 : AH} (a : But r h h1) (b : But r h1 h2) : But r h h2 := ⟨b.1.trans a.1, fun j hj => (b.2 j hj).trans (a.2 j hj)⟩
theorem But.put (r : Nat) (h : AH) (c : Cell) : But r h (h.put r c) := ⟨rfl, fun j hj => if_neg hj⟩
theorem put_at (h : AH) (r : Nat) (c : Cell) : (h.put r c).cell r = c := if_pos rfl
theorem deq_int (a b : Int) : deq (.int a) (.int b) = (a == b) := by unfold deq; rfl
theorem lines : (63 : Nat) ≤ line := by decide
theorem ixN41 : L2.ixN (0 + 1 + 1 + 1 + 1) 1 = some 1 := rfl
theorem ixN42 : L2.ixN (0 + 1 + 1 + 1 + 1) 2 = some 2 := rfl
theorem mc1 : (-(2 ^ 64) < (9343 : Int) ∧ (9343 : Int) < 2 ^ 64) = True := by decide
section
variable {g : G} {c : Bool} {n i : Nat} {P : D → AH → Prop} {X : D → AH → Prop}
theorem at0 {α : Type} (a b c d : α) : L2.atI [a, b, c, d] 0 = some a := rfl
theorem at1 {α : Type} (a b c d : α) : L2.atI [a, b, c, d] 1 = some b := rfl
theorem at2 {α : Type} (a b c d : α) : L2.atI [a, b, c, d] 2 = some c := rfl
theorem at3 {α : Type} (a b c d : α) : L2.atI [a, b, c, d] 3 = some d := rfl
theorem wp_pick (hf : g.fn i = some ⟨2, 6, pickB⟩) {r : Nat} {h : AH} {m : Int} (hd : Deal r h) (h0 : 0 < m) (h1 : m < 1073741824) (hP : ∀ k h', 0 ≤ k → k < m → Deal r h' → But r h h' → P (.int k) h') : Wp (callN g (n + 1) c i [.ref r, .int m] h) P X := by
  obtain ⟨cs, a, b, mk, hc, ha⟩ := hd
  rw [callN_succ, hf]
  simp only [List.length_cons, List.length_nil, pickB, evSs, evS, evT, evE, List.map_cons, List.map_nil, List.cons_append, List.nil_append, List.replicate, bind_ok, bindX_ok, ldV_zero, ldV_succ, ix_r, hc, at2, lt_ii, Option.map_some, lift, tr_bl, if_true, fin, Wp_bind, Wp_noexc]
  have mi : ∀ (e : Int) (k : Int), (-(2 ^ 64) < k ∧ k < 2 ^ 64) → ∀ h : AH, binop .Mult (.int e) (.int k) h = .ok (.int (e * k)) h := fun e k hk h => by rw [mul_ii, if_pos (.inr hk)]
  have c1 : (-(2 ^ 64) < (9343 : Int) ∧ (9343 : Int) < 2 ^ 64) := by decide
  have c2 : (-(2 ^ 64) < (47303 : Int) ∧ (47303 : Int) < 2 ^ 64) := by decide
  have c3 : (-(2 ^ 64) < (38219 : Int) ∧ (38219 : Int) < 2 ^ 64) := by decide
  have c4 : (-(2 ^ 64) < (51041 : Int) ∧ (51041 : Int) < 2 ^ 64) := by decide
  have c5 : (-(2 ^ 64) < (46643 : Int) ∧ (46643 : Int) < 2 ^ 64) := by decide
  have md : ∀ (e k : Int), 0 < k → ∀ h : AH, binop .Mod (.int e) (.int k) h = .ok (.int (e % k)) h := fun e k hk h => by rw [mod_ii, if_pos hk]
  have fd : ∀ (e k : Int), 0 < k → k < 1073741824 → ∀ h : AH, binop .FloorDiv (.int e) (.int k) h = .ok (.int (e / k)) h := fun e k hk hk2 h => by rw [fdiv_ii, if_pos ⟨hk, hk2⟩]
  have pw : ∀ h : AH, binop .Pow (.int 10) (.int 18) h = .ok (.int (10 ^ 18)) h := fun h => rfl
  have sq : ∀ (e : Int), 0 ≤ e → e < 2147483647 → ∀ h : AH, binop .Mult (.int e) (.int e) h = .ok (.int (e * e)) h := fun e h0 h1 h => mi e e ⟨by omega, by omega⟩ h
  have tail : ∀ (h' : AH) (x : Int), Deal r h' → But r h h' → 0 ≤ x % m ∧ x % m < m := fun h' x _ _ => ⟨Int.emod_nonneg _ (by omega), Int.emod_lt_of_pos _ h0⟩
  by_cases hb : b < 2
  · simp only [hb, hc, decide_true, if_true, bind_ok, bindX_ok, at1, add_ii, List.length_cons, List.length_nil, ixN41, List.set_cons_succ, List.set_cons_zero, ldV_zero, ldV_succ, ix_r, put_at, at3, at0, mi _ _ c1, len_l, List.length_map, Option.map_some, lift, tr_bl, le_ii, or_true]
    by_cases hl : a + 1 ≤ (cs.length : Int)
    · obtain ⟨v, hv⟩ : ∃ v, cs[a.toNat]? = some v := ⟨cs[a.toNat]'(by omega), List.getElem?_eq_getElem (by omega)⟩
      have hv2 : L2.atI (cs.map D.int) (a + 1 - 1) = some (.int v) := by
        unfold L2.atI L2.ixN
        rw [if_pos (by omega), if_pos (by rw [List.length_map]; omega), Option.bind_some, List.getElem?_map, show (a + 1 - 1).toNat = a.toNat by omega, hv]
        rfl
      simp only [hl, decide_true, if_true, bind_ok, bindX_ok, ldV_zero, ldV_succ, ix_r, put_at, at0, at1, sub_ii, ix_li, lift, hv2, List.set_cons_succ, List.set_cons_zero, evOr, evE, len_l, List.length_map, gt_ii, Option.map_some, tr_bl, pw, lt_ii]
      have hg : ¬ ((cs.length : Int) < a + 1) := by omega
      simp only [hg, decide_false, bind_ok, bindX_ok, ldV_zero, ldV_succ, pw, lt_ii, Option.map_some, tr_bl]
      by_cases hs : v < 10 ^ 18
      · simp only [hs, decide_true, if_true, bind_ok, bindX_ok]
        have q0 := Int.emod_nonneg (v * 47303 + (a + 1) * 38219 + mk) (show (2147483647 : Int) ≠ 0 by decide)
        have q1 := Int.emod_lt_of_pos (v * 47303 + (a + 1) * 38219 + mk) (show (0 : Int) < 2147483647 by decide)
        simp only [bind_ok, bindX_ok, ldV_zero, ldV_succ, ix_r, put_at, at0, at1, at2, at3, add_ii, int_i, lift, List.set_cons_succ, List.set_cons_zero, if_true, decide_true, decide_false, Option.map_some, tr_bl, Wp_ok, Wp_bind, Wp_bindX, List.length_cons, List.length_nil, ixN41, ixN42, mi _ _ c2, mi _ _ c3, md _ 2147483647 (by decide), sq _ q0 q1, mi _ _ c4, md _ 998244353 (by decide), mi _ _ c5, md _ 2147483563 (by decide), fd _ 17 (by decide) (by decide), md _ m h0]
        have dl : Deal r (h.put r (Cell.lst [D.lst (List.map D.int cs), D.int (a + 1), D.int b, D.int mk])) := ⟨cs, a + 1, b, mk, put_at _ _ _, by omega⟩
        exact hP _ _ (Int.emod_nonneg _ (by omega)) (Int.emod_lt_of_pos _ h0) dl (But.put _ _ _)
      · simp only [hs, decide_false, Bool.false_eq_true, if_false, bind_ok, bindX_ok, ldV_zero, ldV_succ, ix_r, put_at, at0, at1, at2, at3, add_ii, int_i, lift, List.set_cons_succ, List.set_cons_zero, if_true, decide_true, decide_false, Option.map_some, tr_bl, Wp_ok, Wp_bind, Wp_bindX, List.length_cons, List.length_nil, ixN41, ixN42, md _ m h0, fd _ m h0 h1]
        refine hP _ _ (Int.emod_nonneg _ (by omega)) (Int.emod_lt_of_pos _ h0) ⟨cs, a + 1, v / m, mk, put_at _ _ _, by omega⟩ ?_
        exact ((But.put _ _ _).trans (But.put _ _ _)).trans (But.put _ _ _)
    · have hg : (cs.length : Int) < a + 1 := by omega
      simp only [hl, hg, decide_true, decide_false, Bool.false_eq_true, if_false, if_true, bind_ok, bindX_ok, ldV_zero, ldV_succ, ix_r, put_at, at0, at1, lift, evOr, evE, len_l, List.length_map, gt_ii, Option.map_some, tr_bl]
      have q0 := Int.emod_nonneg ((mk + (a + 1) * 9343) * 47303 + (a + 1) * 38219 + mk) (show (2147483647 : Int) ≠ 0 by decide)
      have q1 := Int.emod_lt_of_pos ((mk + (a + 1) * 9343) * 47303 + (a + 1) * 38219 + mk) (show (0 : Int) < 2147483647 by decide)
      simp only [bind_ok, bindX_ok, ldV_zero, ldV_succ, ix_r, put_at, at0, at1, at2, at3, add_ii, int_i, lift, List.set_cons_succ, List.set_cons_zero, if_true, decide_true, decide_false, Option.map_some, tr_bl, Wp_ok, Wp_bind, Wp_bindX, List.length_cons, List.length_nil, ixN41, ixN42, mi _ _ c2, mi _ _ c3, md _ 2147483647 (by decide), sq _ q0 q1, mi _ _ c4, md _ 998244353 (by decide), mi _ _ c5, md _ 2147483563 (by decide), fd _ 17 (by decide) (by decide), md _ m h0]
      have dl : Deal r (h.put r (Cell.lst [D.lst (List.map D.int cs), D.int (a + 1), D.int b, D.int mk])) := ⟨cs, a + 1, b, mk, put_at _ _ _, by omega⟩
      exact hP _ _ (Int.emod_nonneg _ (by omega)) (Int.emod_lt_of_pos _ h0) dl (But.put _ _ _)
  · simp only [hb, hc, decide_false, Bool.false_eq_true, if_false, bind_ok, bindX_ok, ldV_zero, ldV_succ, ix_r, put_at, at0, at1, at2, at3, add_ii, int_i, lift, List.set_cons_succ, List.set_cons_zero, if_true, decide_true, decide_false, Option.map_some, tr_bl, Wp_ok, Wp_bind, Wp_bindX, List.length_cons, List.length_nil, ixN41, ixN42, md _ m h0, fd _ m h0 h1]
    exact hP _ _ (Int.emod_nonneg _ (by omega)) (Int.emod_lt_of_pos _ h0) ⟨cs, a, b / m, mk, put_at _ _ _, ha⟩ (But.put _ _ _)
theorem cut_len {α : Type} (l : List α) (a b : Option Int) : (cut l a b).length ≤ l.length := by
  unfold cut
  rw [List.length_take, List.length_drop]
  omega
theorem wp_deal (hf : g.fn i = some ⟨1, 4, dealB⟩) {l : List Int} {h : AH} (hl : l.length ≤ 63) (hP : ∀ h', h'.nx = h.nx + 1 → (∀ j, j ≠ h.nx → h'.cell j = h.cell j) → Deal h.nx h' → P (.ref h.nx) h') : Wp (callN g (n + 1) c i [.scr l] h) P X := by
  have hlen : (List.map D.int (cut l none (some 63))).length ≤ line := by
    rw [List.length_map]
    exact Nat.le_trans (cut_len _ _ _) (Nat.le_trans hl lines)
  have mi : ∀ (e : Int) (k : Int), (-(2 ^ 64) < k ∧ k < 2 ^ 64) → ∀ h : AH, binop .Mult (.int e) (.int k) h = .ok (.int (e * k)) h := fun e k hk h => by rw [mul_ii, if_pos (.inr hk)]
  have mj : ∀ (e : Int) (k : Int), (-(2 ^ 64) < e ∧ e < 2 ^ 64) → ∀ h : AH, binop .Mult (.int e) (.int k) h = .ok (.int (e * k)) h := fun e k hk h => by rw [mul_ii, if_pos (.inl hk)]
  have c1 : (-(2 ^ 64) < (7919 : Int) ∧ (7919 : Int) < 2 ^ 64) := by decide
  have c2 : (-(2 ^ 64) < (89 : Int) ∧ (89 : Int) < 2 ^ 64) := by decide
  have md : ∀ (e k : Int), 0 < k → ∀ h : AH, binop .Mod (.int e) (.int k) h = .ok (.int (e % k)) h := fun e k hk h => by rw [mod_ii, if_pos hk]
  rw [callN_succ, hf]
  simp only [List.length_cons, List.length_nil, dealB, evSs, evS, evE, evEs, evIt, evOp, evIfs, List.map_cons, List.map_nil, List.cons_append, List.nil_append, List.replicate, bind_ok, bindX_ok, ldV_zero, ldV_succ, sl_scr, lift, src_l, len_fix, if_true, fin, Wp_bind, Wp_noexc, hlen, bind_one, List.set_cons_succ, List.set_cons_zero, mapI_all]
  rw [mapL_pure (k := id) (fun x hx => by
    obtain ⟨v, _, rfl⟩ := List.mem_map.mp hx
    rfl)]
  simp only [noexc, Wp_ok, bind_ok, bindX_ok, List.map_id, ldV_zero, ldV_succ, len_l, mj _ _ c2, add_ii, src_l, len_fix, forI_all, lift, List.set_cons_succ, List.set_cons_zero, Wp_bind]
  refine forL_inv (k := 0) (fun _ env h' => h' = h ∧ ∃ mk v, env = [some (.scr l), some (.lst (List.map D.int (cut l none (some 63)))), some (.int mk), v]) ⟨rfl, _, _, rfl⟩ ?_ ?_
  · rintro j x env h' hx ⟨rfl, mk, v, rfl⟩
    obtain ⟨z, _, rfl⟩ := List.mem_map.mp (List.mem_of_getElem? hx)
    simp only [bind_one, List.set_cons_succ, List.set_cons_zero, bind_ok, bindX_ok, ldV_zero, ldV_succ, mi _ _ c1, add_ii, int_i, md _ 2147483497 (by decide), Wp_ok]
    exact ⟨trivial, _, _, rfl⟩
  · rintro env h' ⟨rfl, mk, v, rfl⟩
    simp only [bind_ok, bindX_ok, ldV_zero, ldV_succ, List.length_cons, List.length_nil, Wp_ok, Wp_bind, Wp_bindX]
    rw [if_pos (show 0 + 1 + 1 + 1 + 1 ≤ line by decide)]
    refine hP _ rfl (fun j hj => if_neg hj) ⟨cut l none (some 63), 0, 0, mk, if_pos rfl, by decide⟩
/-- _law_of of a list, of a text -/
theorem wp_of_l {k : Nat} (hk : g.fn k = some ⟨2, 6, pickB⟩) (hf : g.fn i = some ⟨2, 2, ofB k⟩) (hd0 : g.dfl k = []) {r : Nat} {h : AH} {l : List D} (hd : Deal r h) (hl : l ≠ []) (hm : l.length < 1073741824) (hP : ∀ x h', x ∈ l → Deal r h' → But r h h' → P x h') : Wp (callN g (n + 1 + 1) c i [.ref r, .lst l] h) P X := by
  have pos : 0 < l.length := List.length_pos_iff.mpr hl
  rw [callN_succ, hf]
  simp only [List.length_cons, List.length_nil, ofB, evSs, evS, evE, evEs, List.map_cons, List.map_nil, List.cons_append, List.nil_append, bind_ok, bindX_ok, ldV_zero, ldV_succ, len_l, if_true, fin, Wp_bind, Wp_noexc, Wp_bindX, hd0, List.append_nil, pick, List.getElem?_cons_zero, List.getElem?_cons_succ, List.replicate]
  refine wp_pick hk hd (by omega) (by omega) fun kk h' k0 k1 dl bt => ?_
  have hx : L2.atI l kk = some (l[kk.toNat]'(by omega)) := by
    unfold L2.atI L2.ixN
    rw [if_pos k0, if_pos k1, Option.bind_some, List.getElem?_eq_getElem]
  simp only [ix_li, lift, hx, Wp_ok]
  exact hP _ _ (List.getElem_mem _) dl bt
theorem wp_of_s {k : Nat} (hk : g.fn k = some ⟨2, 6, pickB⟩) (hf : g.fn i = some ⟨2, 2, ofB k⟩) (hd0 : g.dfl k = []) {r : Nat} {h : AH} {l : List Nat} (hd : Deal r h) (hl : l ≠ []) (hm : l.length ≤ line) (hP : ∀ x h', x ∈ l → Deal r h' → But r h h' → P (.str [x]) h') : Wp (callN g (n + 1 + 1) c i [.ref r, .str l] h) P X := by
  have pos : 0 < l.length := List.length_pos_iff.mpr hl
  have hm2 : l.length < 1073741824 := Nat.lt_of_le_of_lt hm (by decide)
  rw [callN_succ, hf]
  simp only [List.length_cons, List.length_nil, ofB, evSs, evS, evE, evEs, List.map_cons, List.map_nil, List.cons_append, List.nil_append, bind_ok, bindX_ok, ldV_zero, ldV_succ, len_s, hm, if_true, fin, Wp_bind, Wp_noexc, Wp_bindX, hd0, List.append_nil, pick, List.getElem?_cons_zero, List.getElem?_cons_succ, List.replicate]
  refine wp_pick hk hd (by omega) (by omega) fun kk h' k0 k1 dl bt => ?_
  have hx : L2.atI l kk = some (l[kk.toNat]'(by omega)) := by
    unfold L2.atI L2.ixN
    rw [if_pos k0, if_pos k1, Option.bind_some, List.getElem?_eq_getElem]
  simp only [ix_si, hm, if_true, lift, hx, Option.map_some, Wp_ok]
  exact hP _ _ (List.getElem_mem _) dl bt
/-- _law_same -/
theorem same_ok (hf : g.fn i = some ⟨2, 2, sameB⟩) {h : AH} {x y : D} {w : Nat} (e : x = y) (hs : dsame x x = true) (hw : wt x = some w) (hl : w ≤ 60000) (hd : dpt 60 x = true) : callN g (n + 1) c i [x, y] h = .ok (.bl true) h := by
  subst e
  rw [callN_succ, hf]
  simp only [List.length_cons, List.length_nil, sameB, evSs, evS, evE, List.map_cons, List.map_nil, List.cons_append, List.nil_append, List.replicate, bind_ok, bindX_ok, ldV_zero, ldV_succ, if_true, fin, noexc, sameop, hs, hw, hl, hd, and_self]
end
end Rk

set_option maxHeartbeats 4000000
/-! Rk.S: words, years, names of all laws. -/
namespace Rk
open PySem
def AZ : List Nat := [97, 98, 99, 100, 101, 102, 103, 104, 105, 106, 107, 108, 109, 110, 111, 112, 113, 114, 115, 116, 117, 118, 119, 120, 121, 122]
def numB : Ss := (.cons (.ret (.and (.cons (.isi (.var 0) .int) (.cons (.not (.isi (.var 0) .bool)) (.cons (.cmp2 .LtE .LtE (.var 1) (.var 0) (.var 2)) .nil)))))
  .nil)
def wordB (gl : Nat) : Ss := (.cons (.ret (.and (.cons (.isi (.var 0) .str) (.cons (.cmp2 .LtE .LtE (.cst (.int 1)) (.bi .len (.var 0)) (.cst (.int 8))) (.cons (.bi .all (.cmpr (.cmp .In (.var 1) (.glb gl)) [1] (.seq (.var 0)) .nil)) .nil)))))
  .nil)
def wordsB (w : Nat) : Ss := (.cons (.ret (.and (.cons (.isi (.var 0) .tuple) (.cons (.cmp2 .LtE .LtE (.cst (.int 1)) (.bi .len (.var 0)) (.cst (.int 4))) (.cons (.bi .all (.cmpr (.cal w (.cons (.var 1) .nil) .nil [0]) [1] (.seq (.var 0)) .nil)) .nil)))))
  .nil)
def yearB (nu : Nat) : Ss := (.cons (.ret (.cal nu (.cons (.var 0) (.cons (.cst (.int 0)) (.cons (.cst (.int 9999)) .nil))) .nil [0, 1, 2]))
  .nil)
def azB : Ss := (.cons (.ret (.cst (.str AZ))) .nil)
def wordSoB (le : Nat) : Ss := (.cons (.ifs (.or (.cons (.not (.isi (.var 0) .str)) (.cons (.not (.cmp2 .LtE .LtE (.cst (.int 1)) (.bi .len (.var 0)) (.cst (.int 8)))) .nil))) (.cons (.ret (.cst (.bl false)))
  .nil) .nil)
  (.cons (.ret (.bi .all (.cmpr (.cmp .In (.var 1) (.cal le .nil .nil [])) [1] (.seq (.var 0)) .nil)))
  .nil))
def namesB (pk fo le : Nat) : Ss := (.cons (.asg 2 (.cal le .nil .nil []))
  (.cons (.asg 3 (.mt .join (.cst (.str [])) (.cmpr (.cal fo (.cons (.var 0) (.cons (.var 2) .nil)) .nil [0, 1]) [6] (.rng (.cal pk (.cons (.var 0) (.cons (.cst (.int 7)) .nil)) .nil [0, 1])) .nil)))
  (.cons (.asgt [4, 5] (.tup (.cons (.cal pk (.cons (.var 0) (.cons (.bin .Add (.bi .len (.var 3)) (.cst (.int 1))) .nil)) .nil [0, 1]) (.cons (.cal pk (.cons (.var 0) (.cons (.cst (.int 26)) .nil)) .nil [0, 1]) .nil))))
  (.cons (.ret (.cmpr (.bin .Add (.bin .Add (.slc (.var 3) .no (.so (.var 4))) (.idx (.var 2) (.bin .Mod (.bi .int (.bin .Add (.var 5) (.bin .Mult (.cst (.int 5)) (.var 6)))) (.cst (.int 26))))) (.slc (.var 3) (.so (.var 4)) .no)) [6] (.rng (.var 1)) .nil))
  .nil))))
def isW : D → Bool
  | .str s => decide (1 ≤ s.length) && decide (s.length ≤ 8) && s.all fun c => decide (c ∈ AZ)
  | _ => false
/-- data whose kind is known -/
def plain : D → Bool
  | .non => true
  | .bl _ => true
  | .int _ => true
  | .str s => decide (s.length ≤ line)
  | .tup _ => true
  | .lst _ => true
  | _ => false
theorem bls_map {p : D → Bool} : ∀ l : List D, bls (l.map fun x => .bl (p x)) = some (l.map p)
  | [] => rfl
  | x :: l => by
    show (bls (l.map fun x => .bl (p x))).map (p x :: ·) = _
    rw [bls_map l]
    rfl
theorem e8 : (8 : Nat) ≤ line := by decide
section
variable {g : G} {n i : Nat} {h : AH} {P : D → AH → Prop} {X : D → AH → Prop}
theorem az_eq (hf : g.fn i = some ⟨0, 0, azB⟩) : callN g (n + 1) true i [] h = .ok (.str AZ) h := by
  rw [callN_succ, hf]
  simp only [List.length_nil, azB, evSs, evS, evE, List.map_nil, List.nil_append, List.replicate, bind_ok, bindX_ok, if_true, fin, noexc]
theorem word_eq {gl : Nat} (hf : g.fn i = some ⟨1, 2, wordB gl⟩) (hg : g.glb gl = .str AZ) {d : D} (hp : plain d = true) : callN g (n + 1) true i [d] h = .ok (.bl (isW d)) h := by
  rw [callN_succ, hf]
  simp only [List.length_cons, List.length_nil, wordB, evSs, evS, evE, evAnd, evIt, evIfs, List.map_cons, List.map_nil, List.cons_append, List.nil_append, List.replicate, bind_ok, bindX_ok, ldV_zero, ldV_succ, if_true, fin]
  cases d with
  | str s =>
    have hl : s.length ≤ line := of_decide_eq_true hp
    simp only [isk, Option.map_some, lift, bind_ok, tr_bl, len_s, hl, if_true, le_ii]
    by_cases h1 : 1 ≤ s.length
    · have h1' : (1 : Int) ≤ (s.length : Int) := by omega
      by_cases h2 : s.length ≤ 8
      · have h2' : (s.length : Int) ≤ 8 := by omega
        simp only [h1', h2', decide_true, Option.map_some, lift, bind_ok, tr_bl, src_s, len_fix, List.length_map, Nat.le_trans h2 e8, if_true, bind_one, List.set_cons_succ, List.set_cons_zero, ldV_zero, ldV_succ, hg]
        rw [show s.length = (s.map fun c => D.str [c]).length by rw [List.length_map], mapI_all]
        rw [mapL_pure (k := fun x => .bl (match x with
          | .str [c] => decide (c ∈ AZ)
          | _ => false)) (fun x hx => by
          obtain ⟨c, _, rfl⟩ := List.mem_map.mp hx
          rfl)]
        simp only [noexc, bind_ok, all_l, bls_map, Option.map_some, lift, bindX_ok, isW, h1, h2, decide_true, Bool.true_and]
        simp only [List.map_map, List.all_map]
        rfl
      · have h2' : ¬ (s.length : Int) ≤ 8 := by omega
        simp only [h1', h2', decide_true, decide_false, Option.map_some, lift, bind_ok, tr_bl, noexc, bindX_ok, isW, h2, Bool.and_false, Bool.false_and]
    · have h1' : ¬ (1 : Int) ≤ (s.length : Int) := by omega
      simp only [h1', decide_false, Option.map_some, lift, bind_ok, tr_bl, noexc, bindX_ok, isW, h1, Bool.false_and]
  | non => rfl
  | bl b => rfl
  | int b => rfl
  | tup b => rfl
  | lst b => rfl
  | _ => cases hp
theorem words_eq {w gl : Nat} (hf : g.fn i = some ⟨1, 2, wordsB w⟩) (hw : g.fn w = some ⟨1, 2, wordB gl⟩) (hd : g.dfl w = []) (hg : g.glb gl = .str AZ) {d : D} (hp : plain d = true) (hp2 : ∀ l, d = .tup l → ∀ x ∈ l, plain x = true) :
    callN g (n + 1 + 1) true i [d] h = .ok (.bl (match d with
      | .tup l => decide (1 ≤ l.length) && decide (l.length ≤ 4) && l.all isW
      | _ => false)) h := by
  rw [callN_succ, hf]
  simp only [List.length_cons, List.length_nil, wordsB, evSs, evS, evE, evEs, evAnd, evIt, evIfs, List.map_cons, List.map_nil, List.cons_append, List.nil_append, List.replicate, bind_ok, bindX_ok, ldV_zero, ldV_succ, if_true, fin]
  cases d with
  | tup l =>
    simp only [isk, Option.map_some, lift, bind_ok, tr_bl, len_t, le_ii]
    by_cases h1 : 1 ≤ l.length
    · have h1' : (1 : Int) ≤ (l.length : Int) := by omega
      by_cases h2 : l.length ≤ 4
      · have h2' : (l.length : Int) ≤ 4 := by omega
        simp only [h1', h2', decide_true, Option.map_some, lift, bind_ok, tr_bl, src_t, len_fix, Nat.le_trans h2 (Nat.le_trans (by decide) e8), if_true, bind_one, List.set_cons_succ, List.set_cons_zero, ldV_zero, ldV_succ, hd, List.append_nil, pick, List.getElem?_cons_zero, mapI_all]
        rw [mapL_pure (k := fun x => .bl (isW x)) (fun x hx => by rw [word_eq hw hg (hp2 l rfl x hx)]; rfl)]
        simp only [noexc, bind_ok, all_l, bls_map, Option.map_some, lift, bindX_ok, List.all_map, h1, h2, decide_true, Bool.true_and]
        rfl
      · have h2' : ¬ (l.length : Int) ≤ 4 := by omega
        simp only [h1', h2', decide_true, decide_false, Option.map_some, lift, bind_ok, tr_bl, noexc, bindX_ok, h2, Bool.and_false, Bool.false_and]
    · have h1' : ¬ (1 : Int) ≤ (l.length : Int) := by omega
      simp only [h1', decide_false, Option.map_some, lift, bind_ok, tr_bl, noexc, bindX_ok, h1, Bool.false_and]
  | non => rfl
  | bl b => rfl
  | int b => rfl
  | str b => rfl
  | lst b => rfl
  | _ => cases hp
def isN' (lo hi : Int) : D → Bool
  | .int k => decide (lo ≤ k) && decide (k ≤ hi)
  | _ => false
theorem num_eq (hf : g.fn i = some ⟨3, 3, numB⟩) {lo hi : Int} {d : D} (hp : plain d = true) : callN g (n + 1) true i [d, .int lo, .int hi] h = .ok (.bl (isN' lo hi d)) h := by
  rw [callN_succ, hf]
  simp only [List.length_cons, List.length_nil, numB, evSs, evS, evE, evAnd, List.map_cons, List.map_nil, List.cons_append, List.nil_append, List.replicate, bind_ok, bindX_ok, ldV_zero, ldV_succ, if_true, fin]
  cases d with
  | int k =>
    simp only [isk, Option.map_some, lift, bind_ok, tr_bl, le_ii, Bool.not_false]
    by_cases h1 : lo ≤ k
    · simp only [h1, decide_true, Option.map_some, lift, bind_ok, bindX_ok, noexc, isN', Bool.true_and]
    · simp only [h1, decide_false, Option.map_some, lift, bind_ok, bindX_ok, noexc, isN', Bool.false_and]
  | non => rfl
  | bl b => rfl
  | str b => rfl
  | tup b => rfl
  | lst b => rfl
  | _ => cases hp
theorem year_eq {nu : Nat} (hf : g.fn i = some ⟨1, 1, yearB nu⟩) (hn : g.fn nu = some ⟨3, 3, numB⟩) (hd : g.dfl nu = []) {d : D} (hp : plain d = true) : callN g (n + 1 + 1) true i [d] h = .ok (.bl (isN' 0 9999 d)) h := by
  rw [callN_succ, hf]
  simp only [List.length_cons, List.length_nil, yearB, evSs, evS, evE, evEs, List.map_cons, List.map_nil, List.cons_append, List.nil_append, List.replicate, bind_ok, bindX_ok, ldV_zero, ldV_succ, if_true, fin, hd, List.append_nil, pick, List.getElem?_cons_zero, List.getElem?_cons_succ, num_eq hn hp, noexc]
theorem wordSo_eq {le : Nat} (hf : g.fn i = some ⟨1, 2, wordSoB le⟩) (hle : g.fn le = some ⟨0, 0, azB⟩) (hd : g.dfl le = []) {d : D} (hp : plain d = true) : callN g (n + 1 + 1) true i [d] h = .ok (.bl (isW d)) h := by
  rw [callN_succ, hf]
  simp only [List.length_cons, List.length_nil, wordSoB, evSs, evS, evT, evE, evEs, evOr, evIt, evIfs, List.map_cons, List.map_nil, List.cons_append, List.nil_append, List.replicate, bind_ok, bindX_ok, ldV_zero, ldV_succ, if_true, fin]
  cases d with
  | str s =>
    have hl : s.length ≤ line := of_decide_eq_true hp
    simp only [isk, Option.map_some, lift, bind_ok, tr_bl, len_s, hl, if_true, le_ii, Bool.not_true]
    by_cases h1 : 1 ≤ s.length
    · have h1' : (1 : Int) ≤ (s.length : Int) := by omega
      by_cases h2 : s.length ≤ 8
      · have h2' : (s.length : Int) ≤ 8 := by omega
        simp only [h1', h2', decide_true, Option.map_some, lift, bind_ok, bindX_ok, tr_bl, Bool.not_true, Bool.false_eq_true, if_false, ldV_zero, ldV_succ, src_s, len_fix, List.length_map, Nat.le_trans h2 e8, if_true, bind_one, List.set_cons_succ, List.set_cons_zero, hd, List.append_nil, pick, az_eq hle]
        rw [show s.length = (s.map fun c => D.str [c]).length by rw [List.length_map], mapI_all]
        rw [mapL_pure (k := fun x => .bl (match x with
          | .str [c] => decide (c ∈ AZ)
          | _ => false)) (fun x hx => by
          obtain ⟨c, _, rfl⟩ := List.mem_map.mp hx
          rfl)]
        simp only [noexc, bind_ok, all_l, bls_map, Option.map_some, lift, bindX_ok, isW, h1, h2, decide_true, Bool.true_and]
        simp only [List.map_map, List.all_map]
        rfl
      · have h2' : ¬ (s.length : Int) ≤ 8 := by omega
        simp only [h1', h2', decide_true, decide_false, Option.map_some, lift, bind_ok, tr_bl, noexc, bindX_ok, isW, h2, Bool.and_false, Bool.false_and, Bool.not_false, if_true]
    · have h1' : ¬ (1 : Int) ≤ (s.length : Int) := by omega
      simp only [h1', decide_false, Option.map_some, lift, bind_ok, tr_bl, noexc, bindX_ok, isW, h1, Bool.false_and, Bool.not_false, if_true]
  | non => rfl
  | bl b => rfl
  | int b => rfl
  | tup b => rfl
  | lst b => rfl
  | _ => cases hp
end
end Rk

set_option maxHeartbeats 4000000
/-! Rk.T: drawn words and names. -/
namespace Rk
open PySem
theorem sIx_lo (n : Nat) : HT.sIx n 0 none = 0 := rfl
theorem sIx_hi (n : Nat) : HT.sIx n n none = n := rfl
theorem sIx_in {n d : Nat} {a : Int} (h0 : 0 ≤ a) (h1 : a ≤ n) : HT.sIx n d (some a) = a.toNat := by
  unfold HT.sIx
  simp only
  first
    | (rw [if_neg (by omega)]; omega)
    | (split <;> omega)
    | omega
theorem cut_take {α : Type} {l : List α} {a : Int} (h0 : 0 ≤ a) (h1 : a ≤ l.length) : cut l none (some a) = l.take a.toNat := by
  unfold cut
  rw [sIx_lo, sIx_in h0 h1, List.drop_zero, Nat.sub_zero]
theorem cut_drop {α : Type} {l : List α} {a : Int} (h0 : 0 ≤ a) (h1 : a ≤ l.length) : cut l (some a) none = l.drop a.toNat := by
  unfold cut
  rw [sIx_hi, sIx_in h0 h1]
  refine List.take_of_length_le ?_
  rw [List.length_drop]
  omega
theorem joinE : ∀ s : List Nat, TL.joinL [] (s.map fun c => [c]) = s
  | [] => rfl
  | [c] => rfl
  | c :: d :: s => by
    have e := joinE (d :: s)
    show [c] ++ ([] ++ TL.joinL [] ((d :: s).map fun c => [c])) = _
    rw [e]
    rfl
theorem sumE : ∀ s : List Nat, sumN (s.map fun c => [c]) = s.length
  | [] => rfl
  | c :: s => by
    show 1 + sumN (s.map fun c => [c]) = s.length + 1
    rw [sumE s]
    omega
theorem signs {A : List Nat} : ∀ {ys : List D}, (∀ y ∈ ys, ∃ x ∈ A, y = .str [x]) → ∃ s : List Nat, strL ys = some (s.map fun c => [c]) ∧ (∀ c ∈ s, c ∈ A) ∧ s.length = ys.length
  | [], _ => ⟨[], rfl, fun _ z => (nomatch z), rfl⟩
  | y :: ys, H => by
    obtain ⟨x, hx, rfl⟩ := H y List.mem_cons_self
    obtain ⟨s, e1, e2, e3⟩ := signs fun z hz => H z (List.mem_cons_of_mem _ hz)
    refine ⟨x :: s, ?_, fun c hc => ?_, by rw [List.length_cons, List.length_cons, e3]⟩
    · show (strL ys).map ([x] :: ·) = _
      rw [e1]
      rfl
    · rcases List.mem_cons.mp hc with rfl | hc
      · exact hx
      · exact e2 c hc
/-- ''.join of drawn signs -/
theorem join_ok {A : List Nat} {ys : List D} {h : AH} (H : ∀ y ∈ ys, ∃ x ∈ A, y = .str [x]) (hl : ys.length ≤ line) : ∃ s : List Nat, mtop .join (.str []) (.lst ys) h = .ok (.str s) h ∧ (∀ c ∈ s, c ∈ A) ∧ s.length = ys.length := by
  obtain ⟨s, e1, e2, e3⟩ := signs H
  refine ⟨s, ?_, e2, e3⟩
  rw [join_l, e1]
  simp only [sumE, List.length_map, List.length_nil, Nat.mul_zero, Nat.add_zero, joinE]
  rw [if_pos (by rw [e3]; exact hl)]
theorem range_len' (i : Int) : (range 0 i).length = i.toNat := by unfold range; rw [List.length_map, List.length_range, Int.sub_zero]
theorem range_int {i : Int} {x : D} (h : x ∈ range 0 i) : ∃ k : Nat, x = .int k ∧ (k : Int) < i := by
  unfold range at h
  obtain ⟨k, hk, rfl⟩ := List.mem_map.mp h
  rw [List.mem_range] at hk
  exact ⟨k, by rw [Int.zero_add], by omega⟩
theorem cut_to {α : Type} {l : List α} (k : Nat) : cut l none (some (k : Int)) = l.take k := by
  unfold cut
  rw [sIx_lo, List.drop_zero, Nat.sub_zero]
  unfold HT.sIx
  simp only
  rw [if_neg (by omega), Int.toNat_natCast]
  by_cases hk : k ≤ l.length
  · rw [Nat.min_eq_left hk]
  · rw [Nat.min_eq_right (by omega), List.take_length, List.take_of_length_le (by omega)]
theorem hline {k : Nat} (h : k ≤ 1000) : (k ≤ line) = True := eq_true (Nat.le_trans h (by decide))
theorem dsames_bl : ∀ bs : List Bool, dsames (bs.map .bl) (bs.map .bl) = true
  | [] => by unfold dsames; rfl
  | b :: bs => by
    show dsames (.bl b :: bs.map .bl) (.bl b :: bs.map .bl) = true
    unfold dsames dsame
    rw [dsames_bl bs, beq_self_eq_true]
    rfl
theorem wts_bl : ∀ bs : List Bool, wts (bs.map .bl) = some bs.length
  | [] => by unfold wts; rfl
  | b :: bs => by
    show wts (.bl b :: bs.map .bl) = _
    unfold wts wt
    rw [wts_bl bs]
    simp only [List.length_cons, Nat.add_comm]
theorem dpts_bl (k : Nat) : ∀ bs : List Bool, dpts k (bs.map .bl) = true
  | [] => by unfold dpts; rfl
  | b :: bs => by
    show dpts k (.bl b :: bs.map .bl) = true
    unfold dpts
    rw [dpts_bl k bs]
    cases k <;> (unfold dpt; rfl)
theorem same_bls {g : G} {c : Bool} {n i : Nat} {h : AH} (hf : g.fn i = some ⟨2, 2, sameB⟩) (bs : List Bool) (hl : bs.length ≤ 1000) : callN g (n + 1) c i [.lst (bs.map .bl), .lst (bs.map .bl)] h = .ok (.bl true) h := by
  refine same_ok hf (w := bs.length + 1) rfl ?_ ?_ (by omega) ?_
  · unfold dsame; exact dsames_bl bs
  · unfold wt; rw [wts_bl]; rfl
  · unfold dpt; exact dpts_bl _ bs
theorem any_not (f : D → Bool) : ∀ l : List D, (l.map fun x => !f x).any id = !l.all f
  | [] => rfl
  | x :: l => by
    rw [List.map_cons, List.any_cons, List.all_cons, any_not f l]
    cases f x <;> rfl
section
variable {g : G} {n i : Nat} {h : AH} {P : D → AH → Prop} {X : D → AH → Prop}
/-- _law_names -/
theorem wp_names {pk fo le : Nat} (hf : g.fn i = some ⟨2, 7, namesB pk fo le⟩) (hpk : g.fn pk = some ⟨2, 6, pickB⟩) (hfo : g.fn fo = some ⟨2, 2, ofB pk⟩) (hle : g.fn le = some ⟨0, 0, azB⟩) (hd : ∀ k, g.dfl k = []) {r : Nat} {m : Int} (dl : Deal r h) (hm0 : 0 ≤ m) (hm : m ≤ 1000)
    (hP : ∀ rows h', (∀ x ∈ rows, ∃ s, x = .str s ∧ isW x = true ∧ s.length ≤ 7) → rows.length = m.toNat → Deal r h' → But r h h' → P (.lst rows) h') : Wp (callN g (n + 1 + 1 + 1) true i [.ref r, .int m] h) P X := by
  rw [callN_succ, hf]
  simp only [List.length_cons, List.length_nil, namesB, evSs, evS, evE, evEs, evIt, evOp, evIfs, List.map_cons, List.map_nil, List.cons_append, List.nil_append, List.replicate, bind_ok, bindX_ok, ldV_zero, ldV_succ, if_true, fin, hd, List.append_nil, pick, List.getElem?_cons_zero, List.getElem?_cons_succ, Wp_bind, Wp_noexc, Wp_bindX, az_eq hle, List.set_cons_succ, List.set_cons_zero, Wp_ok]
  refine wp_pick hpk dl (by decide) (by decide) fun k h1 k0 k1 dl1 bt1 => ?_
  have hk : -(2 ^ 62) ≤ k ∧ k < 2 ^ 62 := by omega
  simp only [hk, and_self, if_true, Wp_ok, len_fix, range_len']
  rw [if_pos (show k.toNat ≤ line from Nat.le_trans (show k.toNat ≤ 8 by omega) e8)]
  simp only [Wp_bind, Wp_noexc]
  rw [show k.toNat = (range 0 k).length by rw [range_len'], mapI_all]
  refine mapL_inv (I := fun h' => Deal r h' ∧ But r h h') (p := fun y => ∃ x ∈ AZ, y = .str [x]) ⟨dl1, bt1⟩ (fun x hx h2 ⟨dl2, bt2⟩ => ?_) fun ys h2 ⟨dl2, bt2⟩ hys hl => ?_
  · simp only [bind_one, List.set_cons_succ, List.set_cons_zero, Wp_ok, Wp_bind, bind_ok, if_true, ldV_zero, ldV_succ, pick, List.getElem?_cons_zero, List.getElem?_cons_succ]
    refine wp_of_s hpk hfo (hd pk) dl2 (by decide) (by decide) fun y h3 hy dl3 bt3 => ?_
    exact ⟨⟨dl3, bt2.trans bt3⟩, _, rfl, y, hy, rfl⟩
  rw [range_len'] at hl
  obtain ⟨s, es, hs, hsl⟩ := join_ok (h := h2) hys (by rw [hl]; exact Nat.le_trans (show k.toNat ≤ 8 by omega) e8)
  have hsl8 : s.length ≤ 6 := by omega
  have hsl0 : s.length ≤ line := Nat.le_trans hsl8 (Nat.le_trans (by decide) e8)
  simp only [Wp_ok, es, List.set_cons_succ, List.set_cons_zero, ldV_zero, ldV_succ, Wp_bind, Wp_bindX, bind_ok, len_s, hsl0, if_true, add_ii]
  refine wp_pick hpk dl2 (by omega) (by omega) fun at' h3 a0 a1 dl3 bt3 => ?_
  skip
  refine wp_pick hpk dl3 (by decide) (by decide) fun fi h4 f0 f1 dl4 bt4 => ?_
  have hbt : But r h h4 := (bt2.trans bt3).trans bt4
  try simp only [Wp_ok, Wp_bind, bind_ok, List.length_cons, List.length_nil]
  rw [if_pos (show 0 + 1 + 1 ≤ line by decide)]
  simp only [Wp_ok, bindT, List.length_cons, List.length_nil, if_true, Option.map_some, Wp_lift, List.zip_cons_cons, List.zip_nil_left, List.foldl_cons, List.foldl_nil, List.set_cons_succ, List.set_cons_zero, ldV_zero, ldV_succ, Wp_bind, Wp_bindX, bind_ok]
  have hmm : -(2 ^ 62) ≤ m ∧ m < 2 ^ 62 := by omega
  simp only [hmm, and_self, if_true, Wp_ok, len_fix, range_len']
  rw [if_pos (show m.toNat ≤ line from Nat.le_trans (show m.toNat ≤ 1000 by omega) (by decide))]
  simp only [Wp_bind, Wp_noexc]
  rw [show m.toNat = (range 0 m).length by rw [range_len'], mapI_all]
  have c5 : (-(2 ^ 64) < (5 : Int) ∧ (5 : Int) < 2 ^ 64) := by decide
  refine mapL_inv (I := fun h' => h' = h4) (p := fun x => ∃ s, x = .str s ∧ isW x = true ∧ s.length ≤ 7) rfl (fun x hx h5 e5 => ?_) fun ys h5 e5 hys hl5 => ?_
  · subst e5
    obtain ⟨kk, rfl, hkk⟩ := range_int hx
    have z0 := Int.emod_nonneg (fi + 5 * (kk : Int)) (show (26 : Int) ≠ 0 by decide)
    have z1 := Int.emod_lt_of_pos (fi + 5 * (kk : Int)) (show (0 : Int) < 26 by decide)
    obtain ⟨cc, hcc, hmem⟩ : ∃ cc, L2.atI AZ ((fi + 5 * (kk : Int)) % 26) = some cc ∧ cc ∈ AZ := by
      refine ⟨AZ[((fi + 5 * (kk : Int)) % 26).toNat]'(by show _ < 26; omega), ?_, List.getElem_mem _⟩
      unfold L2.atI L2.ixN
      rw [if_pos z0, if_pos (by show _ < ((26 : Nat) : Int); omega), Option.bind_some, List.getElem?_eq_getElem]
    have e1 := cut_take (l := s) a0 (by omega)
    have e2 := cut_drop (l := s) a0 (by omega)
    have l1 : (s.take at'.toNat).length ≤ 6 := by rw [List.length_take]; omega
    have l2 : (s.drop at'.toNat).length ≤ 6 := by rw [List.length_drop]; omega
    have l12 : (s.take at'.toNat).length + (s.drop at'.toNat).length = s.length := by rw [List.length_take, List.length_drop]; omega
    have hmul : binop .Mult (.int 5) (.int (kk : Int)) h5 = .ok (.int (5 * kk)) h5 := by rw [mul_ii, if_pos (.inl c5)]
    have hmod : binop .Mod (.int (fi + 5 * (kk : Int))) (.int 26) h5 = .ok (.int ((fi + 5 * (kk : Int)) % 26)) h5 := rfl
    simp only [bind_one, List.set_cons_succ, List.set_cons_zero, Wp_ok, Wp_bind, bind_ok, if_true, ldV_zero, ldV_succ, sl_s, hsl0, e1, e2, hmul, add_ii, int_i, hmod, ix_si, show AZ.length ≤ line by decide, Wp_lift, hcc, Option.map_some, add_ss, lift]
    rw [if_pos (by simp only [List.length_cons, List.length_nil]; exact Nat.le_trans (show _ ≤ 8 by omega) e8)]
    simp only [Wp_ok, bind_ok, add_ss]
    rw [if_pos (by simp only [List.length_append, List.length_cons, List.length_nil]; exact Nat.le_trans (show _ ≤ 16 by omega) (by decide))]
    simp only [Wp_ok, bind_ok]
    refine ⟨trivial, _, rfl, _, rfl, ?_, ?_⟩
    · unfold isW
      simp only [List.length_append, List.length_cons, List.length_nil, List.all_append, List.all_cons, List.all_nil, Bool.and_true, Bool.and_eq_true, decide_eq_true_eq, List.all_eq_true]
      refine ⟨⟨by omega, by omega⟩, ⟨fun c hc => hs c (List.mem_of_mem_take hc), hmem⟩, fun c hc => hs c (List.mem_of_mem_drop hc)⟩
    · simp only [List.length_append, List.length_cons, List.length_nil]
      omega
  · subst e5
    simp only [Wp_ok]
    rw [range_len'] at hl5
    exact hP _ _ hys hl5 dl4 hbt
end
end Rk

set_option maxHeartbeats 4000000
/-! Rk.U: works of all laws. -/
namespace Rk
open PySem
def workB (ws yr : Nat) : Ss := (.cons (.ifs (.or (.cons (.not (.isi (.var 0) .tuple)) (.cons (.cmp .NotEq (.bi .len (.var 0)) (.cst (.int 3))) .nil))) (.cons (.ret (.cst (.bl false)))
  .nil) .nil)
  (.cons (.ret (.and (.cons (.cal ws (.cons (.idx (.var 0) (.cst (.int 0))) .nil) .nil [0]) (.cons (.cal yr (.cons (.idx (.var 0) (.cst (.int 1))) .nil) .nil [0]) (.cons (.cal ws (.cons (.idx (.var 0) (.cst (.int 2))) .nil) .nil [0]) .nil)))))
  .nil))
def poolB (pk fo : Nat) : Ss := (.cons (.asg 1 (.mt .join (.cst (.str [])) (.cmpr (.cal fo (.cons (.var 0) (.cons (.cst (.str [97, 98, 121, 122])) .nil)) .nil [0, 1]) [3] (.rng (.cal pk (.cons (.var 0) (.cons (.cst (.int 6)) .nil)) .nil [0, 1])) .nil)))
  (.cons (.asg 2 (.lst (.cons (.cst (.str [97])) (.cons (.cst (.str [98])) (.cons (.cst (.str [97, 98])) (.cons (.cst (.str [98, 97])) (.cons (.cst (.str [122])) .nil)))))))
  (.cons (.ret (.bin .Add (.cmpr (.bin .Add (.var 1) (.var 4)) [4] (.seq (.var 2)) .nil) (.lst (.cons (.cal fo (.cons (.var 0) (.cons (.lst (.cons (.cst (.str [97])) (.cons (.cst (.str [98])) (.cons (.cst (.str [97, 98, 99, 100, 101, 102, 103, 104])) (.cons (.cst (.str [97, 98])) .nil))))) .nil)) .nil [0, 1]) .nil))))
  .nil)))
def someB (pk fo : Nat) : Ss := (.cons (.ret (.bi .tuple (.cmpr (.cal fo (.cons (.var 0) (.cons (.var 1) .nil)) .nil [0, 1]) [2] (.rng (.bin .Add (.cst (.int 1)) (.cal pk (.cons (.var 0) (.cons (.cal fo (.cons (.var 0) (.cons (.lst (.cons (.cst (.int 1)) (.cons (.cst (.int 2)) (.cons (.cst (.int 4)) .nil)))) .nil)) .nil [0, 1]) .nil)) .nil [0, 1]))) .nil)))
  .nil)
def lyearB (pk fo : Nat) : Ss := (.cons (.ret (.cal fo (.cons (.var 0) (.cons (.lst (.cons (.cst (.int 0)) (.cons (.cst (.int 7)) (.cons (.cst (.int 99)) (.cons (.cst (.int 100)) (.cons (.cst (.int 199)) (.cons (.cst (.int 1999)) (.cons (.cst (.int 2099)) (.cons (.cst (.int 9999)) (.cons (.cal pk (.cons (.var 0) (.cons (.cst (.int 10000)) .nil)) .nil [0, 1]) .nil)))))))))) .nil)) .nil [0, 1]))
  .nil)
def lworkB (sw yr : Nat) : Ss := (.cons (.ret (.tup (.cons (.cal sw (.cons (.var 0) (.cons (.var 1) .nil)) .nil [0, 1]) (.cons (.cal yr (.cons (.var 0) .nil) .nil [0]) (.cons (.cal sw (.cons (.var 0) (.cons (.var 1) .nil)) .nil [0, 1]) .nil)))))
  .nil)
def isWs : D → Bool
  | .tup l => decide (1 ≤ l.length) && decide (l.length ≤ 4) && l.all isW
  | _ => false
def isWk : D → Bool
  | .tup [a, b, c] => isWs a && isN' 0 9999 b && isWs c
  | _ => false
/-- plain to a depth -/
def pl : Nat → D → Bool
  | 0, d => plain d
  | k + 1, d => plain d && (match d with
    | .tup l => l.all (pl k)
    | _ => true)
theorem pl_plain {k : Nat} {d : D} (h : pl k d = true) : plain d = true := by
  cases k with
  | zero => exact h
  | succ k => unfold pl at h; rw [Bool.and_eq_true] at h; exact h.1
theorem pl_in {k : Nat} {l : List D} (h : pl (k + 1) (.tup l) = true) : ∀ x ∈ l, pl k x = true := by
  unfold pl at h
  rw [Bool.and_eq_true] at h
  exact List.all_eq_true.mp h.2
theorem words_eq' {g : G} {n i : Nat} {h : AH} {w gl : Nat} (hf : g.fn i = some ⟨1, 2, wordsB w⟩) (hw : g.fn w = some ⟨1, 2, wordB gl⟩) (hd : g.dfl w = []) (hg : g.glb gl = .str AZ) {d : D} (hp : pl 1 d = true) : callN g (n + 1 + 1) true i [d] h = .ok (.bl (isWs d)) h := by
  rw [words_eq hf hw hd hg (pl_plain hp) (fun l e x hx => by subst e; exact pl_plain (pl_in hp x hx))]
  cases d <;> rfl
section
variable {g : G} {n i : Nat} {h : AH} {P : D → AH → Prop} {X : D → AH → Prop}
theorem ne_ii {a b : Int} : cmpop .NotEq (.int a) (.int b) = some (!(a == b)) := by
  show (if dpt 60 (.int a) && dpt 60 (.int b) then some (!deq (.int a) (.int b)) else none) = _
  rw [deq_int]
  rfl
theorem work_eq {ws yr w nu gl : Nat} (hf : g.fn i = some ⟨1, 1, workB ws yr⟩) (hws : g.fn ws = some ⟨1, 2, wordsB w⟩) (hw : g.fn w = some ⟨1, 2, wordB gl⟩) (hyr : g.fn yr = some ⟨1, 1, yearB nu⟩) (hnu : g.fn nu = some ⟨3, 3, numB⟩) (hd : ∀ k, g.dfl k = []) (hg : g.glb gl = .str AZ) {d : D} (hp : pl 2 d = true) :
    callN g (n + 1 + 1 + 1) true i [d] h = .ok (.bl (isWk d)) h := by
  have hpl := pl_plain hp
  rw [callN_succ, hf]
  simp only [List.length_cons, List.length_nil, workB, evSs, evS, evT, evE, evEs, evOr, evAnd, List.map_cons, List.map_nil, List.cons_append, List.nil_append, List.replicate, bind_ok, bindX_ok, ldV_zero, ldV_succ, if_true, fin, hd, List.append_nil, pick, List.getElem?_cons_zero]
  cases d with
  | tup l =>
    simp only [isk, Option.map_some, lift, bind_ok, tr_bl, Bool.not_true, len_t, ne_ii]
    by_cases hl : l.length = 3
    · obtain ⟨a, b, c, rfl⟩ : ∃ a b c, l = [a, b, c] := by
        match l, hl with
        | [a, b, c], _ => exact ⟨a, b, c, rfl⟩
      have e : ((([a, b, c] : List D).length : Int) == 3) = true := rfl
      have pa := pl_in hp a (by simp)
      have pb := pl_in hp b (by simp)
      have pc := pl_in hp c (by simp)
      have i0 : L2.atI [a, b, c] 0 = some a := rfl
      have i1 : L2.atI [a, b, c] 1 = some b := rfl
      have i2 : L2.atI [a, b, c] 2 = some c := rfl
      simp only [e, Bool.not_true, bind_ok, bindX_ok, tr_bl, Bool.false_eq_true, if_false, ldV_zero, ix_ti, lift, i0, i1, i2, List.getElem?_cons_zero, words_eq' hws hw (hd w) hg pa, words_eq' hws hw (hd w) hg pc, year_eq hyr hnu (hd nu) (pl_plain pb)]
      rw [show isWk (.tup [a, b, c]) = (isWs a && isN' 0 9999 b && isWs c) from rfl]
      cases isWs a with
      | false => rfl
      | true =>
        cases isN' 0 9999 b with
        | false => rfl
        | true => rfl
    · have e : ((l.length : Int) == 3) = false := by
        rw [beq_eq_false_iff_ne]
        omega
      have ew : isWk (.tup l) = false := by
        unfold isWk
        split
        · rename_i a b c e2
          cases e2
          exact absurd rfl hl
        · rfl
      simp only [e, Bool.not_false, bind_ok, bindX_ok, tr_bl, if_true, noexc, ew]
  | non => rfl
  | bl b => rfl
  | int b => rfl
  | str b => rfl
  | lst b => rfl
  | _ => cases hpl
/-- a word, as a value -/
def Wd1 (x : D) : Prop := ∃ s, x = .str s ∧ isW x = true ∧ s.length ≤ 8
theorem Wd1.pl {x : D} (h : Wd1 x) (k : Nat) : pl k x = true := by
  obtain ⟨s, rfl, _, h2⟩ := h
  have : plain (.str s) = true := decide_eq_true (Nat.le_trans h2 e8)
  cases k with
  | zero => exact this
  | succ k => unfold Rk.pl; rw [this]; rfl
theorem isW_of {s : List Nat} (h1 : 1 ≤ s.length) (h2 : s.length ≤ 8) (h3 : ∀ c ∈ s, c ∈ AZ) : Wd1 (.str s) := by
  refine ⟨s, rfl, ?_, h2⟩
  show (decide (1 ≤ s.length) && decide (s.length ≤ 8) && s.all fun c => decide (c ∈ AZ)) = true
  rw [decide_eq_true h1, decide_eq_true h2, List.all_eq_true.mpr fun c hc => decide_eq_true (h3 c hc)]
  rfl
/-- _law_pool -/
theorem wp_pool {pk fo : Nat} (hf : g.fn i = some ⟨1, 5, poolB pk fo⟩) (hpk : g.fn pk = some ⟨2, 6, pickB⟩) (hfo : g.fn fo = some ⟨2, 2, ofB pk⟩) (hd : ∀ k, g.dfl k = []) {r : Nat} (dl : Deal r h)
    (hP : ∀ l h', (∀ x ∈ l, Wd1 x) → l.length = 6 → Deal r h' → But r h h' → P (.lst l) h') : Wp (callN g (n + 1 + 1 + 1) true i [.ref r] h) P X := by
  rw [callN_succ, hf]
  simp only [poolB, evSs, evS, evT, evE, evEs, evIt, evOp, evIfs, hd, bind_one, List.set_cons_succ, List.set_cons_zero, Wp_ok, Wp_bind, Wp_bindX, Wp_noexc, bind_ok, bindX_ok, ldV_zero, ldV_succ, pick, List.getElem?_cons_zero, List.getElem?_cons_succ, if_true, len_fix, range_len', add_ii, sub_ii, List.length_cons, List.length_nil, len_l, len_t, Wp_lift, lift, Option.map_some, src_l, src_t, tr_bl, sl_l, sl_t, List.append_nil, Nat.reduceAdd, Nat.reduceLeDiff, hline, tuple_l, list_t, List.cons_append, List.nil_append, Bool.not_true, Bool.not_false, Bool.false_eq_true, if_false, any_l, fin, List.map_cons, List.map_nil, List.replicate]
  refine wp_pick hpk dl (by decide) (by decide) fun k h1 k0 k1 dl1 bt1 => ?_
  have hk : -(2 ^ 62) ≤ k ∧ k < 2 ^ 62 := by omega
  simp only [hk, and_self, bind_one, List.set_cons_succ, List.set_cons_zero, Wp_ok, Wp_bind, Wp_bindX, Wp_noexc, bind_ok, bindX_ok, ldV_zero, ldV_succ, pick, List.getElem?_cons_zero, List.getElem?_cons_succ, if_true, len_fix, range_len', add_ii, sub_ii, List.length_cons, List.length_nil, len_l, len_t, Wp_lift, lift, Option.map_some, src_l, src_t, tr_bl, sl_l, sl_t, List.append_nil, Nat.reduceAdd, Nat.reduceLeDiff, hline, tuple_l, list_t, List.cons_append, List.nil_append, Bool.not_true, Bool.not_false, Bool.false_eq_true, if_false, any_l]
  rw [if_pos (show k.toNat ≤ line from Nat.le_trans (show k.toNat ≤ 8 by omega) e8)]
  rw [show k.toNat = (range 0 k).length by rw [range_len'], mapI_all]
  simp only [Wp_bind, Wp_noexc]
  have az4 : ∀ c ∈ ([97, 98, 121, 122] : List Nat), c ∈ AZ := by decide
  refine mapL_inv (I := fun h' => Deal r h' ∧ But r h h') (p := fun y => ∃ x ∈ AZ, y = .str [x]) ⟨dl1, bt1⟩ (fun x hx h2 ⟨dl2, bt2⟩ => ?_) fun ys h2 ⟨dl2, bt2⟩ hys hl => ?_
  · simp only [bind_one, List.set_cons_succ, List.set_cons_zero, Wp_ok, Wp_bind, Wp_bindX, Wp_noexc, bind_ok, bindX_ok, ldV_zero, ldV_succ, pick, List.getElem?_cons_zero, List.getElem?_cons_succ, if_true, len_fix, range_len', add_ii, sub_ii, List.length_cons, List.length_nil, len_l, len_t, Wp_lift, lift, Option.map_some, src_l, src_t, tr_bl, sl_l, sl_t, List.append_nil, Nat.reduceAdd, Nat.reduceLeDiff, hline, tuple_l, list_t, List.cons_append, List.nil_append, Bool.not_true, Bool.not_false, Bool.false_eq_true, if_false, any_l]
    refine wp_of_s hpk hfo (hd pk) dl2 (by decide) (by decide) fun y h3 hy dl3 bt3 => ?_
    exact ⟨⟨dl3, bt2.trans bt3⟩, _, rfl, y, az4 y hy, rfl⟩
  rw [range_len'] at hl
  obtain ⟨s, es, hs, hsl⟩ := join_ok (h := h2) hys (by rw [hl]; exact Nat.le_trans (show k.toNat ≤ 8 by omega) e8)
  have sl5 : s.length ≤ 5 := by omega
  simp only [es, mapI_all, bind_one, List.set_cons_succ, List.set_cons_zero, Wp_ok, Wp_bind, Wp_bindX, Wp_noexc, bind_ok, bindX_ok, ldV_zero, ldV_succ, pick, List.getElem?_cons_zero, List.getElem?_cons_succ, if_true, len_fix, range_len', add_ii, sub_ii, List.length_cons, List.length_nil, len_l, len_t, Wp_lift, lift, Option.map_some, src_l, src_t, tr_bl, sl_l, sl_t, List.append_nil, Nat.reduceAdd, Nat.reduceLeDiff, hline, tuple_l, list_t, List.cons_append, List.nil_append, Bool.not_true, Bool.not_false, Bool.false_eq_true, if_false, any_l]
  have l64 : (64 : Nat) ≤ line := by decide
  rw [mapI_n (k := 6) (l := [.str [97], .str [98], .str [97, 98], .str [98, 97], .str [122]]) rfl, mapL_pure (k := fun x => match x with
    | .str t => .str (s ++ t)
    | x => x) (fun x hx => by
      simp only [List.mem_cons, List.not_mem_nil, or_false] at hx
      rcases hx with rfl | rfl | rfl | rfl | rfl <;>
        (simp only [add_ss, List.length_cons, List.length_nil, bind_ok]
         rw [if_pos (by omega)]
         rfl))]
  simp only [List.map_cons, List.map_nil, bind_one, List.set_cons_succ, List.set_cons_zero, Wp_ok, Wp_bind, Wp_bindX, Wp_noexc, bind_ok, bindX_ok, ldV_zero, ldV_succ, pick, List.getElem?_cons_zero, List.getElem?_cons_succ, if_true, len_fix, range_len', add_ii, sub_ii, List.length_cons, List.length_nil, len_l, len_t, Wp_lift, lift, Option.map_some, src_l, src_t, tr_bl, sl_l, sl_t, List.append_nil, Nat.reduceAdd, Nat.reduceLeDiff, hline, tuple_l, list_t, List.cons_append, List.nil_append, Bool.not_true, Bool.not_false, Bool.false_eq_true, if_false, any_l]
  refine wp_of_l hpk hfo (hd pk) dl2 (by simp) (by simp) fun y h3 hy dl3 bt3 => ?_
  simp only [add_ll, bind_one, List.set_cons_succ, List.set_cons_zero, Wp_ok, Wp_bind, Wp_bindX, Wp_noexc, bind_ok, bindX_ok, ldV_zero, ldV_succ, pick, List.getElem?_cons_zero, List.getElem?_cons_succ, if_true, len_fix, range_len', add_ii, sub_ii, List.length_cons, List.length_nil, len_l, len_t, Wp_lift, lift, Option.map_some, src_l, src_t, tr_bl, sl_l, sl_t, List.append_nil, Nat.reduceAdd, Nat.reduceLeDiff, hline, tuple_l, list_t, List.cons_append, List.nil_append, Bool.not_true, Bool.not_false, Bool.false_eq_true, if_false, any_l]
  refine hP _ _ (fun x hx => ?_) rfl dl3 (bt2.trans bt3)
  have sfx : ∀ t : List Nat, 1 ≤ t.length → t.length ≤ 3 → (∀ c ∈ t, c ∈ AZ) → Wd1 (.str (s ++ t)) := fun t t1 t2 t3 => by
    refine isW_of (by rw [List.length_append]; omega) (by rw [List.length_append]; omega) fun c hc => ?_
    rcases List.mem_append.mp hc with hc | hc
    · exact hs c hc
    · exact t3 c hc
  simp only [List.mem_cons, List.not_mem_nil, or_false] at hx
  rcases hx with rfl | rfl | rfl | rfl | rfl | rfl
  · exact sfx _ (by decide) (by decide) (by decide)
  · exact sfx _ (by decide) (by decide) (by decide)
  · exact sfx _ (by decide) (by decide) (by decide)
  · exact sfx _ (by decide) (by decide) (by decide)
  · exact sfx _ (by decide) (by decide) (by decide)
  · simp only [List.mem_cons, List.not_mem_nil, or_false] at hy
    rcases hy with rfl | rfl | rfl | rfl <;> exact isW_of (by decide) (by decide) (by decide)
/-- words of a work -/
def Ws1 (x : D) : Prop := ∃ l, x = .tup l ∧ 1 ≤ l.length ∧ l.length ≤ 4 ∧ ∀ y ∈ l, Wd1 y
theorem wp_some {pk fo : Nat} (hf : g.fn i = some ⟨2, 3, someB pk fo⟩) (hpk : g.fn pk = some ⟨2, 6, pickB⟩) (hfo : g.fn fo = some ⟨2, 2, ofB pk⟩) (hd : ∀ k, g.dfl k = []) {r : Nat} {l : List D} (dl : Deal r h) (hl : ∀ x ∈ l, Wd1 x) (hl0 : l ≠ []) (hl1 : l.length ≤ 1000)
    (hP : ∀ m h', 1 ≤ m.length → m.length ≤ 4 → (∀ x ∈ m, x ∈ l) → Deal r h' → But r h h' → P (.tup m) h') : Wp (callN g (n + 1 + 1 + 1) true i [.ref r, .lst l] h) P X := by
  rw [callN_succ, hf]
  simp only [someB, evSs, evS, evT, evE, evEs, evIt, evOp, evIfs, hd, bind_one, List.set_cons_succ, List.set_cons_zero, Wp_ok, Wp_bind, Wp_bindX, Wp_noexc, bind_ok, bindX_ok, ldV_zero, ldV_succ, pick, List.getElem?_cons_zero, List.getElem?_cons_succ, if_true, len_fix, range_len', add_ii, sub_ii, List.length_cons, List.length_nil, len_l, len_t, Wp_lift, lift, Option.map_some, src_l, src_t, tr_bl, sl_l, sl_t, List.append_nil, Nat.reduceAdd, Nat.reduceLeDiff, hline, tuple_l, list_t, List.cons_append, List.nil_append, Bool.not_true, Bool.not_false, Bool.false_eq_true, if_false, any_l, fin, List.map_cons, List.map_nil, List.replicate]
  refine wp_of_l hpk hfo (hd pk) dl (by simp) (by simp) fun y h1 hy dl1 bt1 => ?_
  obtain ⟨m, rfl, m0, m1⟩ : ∃ m : Int, y = .int m ∧ 0 < m ∧ m ≤ 4 := by
    simp only [List.mem_cons, List.not_mem_nil, or_false] at hy
    rcases hy with rfl | rfl | rfl <;> exact ⟨_, rfl, by decide, by decide⟩
  try simp only [bind_one, List.set_cons_succ, List.set_cons_zero, Wp_ok, Wp_bind, Wp_bindX, Wp_noexc, bind_ok, bindX_ok, ldV_zero, ldV_succ, pick, List.getElem?_cons_zero, List.getElem?_cons_succ, if_true, len_fix, range_len', add_ii, sub_ii, List.length_cons, List.length_nil, len_l, len_t, Wp_lift, lift, Option.map_some, src_l, src_t, tr_bl, sl_l, sl_t, List.append_nil, Nat.reduceAdd, Nat.reduceLeDiff, hline, tuple_l, list_t, List.cons_append, List.nil_append, Bool.not_true, Bool.not_false, Bool.false_eq_true, if_false, any_l]
  refine wp_pick hpk dl1 m0 (by omega) fun k h2 k0 k1 dl2 bt2 => ?_
  have hk : -(2 ^ 62) ≤ 1 + k ∧ 1 + k < 2 ^ 62 := by omega
  simp only [hk, and_self, bind_one, List.set_cons_succ, List.set_cons_zero, Wp_ok, Wp_bind, Wp_bindX, Wp_noexc, bind_ok, bindX_ok, ldV_zero, ldV_succ, pick, List.getElem?_cons_zero, List.getElem?_cons_succ, if_true, len_fix, range_len', add_ii, sub_ii, List.length_cons, List.length_nil, len_l, len_t, Wp_lift, lift, Option.map_some, src_l, src_t, tr_bl, sl_l, sl_t, List.append_nil, Nat.reduceAdd, Nat.reduceLeDiff, hline, tuple_l, list_t, List.cons_append, List.nil_append, Bool.not_true, Bool.not_false, Bool.false_eq_true, if_false, any_l]
  rw [if_pos (show (1 + k).toNat ≤ line from Nat.le_trans (show (1 + k).toNat ≤ 8 by omega) e8)]
  rw [show (1 + k).toNat = (range 0 (1 + k)).length by rw [range_len'], mapI_all]
  simp only [Wp_bind, Wp_noexc]
  refine mapL_inv (I := fun h' => Deal r h' ∧ But r h h') (p := fun y => y ∈ l) ⟨dl2, bt1.trans bt2⟩ (fun x hx h3 ⟨dl3, bt3⟩ => ?_) fun ys h3 ⟨dl3, bt3⟩ hys hln => ?_
  · simp only [bind_one, List.set_cons_succ, List.set_cons_zero, Wp_ok, Wp_bind, Wp_bindX, Wp_noexc, bind_ok, bindX_ok, ldV_zero, ldV_succ, pick, List.getElem?_cons_zero, List.getElem?_cons_succ, if_true, len_fix, range_len', add_ii, sub_ii, List.length_cons, List.length_nil, len_l, len_t, Wp_lift, lift, Option.map_some, src_l, src_t, tr_bl, sl_l, sl_t, List.append_nil, Nat.reduceAdd, Nat.reduceLeDiff, hline, tuple_l, list_t, List.cons_append, List.nil_append, Bool.not_true, Bool.not_false, Bool.false_eq_true, if_false, any_l]
    refine wp_of_l hpk hfo (hd pk) dl3 hl0 (by omega) fun y h4 hy dl4 bt4 => ?_
    exact ⟨⟨dl4, bt3.trans bt4⟩, _, rfl, hy⟩
  rw [range_len'] at hln
  try simp only [bind_one, List.set_cons_succ, List.set_cons_zero, Wp_ok, Wp_bind, Wp_bindX, Wp_noexc, bind_ok, bindX_ok, ldV_zero, ldV_succ, pick, List.getElem?_cons_zero, List.getElem?_cons_succ, if_true, len_fix, range_len', add_ii, sub_ii, List.length_cons, List.length_nil, len_l, len_t, Wp_lift, lift, Option.map_some, src_l, src_t, tr_bl, sl_l, sl_t, List.append_nil, Nat.reduceAdd, Nat.reduceLeDiff, hline, tuple_l, list_t, List.cons_append, List.nil_append, Bool.not_true, Bool.not_false, Bool.false_eq_true, if_false, any_l]
  exact hP _ _ (by omega) (by omega) hys dl3 bt3
theorem wp_lyear {pk fo : Nat} (hf : g.fn i = some ⟨1, 1, lyearB pk fo⟩) (hpk : g.fn pk = some ⟨2, 6, pickB⟩) (hfo : g.fn fo = some ⟨2, 2, ofB pk⟩) (hd : ∀ k, g.dfl k = []) {r : Nat} (dl : Deal r h)
    (hP : ∀ (y : Int) h', 0 ≤ y → y ≤ 9999 → Deal r h' → But r h h' → P (.int y) h') : Wp (callN g (n + 1 + 1 + 1) true i [.ref r] h) P X := by
  rw [callN_succ, hf]
  simp only [lyearB, evSs, evS, evT, evE, evEs, evIt, evOp, evIfs, hd, bind_one, List.set_cons_succ, List.set_cons_zero, Wp_ok, Wp_bind, Wp_bindX, Wp_noexc, bind_ok, bindX_ok, ldV_zero, ldV_succ, pick, List.getElem?_cons_zero, List.getElem?_cons_succ, if_true, len_fix, range_len', add_ii, sub_ii, List.length_cons, List.length_nil, len_l, len_t, Wp_lift, lift, Option.map_some, src_l, src_t, tr_bl, sl_l, sl_t, List.append_nil, Nat.reduceAdd, Nat.reduceLeDiff, hline, tuple_l, list_t, List.cons_append, List.nil_append, Bool.not_true, Bool.not_false, Bool.false_eq_true, if_false, any_l, fin, List.map_cons, List.map_nil, List.replicate]
  refine wp_pick hpk dl (by decide) (by decide) fun k h1 k0 k1 dl1 bt1 => ?_
  try simp only [bind_one, List.set_cons_succ, List.set_cons_zero, Wp_ok, Wp_bind, Wp_bindX, Wp_noexc, bind_ok, bindX_ok, ldV_zero, ldV_succ, pick, List.getElem?_cons_zero, List.getElem?_cons_succ, if_true, len_fix, range_len', add_ii, sub_ii, List.length_cons, List.length_nil, len_l, len_t, Wp_lift, lift, Option.map_some, src_l, src_t, tr_bl, sl_l, sl_t, List.append_nil, Nat.reduceAdd, Nat.reduceLeDiff, hline, tuple_l, list_t, List.cons_append, List.nil_append, Bool.not_true, Bool.not_false, Bool.false_eq_true, if_false, any_l]
  refine wp_of_l hpk hfo (hd pk) dl1 (by simp) (by simp) fun y h2 hy dl2 bt2 => ?_
  obtain ⟨m, rfl, m0, m1⟩ : ∃ m : Int, y = .int m ∧ 0 ≤ m ∧ m ≤ 9999 := by
    simp only [List.mem_cons, List.not_mem_nil, or_false] at hy
    rcases hy with rfl | rfl | rfl | rfl | rfl | rfl | rfl | rfl | rfl
    all_goals first
      | exact ⟨_, rfl, by decide, by decide⟩
      | exact ⟨_, rfl, by omega, by omega⟩
  try simp only [bind_one, List.set_cons_succ, List.set_cons_zero, Wp_ok, Wp_bind, Wp_bindX, Wp_noexc, bind_ok, bindX_ok, ldV_zero, ldV_succ, pick, List.getElem?_cons_zero, List.getElem?_cons_succ, if_true, len_fix, range_len', add_ii, sub_ii, List.length_cons, List.length_nil, len_l, len_t, Wp_lift, lift, Option.map_some, src_l, src_t, tr_bl, sl_l, sl_t, List.append_nil, Nat.reduceAdd, Nat.reduceLeDiff, hline, tuple_l, list_t, List.cons_append, List.nil_append, Bool.not_true, Bool.not_false, Bool.false_eq_true, if_false, any_l]
  exact hP _ _ m0 m1 dl2 (bt1.trans bt2)
/-- a work, as a value -/
def Wk1 (x : D) : Prop := ∃ a y b, x = .tup [a, .int y, b] ∧ Ws1 a ∧ Ws1 b ∧ 0 ≤ y ∧ y ≤ 9999
theorem wp_lwork {pk fo sw yr : Nat} (hf : g.fn i = some ⟨2, 2, lworkB sw yr⟩) (hsw : g.fn sw = some ⟨2, 3, someB pk fo⟩) (hyr : g.fn yr = some ⟨1, 1, lyearB pk fo⟩) (hpk : g.fn pk = some ⟨2, 6, pickB⟩) (hfo : g.fn fo = some ⟨2, 2, ofB pk⟩) (hd : ∀ k, g.dfl k = []) {r : Nat} {l : List D} (dl : Deal r h) (hl : ∀ x ∈ l, Wd1 x) (hl0 : l ≠ []) (hl1 : l.length ≤ 1000)
    (hP : ∀ x h', Wk1 x → Deal r h' → But r h h' → P x h') : Wp (callN g (n + 1 + 1 + 1 + 1) true i [.ref r, .lst l] h) P X := by
  rw [callN_succ, hf]
  simp only [lworkB, evSs, evS, evT, evE, evEs, evIt, evOp, evIfs, hd, bind_one, List.set_cons_succ, List.set_cons_zero, Wp_ok, Wp_bind, Wp_bindX, Wp_noexc, bind_ok, bindX_ok, ldV_zero, ldV_succ, pick, List.getElem?_cons_zero, List.getElem?_cons_succ, if_true, len_fix, range_len', add_ii, sub_ii, List.length_cons, List.length_nil, len_l, len_t, Wp_lift, lift, Option.map_some, src_l, src_t, tr_bl, sl_l, sl_t, List.append_nil, Nat.reduceAdd, Nat.reduceLeDiff, hline, tuple_l, list_t, List.cons_append, List.nil_append, Bool.not_true, Bool.not_false, Bool.false_eq_true, if_false, any_l, fin, List.map_cons, List.map_nil, List.replicate]
  refine wp_some hsw hpk hfo hd dl hl hl0 hl1 fun a h1 a0 a1 a2 dl1 bt1 => ?_
  try simp only [bind_one, List.set_cons_succ, List.set_cons_zero, Wp_ok, Wp_bind, Wp_bindX, Wp_noexc, bind_ok, bindX_ok, ldV_zero, ldV_succ, pick, List.getElem?_cons_zero, List.getElem?_cons_succ, if_true, len_fix, range_len', add_ii, sub_ii, List.length_cons, List.length_nil, len_l, len_t, Wp_lift, lift, Option.map_some, src_l, src_t, tr_bl, sl_l, sl_t, List.append_nil, Nat.reduceAdd, Nat.reduceLeDiff, hline, tuple_l, list_t, List.cons_append, List.nil_append, Bool.not_true, Bool.not_false, Bool.false_eq_true, if_false, any_l]
  refine wp_lyear hyr hpk hfo hd dl1 fun y h2 y0 y1 dl2 bt2 => ?_
  try simp only [bind_one, List.set_cons_succ, List.set_cons_zero, Wp_ok, Wp_bind, Wp_bindX, Wp_noexc, bind_ok, bindX_ok, ldV_zero, ldV_succ, pick, List.getElem?_cons_zero, List.getElem?_cons_succ, if_true, len_fix, range_len', add_ii, sub_ii, List.length_cons, List.length_nil, len_l, len_t, Wp_lift, lift, Option.map_some, src_l, src_t, tr_bl, sl_l, sl_t, List.append_nil, Nat.reduceAdd, Nat.reduceLeDiff, hline, tuple_l, list_t, List.cons_append, List.nil_append, Bool.not_true, Bool.not_false, Bool.false_eq_true, if_false, any_l]
  refine wp_some hsw hpk hfo hd dl2 hl hl0 hl1 fun b h3 b0 b1 b2 dl3 bt3 => ?_
  try simp only [bind_one, List.set_cons_succ, List.set_cons_zero, Wp_ok, Wp_bind, Wp_bindX, Wp_noexc, bind_ok, bindX_ok, ldV_zero, ldV_succ, pick, List.getElem?_cons_zero, List.getElem?_cons_succ, if_true, len_fix, range_len', add_ii, sub_ii, List.length_cons, List.length_nil, len_l, len_t, Wp_lift, lift, Option.map_some, src_l, src_t, tr_bl, sl_l, sl_t, List.append_nil, Nat.reduceAdd, Nat.reduceLeDiff, hline, tuple_l, list_t, List.cons_append, List.nil_append, Bool.not_true, Bool.not_false, Bool.false_eq_true, if_false, any_l]
  exact hP _ _ ⟨_, _, _, rfl, ⟨a, rfl, a0, a1, fun x hx => hl x (a2 x hx)⟩, ⟨b, rfl, b0, b1, fun x hx => hl x (b2 x hx)⟩, y0, y1⟩ dl3 ((bt1.trans bt2).trans bt3)
end
end Rk

set_option maxHeartbeats 0
/-! the program of law k03, printed by gen.py -/
namespace K03
open PySem PySem.Spec PyProof.Rows L2 Rk
def top (i : Nat) : Stmt := PySem.Challenge.pw_rivalkeys_k03_works_told_from_other_valu.main.body.getD i (.Pass ⟨0, 0, 0, 0⟩)
/-- is_number -/
def b0 : Ss := (.cons (.ret (.and (.cons (.isi (.var 0) .int) (.cons (.not (.isi (.var 0) .bool)) (.cons (.cmp2 .LtE .LtE (.var 1) (.var 0) (.var 2)) .nil)))))
  .nil)
def d0 : DE := ⟨⟨("is_number", none), "is_number", "is_number", defArgs (top 2), defBody (top 2), defScope (top 2), [], []⟩, ["value", "least", "most"], ["value", "least", "most"], ⟨3, 3, b0⟩⟩
/-- is_word -/
def b1 : Ss := (.cons (.ret (.and (.cons (.isi (.var 0) .str) (.cons (.cmp2 .LtE .LtE (.cst (.int 1)) (.bi .len (.var 0)) (.cst (.int 8))) (.cons (.bi .all (.cmpr (.cmp .In (.var 1) (.glb 0)) [1] (.seq (.var 0)) .nil)) .nil)))))
  .nil)
def d1 : DE := ⟨⟨("is_word", none), "is_word", "is_word", defArgs (top 3), defBody (top 3), defScope (top 3), [], []⟩, ["value", "sign"], ["value"], ⟨1, 2, b1⟩⟩
/-- is_words -/
def b2 : Ss := (.cons (.ret (.and (.cons (.isi (.var 0) .tuple) (.cons (.cmp2 .LtE .LtE (.cst (.int 1)) (.bi .len (.var 0)) (.cst (.int 4))) (.cons (.bi .all (.cmpr (.cal 1 (.cons (.var 1) .nil) .nil [0]) [1] (.seq (.var 0)) .nil)) .nil)))))
  .nil)
def d2 : DE := ⟨⟨("is_words", none), "is_words", "is_words", defArgs (top 4), defBody (top 4), defScope (top 4), [], []⟩, ["value", "word"], ["value"], ⟨1, 2, b2⟩⟩
/-- is_year -/
def b3 : Ss := (.cons (.ret (.cal 0 (.cons (.var 0) (.cons (.cst (.int 0)) (.cons (.cst (.int 9999)) .nil))) .nil [0, 1, 2]))
  .nil)
def d3 : DE := ⟨⟨("is_year", none), "is_year", "is_year", defArgs (top 5), defBody (top 5), defScope (top 5), [], []⟩, ["value"], ["value"], ⟨1, 1, b3⟩⟩
/-- is_work -/
def b4 : Ss := (.cons (.ifs (.or (.cons (.not (.isi (.var 0) .tuple)) (.cons (.cmp .NotEq (.bi .len (.var 0)) (.cst (.int 3))) .nil))) (.cons (.ret (.cst (.bl false)))
  .nil) .nil)
  (.cons (.ret (.and (.cons (.cal 2 (.cons (.idx (.var 0) (.cst (.int 0))) .nil) .nil [0]) (.cons (.cal 3 (.cons (.idx (.var 0) (.cst (.int 1))) .nil) .nil [0]) (.cons (.cal 2 (.cons (.idx (.var 0) (.cst (.int 2))) .nil) .nil [0]) .nil)))))
  .nil))
def d4 : DE := ⟨⟨("is_work", none), "is_work", "is_work", defArgs (top 6), defBody (top 6), defScope (top 6), [], []⟩, ["value"], ["value"], ⟨1, 1, b4⟩⟩
/-- _law_deal -/
def b5 : Ss := (.cons (.asg 1 (.cmpr (.bi .int (.var 3)) [3] (.seq (.slc (.var 0) .no (.so (.cst (.int 63))))) .nil))
  (.cons (.asg 2 (.bin .Add (.cst (.int 10028)) (.bin .Mult (.cst (.int 89)) (.bi .len (.var 1)))))
  (.cons (.for [3] (.seq (.var 1)) (.cons (.asg 2 (.bin .Mod (.bi .int (.bin .Add (.bin .Mult (.var 2) (.cst (.int 7919))) (.var 3))) (.cst (.int 2147483497))))
  .nil))
  (.cons (.ret (.hls (.cons (.var 1) (.cons (.cst (.int 0)) (.cons (.cst (.int 0)) (.cons (.var 2) .nil))))))
  .nil))))
def d5 : DE := ⟨⟨("_law_deal", none), "_law_deal", "_law_deal", defArgs (top 8), defBody (top 8), defScope (top 8), [], []⟩, ["_law_script", "_law_cells", "_law_mark", "_law_cell"], ["_law_script"], ⟨1, 4, b5⟩⟩
/-- _law_pick -/
def b6 : Ss := (.cons (.ifs (.cmp .Lt (.idx (.var 0) (.cst (.int 2))) (.cst (.int 2))) (.cons (.seti (.var 0) (.cst (.int 1)) (.bin .Add (.idx (.var 0) (.cst (.int 1))) (.cst (.int 1))))
  (.cons (.asg 3 (.bin .Add (.idx (.var 0) (.cst (.int 3))) (.bin .Mult (.idx (.var 0) (.cst (.int 1))) (.cst (.int 9343)))))
  (.cons (.ifs (.cmp .LtE (.idx (.var 0) (.cst (.int 1))) (.bi .len (.idx (.var 0) (.cst (.int 0))))) (.cons (.asg 3 (.idx (.idx (.var 0) (.cst (.int 0))) (.bin .Sub (.idx (.var 0) (.cst (.int 1))) (.cst (.int 1)))))
  .nil) .nil)
  (.cons (.ifs (.or (.cons (.cmp .Gt (.idx (.var 0) (.cst (.int 1))) (.bi .len (.idx (.var 0) (.cst (.int 0))))) (.cons (.cmp .Lt (.var 3) (.bin .Pow (.cst (.int 10)) (.cst (.int 18)))) .nil))) (.cons (.asg 4 (.bin .Mod (.bi .int (.bin .Add (.bin .Add (.bin .Mult (.var 3) (.cst (.int 47303))) (.bin .Mult (.idx (.var 0) (.cst (.int 1))) (.cst (.int 38219)))) (.idx (.var 0) (.cst (.int 3))))) (.cst (.int 2147483647))))
  (.cons (.asg 5 (.bin .Mod (.bi .int (.bin .Add (.bin .Mult (.var 4) (.var 4)) (.bin .Mult (.idx (.var 0) (.cst (.int 1))) (.cst (.int 51041))))) (.cst (.int 998244353))))
  (.cons (.ret (.bin .Mod (.bin .FloorDiv (.bin .Mod (.bi .int (.bin .Add (.bin .Mult (.var 5) (.cst (.int 46643))) (.var 4))) (.cst (.int 2147483563))) (.cst (.int 17))) (.var 1)))
  .nil))) .nil)
  (.cons (.seti (.var 0) (.cst (.int 2)) (.var 3))
  .nil))))) .nil)
  (.cons (.asg 2 (.bin .Mod (.bi .int (.idx (.var 0) (.cst (.int 2)))) (.var 1)))
  (.cons (.seti (.var 0) (.cst (.int 2)) (.bin .FloorDiv (.bi .int (.idx (.var 0) (.cst (.int 2)))) (.var 1)))
  (.cons (.ret (.var 2))
  .nil))))
def d6 : DE := ⟨⟨("_law_pick", none), "_law_pick", "_law_pick", defArgs (top 9), defBody (top 9), defScope (top 9), [], []⟩, ["_law_deal_here", "_law_many", "_law_drawn", "_law_cell", "_law_early", "_law_late"], ["_law_deal_here", "_law_many"], ⟨2, 6, b6⟩⟩
/-- _law_of -/
def b7 : Ss := (.cons (.ret (.idx (.var 1) (.cal 6 (.cons (.var 0) (.cons (.bi .len (.var 1)) .nil)) .nil [0, 1])))
  .nil)
def d7 : DE := ⟨⟨("_law_of", none), "_law_of", "_law_of", defArgs (top 10), defBody (top 10), defScope (top 10), [], []⟩, ["_law_deal_here", "_law_items"], ["_law_deal_here", "_law_items"], ⟨2, 2, b7⟩⟩
/-- _law_same -/
def b8 : Ss := (.cons (.ret (.same 0 1))
  .nil)
def d8 : DE := ⟨⟨("_law_same", none), "_law_same", "_law_same", defArgs (top 11), defBody (top 11), defScope (top 11), [], []⟩, ["_law_found", "_law_due"], ["_law_found", "_law_due"], ⟨2, 2, b8⟩⟩
/-- _law_pool -/
def b9 : Ss := (.cons (.asg 1 (.mt .join (.cst (.str [])) (.cmpr (.cal 7 (.cons (.var 0) (.cons (.cst (.str [97, 98, 121, 122])) .nil)) .nil [0, 1]) [3] (.rng (.cal 6 (.cons (.var 0) (.cons (.cst (.int 6)) .nil)) .nil [0, 1])) .nil)))
  (.cons (.asg 2 (.lst (.cons (.cst (.str [97])) (.cons (.cst (.str [98])) (.cons (.cst (.str [97, 98])) (.cons (.cst (.str [98, 97])) (.cons (.cst (.str [122])) .nil)))))))
  (.cons (.ret (.bin .Add (.cmpr (.bin .Add (.var 1) (.var 4)) [4] (.seq (.var 2)) .nil) (.lst (.cons (.cal 7 (.cons (.var 0) (.cons (.lst (.cons (.cst (.str [97])) (.cons (.cst (.str [98])) (.cons (.cst (.str [97, 98, 99, 100, 101, 102, 103, 104])) (.cons (.cst (.str [97, 98])) .nil))))) .nil)) .nil [0, 1]) .nil))))
  .nil)))
def d9 : DE := ⟨⟨("_law_pool", none), "_law_pool", "_law_pool", defArgs (top 12), defBody (top 12), defScope (top 12), [], []⟩, ["_law_deal_here", "_law_stem", "_law_ends", "_law_k", "_law_end"], ["_law_deal_here"], ⟨1, 5, b9⟩⟩
/-- _law_some_words -/
def b10 : Ss := (.cons (.ret (.bi .tuple (.cmpr (.cal 7 (.cons (.var 0) (.cons (.var 1) .nil)) .nil [0, 1]) [2] (.rng (.bin .Add (.cst (.int 1)) (.cal 6 (.cons (.var 0) (.cons (.cal 7 (.cons (.var 0) (.cons (.lst (.cons (.cst (.int 1)) (.cons (.cst (.int 2)) (.cons (.cst (.int 4)) .nil)))) .nil)) .nil [0, 1]) .nil)) .nil [0, 1]))) .nil)))
  .nil)
def d10 : DE := ⟨⟨("_law_some_words", none), "_law_some_words", "_law_some_words", defArgs (top 13), defBody (top 13), defScope (top 13), [], []⟩, ["_law_deal_here", "_law_pool_here", "_law_k"], ["_law_deal_here", "_law_pool_here"], ⟨2, 3, b10⟩⟩
/-- _law_year -/
def b11 : Ss := (.cons (.ret (.cal 7 (.cons (.var 0) (.cons (.lst (.cons (.cst (.int 0)) (.cons (.cst (.int 7)) (.cons (.cst (.int 99)) (.cons (.cst (.int 100)) (.cons (.cst (.int 199)) (.cons (.cst (.int 1999)) (.cons (.cst (.int 2099)) (.cons (.cst (.int 9999)) (.cons (.cal 6 (.cons (.var 0) (.cons (.cst (.int 10000)) .nil)) .nil [0, 1]) .nil)))))))))) .nil)) .nil [0, 1]))
  .nil)
def d11 : DE := ⟨⟨("_law_year", none), "_law_year", "_law_year", defArgs (top 14), defBody (top 14), defScope (top 14), [], []⟩, ["_law_deal_here"], ["_law_deal_here"], ⟨1, 1, b11⟩⟩
/-- _law_work -/
def b12 : Ss := (.cons (.ret (.tup (.cons (.cal 10 (.cons (.var 0) (.cons (.var 1) .nil)) .nil [0, 1]) (.cons (.cal 11 (.cons (.var 0) .nil) .nil [0]) (.cons (.cal 10 (.cons (.var 0) (.cons (.var 1) .nil)) .nil [0, 1]) .nil)))))
  .nil)
def d12 : DE := ⟨⟨("_law_work", none), "_law_work", "_law_work", defArgs (top 15), defBody (top 15), defScope (top 15), [], []⟩, ["_law_deal_here", "_law_pool_here"], ["_law_deal_here", "_law_pool_here"], ⟨2, 2, b12⟩⟩
def b13_1 : Ss := (.cons (.ret (.and (.cons (.cal 4 (.cons (.tup (.cons (.tup (.cons (.cst (.str [97])) .nil)) (.cons (.cst (.int 0)) (.cons (.tup (.cons (.cst (.str [98])) .nil)) .nil)))) .nil) .nil [0]) (.cons (.not (.cal 4 (.cons (.tup (.cons (.tup (.cons (.cst (.str [97])) .nil)) (.cons (.cst (.bl true)) (.cons (.tup (.cons (.cst (.str [98])) .nil)) .nil)))) .nil) .nil [0])) .nil))))
  .nil)
def b13_2 : Ss := (.cons (.ifs (.not (.cal 8 (.cons (.lst (.cons (.cal 4 (.cons (.var 4) .nil) .nil [0]) (.cons (.cal 4 .nil (.cons (.var 7) .nil) [0]) (.cons (.cal 4 (.cons (.var 8) .nil) .nil [0]) .nil)))) (.cons (.lst (.cons (.cst (.bl true)) (.cons (.cst (.bl false)) (.cons (.cst (.bl false)) .nil)))) .nil)) .nil [0, 1])) (.cons (.ret (.cst (.bl false)))
  .nil) .nil)
  .nil)
def b13_3 : Ss := (.cons (.asg 8 (.cal 7 (.cons (.var 1) (.cons (.lst (.cons (.slc (.var 4) .no (.so (.cst (.int 2)))) (.cons (.bin .Add (.var 4) (.tup (.cons (.cst (.int 1)) .nil))) (.cons (.bi .list (.var 4)) (.cons (.cst .non) (.cons (.cst (.int 3)) (.cons (.cst (.str [])) (.cons (.tup (.cons (.var 4) .nil)) .nil)))))))) .nil)) .nil [0, 1]))
  b13_2)
def b13_4 : Ss := (.cons (.asg 7 (.bin .Add (.bin .Add (.slc (.var 4) .no (.so (.var 5))) (.tup (.cons (.var 6) .nil))) (.slc (.var 4) (.so (.bin .Add (.var 5) (.cst (.int 1)))) .no)))
  b13_3)
def b13_5 : Ss := (.cons (.asg 6 (.cal 7 (.cons (.var 1) (.cons (.lst (.cons (.cst .non) (.cons (.cst (.bl true)) (.cons (.cst (.str [97])) (.cons (.cst (.int 10000)) (.cons (.bin .Sub (.cst (.int 0)) (.cst (.int 1))) (.cons (.tup .nil) (.cons (.tup (.cons (.cst (.str [65])) .nil)) (.cons (.bin .Mult (.tup (.cons (.cst (.str [97])) .nil)) (.cst (.int 5))) (.cons (.lst (.cons (.cst (.str [97])) .nil)) (.cons (.tup (.cons (.cst (.str [97])) (.cons (.cst (.int 1)) .nil))) .nil))))))))))) .nil)) .nil [0, 1]))
  b13_4)
def b13_6 : Ss := (.cons (.asg 5 (.cal 6 (.cons (.var 1) (.cons (.cst (.int 3)) .nil)) .nil [0, 1]))
  b13_5)
def b13_7 : Ss := (.cons (.asg 4 (.cal 12 (.cons (.var 1) (.cons (.var 2) .nil)) .nil [0, 1]))
  b13_6)
def b13_8 : Ss := (.cons (.for [3] (.rng (.cst (.int 8))) b13_7)
  b13_1)
def b13_9 : Ss := (.cons (.asg 2 (.cal 9 (.cons (.var 1) .nil) .nil [0]))
  b13_8)
/-- law -/
def b13 : Ss := (.cons (.asg 1 (.cal 5 (.cons (.var 0) .nil) .nil [0]))
  b13_9)
def d13 : DE := ⟨⟨("law", none), "law", "law", defArgs (top 16), defBody (top 16), defScope (top 16), [], []⟩, ["_law_script", "_law_deal_here", "_law_pool_here", "_law_turn", "_law_work_here", "_law_at", "_law_odd", "_law_bent", "_law_rest"], ["_law_script"], ⟨1, 9, b13⟩⟩
def p : Pg := ⟨[d0, d1, d2, d3, d4, d5, d6, d7, d8, d9, d10, d11, d12, d13], [("LETTERS", .str [97, 98, 99, 100, 101, 102, 103, 104, 105, 106, 107, 108, 109, 110, 111, 112, 113, 114, 115, 116, 117, 118, 119, 120, 121, 122])], ["isinstance", "int", "bool", "str", "len", "all", "tuple", "repr", "range", "list"], [(1, 1, [], [0]), (0, 3, [], [0, 1, 2]), (2, 1, [], [0]), (3, 1, [], [0]), (6, 2, [], [0, 1]), (7, 2, [], [0, 1]), (10, 2, [], [0, 1]), (11, 1, [], [0]), (4, 1, [], [0]), (8, 2, [], [0, 1]), (4, 0, ["value"], [0]), (12, 2, [], [0, 1]), (9, 1, [], [0]), (5, 1, [], [0])]⟩
theorem pok : p.ok = true := by decide +kernel
theorem kb0 : ∃ d, p.ds[1]? = some d ∧ KBd d 1 [] [0] := ⟨d1, rfl, rfl, fun _ _ _ _ _ _ us ws h1 h2 => match us, ws, h1, h2 with | [u0], [], _, _ => ⟨[u0], rfl, rfl⟩⟩
theorem kb1 : ∃ d, p.ds[0]? = some d ∧ KBd d 3 [] [0, 1, 2] := ⟨d0, rfl, rfl, fun _ _ _ _ _ _ us ws h1 h2 => match us, ws, h1, h2 with | [u0, u1, u2], [], _, _ => ⟨[u0, u1, u2], rfl, rfl⟩⟩
theorem kb2 : ∃ d, p.ds[2]? = some d ∧ KBd d 1 [] [0] := ⟨d2, rfl, rfl, fun _ _ _ _ _ _ us ws h1 h2 => match us, ws, h1, h2 with | [u0], [], _, _ => ⟨[u0], rfl, rfl⟩⟩
theorem kb3 : ∃ d, p.ds[3]? = some d ∧ KBd d 1 [] [0] := ⟨d3, rfl, rfl, fun _ _ _ _ _ _ us ws h1 h2 => match us, ws, h1, h2 with | [u0], [], _, _ => ⟨[u0], rfl, rfl⟩⟩
theorem kb4 : ∃ d, p.ds[6]? = some d ∧ KBd d 2 [] [0, 1] := ⟨d6, rfl, rfl, fun _ _ _ _ _ _ us ws h1 h2 => match us, ws, h1, h2 with | [u0, u1], [], _, _ => ⟨[u0, u1], rfl, rfl⟩⟩
theorem kb5 : ∃ d, p.ds[7]? = some d ∧ KBd d 2 [] [0, 1] := ⟨d7, rfl, rfl, fun _ _ _ _ _ _ us ws h1 h2 => match us, ws, h1, h2 with | [u0, u1], [], _, _ => ⟨[u0, u1], rfl, rfl⟩⟩
theorem kb6 : ∃ d, p.ds[10]? = some d ∧ KBd d 2 [] [0, 1] := ⟨d10, rfl, rfl, fun _ _ _ _ _ _ us ws h1 h2 => match us, ws, h1, h2 with | [u0, u1], [], _, _ => ⟨[u0, u1], rfl, rfl⟩⟩
theorem kb7 : ∃ d, p.ds[11]? = some d ∧ KBd d 1 [] [0] := ⟨d11, rfl, rfl, fun _ _ _ _ _ _ us ws h1 h2 => match us, ws, h1, h2 with | [u0], [], _, _ => ⟨[u0], rfl, rfl⟩⟩
theorem kb8 : ∃ d, p.ds[4]? = some d ∧ KBd d 1 [] [0] := ⟨d4, rfl, rfl, fun _ _ _ _ _ _ us ws h1 h2 => match us, ws, h1, h2 with | [u0], [], _, _ => ⟨[u0], rfl, rfl⟩⟩
theorem kb9 : ∃ d, p.ds[8]? = some d ∧ KBd d 2 [] [0, 1] := ⟨d8, rfl, rfl, fun _ _ _ _ _ _ us ws h1 h2 => match us, ws, h1, h2 with | [u0, u1], [], _, _ => ⟨[u0, u1], rfl, rfl⟩⟩
theorem kb10 : ∃ d, p.ds[4]? = some d ∧ KBd d 0 ["value"] [0] := ⟨d4, rfl, rfl, fun _ _ _ _ _ _ us ws h1 h2 => match us, ws, h1, h2 with | [], [w0], _, _ => ⟨[w0], rfl, rfl⟩⟩
theorem kb11 : ∃ d, p.ds[12]? = some d ∧ KBd d 2 [] [0, 1] := ⟨d12, rfl, rfl, fun _ _ _ _ _ _ us ws h1 h2 => match us, ws, h1, h2 with | [u0, u1], [], _, _ => ⟨[u0, u1], rfl, rfl⟩⟩
theorem kb12 : ∃ d, p.ds[9]? = some d ∧ KBd d 1 [] [0] := ⟨d9, rfl, rfl, fun _ _ _ _ _ _ us ws h1 h2 => match us, ws, h1, h2 with | [u0], [], _, _ => ⟨[u0], rfl, rfl⟩⟩
theorem kb13 : ∃ d, p.ds[5]? = some d ∧ KBd d 1 [] [0] := ⟨d5, rfl, rfl, fun _ _ _ _ _ _ us ws h1 h2 => match us, ws, h1, h2 with | [u0], [], _, _ => ⟨[u0], rfl, rfl⟩⟩
theorem kbok : p.kbOk := List.forall_mem_cons.mpr ⟨kb0, List.forall_mem_cons.mpr ⟨kb1, List.forall_mem_cons.mpr ⟨kb2, List.forall_mem_cons.mpr ⟨kb3, List.forall_mem_cons.mpr ⟨kb4, List.forall_mem_cons.mpr ⟨kb5, List.forall_mem_cons.mpr ⟨kb6, List.forall_mem_cons.mpr ⟨kb7, List.forall_mem_cons.mpr ⟨kb8, List.forall_mem_cons.mpr ⟨kb9, List.forall_mem_cons.mpr ⟨kb10, List.forall_mem_cons.mpr ⟨kb11, List.forall_mem_cons.mpr ⟨kb12, List.forall_mem_cons.mpr ⟨kb13, fun _ h => (nomatch h)⟩⟩⟩⟩⟩⟩⟩⟩⟩⟩⟩⟩⟩⟩
abbrev R : PySem.W.OpenRow := PySem.W.OpenLaw.row PySem.Challenge.rw_rivalkeys_k03_works_told_from_other_valu
def fn : List He.DefD := p.ds.map (·.dd)
abbrev hk : PySem.W.Hook := He.hookD 4 p.fa fn
def ob (s : PySem.W.SharedT) : He.AlD := He.obsDG 4 p.fa fn (HandSHeadRun.getT s)
theorem ob_eq (s : PySem.W.SharedT) : ob s = hk.obs s.abs := He.obsDG_eq (HandSHeadRun.getT_eq s)
theorem run (w : World) : HandSHeadRun.RunEq R (PySem.W.view R.prog [16]) hk ob 1200 ["LETTERS", "is_number", "is_word", "is_words", "is_year", "is_work", "_law_deal", "_law_pick", "_law_of", "_law_same", "_law_pool", "_law_some_words", "_law_year", "_law_work"] w := by
  intro os
  kernel_rfl
end K03

set_option maxHeartbeats 4000000
namespace K03
open PySem Rk
theorem f0 : p.G.fn 0 = some ⟨3, 3, numB⟩ := rfl
theorem f1 : p.G.fn 1 = some ⟨1, 2, wordB 0⟩ := rfl
theorem f2 : p.G.fn 2 = some ⟨1, 2, wordsB 1⟩ := rfl
theorem f3 : p.G.fn 3 = some ⟨1, 1, yearB 0⟩ := rfl
theorem f4 : p.G.fn 4 = some ⟨1, 1, workB 2 3⟩ := rfl
theorem f5 : p.G.fn 5 = some ⟨1, 4, dealB⟩ := rfl
theorem f6 : p.G.fn 6 = some ⟨2, 6, pickB⟩ := rfl
theorem f7 : p.G.fn 7 = some ⟨2, 2, ofB 6⟩ := rfl
theorem f8 : p.G.fn 8 = some ⟨2, 2, sameB⟩ := rfl
theorem f9 : p.G.fn 9 = some ⟨1, 5, poolB 6 7⟩ := rfl
theorem f10 : p.G.fn 10 = some ⟨2, 3, someB 6 7⟩ := rfl
theorem f11 : p.G.fn 11 = some ⟨1, 1, lyearB 6 7⟩ := rfl
theorem f12 : p.G.fn 12 = some ⟨2, 2, lworkB 10 11⟩ := rfl
theorem f13 : p.G.fn 13 = some ⟨1, 9, b13⟩ := rfl
theorem dfl (k : Nat) : p.G.dfl k = [] := rfl
theorem gl : p.G.glb 0 = .str AZ := rfl
theorem wk {n : Nat} {h : AH} {d : D} (hp : pl 2 d = true) : callN p.G (n + 1 + 1 + 1) true 4 [d] h = .ok (.bl (isWk d)) h := work_eq f4 f2 f1 f3 f0 dfl gl hp
theorem isWs_of {x : D} (h : Ws1 x) : isWs x = true := by
  obtain ⟨l, rfl, h1, h2, h3⟩ := h
  show (decide (1 ≤ l.length) && decide (l.length ≤ 4) && l.all isW) = true
  rw [decide_eq_true h1, decide_eq_true h2, List.all_eq_true.mpr fun y hy => by obtain ⟨s, rfl, w, _⟩ := h3 y hy; exact w]
  rfl
theorem pl_ws {x : D} (h : Ws1 x) : pl 1 x = true := by
  obtain ⟨l, rfl, h1, h2, h3⟩ := h
  unfold pl
  rw [Bool.and_eq_true]
  exact ⟨rfl, List.all_eq_true.mpr fun y hy => (h3 y hy).pl 0⟩
theorem pl_tup {k : Nat} {l : List D} (h : ∀ x ∈ l, pl k x = true) : pl (k + 1) (.tup l) = true := by
  unfold pl
  rw [Bool.and_eq_true]
  exact ⟨rfl, List.all_eq_true.mpr h⟩
theorem pl_int (k : Nat) (i : Int) : pl k (.int i) = true := by cases k <;> (unfold pl; rfl)
/-- an odd part: no words, no year -/
def odds : List D := [.non, .bl true, .str [97], .int 10000, .int (0 - 1), .tup [], .tup [.str [65]], .tup (List.replicate (Int.toNat 5) [.str [97]]).flatten, .lst [.str [97]], .tup [.str [97], .int 1]]
theorem odd_ok : ∀ x ∈ odds, pl 1 x = true ∧ isWs x = false ∧ isN' 0 9999 x = false := by
  intro x hx
  simp only [odds, List.mem_cons, List.not_mem_nil, or_false] at hx
  rcases hx with rfl | rfl | rfl | rfl | rfl | rfl | rfl | rfl | rfl | rfl <;> exact ⟨by decide, by decide, by decide⟩
theorem forI_n {l : List D} {f : D → Rk.Env → AH → Res Fl} {env : Rk.Env} {h : AH} {k : Nat} (e : k = l.length + 1) : forI (.fix l) f k 0 env h = forL f l env h := by rw [e, forI_all]
theorem hv' (l : List Int) (hl : l.length ≤ 63) (h : AH) : Wp (callN p.G 8 true 13 [.scr l] h) (fun a _ => a = .bl true) (fun _ _ => False) := by
  rw [callN_succ, f13]
  simp only [b13, evSs, evS, evT, evE, evEs, evIt, evOp, evIfs, dfl, bind_one, List.set_cons_succ, List.set_cons_zero, Wp_ok, Wp_bind, Wp_bindX, Wp_noexc, bind_ok, bindX_ok, ldV_zero, ldV_succ, pick, List.getElem?_cons_zero, List.getElem?_cons_succ, if_true, len_fix, range_len', add_ii, sub_ii, List.length_cons, List.length_nil, len_l, len_t, Wp_lift, lift, Option.map_some, src_l, src_t, tr_bl, sl_l, sl_t, List.append_nil, Nat.reduceAdd, Nat.reduceLeDiff, hline, tuple_l, list_t, List.cons_append, List.nil_append, Bool.not_true, Bool.not_false, Bool.false_eq_true, if_false, any_l, fin, List.map_cons, List.map_nil, List.replicate]
  refine wp_deal f5 hl fun h1 hn1 hc1 dl1 => ?_
  simp only [b13_9, evSs, evS, evT, evE, evEs, evIt, evOp, evIfs, dfl, bind_one, List.set_cons_succ, List.set_cons_zero, Wp_ok, Wp_bind, Wp_bindX, Wp_noexc, bind_ok, bindX_ok, ldV_zero, ldV_succ, pick, List.getElem?_cons_zero, List.getElem?_cons_succ, if_true, len_fix, range_len', add_ii, sub_ii, List.length_cons, List.length_nil, len_l, len_t, Wp_lift, lift, Option.map_some, src_l, src_t, tr_bl, sl_l, sl_t, List.append_nil, Nat.reduceAdd, Nat.reduceLeDiff, hline, tuple_l, list_t, List.cons_append, List.nil_append, Bool.not_true, Bool.not_false, Bool.false_eq_true, if_false, any_l]
  generalize h.nx = r at *
  refine wp_pool f9 f6 f7 dfl dl1 fun pl' h2 hpl hpl6 dl2 bt2 => ?_
  have pl0 : pl' ≠ [] := fun e => by rw [e] at hpl6; cases hpl6
  simp only [b13_8, evSs, evS, evT, evE, evEs, evIt, evOp, evIfs, dfl, bind_one, List.set_cons_succ, List.set_cons_zero, Wp_ok, Wp_bind, Wp_bindX, Wp_noexc, bind_ok, bindX_ok, ldV_zero, ldV_succ, pick, List.getElem?_cons_zero, List.getElem?_cons_succ, if_true, len_fix, range_len', add_ii, sub_ii, List.length_cons, List.length_nil, len_l, len_t, Wp_lift, lift, Option.map_some, src_l, src_t, tr_bl, sl_l, sl_t, List.append_nil, Nat.reduceAdd, Nat.reduceLeDiff, hline, tuple_l, list_t, List.cons_append, List.nil_append, Bool.not_true, Bool.not_false, Bool.false_eq_true, if_false, any_l, show (-(2 ^ 62) ≤ (8 : Int) ∧ (8 : Int) < 2 ^ 62) = True by decide, forI_all]
  rw [forI_n (l := range 0 8) (k := Int.toNat 8 + 1) rfl]
  refine forL_inv (k := 0) (fun _ env h' => Deal r h' ∧ ∃ v3 v4 v5 v6 v7 v8, env = [some (.scr l), some (.ref r), some (.lst pl'), v3, v4, v5, v6, v7, v8]) ⟨dl2, _, _, _, _, _, _, rfl⟩ ?_ ?_
  · rintro j x env h3 hx ⟨dl3, v3, v4, v5, v6, v7, v8, rfl⟩
    simp only [b13_7, evSs, evS, evT, evE, evEs, evIt, evOp, evIfs, dfl, bind_one, List.set_cons_succ, List.set_cons_zero, Wp_ok, Wp_bind, Wp_bindX, Wp_noexc, bind_ok, bindX_ok, ldV_zero, ldV_succ, pick, List.getElem?_cons_zero, List.getElem?_cons_succ, if_true, len_fix, range_len', add_ii, sub_ii, List.length_cons, List.length_nil, len_l, len_t, Wp_lift, lift, Option.map_some, src_l, src_t, tr_bl, sl_l, sl_t, List.append_nil, Nat.reduceAdd, Nat.reduceLeDiff, hline, tuple_l, list_t, List.cons_append, List.nil_append, Bool.not_true, Bool.not_false, Bool.false_eq_true, if_false, any_l]
    refine wp_lwork f12 f10 f11 f6 f7 dfl dl3 hpl pl0 (by omega) fun wk1 h4 hwk dl4 bt4 => ?_
    obtain ⟨wa, y, wb, rfl, hwa, hwb, y0, y1⟩ := hwk
    simp only [b13_6, evSs, evS, evT, evE, evEs, evIt, evOp, evIfs, dfl, bind_one, List.set_cons_succ, List.set_cons_zero, Wp_ok, Wp_bind, Wp_bindX, Wp_noexc, bind_ok, bindX_ok, ldV_zero, ldV_succ, pick, List.getElem?_cons_zero, List.getElem?_cons_succ, if_true, len_fix, range_len', add_ii, sub_ii, List.length_cons, List.length_nil, len_l, len_t, Wp_lift, lift, Option.map_some, src_l, src_t, tr_bl, sl_l, sl_t, List.append_nil, Nat.reduceAdd, Nat.reduceLeDiff, hline, tuple_l, list_t, List.cons_append, List.nil_append, Bool.not_true, Bool.not_false, Bool.false_eq_true, if_false, any_l]
    refine wp_pick f6 dl4 (by decide) (by decide) fun at' h5 a0 a1 dl5 bt5 => ?_
    have rep : ∀ h : AH, binop .Mult (.tup [.str [97]]) (.int 5) h = .ok (.tup (List.replicate (Int.toNat 5) [D.str [97]]).flatten) h := fun h => rfl
    simp only [b13_5, evSs, evS, evT, evE, evEs, evIt, evOp, evIfs, dfl, rep, bind_one, List.set_cons_succ, List.set_cons_zero, Wp_ok, Wp_bind, Wp_bindX, Wp_noexc, bind_ok, bindX_ok, ldV_zero, ldV_succ, pick, List.getElem?_cons_zero, List.getElem?_cons_succ, if_true, len_fix, range_len', add_ii, sub_ii, List.length_cons, List.length_nil, len_l, len_t, Wp_lift, lift, Option.map_some, src_l, src_t, tr_bl, sl_l, sl_t, List.append_nil, Nat.reduceAdd, Nat.reduceLeDiff, hline, tuple_l, list_t, List.cons_append, List.nil_append, Bool.not_true, Bool.not_false, Bool.false_eq_true, if_false, any_l]
    refine wp_of_l f6 f7 (dfl 6) dl5 (by simp) (by simp) fun od h6 hod dl6 bt6 => ?_
    obtain ⟨o1, o2, o3⟩ := odd_ok od hod
    clear hod
    have c1 := cut_take (l := [wa, .int y, wb]) a0 (by show at' ≤ ((3 : Nat) : Int); omega)
    have c2 := cut_drop (l := [wa, .int y, wb]) (a := at' + 1) (by omega) (by show at' + 1 ≤ ((3 : Nat) : Int); omega)
    simp only [b13_4, evSs, evS, evT, evE, evEs, evIt, evOp, evIfs, dfl, c1, c2, add_tt, bind_one, List.set_cons_succ, List.set_cons_zero, Wp_ok, Wp_bind, Wp_bindX, Wp_noexc, bind_ok, bindX_ok, ldV_zero, ldV_succ, pick, List.getElem?_cons_zero, List.getElem?_cons_succ, if_true, len_fix, range_len', add_ii, sub_ii, List.length_cons, List.length_nil, len_l, len_t, Wp_lift, lift, Option.map_some, src_l, src_t, tr_bl, sl_l, sl_t, List.append_nil, Nat.reduceAdd, Nat.reduceLeDiff, hline, tuple_l, list_t, List.cons_append, List.nil_append, Bool.not_true, Bool.not_false, Bool.false_eq_true, if_false, any_l]
    have tk : ((([wa, .int y, wb] : List D).take at'.toNat).length + 1 ≤ line) := by
      rw [List.length_take]
      exact Nat.le_trans (show _ ≤ 8 by simp; omega) e8
    have tk2 : ((([wa, .int y, wb] : List D).take at'.toNat ++ [od]).length + (([wa, .int y, wb] : List D).drop (at' + 1).toNat).length ≤ line) := by
      rw [List.length_append, List.length_take, List.length_drop]
      exact Nat.le_trans (show _ ≤ 8 by simp; omega) e8
    simp only [tk, tk2, add_tt, bind_one, List.set_cons_succ, List.set_cons_zero, Wp_ok, Wp_bind, Wp_bindX, Wp_noexc, bind_ok, bindX_ok, ldV_zero, ldV_succ, pick, List.getElem?_cons_zero, List.getElem?_cons_succ, if_true, len_fix, range_len', add_ii, sub_ii, List.length_cons, List.length_nil, len_l, len_t, Wp_lift, lift, Option.map_some, src_l, src_t, tr_bl, sl_l, sl_t, List.append_nil, Nat.reduceAdd, Nat.reduceLeDiff, hline, tuple_l, list_t, List.cons_append, List.nil_append, Bool.not_true, Bool.not_false, Bool.false_eq_true, if_false, any_l]
    obtain ⟨bent, hbent, pb, nb⟩ : ∃ bent, ([wa, .int y, wb] : List D).take at'.toNat ++ [od] ++ ([wa, .int y, wb] : List D).drop (at' + 1).toNat = bent ∧ pl 2 (.tup bent) = true ∧ isWk (.tup bent) = false := by
      have e3 : at' = 0 ∨ at' = 1 ∨ at' = 2 := by omega
      rcases e3 with rfl | rfl | rfl
      · refine ⟨[od, .int y, wb], rfl, pl_tup fun x hx => ?_, ?_⟩
        · simp only [List.mem_cons, List.not_mem_nil, or_false] at hx
          rcases hx with rfl | rfl | rfl
          · exact o1
          · exact pl_int _ _
          · exact pl_ws hwb
        · show (isWs od && isN' 0 9999 (.int y) && isWs wb) = false
          rw [o2]; rfl
      · refine ⟨[wa, od, wb], rfl, pl_tup fun x hx => ?_, ?_⟩
        · simp only [List.mem_cons, List.not_mem_nil, or_false] at hx
          rcases hx with rfl | rfl | rfl
          · exact pl_ws hwa
          · exact o1
          · exact pl_ws hwb
        · show (isWs wa && isN' 0 9999 od && isWs wb) = false
          rw [o3, Bool.and_false]; rfl
      · refine ⟨[wa, .int y, od], rfl, pl_tup fun x hx => ?_, ?_⟩
        · simp only [List.mem_cons, List.not_mem_nil, or_false] at hx
          rcases hx with rfl | rfl | rfl
          · exact pl_ws hwa
          · exact pl_int _ _
          · exact o1
        · show (isWs wa && isN' 0 9999 (.int y) && isWs od) = false
          rw [o2, Bool.and_false]
    rw [hbent]
    have c3 : cut ([wa, .int y, wb] : List D) none (some 2) = [wa, .int y] := rfl
    simp only [b13_3, evSs, evS, evT, evE, evEs, evIt, evOp, evIfs, dfl, c3, add_tt, list_t, bind_one, List.set_cons_succ, List.set_cons_zero, Wp_ok, Wp_bind, Wp_bindX, Wp_noexc, bind_ok, bindX_ok, ldV_zero, ldV_succ, pick, List.getElem?_cons_zero, List.getElem?_cons_succ, if_true, len_fix, range_len', add_ii, sub_ii, List.length_cons, List.length_nil, len_l, len_t, Wp_lift, lift, Option.map_some, src_l, src_t, tr_bl, sl_l, sl_t, List.append_nil, Nat.reduceAdd, Nat.reduceLeDiff, hline, tuple_l, list_t, List.cons_append, List.nil_append, Bool.not_true, Bool.not_false, Bool.false_eq_true, if_false, any_l]
    refine wp_of_l f6 f7 (dfl 6) dl6 (by simp) (by simp) fun re h7 hre dl7 bt7 => ?_
    have pw : pl 2 (.tup [wa, .int y, wb]) = true := pl_tup fun x hx => by
      simp only [List.mem_cons, List.not_mem_nil, or_false] at hx
      rcases hx with rfl | rfl | rfl
      · exact pl_ws hwa
      · exact pl_int _ _
      · exact pl_ws hwb
    have nw : isWk (.tup [wa, .int y, wb]) = true := by
      show (isWs wa && isN' 0 9999 (.int y) && isWs wb) = true
      rw [isWs_of hwa, isWs_of hwb, show isN' 0 9999 (.int y) = (decide (0 ≤ y) && decide (y ≤ 9999)) from rfl, decide_eq_true y0, decide_eq_true y1]
      rfl
    obtain ⟨pr, nr⟩ : pl 2 re = true ∧ isWk re = false := by
      simp only [List.mem_cons, List.not_mem_nil, or_false] at hre
      rcases hre with rfl | rfl | rfl | rfl | rfl | rfl | rfl
      · refine ⟨pl_tup fun x hx => ?_, rfl⟩
        simp only [List.mem_cons, List.not_mem_nil, or_false] at hx
        rcases hx with rfl | rfl
        · exact pl_ws hwa
        · exact pl_int _ _
      · refine ⟨pl_tup fun x hx => ?_, rfl⟩
        simp only [List.mem_cons, List.not_mem_nil, or_false] at hx
        rcases hx with rfl | rfl | rfl | rfl
        · exact pl_ws hwa
        · exact pl_int _ _
        · exact pl_ws hwb
        · exact pl_int _ _
      · exact ⟨rfl, rfl⟩
      · exact ⟨rfl, rfl⟩
      · exact ⟨rfl, rfl⟩
      · exact ⟨by decide, rfl⟩
      · refine ⟨pl_tup fun x hx => ?_, rfl⟩
        rw [List.mem_singleton.mp hx]
        exact pl_tup fun z hz => pl_plain (pl_in pw z hz)
    have es1 := same_bls (n := 6) (c := true) (h := h7) f8 [true, false, false] (by simp)
    simp only [List.map_cons, List.map_nil] at es1
    simp only [b13_2, evSs, evS, evT, evE, evEs, evIt, evOp, evIfs, dfl, wk pw, wk pb, wk pr, nw, nb, nr, es1, bind_one, List.set_cons_succ, List.set_cons_zero, Wp_ok, Wp_bind, Wp_bindX, Wp_noexc, bind_ok, bindX_ok, ldV_zero, ldV_succ, pick, List.getElem?_cons_zero, List.getElem?_cons_succ, if_true, len_fix, range_len', add_ii, sub_ii, List.length_cons, List.length_nil, len_l, len_t, Wp_lift, lift, Option.map_some, src_l, src_t, tr_bl, sl_l, sl_t, List.append_nil, Nat.reduceAdd, Nat.reduceLeDiff, hline, tuple_l, list_t, List.cons_append, List.nil_append, Bool.not_true, Bool.not_false, Bool.false_eq_true, if_false, any_l]
    exact ⟨dl7, _, _, _, _, _, _, rfl⟩
  · rintro env h3 ⟨dl3, v3, v4, v5, v6, v7, v8, rfl⟩
    have p1 : pl 2 (.tup [.tup [.str [97]], .int 0, .tup [.str [98]]]) = true := by decide
    have p2 : pl 2 (.tup [.tup [.str [97]], .bl true, .tup [.str [98]]]) = true := by decide
    have n1 : isWk (.tup [.tup [.str [97]], .int 0, .tup [.str [98]]]) = true := by decide
    have n2 : isWk (.tup [.tup [.str [97]], .bl true, .tup [.str [98]]]) = false := by decide
    simp only [b13_1, evSs, evS, evT, evE, evEs, evIt, evOp, evIfs, evAnd, dfl, wk p1, wk p2, n1, n2, bind_one, List.set_cons_succ, List.set_cons_zero, Wp_ok, Wp_bind, Wp_bindX, Wp_noexc, bind_ok, bindX_ok, ldV_zero, ldV_succ, pick, List.getElem?_cons_zero, List.getElem?_cons_succ, if_true, len_fix, range_len', add_ii, sub_ii, List.length_cons, List.length_nil, len_l, len_t, Wp_lift, lift, Option.map_some, src_l, src_t, tr_bl, sl_l, sl_t, List.append_nil, Nat.reduceAdd, Nat.reduceLeDiff, hline, tuple_l, list_t, List.cons_append, List.nil_append, Bool.not_true, Bool.not_false, Bool.false_eq_true, if_false, any_l]
theorem hv : ∀ l : List Int, l.length ≤ 63 → ∃ h, callN p.G 8 true 13 [.scr l] ⟨0, fun _ => .no⟩ = .ok (.bl true) h := by
  intro l hl
  obtain ⟨a, h, e, rfl⟩ := (hv' l hl ⟨0, fun _ => .no⟩).ok
  exact ⟨h, e⟩
end K03

/-! the law's end, printed by endp.py -/
open PySem PySem.W PySem.Calls PyProof.Rows in
theorem PySem.Challenge.cw_rivalkeys_k03_works_told_from_other_valu_holds : PySem.Challenge.rw_rivalkeys_k03_works_told_from_other_valu.Holds := by
  w_on; o_law
  refine HandSHeadRun.head_any (r := OpenLaw.row PySem.Challenge.rw_rivalkeys_k03_works_told_from_other_valu) (q := view (OpenLaw.row PySem.Challenge.rw_rivalkeys_k03_works_told_from_other_valu).prog [16]) (H := K03.hk) (ob := K03.ob) (M := 1200) (loose := ["LETTERS", "is_number", "is_word", "is_words", "is_year", "is_work", "_law_deal", "_law_pick", "_law_of", "_law_same", "_law_pool", "_law_some_words", "_law_year", "_law_work"]) (d := HandSHeadRun.topDef (OpenLaw.row PySem.Challenge.rw_rivalkeys_k03_works_told_from_other_valu).prog 16) (kwd := []) K03.ob_eq
    (by kernel_rfl) (fun s => by kernel_rfl) K03.run (by kernel_rfl) (by kernel_rfl) (by kernel_rfl) (by rfl) (by first | assumption | decide +kernel) (by decide +kernel) ⟨rfl, rfl, rfl, rfl, rfl, by decide +kernel⟩ ?hw ?hc
  case hw => w_witness2
  case hc =>
    refine Rk.walkG (l := PySem.Challenge.rw_rivalkeys_k03_works_told_from_other_valu) (n := 63) (k := 8) (x := "_law_script") rfl (by decide) (by kernel_rfl) ⟨by decide, by decide, rfl⟩ ?F
    intro w mg fa h Y G hmg0
    obtain ⟨K, KX, c⟩ := Y
    have hmg : mg ("law" : PySem.Str) = some (.ref fa) := by
      have e : (HandSHeadRun.topDef (OpenLaw.row PySem.Challenge.rw_rivalkeys_k03_works_told_from_other_valu).prog 16).name = ("law" : PySem.Str) := by kernel_rfl
      rw [← e]
      exact hmg0
    have efa : fa = He.ga K "law" := by
      have z := hmg.symm.trans (He.glo_ok KX G (Rk.faOk c (f := .glo "law") (List.mem_append_left _ (List.mem_append_left _ (List.mem_map.mpr ⟨K03.d13, List.mem_of_getElem? (show K03.p.ds[13]? = some K03.d13 from rfl), rfl⟩)))))
      cases z
      rfl
    subst efa
    have F := Rk.fdOf_ok c K03.pok (show K03.p.ds[13]? = some K03.d13 from rfl)
    refine ⟨K, Rk.fdOf K03.p K 13, Rk.spF (Rk.giOf K03.p K) (Rk.callN K03.p.G 8) true 13, KX, fun s u => ?_, fun H a l hl hS => Rk.law_sp K03.hv H a l hl hS, fun base _ _ => Rk.prog_fn K03.p KX G c K03.pok K03.kbok base 8 13 K03.d13 rfl⟩
    exact L2.FunD.bindsA (ps := ["_law_script"]) F (fun _ _ _ _ _ _ us hl => match us, hl with | [_], _ => rfl) s [u] rfl

