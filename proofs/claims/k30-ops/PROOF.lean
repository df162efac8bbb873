import PyProof.Rows.All
import Wide.All
import OpenK.AllK
import Wide.FinOn
import HandS.ForMost
import HandS.Flow
import HandS.Star
import HandS.IsInst
import HandS.Walk
import HandS.Zip
import HandS.TupAny
import HandS.TupMul
import HandS.More
import PyProof.ReprRoads
import HandS.Style
import PyProof.Rows.IntBool
import HandS.Conv
import KE.KDictList
import PyProof.ReprLen
import PyProof.StrLawsRepr
import PyProof.Rows.StrJoinMade
import PySem.Challenge.RW_reachkept_k30_ops_by_their_form
set_option Elab.async false
set_option linter.all false
set_option maxRecDepth 100000
/-! Lin, part A: values as trees, owned or frozen; the small language; its evaluator. -/
namespace Lin
open PySem L2

/-! ### values -/
inductive At where
  | non | bl (b : Bool) | int (i : Int) | str (s : Str) | opq | dead
  deriving DecidableEq
inductive Kd where
  | tup | lst (m : Bool) | dct (m : Bool) (ks : List Key) | ro
  deriving DecidableEq
inductive W where
  | a (x : At)
  | n (k : Kd) (xs : List W)
instance : Inhabited W := ⟨.a .non⟩
abbrev W.non : W := .a .non
abbrev W.bl (b : Bool) : W := .a (.bl b)
abbrev W.int (i : Int) : W := .a (.int i)
abbrev W.str (s : Str) : W := .a (.str s)
abbrev W.dead : W := .a .dead
abbrev W.opq : W := .a .opq
abbrev W.tup (xs : List W) : W := .n .tup xs
abbrev W.lst (m : Bool) (xs : List W) : W := .n (.lst m) xs
abbrev W.dct (m : Bool) (ks : List Key) (xs : List W) : W := .n (.dct m ks) xs

def Kd.frz : Kd → Kd
  | .tup => .tup
  | .lst _ => .lst false
  | .dct _ ks => .dct false ks
  | .ro => .ro
/-- not owned -/
def Kd.fz : Kd → Bool
  | .tup => true
  | .lst m => !m
  | .dct m _ => !m
  | .ro => true
mutual
def W.frz : W → W
  | .a x => .a x
  | .n k xs => .n k.frz (frzL xs)
def frzL : List W → List W
  | [] => []
  | x :: xs => x.frz :: frzL xs
end
mutual
/-- nothing in it is owned -/
def W.fz : W → Bool
  | .a _ => true
  | .n k xs => k.fz && fzL xs
def fzL : List W → Bool
  | [] => true
  | x :: xs => x.fz && fzL xs
end
/-- what is within is frozen -/
def W.frzIn : W → W
  | .a x => .a x
  | .n k xs => .n k (frzL xs)
mutual
/-- how deep it is -/
def W.dep : W → Nat
  | .a _ => 0
  | .n _ xs => depL xs + 1
def depL : List W → Nat
  | [] => 0
  | x :: xs => max x.dep (depL xs)
end
def W.alive : W → Bool
  | .a .dead => false
  | _ => true

/-! ### the language -/
inductive Bop where
  | add | sub | mul | fdiv | mod | pow
  deriving DecidableEq
inductive Ty where
  | int | bool | str | tuple | list | dict
  deriving DecidableEq
def Ty.name : Ty → String
  | .int => "int"
  | .bool => "bool"
  | .str => "str"
  | .tuple => "tuple"
  | .list => "list"
  | .dict => "dict"
/-- built-in calls of operands -/
inductive Bi where
  | len | int | str | repr | list | tuple | all | any | abs | sorted | lenset | sum | min | max
  deriving DecidableEq
/-- built-in methods -/
inductive Mt where
  | append | extend | insert | pop | popAt | clear | split | upper | join | reverse | get | upd
  deriving DecidableEq
inductive Tg where
  | nm (i : Nat) | tp (is : List Nat)
  deriving DecidableEq
inductive Sr where
  | seq | rng1 | rng2 | enum | zip
  deriving DecidableEq
inductive Ex where
  | k (x : At)
  | var (i : Nat)
  | glob (w : W)
  | bin (op : Bop) (a b : Ex)
  | neg (a : Ex)
  | not (a : Ex)
  | and (a b : Ex)
  | or (a b : Ex)
  | cmp (op : CmpOp) (a b : Ex)
  | chain (op : CmpOp) (op' : CmpOp) (a b c : Ex)
  | ite (c a b : Ex)
  | sub (a i : Ex)
  | slice (a : Ex) (lo hi : Option Ex)
  | tup (es : List Ex)
  | lst (es : List Ex)
  | star (e : Ex)
  | dct (ks : List Key) (es : List Ex)
  | comp (elt : Ex) (t : Tg) (s : Sr) (src : List Ex) (test : Option Ex) (own : List Nat)
  | call (f : Nat) (es : List Ex)
  | bi (b : Bi) (es : List Ex)
  | isi (a : Ex) (tys : List Ty)
  | meth (m : Mt) (o : Ex) (es : List Ex)
  | opq
  | frz (a : Ex)
  | addz (a b : Ex)
  | negz (a : Ex)
  | isb (no : Bool) (a b : Ex)
  | eqs (a : Ex) (s : Str)
  | dcs (ks vs : List Str)
  | inK (no : Bool) (a : Ex) (ks : List Str)
  | subK (a : Ex) (ks : List Str) (ws : List W)
  | tupK (ks : List Str)
inductive Sm where
  | set (t : Tg) (e : Ex)
  | setS (i : Nat) (ix e : Ex)
  | augS (i : Nat) (op : Bop) (ix e : Ex)
  | aug (i : Nat) (op : Bop) (e : Ex)
  | ex (e : Ex)
  | ret (e : Ex)
  | retm (i : Nat)
  | ife (c : Ex) (a b : List Sm)
  | for (t : Tg) (s : Sr) (src : List Ex) (body : List Sm)
  | whl (k : Nat) (c : Ex) (body : List Sm)
  | brk | cnt | pass

/-! ### what operations tell -/
def keyW : W → Option Key
  | .a (.int i) => some (.inl i)
  | .a (.str s) => some (.inr s)
  | _ => none
def wKey : Key → W
  | .inl i => .a (.int i)
  | .inr s => .a (.str s)
/-- a value's truth -/
def tru : W → Option Bool
  | .a .non => some false
  | .a (.bl b) => some b
  | .a (.int i) => some (i != 0)
  | .a (.str s) => if s.length ≤ sizeLine then some (s.length != 0) else none
  | .n _ xs => some (!xs.isEmpty)
  | .a _ => none
def b2z (b : Bool) : Int := if b then 1 else 0
def eqA : At → At → Option Bool
  | .dead, _ | _, .dead | .opq, _ | _, .opq => none
  | .non, .non => some true
  | .bl a, .bl b => some (a == b)
  | .bl a, .int b => some (b2z a == b)
  | .int a, .bl b => some (a == b2z b)
  | .int a, .int b => some (a == b)
  | .str a, .str b => some (a == b)
  | _, _ => some false
def At.plain : At → Bool
  | .dead | .opq => false
  | _ => true
def Kd.ok : Kd → Bool
  | .ro => false
  | _ => true
mutual
def eqW : W → W → Option Bool
  | .a x, .a y => eqA x y
  | .a x, .n k _ => if x.plain && k.ok then some false else none
  | .n k _, .a y => if y.plain && k.ok then some false else none
  | .n k xs, .n l ys => match k, l with
    | .tup, .tup => eqL xs ys
    | .lst _, .lst _ => eqL xs ys
    | .dct _ _, .dct _ _ => none
    | .ro, _ | _, .ro => none
    | _, _ => some false
def eqL : List W → List W → Option Bool
  | [], [] => some true
  | x :: xs, y :: ys => match eqW x y with
    | some b => match eqL xs ys with
      | some c => some (b && c)
      | none => none
    | none => none
  | _, _ => some false
end
def W.notD : W → Bool
  | .n (.dct _ _) _ => false
  | _ => true
def eqD (x y : W) : Option Bool := if min x.dep y.dep ≤ 60 then eqW x y else none
def inL (x : W) : List W → Option Bool
  | [] => some false
  | y :: ys => match eqD y x, inL x ys with
    | some b, some c => some (b || c)
    | _, _ => none
def kD : Key → PyData
  | .inl i => .int i
  | .inr s => .str s
mutual
def toD : W → Option PyData
  | .a .non => some .none
  | .a (.bl b) => some (.bool b)
  | .a (.int i) => some (.int i)
  | .a (.str s) => some (.str s)
  | .a _ => none
  | .n k xs => match toDL xs with
    | none => none
    | some ds => match k with
      | .tup => some (.tuple ds)
      | .lst _ => some (.list ds)
      | .dct _ ks => if ks.length = ds.length then some (.dict ((ks.map kD).zip ds)) else none
      | .ro => none
def toDL : List W → Option (List PyData)
  | [] => some []
  | x :: xs => match toD x with
    | none => none
    | some d => match toDL xs with
      | none => none
      | some ds => some (d :: ds)
end
def reprW (w : W) : Option Str := match toD w with
  | none => none
  | some d => if d.showable && decide (d.shown.length ≤ sizeLine) && decide (d.depth ≤ 60) then some d.shown else none
def subStr (i j : Str) : Bool := !(Builtin.Str.occurrences j i 0 j.length 1).isEmpty
def cmpI (op : CmpOp) (i j : Int) : Option Bool := match op with
  | .Lt => some (decide (i < j))
  | .LtE => some (decide (i ≤ j))
  | .Gt => some (decide (j < i))
  | .GtE => some (decide (j ≤ i))
  | _ => none
def isIn (x : W) : W → Option Bool
  | .a (.str j) => match x with
    | .a (.str i) => some (subStr i j)
    | _ => none
  | .n (.dct _ ks) _ => match keyW x with
    | some k => some (ks.any fun q => decide (q = k))
    | none => none
  | .n .ro _ => none
  | .n _ xs => inL x xs
  | _ => none
def cmpW (op : CmpOp) (x y : W) : Option Bool := match op with
  | .Eq => eqD x y
  | .NotEq => if x.notD && y.notD then (eqD x y).map (!·) else none
  | .Is => match x, y with
    | .a .dead, _ => none
    | .a .non, .a .non => some true
    | _, .a .non => some false
    | _, _ => none
  | .IsNot => match x, y with
    | .a .dead, _ => none
    | .a .non, .a .non => some false
    | _, .a .non => some true
    | _, _ => none
  | .In => isIn x y
  | .NotIn => (isIn x y).map (!·)
  | op => match x, y with
    | .a (.int i), .a (.int j) => cmpI op i j
    | _, _ => none
def cutL {α : Type} (xs : List α) (lo hi : Option Int) : List α := (xs.drop (HT.sIx xs.length 0 lo)).take (HT.sIx xs.length xs.length hi - HT.sIx xs.length 0 lo)
def cutStr (s : Str) (lo hi : Option Int) : Str := ⟨(cutL s.cps.toList lo hi).toArray⟩
def repL {α : Type} (xs : List α) (k : Int) : List α := (List.replicate k.toNat xs).flatten
def small63 (k : Int) : Bool := decide (-(2 ^ 63) ≤ k) && decide (k < 2 ^ 63)
def binI (op : Bop) (i j : Int) : Option Int := match op with
  | .add => some (i + j)
  | .sub => some (i - j)
  | .mul => if (decide (-(2 ^ 64) < i) && decide (i < 2 ^ 64)) || (decide (-(2 ^ 64) < j) && decide (j < 2 ^ 64)) then some (i * j) else none
  | .fdiv => if decide (0 < j) && decide (j < 1073741824) then some (i / j) else none
  | .mod => if decide (0 < j) then some (i % j) else none
  | .pow => if decide (0 ≤ j) && decide (j ≤ 1000000) && decide (i.natAbs < 2 ^ 64) then some (i ^ j.toNat) else none
def binW (op : Bop) (x y : W) : Option W := match x, y with
  | .a (.int i), .a (.int j) => (binI op i j).map fun k => .a (.int k)
  | .a (.str i), .a (.str j) => match op with
    | .add => if i.length + j.length ≤ sizeLine then some (.a (.str (i ++ j))) else none
    | _ => none
  | .n (.lst _) xs, .n (.lst _) ys => match op with
    | .add => if fzL xs && fzL ys && decide (xs.length + ys.length ≤ sizeLine) then some (.n (.lst true) (xs ++ ys)) else none
    | _ => none
  | .n .tup xs, .n .tup ys => match op with
    | .add => if fzL xs && fzL ys && decide (xs.length + ys.length ≤ sizeLine) then some (.n .tup (xs ++ ys)) else none
    | _ => none
  | .n (.lst _) xs, .a (.int k) => match op with
    | .mul => if fzL xs && small63 k && decide (xs.length * k.toNat ≤ sizeLine) then some (.n (.lst true) (repL xs k)) else none
    | _ => none
  | .n .tup xs, .a (.int k) => match op with
    | .mul => if fzL xs && !xs.isEmpty && decide (2 ≤ k) && decide (k ≤ 1000) && decide (xs.length ≤ 1000) then some (.n .tup (repL xs k)) else none
    | _ => none
  | .a (.str s), .a (.int k) => match op with
    | .mul => if decide (2 ≤ k) && decide (k < 2 ^ 62) && decide (s.length ≠ 0) && decide (k.toNat * s.length ≤ sizeLine) then some (.a (.str (Txt.mul s k))) else none
    | _ => none
  | _, _ => none
def lookK (k : Key) : List Key → List W → Option W
  | q :: ks, x :: xs => if q = k then some x else lookK k ks xs
  | _, _ => none
def subW (x i : W) : Option W := match x, i with
  | .n (.lst _) xs, .a (.int k) => atI xs k
  | .n .tup xs, .a (.int k) => atI xs k
  | .n .ro xs, .a (.int k) => atI xs k
  | .a (.str s), .a (.int k) => if s.length ≤ sizeLine then (atI s.cps.toList k).map fun c => .a (.str ⟨#[c]⟩) else none
  | .n (.dct _ ks) xs, i => match keyW i with
    | some k => lookK k ks xs
    | none => none
  | _, _ => none
def sliceW (x : W) (lo hi : Option Int) : Option W := match x with
  | .n (.lst _) xs => some (.n (.lst true) (cutL xs lo hi))
  | .n .tup xs => some (.n .tup (cutL xs lo hi))
  | .n .ro xs => some (.n (.lst true) (cutL xs lo hi))
  | .a (.str s) => if s.length ≤ sizeLine then some (.a (.str (cutStr s lo hi))) else none
  | _ => none
def partI : W → Option Int
  | .a (.int i) => some i
  | _ => none
def tyOf : W → Option String
  | .a .non => some "NoneType"
  | .a (.bl _) => some "bool"
  | .a (.int _) => some "int"
  | .a (.str _) => some "str"
  | .a _ => none
  | .n .tup _ => some "tuple"
  | .n (.lst _) _ => some "list"
  | .n (.dct _ _) _ => some "dict"
  | .n .ro _ => some "list"
def isTy (w : W) (t : Ty) : Option Bool := match w with
  | .a .dead => none
  | .a .opq => some false
  | .a .non => some false
  | .a (.bl _) => some (decide (t = .bool) || decide (t = .int))
  | .a (.int _) => some (decide (t = .int))
  | .a (.str _) => some (decide (t = .str))
  | .n .tup _ => some (decide (t = .tuple))
  | .n (.lst _) _ => some (decide (t = .list))
  | .n (.dct _ _) _ => some (decide (t = .dict))
  | .n .ro _ => none
def isTys (w : W) : List Ty → Option Bool
  | [] => some false
  | t :: ts => match isTy w t with
    | some true => some true
    | some false => isTys w ts
    | none => none
/-- a number or a truth, as a number -/
def zW : W → Option Int
  | .a (.int i) => some i
  | .a (.bl b) => some (b2z b)
  | _ => none
def addzW : W → W → Option Int
  | .a (.int i), .a (.int j) => some (i + j)
  | .a (.int i), .a (.bl b) => some (i + b2z b)
  | .a (.bl b), .a (.int j) => some (b2z b + j)
  | _, _ => none
/-- == with a text, an opaque thing too -/
def eqO (w : W) (s : Str) : Option Bool := match w with
  | .a .opq => some false
  | w => eqD w (.a (.str s))
def blW : W → Option Bool
  | .a (.bl b) => some b
  | _ => none
/-- what is met when a value is gone through -/
def itemsW : W → Option (List W)
  | .n (.lst _) xs => some xs
  | .n .tup xs => some xs
  | .n .ro xs => some xs
  | .a (.str s) => if s.length ≤ sizeLine then some (s.cps.toList.map fun c => .a (.str ⟨#[c]⟩)) else none
  | _ => none
def boolsW : List W → Option (List Bool)
  | [] => some []
  | .a (.bl b) :: r => (boolsW r).map (b :: ·)
  | _ => none
def intsW : List W → Option (List Int)
  | [] => some []
  | .a (.int i) :: r => (intsW r).map (i :: ·)
  | _ => none
def strsW : List W → Option (List Str)
  | [] => some []
  | .a (.str i) :: r => (strsW r).map (i :: ·)
  | _ => none
def distinct : List Str → List Str
  | [] => []
  | x :: r => if x ∈ r then distinct r else x :: distinct r
def keysS : List Key → Option (List Str)
  | [] => some []
  | .inr s :: r => (keysS r).map (s :: ·)
  | .inl _ :: _ => none
/-- in their order -/
def insS (s : Str) : List Str → List Str
  | [] => [s]
  | t :: r => if decide (t.cps.toList < s.cps.toList) then t :: insS s r else s :: t :: r
def sortS : List Str → List Str
  | [] => []
  | s :: r => insS s (sortS r)
def biW (b : Bi) (ws : List W) : Option W := match b, ws with
  | .len, [.n _ xs] => some (.a (.int xs.length))
  | .len, [.a (.str s)] => if s.length ≤ sizeLine then some (.a (.int s.length)) else none
  | .int, [.a (.int i)] => some (.a (.int i))
  | .int, [.a (.bl b)] => some (.a (.int (b2z b)))
  | .str, [.a (.int i)] => if i.natAbs.log2 < 1920 then some (.a (.str (toString i))) else none
  | .repr, [w] => (reprW w).map fun s => .a (.str s)
  | .list, [.n (.lst _) xs] => if fzL xs then some (.n (.lst true) xs) else none
  | .list, [.n .tup xs] => if fzL xs then some (.n (.lst true) xs) else none
  | .tuple, [.n (.lst _) xs] => if fzL xs then some (.n .tup xs) else none
  | .tuple, [.n .tup xs] => if fzL xs then some (.n .tup xs) else none
  | .all, [.n (.lst _) xs] => (boolsW xs).map fun bs => .a (.bl (bs.all id))
  | .any, [.n (.lst _) xs] => (boolsW xs).map fun bs => .a (.bl (bs.any id))
  | .abs, [.a (.int i)] => some (.a (.int (if i < 0 then -i else i)))
  | .sum, [.n (.lst _) xs] => (intsW xs).map fun is => .a (.int is.sum)
  | .max, [.a (.int i), .a (.int j)] => some (.a (.int (if j > i then j else i)))
  | .min, [.a (.int i), .a (.int j)] => some (.a (.int (if j < i then j else i)))
  | .lenset, [.n .tup xs] => (strsW xs).map fun ss => .a (.int (distinct ss).length)
  | .sorted, [.n (.dct _ ks) _] => match keysS ks with
    | some ss => if ss.length < 64 then some (.n (.lst true) ((sortS ss).map fun s => .a (.str s))) else none
    | none => none
  | _, _ => none
def mtOk (m : Mt) (o : W) : Bool := match m, o with
  | .upper, .a (.str _) => true
  | .split, .a (.str _) => true
  | .join, .a (.str _) => true
  | .get, .n (.dct _ _) _ => true
  | .upd, .n (.dct _ _) _ => true
  | .upper, _ => false
  | .split, _ => false
  | .join, _ => false
  | .get, _ => false
  | .upd, _ => false
  | _, .n (.lst _) _ => true
  | _, _ => false
def mtW (m : Mt) (o : W) (ws : List W) : Option (W × W) := match m, o, ws with
  | .append, .n (.lst true) xs, [y] => if xs.length < sizeLine then some (.a .non, .n (.lst true) (xs ++ [y])) else none
  | .extend, .n (.lst true) xs, [.n (.lst _) ys] => if xs.length + ys.length ≤ sizeLine then some (.a .non, .n (.lst true) (xs ++ frzL ys)) else none
  | .pop, .n (.lst true) xs, [] => match xs[xs.length - 1]? with
    | some y => some (y, .n (.lst true) xs.dropLast)
    | none => none
  | .popAt, .n (.lst true) xs, [.a (.int i)] => if 0 ≤ i ∧ i < 2 ^ 62 then match xs[i.toNat]? with
    | some y => some (y, .n (.lst true) (xs.eraseIdx i.toNat))
    | none => none else none
  | .insert, .n (.lst true) xs, [.a (.int i), y] => if 0 ≤ i ∧ i < 2 ^ 62 ∧ xs.length < sizeLine then some (.a .non, .n (.lst true) (xs.take i.toNat ++ [y] ++ xs.drop i.toNat)) else none
  | .clear, .n (.lst true) _, [] => some (.a .non, .n (.lst true) [])
  | .reverse, .n (.lst true) xs, [] => some (.a .non, .n (.lst true) xs.reverse)
  | .upper, .a (.str s), [] => if s.length ≤ 5592405 then some (.a (.str (Txt.upper s)), o) else none
  | .split, .a (.str s), [.a (.str t)] => if t.length ≠ 0 ∧ s.length + 2 ≤ sizeLine then some (.n (.lst true) ((Txt.split s t).map fun x => .a (.str x)), o) else none
  | .join, .a (.str s), [.n (.lst _) xs] => match strsW xs with
    | some ss => if (ss.map (·.length)).sum + ss.length * s.length ≤ 16777216 then some (.a (.str (Txt.join s ss)), o) else none
    | none => none
  | .get, .n (.dct b ks) xs, [y] => if fzL xs then match keyW y with
    | some k => some ((lookK k ks xs).getD (.a .non), .n (.dct b ks) xs)
    | none => none else none
  | .get, .n (.dct b ks) xs, [y, z] => if fzL xs && z.fz then match keyW y with
    | some k => some ((lookK k ks xs).getD z, .n (.dct b ks) xs)
    | none => none else none
  | .upd, .n (.dct true ks) xs, [.n (.dct _ ks') ys] => if (ks ++ ks').Nodup ∧ xs.length + ys.length ≤ sizeLine ∧ ks'.length = ys.length then some (.a .non, .n (.dct true (ks ++ ks')) (xs ++ frzL ys)) else none
  | _, _, _ => none
end Lin

set_option Elab.async false
set_option linter.all false
set_option maxRecDepth 100000
/-! Lin, part B: the evaluator. -/
namespace Lin
open PySem L2

abbrev Env := List W
/-- an operand: the thing at a slot, a new thing, a truth -/
inductive Od where
  | al (i : Nat) | tm (w : W) | bo (b : Bool)
/-- how it is asked for: as a value to be kept, as an operand, as a test -/
inductive Md where
  | val | opr | tst
def at? (ρ : Env) (i : Nat) : Option W := match ρ[i]? with
  | some w => if w.alive then some w else none
  | none => none
/-- what an operand is -/
def res (o : Od) (ρ : Env) : Option W := match o with
  | .al i => at? ρ i
  | .tm w => some w
  | .bo _ => none
/-- what an operand is, its inner things frozen: they may be copied -/
def resC (o : Od) (ρ : Env) : Option W := match o with
  | .al i => match at? ρ i with
    | some (.n k xs) => if fzL xs then some (.n k xs) else none
    | r => r
  | .tm w => some w.frzIn
  | .bo _ => none
def fin (md : Md) (w : W) (ρ : Env) : Option (Od × Env) := match md with
  | .tst => match tru w with
    | some b => some (.bo b, ρ)
    | none => none
  | _ => some (.tm w, ρ)
def tmv : Od → Option W
  | .tm w => some w
  | _ => none
def resL (os : List Od) (ρ : Env) : Option (List W) := match os with
  | [] => some []
  | o :: r => match resC o ρ, resL r ρ with
    | some w, some ws => some (w :: ws)
    | _, _ => none
/-- the arguments of a call: what is owned goes along -/
def takeA : List Od → Env → Option (List W × Env)
  | [], ρ => some ([], ρ)
  | .al i :: r, ρ => match at? ρ i with
    | none => none
    | some w => match takeA r (if w.fz then ρ else ρ.set i .dead) with
      | none => none
      | some (ws, ρ') => some (w :: ws, ρ')
  | .tm w :: r, ρ => match takeA r ρ with
    | none => none
    | some (ws, ρ') => some (w :: ws, ρ')
  | .bo _ :: _, _ => none
/-- .. and comes back -/
def putA : List Od → List W → Env → Env
  | .al i :: r, w :: ws, ρ => putA r ws (if (at? ρ i).isSome then ρ else ρ.set i w)
  | _ :: r, _ :: ws, ρ => putA r ws ρ
  | _, _, ρ => ρ
/-- the receiver, changed, goes back -/
def backO (o : Od) (w : W) (ρ : Env) : Env := match o with
  | .al i => ρ.set i w
  | _ => ρ
def setL : List Nat → List W → Env → Option Env
  | [], [], ρ => some ρ
  | i :: is, w :: ws, ρ => setL is ws (ρ.set i w)
  | _, _, _ => none
def bindT (t : Tg) (w : W) (ρ : Env) : Option Env := match t with
  | .nm i => some (ρ.set i w)
  | .tp is => match w with
    | .n .tup ws => setL is ws ρ
    | _ => none
def wipeW (ρ : Env) : List Nat → Env
  | [] => ρ
  | v :: vs => (wipeW ρ vs).set v .dead
def rngW (lo : Int) (n : Nat) : List W := (List.range n).map fun i => .a (.int (lo + (i : Nat)))
def okB (i : Int) : Bool := decide (-(2 ^ 62) ≤ i) && decide (i < 2 ^ 62)
/-- what a starred item brings -/
def starW : W → Option (List W)
  | .n (.lst _) xs => some xs
  | .n .tup xs => some xs
  | _ => none
/-- what a loop goes through -/
def srcW (s : Sr) (ws : List W) : Option (List W) := match s, ws with
  | .seq, [w] => itemsW w
  | .rng1, [.a (.int j)] => if okB j then some (rngW 0 j.toNat) else none
  | .rng2, [.a (.int i), .a (.int j)] => if okB i && okB j then some (rngW i (j - i).toNat) else none
  | .enum, [.n (.lst _) xs] => some ((List.range xs.length).zip xs |>.map fun p => .n .tup [.a (.int (p.1 : Nat)), p.2])
  | .zip, [.n (.lst _) xs, .n (.lst _) ys] => some ((xs.zip ys).map fun p => .n .tup [p.1, p.2])
  | .zip, [.n .tup xs, .n .tup ys] => some ((xs.zip ys).map fun p => .n .tup [p.1, p.2])
  | _, _ => none
/-- a comprehension's loop -/
def loopC (own : List Nat) (f : W → Env → Option (Option W × Env)) : List W → List W → Env → Option (List W × Env)
  | [], acc, ρ => some (acc, ρ)
  | w :: ws, acc, ρ => match f w ρ with
    | none => none
    | some (none, ρ') => loopC own f ws acc (wipeW ρ' own)
    | some (some x, ρ') => if acc.length < sizeLine then loopC own f ws (acc ++ [x]) (wipeW ρ' own) else none

section
variable (cl : Nat → List W → Option (List W × W))
mutual
def evm : Ex → Md → Env → Option (Od × Env)
  | .k x, md, ρ => if x.plain then fin md (.a x) ρ else none
  | .var i, md, ρ => match at? ρ i with
    | none => none
    | some w => match md with
      | .val => some (.tm w.frz, ρ.set i w.frz)
      | .opr => some (.al i, ρ)
      | .tst => fin .tst w ρ
  | .glob w, md, ρ => fin md w ρ
  | .bin op a b, md, ρ => match evm a .val ρ with
    | some (.tm x, ρ1) => match evm b .val ρ1 with
      | some (.tm y, ρ2) => match binW op x.frzIn y.frzIn with
        | some w => fin md w ρ2
        | none => none
      | _ => none
    | _ => none
  | .neg a, md, ρ => match evm a .val ρ with
    | some (.tm (.a (.int i)), ρ1) => fin md (.a (.int (-i))) ρ1
    | _ => none
  | .not a, md, ρ => match md with
    | .tst => match evm a .tst ρ with
      | some (.bo b, ρ1) => some (.bo !b, ρ1)
      | _ => none
    | _ => match evm a .opr ρ with
      | some (o, ρ1) => match res o ρ1 with
        | some w => match tru w with
          | some b => some (.tm (.a (.bl !b)), ρ1)
          | none => none
        | none => none
      | none => none
  | .and a b, md, ρ => match md with
    | .tst => match evm a .tst ρ with
      | some (.bo true, ρ1) => evm b .tst ρ1
      | some (.bo false, ρ1) => some (.bo false, ρ1)
      | _ => none
    | _ => match evm a .val ρ with
      | some (.tm w, ρ1) => match tru w with
        | some true => evm b .val ρ1
        | some false => some (.tm w, ρ1)
        | none => none
      | _ => none
  | .or a b, md, ρ => match md with
    | .tst => match evm a .tst ρ with
      | some (.bo true, ρ1) => some (.bo true, ρ1)
      | some (.bo false, ρ1) => evm b .tst ρ1
      | _ => none
    | _ => match evm a .val ρ with
      | some (.tm w, ρ1) => match tru w with
        | some true => some (.tm w, ρ1)
        | some false => evm b .val ρ1
        | none => none
      | _ => none
  | .cmp op a b, md, ρ => match evm a .opr ρ with
    | some (oa, ρ1) => match evm b .opr ρ1 with
      | some (ob, ρ2) => match res oa ρ2, res ob ρ2 with
        | some x, some y => match cmpW op x y with
          | some c => fin md (.a (.bl c)) ρ2
          | none => none
        | _, _ => none
      | none => none
    | none => none
  | .chain op op' a b c, md, ρ => match evm a .val ρ with
    | some (.tm (.a (.int x)), ρ1) => match evm b .val ρ1 with
      | some (.tm (.a (.int y)), ρ2) => match cmpI op x y with
        | some false => fin md (.a (.bl false)) ρ2
        | some true => match evm c .val ρ2 with
          | some (.tm (.a (.int z)), ρ3) => match cmpI op' y z with
            | some d => fin md (.a (.bl d)) ρ3
            | none => none
          | _ => none
        | none => none
      | _ => none
    | _ => none
  | .ite c a b, md, ρ => match md with
    | .tst => none
    | _ => match evm c .tst ρ with
      | some (.bo true, ρ1) => evm a .val ρ1
      | some (.bo false, ρ1) => evm b .val ρ1
      | _ => none
  | .sub a i, md, ρ => match evm a .opr ρ with
    | some (oa, ρ1) => match evm i .opr ρ1 with
      | some (oi, ρ2) => match resC oa ρ2, res oi ρ2 with
        | some x, some y => match subW x y with
          | some w => fin md w ρ2
          | none => none
        | _, _ => none
      | none => none
    | none => none
  | .slice a lo hi, md, ρ => match evm a .opr ρ with
    | some (oa, ρ1) => match evO lo ρ1 with
      | some (l, ρ2) => match evO hi ρ2 with
        | some (h, ρ3) => match resC oa ρ3 with
          | some x => match sliceW x l h with
            | some w => fin md w ρ3
            | none => none
          | none => none
        | none => none
      | none => none
    | none => none
  | .tup es, md, ρ => match evL es ρ with
    | some (ws, ρ1) => if ws.length ≤ sizeLine then fin md (.n .tup ws) ρ1 else none
    | none => none
  | .lst es, md, ρ => match evL es ρ with
    | some (ws, ρ1) => if ws.length ≤ sizeLine then fin md (.n (.lst true) ws) ρ1 else none
    | none => none
  | .star _, _, _ => none
  | .dct ks es, md, ρ => match evL es ρ with
    | some (ws, ρ1) => if ks.length = ws.length ∧ ks.Nodup ∧ ks.length ≤ 15 then fin md (.n (.dct true ks) ws) ρ1 else none
    | none => none
  | .comp elt t s src test own, md, ρ => match evL src ρ with
    | none => none
    | some (ws, ρ1) => match srcW s (frzL ws) with
      | none => none
      | some items => match loopC own (fun w ρ => match bindT t w ρ with
          | none => none
          | some ρ2 => match evT test ρ2 with
            | none => none
            | some (false, ρ3) => some (none, ρ3)
            | some (true, ρ3) => match evm elt .val ρ3 with
              | some (.tm x, ρ4) => some (some x, ρ4)
              | _ => none) items [] (wipeW ρ1 own) with
        | none => none
        | some (acc, ρ5) => fin md (.n (.lst true) acc) (wipeW ρ5 own)
  | .call f es, md, ρ => match opL es ρ with
    | none => none
    | some (os, ρ1) => match takeA os ρ1 with
      | none => none
      | some (ws, ρ2) => match cl f ws with
        | none => none
        | some (ws', r) => fin md r (putA os ws' ρ2)
  | .bi b es, md, ρ => match opL es ρ with
    | none => none
    | some (os, ρ1) => match resL os ρ1 with
      | none => none
      | some ws => match biW b ws with
        | some w => fin md w ρ1
        | none => none
  | .isi a tys, md, ρ => match evm a .opr ρ with
    | some (o, ρ1) => match res o ρ1 with
      | some w => match isTys w tys with
        | some b => fin md (.a (.bl b)) ρ1
        | none => none
      | none => none
    | none => none
  | .meth m o es, md, ρ => match evm o .opr ρ with
    | some (od, ρ1) => match res od ρ1 with
      | some w0 => if mtOk m w0 then match evL es ρ1 with
        | some (ws, ρ2) => match res od ρ2 with
          | some w => match mtW m w ws with
            | some (r, w') => fin md r (backO od w' ρ2)
            | none => none
          | none => none
        | none => none
        else none
      | none => none
    | none => none
  | .opq, md, ρ => match md with
    | .tst => none
    | _ => some (.tm (.a .opq), ρ)
  | .frz a, md, ρ => match evm a .val ρ with
    | some (.tm w, ρ1) => fin md w.frz ρ1
    | _ => none
  | .addz a b, md, ρ => match evm a .val ρ with
    | some (.tm x, ρ1) => match evm b .val ρ1 with
      | some (.tm y, ρ2) => match addzW x y with
        | some z => fin md (.a (.int z)) ρ2
        | none => none
      | _ => none
    | _ => none
  | .negz a, md, ρ => match evm a .val ρ with
    | some (.tm x, ρ1) => match zW x with
      | some z => fin md (.a (.int (-z))) ρ1
      | none => none
    | _ => none
  | .eqs a s, md, ρ => match evm a .opr ρ with
    | some (o, ρ1) => match res o ρ1 with
      | some w => match eqO w s with
        | some b => fin md (.a (.bl b)) ρ1
        | none => none
      | none => none
    | none => none
  | .dcs ks vs, md, ρ => if ks.length = vs.length ∧ ks.Nodup then fin md (.n (.dct true (ks.map .inr)) (vs.map fun s => .a (.str s))) ρ else none
  | .inK no a ks, md, ρ => match evm a .opr ρ with
    | some (o, ρ1) => match res o ρ1 with
      | some (.a (.str s)) => fin md (.a (.bl (decide (s ∈ ks) != no))) ρ1
      | _ => none
    | none => none
  | .subK a ks ws, md, ρ => match evm a .opr ρ with
    | some (o, ρ1) => match res o ρ1 with
      | some (.a (.str s)) => match lookK (.inr s) (ks.map .inr) ws with
        | some w => fin md w ρ1
        | none => none
      | _ => none
    | none => none
  | .tupK ks, md, ρ => fin md (.n .tup (ks.map fun s => .a (.str s))) ρ
  | .isb no a b, md, ρ => match evm a .val ρ with
    | some (.tm x, ρ1) => match evm b .val ρ1 with
      | some (.tm y, ρ2) => match blW x, blW y with
        | some p, some q => fin md (.a (.bl ((p == q) != no))) ρ2
        | _, _ => none
      | _ => none
    | _ => none
/-- items, from the left, as values -/
def evL : List Ex → Env → Option (List W × Env)
  | [], ρ => some ([], ρ)
  | .star e :: es, ρ => match evm e .val ρ with
    | some (.tm w, ρ1) => match starW w.frz with
      | some xs => match evL es ρ1 with
        | some (ws, ρ2) => some (xs ++ ws, ρ2)
        | none => none
      | none => none
    | _ => none
  | e :: es, ρ => match evm e .val ρ with
    | some (.tm w, ρ1) => match evL es ρ1 with
      | some (ws, ρ2) => some (w :: ws, ρ2)
      | none => none
    | _ => none
def evO : Option Ex → Env → Option (Option Int × Env)
  | none, ρ => some (none, ρ)
  | some e, ρ => match evm e .val ρ with
    | some (.tm (.a (.int i)), ρ1) => some (some i, ρ1)
    | _ => none
def evT : Option Ex → Env → Option (Bool × Env)
  | none, ρ => some (true, ρ)
  | some e, ρ => match evm e .tst ρ with
    | some (.bo b, ρ1) => some (b, ρ1)
    | _ => none
def opL : List Ex → Env → Option (List Od × Env)
  | [], ρ => some ([], ρ)
  | e :: es, ρ => match evm e .opr ρ with
    | some (o, ρ1) => match opL es ρ1 with
      | some (os, ρ2) => some (o :: os, ρ2)
      | none => none
    | none => none
end

/-- how a statement ends -/
inductive Out where
  | nx | rt (w : W) | bk | ct
def loopF (f : W → Env → Option (Out × Env)) : List W → Env → Option (Out × Env)
  | [], ρ => some (.nx, ρ)
  | w :: ws, ρ => match f w ρ with
    | none => none
    | some (.nx, ρ') => loopF f ws ρ'
    | some (.ct, ρ') => loopF f ws ρ'
    | some (.bk, ρ') => some (.nx, ρ')
    | some (.rt r, ρ') => some (.rt r, ρ')
def loopW (c : Env → Option (Bool × Env)) (f : Env → Option (Out × Env)) : Nat → Env → Option (Out × Env)
  | 0, _ => none
  | n + 1, ρ => match c ρ with
    | none => none
    | some (false, ρ1) => some (.nx, ρ1)
    | some (true, ρ1) => match f ρ1 with
      | none => none
      | some (.nx, ρ') => loopW c f n ρ'
      | some (.ct, ρ') => loopW c f n ρ'
      | some (.bk, ρ') => some (.nx, ρ')
      | some (.rt r, ρ') => some (.rt r, ρ')
def setIx (w i y : W) : Option W := match w, i with
  | .n (.lst true) xs, .a (.int k) => match ixN xs.length k with
    | some j => some (.n (.lst true) (xs.set j y))
    | none => none
  | _, _ => none
mutual
def exm : Sm → Env → Option (Out × Env)
  | .set t e, ρ => match evm cl e .val ρ with
    | some (.tm w, ρ1) => match bindT t w ρ1 with
      | some ρ2 => some (.nx, ρ2)
      | none => none
    | _ => none
  | .setS i ix e, ρ => match evm cl e .val ρ with
    | some (.tm y, ρ1) => match at? ρ1 i with
      | none => none
      | some _ => match evm cl ix .val ρ1 with
        | some (.tm k, ρ2) => match at? ρ2 i with
          | none => none
          | some w => match setIx w k y with
            | some w' => some (.nx, ρ2.set i w')
            | none => none
        | _ => none
    | _ => none
  | .augS i op ix e, ρ => match at? ρ i with
    | none => none
    | some _ => match evm cl ix .val ρ with
      | some (.tm (.a (.int k)), ρ1) => match at? ρ1 i with
        | some (.n (.lst true) xs) => match (if 0 ≤ k then atI xs k else none) with
          | some (.a (.int x)) => match evm cl e .val ρ1 with
            | some (.tm (.a (.int y)), ρ2) => match binI op x y, at? ρ2 i with
              | some z, some w => match setIx w (.a (.int k)) (.a (.int z)) with
                | some w' => some (.nx, ρ2.set i w')
                | none => none
              | _, _ => none
            | _ => none
          | _ => none
        | _ => none
      | _ => none
  | .aug i op e, ρ => match at? ρ i with
    | some (.a (.int x)) => match evm cl e .val ρ with
      | some (.tm (.a (.int y)), ρ1) => match binI op x y with
        | some z => some (.nx, ρ1.set i (.a (.int z)))
        | none => none
      | _ => none
    | _ => none
  | .ex e, ρ => match evm cl e .val ρ with
    | some (_, ρ1) => some (.nx, ρ1)
    | none => none
  | .ret e, ρ => match evm cl e .val ρ with
    | some (.tm w, ρ1) => some (.rt w, ρ1)
    | _ => none
  | .retm i, ρ => match at? ρ i with
    | some w => some (.rt w, ρ.set i .dead)
    | none => none
  | .ife c a b, ρ => match evm cl c .tst ρ with
    | some (.bo true, ρ1) => exs a ρ1
    | some (.bo false, ρ1) => exs b ρ1
    | _ => none
  | .for t s src body, ρ => match evL cl src ρ with
    | none => none
    | some (ws, ρ1) => match srcW s (frzL ws) with
      | none => none
      | some items => loopF (fun w ρ => match bindT t w ρ with
          | none => none
          | some ρ2 => exs body ρ2) items ρ1
  | .whl k c body, ρ => loopW (fun ρ => match evm cl c .tst ρ with
      | some (.bo b, ρ1) => some (b, ρ1)
      | _ => none) (fun ρ => exs body ρ) k ρ
  | .brk, ρ => some (.bk, ρ)
  | .cnt, ρ => some (.ct, ρ)
  | .pass, ρ => some (.nx, ρ)
def exs : List Sm → Env → Option (Out × Env)
  | [], ρ => some (.nx, ρ)
  | s :: ss, ρ => match exm s ρ with
    | none => none
    | some (.nx, ρ1) => exs ss ρ1
    | r => r
end
end

structure Fn where
  np : Nat
  ns : Nat
  keep : List Nat
  body : List Sm
/-- what the parameters that P tells come back as -/
def bk : (Nat → Bool) → Nat → Env → List W
  | _, 0, _ => []
  | P, n + 1, [] => .a .dead :: bk (fun i => P (i + 1)) n []
  | P, n + 1, w :: ρ => (if P 0 then w else .a .dead) :: bk (fun i => P (i + 1)) n ρ
def backs (np : Nat) (keep : List Nat) (ρ : Env) : List W := bk (fun i => decide (i ∈ keep)) np ρ
def run (tab : List Fn) : Nat → Nat → List W → Option (List W × W)
  | 0, _, _ => none
  | n + 1, f, ws => match tab[f]? with
    | none => none
    | some F => if ws.length = F.np ∧ F.np ≤ F.ns then match exs (run tab n) F.body (ws ++ List.replicate (F.ns - F.np) .dead) with
        | some (.nx, ρ) => some (backs F.np F.keep ρ, .a .non)
        | some (.rt w, ρ) => some (backs F.np F.keep ρ, w)
        | _ => none
      else none
end Lin

set_option Elab.async false
set_option linter.all false
set_option maxRecDepth 100000
/-! Lin, part C: how values lie in the heap; the world of a running def. -/
namespace Lin
open PySem L2

/-- a dict of ints and texts to be read: tracked -/
def SqD (H : Hp) (a : Addr) (kvs : List (Key × V)) : Prop := H a = some (.dK kvs)
/-- a class whose instances are data that nobody looks into -/
structure OpqC (K : PySem.W.Frag) (C : Addr) : Prop where
  cl : Cls K C
  ha : PySem.W.findIn K (.ref C) "__class__" = some (some (.builtin "object.__class__"))
  hn : PySem.W.specialIn K (.builtin "object.__class__") "__get__" = some (some (.builtin "getset_descriptor.__get__"))
  htk : PySem.W.takesIn K (.builtin "object.__class__") = some true
  hm : PySem.W.mroIn K C (.type "object") = some true
  no : ∀ t : Ty, PySem.W.kitOne K (.ref C) (.type t.name) = some false
  nm : PySem.W.nsIn K mainGlobals "Heap" = some (some (.ref C))
def RepA (K : PySem.W.Frag) (F : Hp) (x : At) (v : V) : Prop := match x with
  | .non => v = .non
  | .bl b => v = .bl b
  | .int i => v = .int i
  | .str s => v = .str s
  | .opq => ∃ a C dx fs, v = .ref a ∧ F a = some (.ins C dx fs) ∧ OpqC K C
  | .dead => True
/-- the object of a node -/
def RepK (K : PySem.W.Frag) (F H : Hp) (k : Kd) (a : Addr) (vs : List V) (fp g : List Addr) : Prop := match k with
  | .tup => SqT K F a vs ∧ fp = g
  | .ro => SqL K F a vs ∧ fp = g
  | .lst false => F a = some (.lst vs) ∧ fp = g
  | .lst true => H a = some (.lst vs) ∧ fp = a :: g
  | .dct false ks => SqD F a (ks.zip vs) ∧ ks.length = vs.length ∧ fp = g
  | .dct true ks => H a = some (.dK (ks.zip vs)) ∧ ks.length = vs.length ∧ fp = a :: g
section
variable (K : PySem.W.Frag) (F H : Hp)
mutual
/-- v lies as the tree w; fp: what is owned in it -/
def Rep : W → V → List Addr → Prop
  | .a x, v, fp => RepA K F x v ∧ fp = []
  | .n k xs, v, fp => ∃ (a : Addr) (vs : List V) (g : List Addr), v = .ref a ∧ RepL xs vs g ∧ RepK K F H k a vs fp g
def RepL : List W → List V → List Addr → Prop
  | [], vs, fp => vs = [] ∧ fp = []
  | x :: xs, vs, fp => ∃ (v : V) (vs' : List V) (g g' : List Addr), vs = v :: vs' ∧ fp = g ++ g' ∧ Rep x v g ∧ RepL xs vs' g'
end
end
section
variable {K : PySem.W.Frag} {F F' H H' : Hp}

theorem Same.sqT {H H' : Hp} {a : Addr} {xs : List V} (e : Same H H') (h : SqT K H a xs) : SqT K H' a xs := by
  rcases h with (h | ⟨o, h⟩) | h
  · exact .inl (.inl (e _ _ h))
  · exact .inl (.inr ⟨o, e _ _ h⟩)
  · exact .inr h
theorem RepA.mono {x : At} {v : V} (s : Same F F') (r : RepA K F x v) : RepA K F' x v := by
  cases x with
  | opq => obtain ⟨a, C, dx, fs, e, h, c⟩ := r; exact ⟨a, C, dx, fs, e, s _ _ h, c⟩
  | _ => exact r
theorem RepK.mono {k : Kd} {a : Addr} {vs : List V} {fp g : List Addr} (s : Same F F') (h : ∀ b ∈ fp, H b = H' b) (r : RepK K F H k a vs fp g) : RepK K F' H' k a vs fp g := by
  cases k with
  | tup => exact ⟨Same.sqT s r.1, r.2⟩
  | ro => exact ⟨s.seq r.1, r.2⟩
  | lst m =>
    cases m with
    | false => exact ⟨s _ _ r.1, r.2⟩
    | true =>
      obtain ⟨r1, r2⟩ := r
      refine ⟨?_, r2⟩
      rw [← h a (by rw [r2]; exact List.mem_cons_self)]; exact r1
  | dct m ks =>
    cases m with
    | false => exact ⟨s _ _ r.1, r.2⟩
    | true =>
      obtain ⟨r1, r2, r3⟩ := r
      refine ⟨?_, r2, r3⟩
      rw [← h a (by rw [r3]; exact List.mem_cons_self)]; exact r1
theorem RepK.sub {k : Kd} {a : Addr} {vs : List V} {fp g : List Addr} (r : RepK K F H k a vs fp g) : ∀ b ∈ g, b ∈ fp := fun b hb => by
  cases k with
  | tup => rw [r.2]; exact hb
  | ro => rw [r.2]; exact hb
  | lst m =>
    cases m with
    | false => rw [r.2]; exact hb
    | true => rw [r.2]; exact List.mem_cons_of_mem _ hb
  | dct m ks =>
    cases m with
    | false => rw [r.2.2]; exact hb
    | true => rw [r.2.2]; exact List.mem_cons_of_mem _ hb
mutual
theorem Rep.mono : ∀ (w : W) {v : V} {fp : List Addr}, Same F F' → (∀ b ∈ fp, H b = H' b) → Rep K F H w v fp → Rep K F' H' w v fp
  | .a x, v, fp, s, h, r => ⟨RepA.mono s r.1, r.2⟩
  | .n k xs, v, fp, s, h, r => by
    obtain ⟨a, vs, g, e, r1, r2⟩ := r
    exact ⟨a, vs, g, e, RepL.mono xs s (fun b hb => h b (r2.sub b hb)) r1, r2.mono s h⟩
theorem RepL.mono : ∀ (ws : List W) {vs : List V} {fp : List Addr}, Same F F' → (∀ b ∈ fp, H b = H' b) → RepL K F H ws vs fp → RepL K F' H' ws vs fp
  | [], vs, fp, s, h, r => r
  | x :: xs, vs, fp, s, h, r => by
    obtain ⟨v, vs', g, g', e1, e2, r1, r2⟩ := r
    exact ⟨v, vs', g, g', e1, e2, Rep.mono x s (fun b hb => h b (by rw [e2]; exact List.mem_append_left _ hb)) r1, RepL.mono xs s (fun b hb => h b (by rw [e2]; exact List.mem_append_right _ hb)) r2⟩
end
mutual
/-- frozen: what it owned is in the frozen part now -/
theorem Rep.frz : ∀ (w : W) {v : V} {fp : List Addr}, Same F F' → (∀ b ∈ fp, F' b = H b) → Rep K F H w v fp → Rep K F' H' w.frz v []
  | .a x, v, fp, s, h, r => ⟨RepA.mono s r.1, rfl⟩
  | .n k xs, v, fp, s, h, r => by
    obtain ⟨a, vs, g, e, r1, r2⟩ := r
    refine ⟨a, vs, [], e, RepL.frz xs s (fun b hb => h b (r2.sub b hb)) r1, ?_⟩
    cases k with
    | tup => exact ⟨Same.sqT s r2.1, rfl⟩
    | ro => exact ⟨s.seq r2.1, rfl⟩
    | lst m =>
      cases m with
      | false => exact ⟨s _ _ r2.1, rfl⟩
      | true => exact ⟨(h a (by rw [r2.2]; exact List.mem_cons_self)).trans r2.1, rfl⟩
    | dct m ks =>
      cases m with
      | false => exact ⟨s _ _ r2.1, r2.2.1, rfl⟩
      | true => exact ⟨(h a (by rw [r2.2.2]; exact List.mem_cons_self)).trans r2.1, r2.2.1, rfl⟩
theorem RepL.frz : ∀ (ws : List W) {vs : List V} {fp : List Addr}, Same F F' → (∀ b ∈ fp, F' b = H b) → RepL K F H ws vs fp → RepL K F' H' (frzL ws) vs []
  | [], vs, fp, s, h, r => ⟨r.1, rfl⟩
  | x :: xs, vs, fp, s, h, r => by
    obtain ⟨v, vs', g, g', e1, e2, r1, r2⟩ := r
    exact ⟨v, vs', [], [], e1, rfl, Rep.frz x s (fun b hb => h b (by rw [e2]; exact List.mem_append_left _ hb)) r1, RepL.frz xs s (fun b hb => h b (by rw [e2]; exact List.mem_append_right _ hb)) r2⟩
end
mutual
theorem Rep.fz : ∀ (w : W) {v : V} {fp : List Addr}, w.fz = true → Rep K F H w v fp → fp = []
  | .a x, v, fp, s, r => r.2
  | .n k xs, v, fp, s, r => by
    obtain ⟨a, vs, g, e, r1, r2⟩ := r
    simp only [W.fz, Bool.and_eq_true] at s
    have hg := RepL.fz xs s.2 r1
    cases k with
    | tup => rw [r2.2, hg]
    | ro => rw [r2.2, hg]
    | lst m =>
      cases m with
      | false => rw [r2.2, hg]
      | true => exact absurd s.1 (by decide)
    | dct m ks =>
      cases m with
      | false => rw [r2.2.2, hg]
      | true => exact absurd s.1 (by simp [Kd.fz])
theorem RepL.fz : ∀ (ws : List W) {vs : List V} {fp : List Addr}, fzL ws = true → RepL K F H ws vs fp → fp = []
  | [], vs, fp, s, r => r.2
  | x :: xs, vs, fp, s, r => by
    obtain ⟨v, vs', g, g', e1, e2, r1, r2⟩ := r
    simp only [fzL, Bool.and_eq_true] at s
    rw [e2, Rep.fz x s.1 r1, RepL.fz xs s.2 r2]; rfl
end
mutual
theorem W.fz_frz : ∀ w : W, w.frz.fz = true
  | .a x => rfl
  | .n k xs => by
    simp only [W.frz, W.fz, fzL_frzL xs, Bool.and_true]
    cases k <;> rfl
theorem fzL_frzL : ∀ ws : List W, fzL (frzL ws) = true
  | [] => rfl
  | x :: xs => by simp only [frzL, fzL, W.fz_frz x, fzL_frzL xs, Bool.and_self]
end
mutual
theorem W.frz_fz : ∀ w : W, w.fz = true → w.frz = w
  | .a x, _ => rfl
  | .n k xs, h => by
    simp only [W.fz, Bool.and_eq_true] at h
    simp only [W.frz, frzL_fz xs h.2]
    cases k with
    | tup => rfl
    | ro => rfl
    | lst m => cases m with
      | false => rfl
      | true => exact absurd h.1 (by decide)
    | dct m ks => cases m with
      | false => rfl
      | true => exact absurd h.1 (by simp [Kd.fz])
theorem frzL_fz : ∀ ws : List W, fzL ws = true → frzL ws = ws
  | [], _ => rfl
  | x :: xs, h => by
    simp only [fzL, Bool.and_eq_true] at h
    simp only [frzL, W.frz_fz x h.1, frzL_fz xs h.2]
end
theorem RepL.length : ∀ (ws : List W) {vs : List V} {fp : List Addr}, RepL K F H ws vs fp → vs.length = ws.length
  | [], vs, fp, r => by rw [r.1]; rfl
  | x :: xs, vs, fp, r => by
    obtain ⟨v, vs', g, g', e1, e2, r1, r2⟩ := r
    rw [e1, List.length_cons, List.length_cons, RepL.length xs r2]
mutual
/-- what is owned stands in the heap -/
theorem Rep.there : ∀ (w : W) {v : V} {fp : List Addr}, Rep K F H w v fp → ∀ b ∈ fp, ∃ o, H b = some o ∧ Mut (some o)
  | .a x, v, fp, r, b, hb => by rw [r.2] at hb; cases hb
  | .n k xs, v, fp, r, b, hb => by
    obtain ⟨a, vs, g, e, r1, r2⟩ := r
    have ih' := RepL.there xs r1
    cases k with
    | tup => rw [r2.2] at hb; exact ih' b hb
    | ro => rw [r2.2] at hb; exact ih' b hb
    | lst m =>
      cases m with
      | false => rw [r2.2] at hb; exact ih' b hb
      | true =>
        rw [r2.2] at hb
        rcases List.mem_cons.mp hb with rfl | hb
        · exact ⟨_, r2.1, trivial⟩
        · exact ih' b hb
    | dct m ks =>
      cases m with
      | false => rw [r2.2.2] at hb; exact ih' b hb
      | true =>
        rw [r2.2.2] at hb
        rcases List.mem_cons.mp hb with rfl | hb
        · exact ⟨_, r2.1, trivial⟩
        · exact ih' b hb
theorem RepL.there : ∀ (ws : List W) {vs : List V} {fp : List Addr}, RepL K F H ws vs fp → ∀ b ∈ fp, ∃ o, H b = some o ∧ Mut (some o)
  | [], vs, fp, r, b, hb => by rw [r.2] at hb; cases hb
  | x :: xs, vs, fp, r, b, hb => by
    obtain ⟨v, vs', g, g', e1, e2, r1, r2⟩ := r
    rw [e2] at hb
    rcases List.mem_append.mp hb with hb | hb
    · exact Rep.there x r1 b hb
    · exact RepL.there xs r2 b hb
end
end

/-! ### the world -/
abbrev Pr := Option V × W
section
variable (K : PySem.W.Frag) (F H : Hp)
def RepP (p : Pr) (fp : List Addr) : Prop := match p with
  | (some v, w) => Rep K F H w v fp
  | (none, w) => w = .a .dead ∧ fp = []
def RepPs : List Pr → List Addr → Prop
  | [], fp => fp = []
  | p :: ps, fp => ∃ g g', fp = g ++ g' ∧ RepP K F H p g ∧ RepPs ps g'
structure Wd (L : List Pr) : Prop where
  ex : ∃ fp, RepPs K F H L fp ∧ fp.Nodup ∧ ∀ b ∈ fp, F b = none
  same : Same F H
end
section
variable {K : PySem.W.Frag} {F F' H H' : Hp} {L L' : List Pr}

theorem RepP.mono {p : Pr} {fp : List Addr} (s : Same F F') (h : ∀ b ∈ fp, H b = H' b) (r : RepP K F H p fp) : RepP K F' H' p fp := by
  obtain ⟨o, w⟩ := p
  cases o with
  | none => exact r
  | some v => exact Rep.mono w s h r
theorem RepPs.mono : ∀ (L : List Pr) {fp : List Addr}, Same F F' → (∀ b ∈ fp, H b = H' b) → RepPs K F H L fp → RepPs K F' H' L fp
  | [], fp, s, h, r => r
  | p :: ps, fp, s, h, r => by
    obtain ⟨g, g', e, r1, r2⟩ := r
    exact ⟨g, g', e, r1.mono s (fun b hb => h b (by rw [e]; exact List.mem_append_left _ hb)), RepPs.mono ps s (fun b hb => h b (by rw [e]; exact List.mem_append_right _ hb)) r2⟩
theorem RepP.there {p : Pr} {fp : List Addr} (r : RepP K F H p fp) : ∀ b ∈ fp, ∃ o, H b = some o ∧ Mut (some o) := by
  obtain ⟨o, w⟩ := p
  cases o with
  | none => intro b hb; rw [r.2] at hb; cases hb
  | some v => exact Rep.there w r
theorem RepPs.there : ∀ (L : List Pr) {fp : List Addr}, RepPs K F H L fp → ∀ b ∈ fp, ∃ o, H b = some o ∧ Mut (some o)
  | [], fp, r, b, hb => by rw [show fp = [] from r] at hb; cases hb
  | p :: ps, fp, r, b, hb => by
    obtain ⟨g, g', e, r1, r2⟩ := r
    rw [e] at hb
    rcases List.mem_append.mp hb with hb | hb
    · exact r1.there b hb
    · exact RepPs.there ps r2 b hb
theorem RepPs.append : ∀ (L L' : List Pr) {fp fp' : List Addr}, RepPs K F H L fp → RepPs K F H L' fp' → RepPs K F H (L ++ L') (fp ++ fp')
  | [], L', fp, fp', r, r' => by rw [show fp = [] from r]; exact r'
  | p :: ps, L', fp, fp', r, r' => by
    obtain ⟨g, g', e, r1, r2⟩ := r
    exact ⟨g, g' ++ fp', by rw [e, List.append_assoc], r1, RepPs.append ps L' r2 r'⟩
theorem RepPs.split : ∀ (L L' : List Pr) {fp : List Addr}, RepPs K F H (L ++ L') fp → ∃ g g', fp = g ++ g' ∧ RepPs K F H L g ∧ RepPs K F H L' g'
  | [], L', fp, r => ⟨[], fp, rfl, rfl, r⟩
  | p :: ps, L', fp, r => by
    obtain ⟨g, g', e, r1, r2⟩ := r
    obtain ⟨h, h', e2, r3, r4⟩ := RepPs.split ps L' r2
    exact ⟨g ++ h, h', by rw [e, e2, List.append_assoc], ⟨g, h, rfl, r1, r3⟩, r4⟩
theorem RepPs.perm : ∀ {L L' : List Pr}, L.Perm L' → ∀ {fp : List Addr}, RepPs K F H L fp → ∃ fp', fp.Perm fp' ∧ RepPs K F H L' fp' := by
  intro L L' p
  induction p with
  | nil => intro fp r; exact ⟨fp, .refl _, r⟩
  | cons x _ ih =>
    intro fp r
    obtain ⟨g, g', e, r1, r2⟩ := r
    obtain ⟨h, p', r3⟩ := ih r2
    exact ⟨g ++ h, by rw [e]; exact p'.append_left g, g, h, rfl, r1, r3⟩
  | swap x y l =>
    intro fp r
    obtain ⟨g, g', e, r1, h, h', e2, r2, r3⟩ := r
    exact ⟨h ++ (g ++ h'), by rw [e, e2]; exact (List.perm_append_comm_assoc g h h'), h, g ++ h', rfl, r2, g, h', rfl, r1, r3⟩
  | trans _ _ i1 i2 =>
    intro fp r
    obtain ⟨f1, p1, r1⟩ := i1 r
    obtain ⟨f2, p2, r2⟩ := i2 r1
    exact ⟨f2, p1.trans p2, r2⟩

theorem Wd.perm (p : L.Perm L') (w : Wd K F H L) : Wd K F H L' := by
  obtain ⟨⟨fp, r, n, d⟩, s⟩ := w
  obtain ⟨fp', p', r'⟩ := r.perm p
  exact ⟨⟨fp', r', p'.nodup n, fun b hb => d b (p'.mem_iff.mpr hb)⟩, s⟩
/-- left out -/
theorem Wd.left (w : Wd K F H (L ++ L')) : Wd K F H L := by
  obtain ⟨⟨fp, r, n, d⟩, s⟩ := w
  obtain ⟨g, g', e, r1, r2⟩ := r.split
  subst e
  exact ⟨⟨g, r1, (List.nodup_append.mp n).1, fun b hb => d b (List.mem_append_left _ hb)⟩, s⟩
theorem Wd.right (w : Wd K F H (L ++ L')) : Wd K F H L' := by
  obtain ⟨⟨fp, r, n, d⟩, s⟩ := w
  obtain ⟨g, g', e, r1, r2⟩ := r.split
  subst e
  exact ⟨⟨g', r2, (List.nodup_append.mp n).2.1, fun b hb => d b (List.mem_append_right _ hb)⟩, s⟩
theorem Wd.tail {p : Pr} (w : Wd K F H (p :: L)) : Wd K F H L := Wd.right (L := [p]) w
/-- what lies as a tree, to be read -/
theorem Wd.rep {v : V} {w : W} (wd : Wd K F H L) (m : (some v, w) ∈ L) : ∃ fp, Rep K F H w v fp := by
  obtain ⟨⟨fp, r, _, _⟩, _⟩ := wd
  have go : ∀ (L : List Pr) (fp : List Addr), RepPs K F H L fp → (some v, w) ∈ L → ∃ fp, Rep K F H w v fp := by
    intro L
    induction L with
    | nil => intro _ _ m; cases m
    | cons p ps ih =>
      intro fp r m
      obtain ⟨g, g', e, r1, r2⟩ := r
      rcases List.mem_cons.mp m with e | m
      · subst e; exact ⟨g, r1⟩
      · exact ih _ r2 m
  exact go L fp r m
/-- all that is owned is kept -/
theorem Wd.same' (w : Wd K F H L) (s : Same H H') : Wd K F H' L := by
  obtain ⟨⟨fp, r, n, d⟩, s0⟩ := w
  refine ⟨⟨fp, r.mono L (Same.refl _) fun b hb => ?_, n, d⟩, s0.trans s⟩
  obtain ⟨o, h, _⟩ := r.there L b hb
  rw [h, s b o h]
/-- a frozen thing beside -/
theorem Wd.add {v : V} {w : W} (wd : Wd K F H L) (r : Rep K F H w v []) : Wd K F H ((some v, w) :: L) := by
  obtain ⟨⟨fp, r0, n, d⟩, s⟩ := wd
  exact ⟨⟨fp, ⟨[], fp, rfl, r, r0⟩, n, d⟩, s⟩
theorem Wd.addDead {o : Option V} (wd : Wd K F H L) : Wd K F H ((o, .a .dead) :: L) := by
  obtain ⟨⟨fp, r0, n, d⟩, s⟩ := wd
  refine ⟨⟨fp, ⟨[], fp, rfl, ?_, r0⟩, n, d⟩, s⟩
  cases o with
  | none => exact ⟨rfl, rfl⟩
  | some v => exact ⟨trivial, rfl⟩
/-- the first thing is frozen -/
theorem Wd.frz {v : V} {w : W} (wd : Wd K F H ((some v, w) :: L)) : ∃ F', Same F F' ∧ Wd K F' H ((some v, w.frz) :: L) ∧ Rep K F' H w.frz v [] := by
  obtain ⟨⟨fp, ⟨g, g', e, r1, r2⟩, n, d⟩, s⟩ := wd
  subst e
  have r1 : Rep K F H w v g := r1
  have hF : Same F (fun b => if b ∈ g then H b else F b) := fun b o h => by
    show (if b ∈ g then H b else F b) = some o
    by_cases hb : b ∈ g
    · rw [d b (List.mem_append_left _ hb)] at h; cases h
    · rw [if_neg hb]; exact h
  have rf : Rep K (fun b => if b ∈ g then H b else F b) H w.frz v [] := Rep.frz w hF (fun b hb => if_pos hb) r1
  refine ⟨_, hF, ⟨⟨g', ⟨[], g', rfl, rf, RepPs.mono L hF (fun _ _ => rfl) r2⟩, (List.nodup_append.mp n).2.1, fun b hb => ?_⟩, fun b o h => ?_⟩, rf⟩
  · show (if b ∈ g then H b else F b) = none
    rw [if_neg fun hg => (List.nodup_append.mp n).2.2 b hg b hb rfl]
    exact d b (List.mem_append_right _ hb)
  · have h : (if b ∈ g then H b else F b) = some o := h
    by_cases hb : b ∈ g
    · rw [if_pos hb] at h; exact h
    · rw [if_neg hb] at h; exact s b o h
theorem Wd.free (wd : Wd K F H L) {p : Addr} (h : H p = none) : F p = none := by
  cases e : F p with
  | none => rfl
  | some o => rw [wd.same p o e] at h; cases h
end
end Lin

set_option Elab.async false
set_option linter.all false
set_option maxRecDepth 100000
/-! Lin, part D: slots; readings of the language's expressions; results. -/
namespace Lin
open PySem L2

/-! ### slots -/
def Sl : L2.St → Env → List Pr
  | _, [] => []
  | [], w :: ρ => (none, w) :: Sl [] ρ
  | o :: σ, w :: ρ => (o, w) :: Sl σ ρ
theorem Sl_out : ∀ (σ : L2.St) (ρ : Env) (i : Nat) (w : W), ρ[i]? = some w → ∃ L, (Sl σ ρ).Perm ((σ.getD i none, w) :: L) ∧ (∀ w', (Sl σ (ρ.set i w')).Perm ((σ.getD i none, w') :: L)) ∧
    (i < σ.length → ∀ o w', (Sl (σ.set i o) (ρ.set i w')).Perm ((o, w') :: L))
  | σ, [], i, w, h => by simp at h
  | [], x :: ρ, 0, w, h => by
    simp at h; subst h
    exact ⟨Sl [] ρ, .refl _, fun w' => .refl _, fun h => absurd h (Nat.not_lt_zero _)⟩
  | o :: σ, x :: ρ, 0, w, h => by
    simp at h; subst h
    exact ⟨Sl σ ρ, .refl _, fun w' => .refl _, fun _ o' w' => .refl _⟩
  | [], x :: ρ, i + 1, w, h => by
    obtain ⟨L, p1, p2, p3⟩ := Sl_out [] ρ i w (by simpa using h)
    exact ⟨(none, x) :: L, (p1.cons _).trans (.swap _ _ _), fun w' => ((p2 w').cons (none, x)).trans (.swap _ _ _), fun h => absurd h (Nat.not_lt_zero _)⟩
  | o :: σ, x :: ρ, i + 1, w, h => by
    obtain ⟨L, p1, p2, p3⟩ := Sl_out σ ρ i w (by simpa using h)
    refine ⟨(o, x) :: L, ?_, fun w' => ?_, fun h o' w' => ?_⟩
    · exact (p1.cons _).trans (.swap _ _ _)
    · exact ((p2 w').cons (o, x)).trans (.swap _ _ _)
    · exact ((p3 (by simpa using h) o' w').cons (o, x)).trans (.swap _ _ _)
theorem Sl_set_out : ∀ (σ : L2.St) (ρ : Env) (i : Nat) (o : Option V), ρ.length ≤ i → Sl (σ.set i o) ρ = Sl σ ρ
  | σ, [], i, o, h => by cases σ <;> rfl
  | [], x :: ρ, i, o, h => rfl
  | s :: σ, x :: ρ, 0, o, h => by simp at h
  | s :: σ, x :: ρ, i + 1, o, h => by
    show (s, x) :: Sl (σ.set i o) ρ = (s, x) :: Sl σ ρ
    rw [Sl_set_out σ ρ i o (by simpa using h)]

section
variable {K : PySem.W.Frag} {F F' H H' : Hp} {σ : L2.St} {ρ : Env} {T : List Pr}

theorem getD_some {i : Nat} {v : V} (h : σ.getD i none = some v) : σ[i]? = some (some v) := by
  rw [List.getD_eq_getElem?_getD] at h
  cases e : σ[i]? with
  | none => rw [e] at h; cases h
  | some o => rw [e] at h; simp at h; rw [h]
theorem getD_of {i : Nat} {v : V} (h : σ[i]? = some (some v)) : σ.getD i none = some v := by
  rw [List.getD_eq_getElem?_getD, h]; rfl
theorem at?_some {i : Nat} {w : W} (h : at? ρ i = some w) : ρ[i]? = some w ∧ w.alive = true := by
  unfold at? at h
  split at h
  · rename_i w' e
    split at h
    · cases h; exact ⟨e, by assumption⟩
    · cases h
  · cases h
/-- what stands at a slot -/
theorem Wd.slot {i : Nat} {w : W} (wd : Wd K F H (T ++ Sl σ ρ)) (h : at? ρ i = some w) : ∃ v, σ[i]? = some (some v) ∧ ∃ fp, Rep K F H w v fp := by
  obtain ⟨h1, h2⟩ := at?_some h
  obtain ⟨L, p, _⟩ := Sl_out σ ρ i w h1
  have wd2 : Wd K F H ((σ.getD i none, w) :: L) := Wd.perm p wd.right
  obtain ⟨⟨fp, ⟨g, g', e, r1, r2⟩, n, d⟩, s⟩ := wd2
  cases e : σ.getD i none with
  | none =>
    rw [e] at r1
    have := r1.1
    subst this
    cases h2
  | some v =>
    rw [e] at r1
    exact ⟨v, getD_some e, g, r1⟩
/-- what stands at a slot is taken out -/
theorem Wd.take {i : Nat} {w : W} {v : V} (wd : Wd K F H (T ++ Sl σ ρ)) (h : ρ[i]? = some w) (hv : σ[i]? = some (some v)) : Wd K F H ((some v, w) :: (T ++ Sl σ (ρ.set i (.a .dead)))) := by
  obtain ⟨L, p, p2, _⟩ := Sl_out σ ρ i w h
  rw [getD_of hv] at p p2
  have w1 : Wd K F H ((some v, .a .dead) :: ((some v, w) :: (T ++ L))) := by
    refine Wd.addDead (Wd.perm ?_ wd)
    exact (p.append_left T).trans List.perm_middle
  refine Wd.perm ?_ w1
  refine (List.Perm.swap _ _ _).trans (List.Perm.cons _ ?_)
  exact (List.perm_middle.symm).trans ((p2 (.a .dead)).symm.append_left T)
/-- a thing goes to a slot -/
theorem Wd.put {i : Nat} {w : W} {v : V} (wd : Wd K F H ((some v, w) :: (T ++ Sl σ ρ))) (hv : σ[i]? = some (some v)) : Wd K F H (T ++ Sl σ (ρ.set i w)) := by
  cases h : ρ[i]? with
  | none =>
    rw [List.set_eq_of_length_le (List.getElem?_eq_none_iff.mp h)]
    exact wd.tail
  | some w0 =>
    obtain ⟨L, p, p2, _⟩ := Sl_out σ ρ i w0 h
    rw [getD_of hv] at p p2
    have w1 : Wd K F H ((some v, w0) :: ((some v, w) :: (T ++ L))) := by
      refine Wd.perm ?_ wd
      refine ((p.append_left T).cons _).trans ?_
      exact ((List.perm_middle.cons _).trans (.swap _ _ _))
    refine Wd.perm ?_ w1.tail
    exact List.perm_middle.symm.trans ((p2 w).symm.append_left T)
/-- .. and is stored there -/
theorem Wd.store {i : Nat} {w : W} {v : V} (wd : Wd K F H ((some v, w) :: (T ++ Sl σ ρ))) (hi : i < σ.length) : Wd K F H (T ++ Sl (σ.set i (some v)) (ρ.set i w)) := by
  cases h : ρ[i]? with
  | none =>
    have hl := List.getElem?_eq_none_iff.mp h
    rw [List.set_eq_of_length_le hl, Sl_set_out _ _ _ _ hl]
    exact wd.tail
  | some w0 =>
    obtain ⟨L, p, _, p3⟩ := Sl_out σ ρ i w0 h
    have w1 : Wd K F H ((σ.getD i none, w0) :: ((some v, w) :: (T ++ L))) := by
      refine Wd.perm ?_ wd
      refine ((p.append_left T).cons _).trans ?_
      exact ((List.perm_middle.cons _).trans (.swap _ _ _))
    refine Wd.perm ?_ w1.tail
    exact List.perm_middle.symm.trans ((p3 hi (some v) w).symm.append_left T)
/-- a slot is forgotten -/
theorem Wd.wipe {i : Nat} {o : Option V} (wd : Wd K F H (T ++ Sl σ ρ)) (hi : i < σ.length) : Wd K F H (T ++ Sl (σ.set i o) (ρ.set i (.a .dead))) := by
  cases h : ρ[i]? with
  | none =>
    have hl := List.getElem?_eq_none_iff.mp h
    rw [List.set_eq_of_length_le hl, Sl_set_out _ _ _ _ hl]
    exact wd
  | some w0 =>
    obtain ⟨L, p, _, p3⟩ := Sl_out σ ρ i w0 h
    have w1 : Wd K F H ((σ.getD i none, w0) :: (T ++ L)) := Wd.perm ((p.append_left T).trans List.perm_middle) wd
    have w2 : Wd K F H ((o, .a .dead) :: (T ++ L)) := Wd.addDead w1.tail
    exact Wd.perm (List.perm_middle.symm.trans ((p3 hi o (.a .dead)).symm.append_left T)) w2
theorem Wd.wipe' {i : Nat} (wd : Wd K F H (T ++ Sl σ ρ)) : Wd K F H (T ++ Sl σ (ρ.set i (.a .dead))) := by
  cases h : ρ[i]? with
  | none =>
    rw [List.set_eq_of_length_le (List.getElem?_eq_none_iff.mp h)]; exact wd
  | some w0 =>
    obtain ⟨L, p, p2, _⟩ := Sl_out σ ρ i w0 h
    have w1 : Wd K F H ((σ.getD i none, w0) :: (T ++ L)) := Wd.perm ((p.append_left T).trans List.perm_middle) wd
    have w2 : Wd K F H ((σ.getD i none, .a .dead) :: (T ++ L)) := Wd.addDead w1.tail
    exact Wd.perm (List.perm_middle.symm.trans ((p2 (.a .dead)).symm.append_left T)) w2
end

/-! ### results -/
section
variable {K : PySem.W.Frag} {F F' H H' : Hp} {L : List Pr}
/-- the frozen part and the heap have grown -/
structure Ext (F H F' H' : Hp) : Prop where
  sF : Same F F'
  sH : Same H H'
  sub : Same F' H'
  new : ∀ b o, F' b = some o → F b = some o ∨ H b = none
theorem Ext.refl {F H : Hp} (s : Same F H) : Ext F H F H := ⟨Same.refl _, Same.refl _, s, fun _ _ h => .inl h⟩
/-- a result w is handed on: what it owns is new -/
def Dl (K : PySem.W.Frag) (F H : Hp) (w : W) (Q : VK) : Prop := ∀ (F' H' : Hp) (v : V) (fp : List Addr), Ext F H F' H' → Rep K F' H' w v fp → fp.Nodup → (∀ b ∈ fp, H b = none ∧ F' b = none) → Q v H'
theorem Wd.dl {w : W} {v : V} {fp : List Addr} (wd : Wd K F H L) (s : Ext F H F' H') (r : Rep K F' H' w v fp) (n : fp.Nodup) (fr : ∀ b ∈ fp, H b = none ∧ F' b = none) : Wd K F' H' ((some v, w) :: L) := by
  obtain ⟨⟨f1, r1, n1, d1⟩, s1⟩ := wd
  have r0 : RepPs K F' H' L f1 := r1.mono L s.sF fun b hb => by
    obtain ⟨o, h, _⟩ := r1.there L b hb
    rw [h, s.sH b o h]
  refine ⟨⟨fp ++ f1, ⟨fp, f1, rfl, r, r0⟩, ?_, fun b hb => ?_⟩, s.sub⟩
  · refine List.nodup_append.mpr ⟨n, n1, fun a ha b hb e => ?_⟩
    subst e
    obtain ⟨o, h, _⟩ := r1.there L a hb
    rw [(fr a ha).1] at h; cases h
  · rcases List.mem_append.mp hb with hb | hb
    · exact (fr b hb).2
    · cases e : F' b with
      | none => rfl
      | some o =>
        rcases s.new b o e with q | q
        · rw [d1 b hb] at q; cases q
        · obtain ⟨o', h, _⟩ := r1.there L b hb
          rw [q] at h; cases h
theorem Wd.drop2 {p q : Pr} (w : Wd K F H (p :: q :: L)) : Wd K F H (p :: L) := (Wd.perm (.swap _ _ _) w).tail
theorem Wd.swap {p q : Pr} (w : Wd K F H (p :: q :: L)) : Wd K F H (q :: p :: L) := Wd.perm (.swap _ _ _) w
/-- an atom -/
theorem Dl.atom {x : At} {Q : VK} {v : V} (s : Same F H) (r : RepA K F x v) (d : Dl K F H (.a x) Q) : Q v H := d F H v [] (.refl s) ⟨r, rfl⟩ .nil (fun _ h => nomatch h)
/-- something frozen that was there -/
theorem Dl.fz {w : W} {Q : VK} {v : V} {fp : List Addr} (s : Same F H) (r : Rep K F H w v fp) (h : w.fz = true) (d : Dl K F H w Q) : Q v H := by
  have e := Rep.fz w h r
  subst e
  exact d F H v [] (.refl s) r .nil (fun _ h => nomatch h)
theorem Same.upd {H : Hp} {p : Addr} {o : HO} (h : H p = none) : Same H (upd H p o) := fun b u e => by
  rw [upd_ne (ne_of_none e h)]; exact e
/-- a new list of frozen things -/
theorem Dl.lst {xs : List W} {vs : List V} {Q : VK} {fp : List Addr} (s : Same F H) (r : RepL K F H xs vs fp) (hf : fp = []) (d : Dl K F H (.n (.lst true) xs) Q) {p : Addr} (hp : H p = none) : Q (.ref p) (upd H p (.lst vs)) := by
  subst hf
  have sH := Same.upd (o := .lst vs) hp
  have hF : F p = none := by
    cases e : F p with
    | none => rfl
    | some o => rw [s p o e] at hp; cases hp
  refine d F _ _ [p] ⟨Same.refl _, sH, s.trans sH, fun _ _ h => .inl h⟩ ⟨p, vs, [], rfl, RepL.mono xs (Same.refl _) (fun _ h => nomatch h) r, upd_same, rfl⟩ (by simp) fun b hb => ?_
  rw [List.mem_singleton.mp hb]; exact ⟨hp, hF⟩
/-- a new tuple of frozen things -/
theorem Dl.tup {xs : List W} {vs : List V} {Q : VK} {fp : List Addr} (s : Same F H) (r : RepL K F H xs vs fp) (hf : fp = []) (d : Dl K F H (.n .tup xs) Q) {p : Addr} (hp : H p = none) : Q (.ref p) (upd H p (.tup vs)) := by
  subst hf
  have sH := Same.upd (o := .tup vs) hp
  have hF : F p = none := by
    cases e : F p with
    | none => rfl
    | some o => rw [s p o e] at hp; cases hp
  have sF := Same.upd (o := .tup vs) hF
  refine d (upd F p (.tup vs)) _ _ [] ⟨sF, sH, fun b o h => ?_, fun b o h => ?_⟩ ⟨p, vs, [], rfl, RepL.mono xs sF (fun _ h => nomatch h) r, .inl (.inl upd_same), rfl⟩ .nil fun _ h => nomatch h
  · by_cases e : b = p
    · subst e; rw [upd_same] at h ⊢; exact h
    · rw [upd_ne e] at h ⊢; exact s b o h
  · by_cases e : b = p
    · subst e; exact .inr hp
    · rw [upd_ne e] at h; exact .inl h
theorem Wd.free' (wd : Wd K F H L) {p : Addr} (h : H p = none) : F p = none := by
  cases e : F p with
  | none => rfl
  | some o => rw [wd.same p o e] at h; cases h
end
end Lin

set_option Elab.async false
set_option linter.all false
set_option maxRecDepth 100000
/-! Lin, part E: the readings by the evaluator; names, constants, tests, and, or, not. -/
namespace Lin
open PySem L2

section
variable (K : PySem.W.Frag) (cl : Nat → List W → Option (List W × W)) (n : Nat)
def tmp (o : Od) (v : V) : List Pr := match o with
  | .tm w => [(some v, w)]
  | _ => []
/-- a value to be kept -/
def tV (m : Ex) : TE := fun σ H Q => σ.length = n ∧ ∃ (F : Hp) (ρ : Env) (T : List Pr) (w : W) (ρ' : Env), Wd K F H (T ++ Sl σ ρ) ∧ evm cl m .val ρ = some (.tm w, ρ') ∧
  ∀ (F' H' : Hp) (v : V), Same F F' → Wd K F' H' ((some v, w) :: (T ++ Sl σ ρ')) → Q v H'
/-- an operand -/
def tO (m : Ex) : TE := fun σ H Q => σ.length = n ∧ ∃ (F : Hp) (ρ : Env) (T : List Pr) (o : Od) (ρ' : Env), Wd K F H (T ++ Sl σ ρ) ∧ evm cl m .opr ρ = some (o, ρ') ∧
  ∀ (F' H' : Hp) (v : V), Same F F' → Wd K F' H' (tmp o v ++ (T ++ Sl σ ρ')) → (∀ i, o = .al i → σ[i]? = some (some v)) → Q v H'
/-- a test -/
def tT (m : Ex) : TT := fun σ H Q => σ.length = n ∧ ∃ (F : Hp) (ρ : Env) (T : List Pr) (b : Bool) (ρ' : Env), Wd K F H (T ++ Sl σ ρ) ∧ evm cl m .tst ρ = some (.bo b, ρ') ∧
  ∀ (F' H' : Hp), Same F F' → Wd K F' H' (T ++ Sl σ ρ') → Q b H'
end

theorem PE_imp {X : Cx} {e : Expr} {t t' : TE} (h : PE X e t) (f : ∀ σ H Q, t' σ H Q → t σ H Q) : PE X e t' := ⟨fun pins s σ H Q I q => h.run pins s σ H Q I (f σ H Q q)⟩
theorem PT_imp {X : Cx} {e : Expr} {t t' : TT} (h : PT X e t) (f : ∀ σ H Q, t' σ H Q → t σ H Q) : PT X e t' := ⟨fun pins s σ H Q I q => h.run pins s σ H Q I (f σ H Q q)⟩
theorem PW_imp {X : Cx} {e : Expr} {t t' : TT} (h : PW X e t) (f : ∀ σ H Q, t' σ H Q → t σ H Q) : PW X e t' := ⟨fun wh pins s σ H Q I q => h.run wh pins s σ H Q I (f σ H Q q)⟩
theorem PA_imp {X : Cx} {es : List Expr} {t t' : TA} (h : PA X es t) (f : ∀ σ H Q, t' σ H Q → t σ H Q) : PA X es t' := ⟨fun pos pins s σ H Q I q => h.run pos pins s σ H Q I (f σ H Q q)⟩
theorem OpR_imp {X : Cx} {f : Value → Value → Sem Value} {r r' : R2} (h : OpR X f r) (g : ∀ x y H Q, r' x y H Q → r x y H Q) : OpR X f r' := fun pins s σ H x y v u Q I rx ry q => h pins s σ H x y v u Q I rx ry (g _ _ _ _ q)

section
variable {cl : Nat → List W → Option (List W × W)}
theorem fin_val {w : W} {ρ : Env} : fin .val w ρ = some (.tm w, ρ) := rfl
theorem fin_opr {w : W} {ρ : Env} : fin .opr w ρ = some (.tm w, ρ) := rfl
/-- asked for as a value, a thing is told -/
theorem val_tm : ∀ (m : Ex) {ρ ρ' : Env} {o : Od}, evm cl m .val ρ = some (o, ρ') → ∃ w, o = .tm w := by
  intro m
  induction m using Ex.rec (motive_2 := fun _ => True) (motive_3 := fun _ => True) with
  | and a b _ ihb =>
    intro ρ ρ' o h
    simp only [evm] at h
    split at h
    · split at h
      · exact ihb h
      · cases h; exact ⟨_, rfl⟩
      · cases h
    · cases h
  | or a b _ ihb =>
    intro ρ ρ' o h
    simp only [evm] at h
    split at h
    · split at h
      · cases h; exact ⟨_, rfl⟩
      · exact ihb h
      · cases h
    · cases h
  | ite c a b _ iha ihb =>
    intro ρ ρ' o h
    simp only [evm] at h
    split at h
    · exact iha h
    · exact ihb h
    · cases h
  | nil => trivial
  | cons _ _ _ _ => trivial
  | none => trivial
  | some _ _ => trivial
  | _ =>
    intro ρ ρ' o h
    simp only [evm, fin] at h
    repeat' split at h
    all_goals first
      | (cases h; done)
      | (cases h; exact ⟨_, rfl⟩)
theorem opr_val (m : Ex) (hm : ∀ i, m ≠ .var i) (ρ : Env) : evm cl m .opr ρ = evm cl m .val ρ := by
  cases m with
  | var i => exact absurd rfl (hm i)
  | _ => simp only [evm, fin]
/-- what is plain: its test is its value's truth -/
def Ex.plain : Ex → Bool
  | .var _ => false
  | .not _ => false
  | .and _ _ => false
  | .or _ _ => false
  | .ite _ _ _ => false
  | _ => true
theorem tst_fin (m : Ex) (hm : m.plain = true) (ρ : Env) : evm cl m .tst ρ = match evm cl m .val ρ with
    | some (.tm w, ρ') => fin .tst w ρ'
    | _ => none := by
  cases m with
  | var i => cases hm
  | not a => cases hm
  | and a b => cases hm
  | or a b => cases hm
  | ite a b c => cases hm
  | _ =>
    simp only [evm, fin]
    repeat' split
    all_goals first
      | rfl
      | (simp_all; done)
      | (simp_all [tru]; done)
end

section
variable {K : PySem.W.Frag} {F F' H H' : Hp} {σ : L2.St} {ρ : Env} {T : List Pr}
theorem truV {w : W} {v : V} {k : Bool} {fp : List Addr} (s : Same F H) (r : Rep K F H w v fp) (h : tru w = some k) : TruV K v H k := by
  cases w with
  | a x =>
    obtain ⟨r, _⟩ := r
    cases x with
    | non => cases r; simp only [tru] at h; cases h; rfl
    | bl b => cases r; simp only [tru] at h; cases h; rfl
    | int i => cases r; simp only [tru] at h; cases h; rfl
    | str z =>
      cases r
      simp only [tru] at h
      split at h
      · rename_i hz
        cases h
        refine ⟨hz, ?_⟩
        cases e : z.length with
        | zero => rfl
        | succ m =>
          have h1 : (((m + 1 : Nat) : Int) != 0) = true := bne_iff_ne.mpr (by omega)
          rw [h1]; rfl
      · cases h
    | opq => cases h
    | dead => cases h
  | n k' xs =>
    obtain ⟨a, vs, g, rfl, r1, r2⟩ := r
    simp only [tru] at h
    cases h
    have hl := RepL.length xs r1
    have he : (!xs.isEmpty) = !vs.isEmpty := by
      cases xs with
      | nil => cases vs with
        | nil => rfl
        | cons _ _ => simp at hl
      | cons _ _ => cases vs with
        | nil => simp at hl
        | cons _ _ => rfl
    cases k' with
    | tup => exact .inr (.inl ⟨vs, Same.sqT s r2.1, he⟩)
    | ro => exact .inl ⟨vs, s.seq r2.1, he⟩
    | lst m =>
      cases m with
      | false => exact .inl ⟨vs, SqL.of (s _ _ r2.1), he⟩
      | true => exact .inl ⟨vs, SqL.of r2.1, he⟩
    | dct m ks =>
      have hz : ∀ ks : List Key, ks.length = vs.length → (!xs.isEmpty) = !(ks.zip vs).isEmpty := fun ks e => by
        rw [he]
        cases vs with
        | nil => simp
        | cons v vs => cases ks with
          | nil => simp at e
          | cons _ _ => rfl
      cases m with
      | false => exact .inr (.inr ⟨_, s _ _ r2.1, hz ks r2.2.1⟩)
      | true => exact .inr (.inr ⟨_, r2.1, hz ks r2.2.1⟩)
/-- two reads of one list agree with the trees' lists -/
theorem Wd.valVar {i : Nat} {w : W} (wd : Wd K F H (T ++ Sl σ ρ)) (h : at? ρ i = some w) :
    ∃ v F', σ[i]? = some (some v) ∧ Same F F' ∧ Wd K F' H ((some v, w.frz) :: (T ++ Sl σ (ρ.set i w.frz))) := by
  obtain ⟨v, hv, _⟩ := wd.slot h
  obtain ⟨h1, _⟩ := at?_some h
  obtain ⟨F', sF, w2, r⟩ := (wd.take h1 hv).frz
  refine ⟨v, F', hv, sF, ?_⟩
  have w3 := w2.put hv
  rw [List.set_set] at w3
  exact w3.add r
end

section
variable {X : Cx} {cl : Nat → List W → Option (List W × W)}
/-- what the soundness of a body asks of where it stands -/
structure Ok (X : Cx) (sc : Scope) : Prop where
  sc : X.env.scope = sc
  nd : X.N.Nodup
  calm : X.calm = true
abbrev TV (X : Cx) (cl : Nat → List W → Option (List W × W)) (m : Ex) : TE := tV X.K cl X.N.length m
abbrev TO (X : Cx) (cl : Nat → List W → Option (List W × W)) (m : Ex) : TE := tO X.K cl X.N.length m
abbrev TTs (X : Cx) (cl : Nat → List W → Option (List W × W)) (m : Ex) : TT := tT X.K cl X.N.length m

theorem snd_k {e : Expr} {x : At} {v : V} (h : PE X e (tC v)) (hr : ∀ F : Hp, RepA X.K F x v) : PE X e (TV X cl (.k x)) := by
  refine PE_imp h fun σ H Q ⟨_, F, ρ, T, w, ρ', wd, ev, q⟩ => ?_
  simp only [evm] at ev
  split at ev
  · rw [fin_val] at ev
    cases ev
    exact q F H v (Same.refl _) (wd.add ⟨hr F, rfl⟩)
  · cases ev
theorem snd_glob {e : Expr} {w : W} {v : V} (h : PE X e (tC v)) (hr : ∀ F H : Hp, Rep X.K F H w v []) : PE X e (TV X cl (.glob w)) := by
  refine PE_imp h fun σ H Q ⟨_, F, ρ, T, w, ρ', wd, ev, q⟩ => ?_
  simp only [evm, fin_val] at ev
  cases ev
  exact q F H v (Same.refl _) (wd.add (hr F H))
theorem snd_var {i : Nat} {e : Expr} (h : PE X e (tVar i)) : PE X e (TV X cl (.var i)) := by
  refine PE_imp h fun σ H Q ⟨_, F, ρ, T, w, ρ', wd, ev, q⟩ => ?_
  simp only [evm] at ev
  split at ev
  · cases ev
  · rename_i w0 h0
    cases ev
    obtain ⟨v, F', hv, sF, w2⟩ := wd.valVar h0
    exact ⟨v, hv, q F' H v sF w2⟩
theorem snd_varO {i : Nat} {e : Expr} (h : PE X e (tVar i)) : PE X e (TO X cl (.var i)) := by
  refine PE_imp h fun σ H Q ⟨_, F, ρ, T, o, ρ', wd, ev, q⟩ => ?_
  simp only [evm] at ev
  split at ev
  · cases ev
  · rename_i w0 h0
    cases ev
    obtain ⟨v, hv, _⟩ := wd.slot h0
    exact ⟨v, hv, q F H v (Same.refl _) wd fun j e => by cases e; exact hv⟩
theorem snd_opr {m : Ex} {e : Expr} (hm : ∀ i, m ≠ .var i) (h : PE X e (TV X cl m)) : PE X e (TO X cl m) := by
  refine PE_imp h fun σ H Q ⟨hl, F, ρ, T, o, ρ', wd, ev, q⟩ => ?_
  rw [opr_val m hm] at ev
  obtain ⟨w, rfl⟩ := val_tm m ev
  exact ⟨hl, F, ρ, T, w, ρ', wd, ev, fun F' H' v s w2 => q F' H' v s w2 fun _ e => nomatch e⟩
/-- the test of what is plain -/
theorem snd_tst {m : Ex} {e : Expr} (hm : m.plain = true) (h : PE X e (TV X cl m)) (he : ∀ whole, isTrue e X.env whole = (do let v ← whole; standAt e.pos; holding [v] (truthy v))) : PT X e (TTs X cl m) := by
  refine PT_imp (pt_truth h he) fun σ H Q ⟨hl, F, ρ, T, b, ρ', wd, ev, q⟩ => ?_
  rw [tst_fin m hm] at ev
  split at ev
  · rename_i w ρ1 e1
    unfold fin at ev
    split at ev
    · rename_i hmd
      split at ev
      · rename_i b' hb
        cases ev
        refine ⟨hl, F, ρ, T, w, _, wd, e1, fun F' H' v s w2 => ⟨b, ?_, q F' H' s w2.tail⟩⟩
        obtain ⟨fp, r⟩ := w2.rep (List.mem_cons_self)
        exact truV w2.same r hb
      · cases ev
    · rename_i hmd; exact absurd rfl hmd
  · cases ev
theorem snd_tstVar {i : Nat} {e : Expr} (h : PE X e (tVar i)) (he : ∀ whole, isTrue e X.env whole = (do let v ← whole; standAt e.pos; holding [v] (truthy v))) : PT X e (TTs X cl (.var i)) := by
  refine PT_imp (pt_truth h he) fun σ H Q ⟨hl, F, ρ, T, b, ρ', wd, ev, q⟩ => ?_
  simp only [evm] at ev
  split at ev
  · cases ev
  · rename_i w0 h0
    simp only [fin] at ev
    split at ev
    · rename_i b' hb
      cases ev
      obtain ⟨v, hv, fp, r⟩ := wd.slot h0
      exact ⟨v, hv, b, truV wd.same r hb, q F H (Same.refl _) wd⟩
    · cases ev
/-- a comparison (one that gives a truth) as a test -/
theorem snd_tstB {m : Ex} {e : Expr} (hm : m.plain = true) (h : PT X e (tTest (TV X cl m))) (hb : ∀ ρ w ρ', evm cl m .val ρ = some (.tm w, ρ') → ∃ b, w = .a (.bl b)) : PT X e (TTs X cl m) := by
  refine PT_imp h fun σ H Q ⟨hl, F, ρ, T, b, ρ', wd, ev, q⟩ => ?_
  rw [tst_fin m hm] at ev
  split at ev
  · rename_i w ρ1 e1
    obtain ⟨b', rfl⟩ := hb _ _ _ e1
    simp only [fin, tru] at ev
    cases ev
    refine ⟨hl, F, ρ, T, _, _, wd, e1, fun F' H' v s w2 => ⟨b, ?_, q F' H' s w2.tail⟩⟩
    obtain ⟨fp, r⟩ := w2.rep (List.mem_cons_self)
    exact r.1
  · cases ev
theorem snd_notT {m : Ex} {a : Expr} {pos : Pos} (h : PT X a (TTs X cl m)) : PT X (.UnaryOp .Not a pos) (TTs X cl (.not m)) := by
  refine PT_imp (pt_not h) fun σ H Q ⟨hl, F, ρ, T, b, ρ', wd, ev, q⟩ => ?_
  simp only [evm] at ev
  split at ev
  · rename_i b' ρ1 e1
    cases ev
    exact ⟨hl, F, ρ, T, b', _, wd, e1, q⟩
  · cases ev
theorem snd_notV {m : Ex} {a : Expr} {pos : Pos} (h : PE X a (TO X cl m)) : PE X (.UnaryOp .Not a pos) (TV X cl (.not m)) := by
  refine PE_imp (pe_notT h) fun σ H Q ⟨hl, F, ρ, T, w, ρ', wd, ev, q⟩ => ?_
  simp only [evm] at ev
  split at ev
  · rename_i o ρ1 e1
    split at ev
    · rename_i w1 e2
      split at ev
      · rename_i b hb
        cases ev
        refine ⟨hl, F, ρ, T, o, _, wd, e1, fun F' H' v s w2 ha => ⟨b, ?_, ?_⟩⟩
        · cases o with
          | al i =>
            obtain ⟨v', hv, fp, r⟩ := Wd.slot (T := T) (by exact w2) e2
            have := ha i rfl
            rw [hv] at this
            cases this
            exact truV w2.same r hb
          | tm w0 =>
            cases e2
            obtain ⟨fp, r⟩ := w2.rep (List.mem_cons_self)
            exact truV w2.same r hb
          | bo b => cases e2
        · exact q F' H' (.bl !b) s (Wd.add (Wd.right w2) ⟨rfl, rfl⟩)
      · cases ev
    · cases ev
  · cases ev
theorem snd_and1T {m : Ex} {a : Expr} {op : BoolOp} {pos : Pos} (h : PT X a (TTs X cl m)) : PW X (.BoolOp op [a] pos) (TTs X cl m) := by
  cases op with
  | And => exact pw_and1 h
  | Or => exact pw_or1 h
theorem snd_andT {m m' : Ex} {a b : Expr} {rest : List Expr} {pos : Pos} (h : PT X a (TTs X cl m)) (h' : PW X (.BoolOp .And (b :: rest) pos) (TTs X cl m')) : PW X (.BoolOp .And (a :: b :: rest) pos) (TTs X cl (.and m m')) := by
  refine PW_imp (pw_and h h') fun σ H Q ⟨hl, F, ρ, T, c, ρ', wd, ev, q⟩ => ?_
  simp only [evm] at ev
  split at ev
  · rename_i ρ1 e1
    refine ⟨hl, F, ρ, T, _, _, wd, e1, fun F' H' s w2 => ?_⟩
    refine iteT ?_
    exact ⟨hl, F', ρ1, T, c, ρ', w2, ev, fun F2 H2 s2 w3 => q F2 H2 (s.trans s2) w3⟩
  · rename_i ρ1 e1
    cases ev
    refine ⟨hl, F, ρ, T, _, _, wd, e1, fun F' H' s w2 => ?_⟩
    refine iteF ?_
    exact q F' H' s w2
  · cases ev
theorem snd_orT {m m' : Ex} {a b : Expr} {rest : List Expr} {pos : Pos} (h : PT X a (TTs X cl m)) (h' : PW X (.BoolOp .Or (b :: rest) pos) (TTs X cl m')) : PW X (.BoolOp .Or (a :: b :: rest) pos) (TTs X cl (.or m m')) := by
  refine PW_imp (pw_or h h') fun σ H Q ⟨hl, F, ρ, T, c, ρ', wd, ev, q⟩ => ?_
  simp only [evm] at ev
  split at ev
  · rename_i ρ1 e1
    cases ev
    refine ⟨hl, F, ρ, T, _, _, wd, e1, fun F' H' s w2 => ?_⟩
    refine iteT ?_
    exact q F' H' s w2
  · rename_i ρ1 e1
    refine ⟨hl, F, ρ, T, _, _, wd, e1, fun F' H' s w2 => ?_⟩
    refine iteF ?_
    exact ⟨hl, F', ρ1, T, c, ρ', w2, ev, fun F2 H2 s2 w3 => q F2 H2 (s.trans s2) w3⟩
  · cases ev
theorem snd_andV {m m' : Ex} {a b : Expr} {rest : List Expr} {pos : Pos} (h : PE X a (TV X cl m)) (h' : PE X (.BoolOp .And (b :: rest) pos) (TV X cl m')) : PE X (.BoolOp .And (a :: b :: rest) pos) (TV X cl (.and m m')) := by
  refine PE_imp (pe_andT h h') fun σ H Q ⟨hl, F, ρ, T, w, ρ', wd, ev, q⟩ => ?_
  simp only [evm] at ev
  split at ev
  · rename_i w1 ρ1 e1
    split at ev
    · rename_i hb
      refine ⟨hl, F, ρ, T, _, _, wd, e1, fun F' H' v s w2 => ⟨true, ?_, ?_⟩⟩
      · obtain ⟨fp, r⟩ := w2.rep (List.mem_cons_self)
        exact truV w2.same r hb
      · refine iteT ?_
        exact ⟨hl, F', ρ1, T, w, ρ', w2.tail, ev, fun F2 H2 v2 s2 w3 => q F2 H2 v2 (s.trans s2) w3⟩
    · rename_i hb
      cases ev
      refine ⟨hl, F, ρ, T, _, _, wd, e1, fun F' H' v s w2 => ⟨false, ?_, ?_⟩⟩
      · obtain ⟨fp, r⟩ := w2.rep (List.mem_cons_self)
        exact truV w2.same r hb
      · refine iteF ?_
        exact q F' H' v s w2
    · cases ev
  · cases ev
theorem snd_orV {m m' : Ex} {a b : Expr} {rest : List Expr} {pos : Pos} (h : PE X a (TV X cl m)) (h' : PE X (.BoolOp .Or (b :: rest) pos) (TV X cl m')) : PE X (.BoolOp .Or (a :: b :: rest) pos) (TV X cl (.or m m')) := by
  refine PE_imp (pe_orT h h') fun σ H Q ⟨hl, F, ρ, T, w, ρ', wd, ev, q⟩ => ?_
  simp only [evm] at ev
  split at ev
  · rename_i w1 ρ1 e1
    split at ev
    · rename_i hb
      cases ev
      refine ⟨hl, F, ρ, T, _, _, wd, e1, fun F' H' v s w2 => ⟨true, ?_, ?_⟩⟩
      · obtain ⟨fp, r⟩ := w2.rep (List.mem_cons_self)
        exact truV w2.same r hb
      · refine iteT ?_
        exact q F' H' v s w2
    · rename_i hb
      refine ⟨hl, F, ρ, T, _, _, wd, e1, fun F' H' v s w2 => ⟨false, ?_, ?_⟩⟩
      · obtain ⟨fp, r⟩ := w2.rep (List.mem_cons_self)
        exact truV w2.same r hb
      · refine iteF ?_
        exact ⟨hl, F', ρ1, T, w, ρ', w2.tail, ev, fun F2 H2 v2 s2 w3 => q F2 H2 v2 (s.trans s2) w3⟩
    · cases ev
  · cases ev
theorem snd_one {m : Ex} {a : Expr} {op : BoolOp} {pos : Pos} (h : PE X a (TV X cl m)) : PE X (.BoolOp op [a] pos) (TV X cl m) := pe_one h
theorem snd_ite {mc ma mb : Ex} {c a b : Expr} {pos : Pos} (hc : PT X c (TTs X cl mc)) (ha : PE X a (TV X cl ma)) (hb : PE X b (TV X cl mb)) : PE X (.IfExp c a b pos) (TV X cl (.ite mc ma mb)) := by
  refine PE_imp (pe_ifExp hc ha hb) fun σ H Q ⟨hl, F, ρ, T, w, ρ', wd, ev, q⟩ => ?_
  simp only [evm] at ev
  split at ev
  · rename_i ρ1 e1
    refine ⟨hl, F, ρ, T, _, _, wd, e1, fun F' H' s w2 => ?_⟩
    refine iteT ?_
    exact ⟨hl, F', ρ1, T, w, ρ', w2, ev, fun F2 H2 v s2 w3 => q F2 H2 v (s.trans s2) w3⟩
  · rename_i ρ1 e1
    refine ⟨hl, F, ρ, T, _, _, wd, e1, fun F' H' s w2 => ?_⟩
    refine iteF ?_
    exact ⟨hl, F', ρ1, T, w, ρ', w2, ev, fun F2 H2 v s2 w3 => q F2 H2 v (s.trans s2) w3⟩
  · cases ev
end
end Lin

set_option Elab.async false
set_option linter.all false
set_option maxRecDepth 100000
set_option maxHeartbeats 4000000
/-! Lin, part G: operators by trees. -/
namespace Lin
open PySem L2

section
variable {K : PySem.W.Frag} {F F' H H' : Hp} {L : List Pr}
theorem Rep.frzIn : ∀ (w : W) {v : V} {fp : List Addr}, Rep K F H w v fp → ∃ g g', fp = g' ++ g ∧ ∀ F' : Hp, Same F F' → (∀ b ∈ g, F' b = H b) → Rep K F' H w.frzIn v g'
  | .a x, v, fp, r => ⟨[], [], r.2, fun F' s _ => ⟨RepA.mono s r.1, rfl⟩⟩
  | .n k xs, v, fp, r => by
    obtain ⟨a, vs, g, e, r1, r2⟩ := r
    cases k with
    | tup => exact ⟨g, [], r2.2, fun F' s h => ⟨a, vs, [], e, RepL.frz xs s h r1, Same.sqT s r2.1, rfl⟩⟩
    | ro => exact ⟨g, [], r2.2, fun F' s h => ⟨a, vs, [], e, RepL.frz xs s h r1, s.seq r2.1, rfl⟩⟩
    | lst m =>
      cases m with
      | false => exact ⟨g, [], r2.2, fun F' s h => ⟨a, vs, [], e, RepL.frz xs s h r1, s _ _ r2.1, rfl⟩⟩
      | true => exact ⟨g, [a], r2.2, fun F' s h => ⟨a, vs, [], e, RepL.frz xs s h r1, r2.1, rfl⟩⟩
    | dct m ks =>
      cases m with
      | false => exact ⟨g, [], r2.2.2, fun F' s h => ⟨a, vs, [], e, RepL.frz xs s h r1, s _ _ r2.1, r2.2.1, rfl⟩⟩
      | true => exact ⟨g, [a], r2.2.2, fun F' s h => ⟨a, vs, [], e, RepL.frz xs s h r1, r2.1, r2.2.1, rfl⟩⟩
theorem Wd.frzIn {v : V} {w : W} (wd : Wd K F H ((some v, w) :: L)) : ∃ F', Same F F' ∧ Wd K F' H ((some v, w.frzIn) :: L) := by
  obtain ⟨⟨fp, ⟨f1, f2, e, r1, r2⟩, n, d⟩, s⟩ := wd
  subst e
  have r1 : Rep K F H w v f1 := r1
  obtain ⟨g, g', e1, k⟩ := Rep.frzIn w r1
  subst e1
  have hF : Same F (fun b => if b ∈ g then H b else F b) := fun b o h => by
    show (if b ∈ g then H b else F b) = some o
    by_cases hb : b ∈ g
    · rw [d b (List.mem_append_left _ (List.mem_append_right _ hb))] at h; cases h
    · rw [if_neg hb]; exact h
  rw [List.append_assoc] at n
  obtain ⟨n1, n2, n3⟩ := List.nodup_append.mp n
  obtain ⟨n4, n5, n6⟩ := List.nodup_append.mp n2
  refine ⟨_, hF, ⟨⟨g' ++ f2, ⟨g', f2, rfl, k _ hF fun b hb => if_pos hb, r2.mono L hF fun _ _ => rfl⟩, List.nodup_append.mpr ⟨n1, n5, fun a ha b hb => n3 a ha b (List.mem_append_right _ hb)⟩, fun b hb => ?_⟩, fun b o h => ?_⟩⟩
  · show (if b ∈ g then H b else F b) = none
    rcases List.mem_append.mp hb with hb | hb
    · rw [if_neg fun hg => n3 b hb b (List.mem_append_left _ hg) rfl]
      exact d b (List.mem_append_left _ (List.mem_append_left _ hb))
    · rw [if_neg fun hg => n6 b hg b hb rfl]
      exact d b (List.mem_append_right _ hb)
  · have h : (if b ∈ g then H b else F b) = some o := h
    by_cases hb : b ∈ g
    · rw [if_pos hb] at h; exact h
    · rw [if_neg hb] at h; exact s b o h
theorem Wd.frzIn2 {v v' : V} {w w' : W} (wd : Wd K F H ((some v, w) :: (some v', w') :: L)) : ∃ F', Same F F' ∧ Wd K F' H ((some v, w.frzIn) :: (some v', w'.frzIn) :: L) := by
  obtain ⟨F1, s1, w1⟩ := wd.frzIn
  obtain ⟨F2, s2, w2⟩ := w1.swap.frzIn
  exact ⟨F2, s1.trans s2, w2.swap⟩
end

theorem Dl.int {K : PySem.W.Frag} {F H : Hp} {Q : VK} {i : Int} (d : Dl K F H (.a (.int i)) Q) (s : Same F H) : Q (.int i) H := Dl.atom (x := .int i) (v := .int i) s rfl d
theorem Dl.str {K : PySem.W.Frag} {F H : Hp} {Q : VK} {i : Str} (d : Dl K F H (.a (.str i)) Q) (s : Same F H) : Q (.str i) H := Dl.atom (x := .str i) (v := .str i) s rfl d
theorem Dl.bl {K : PySem.W.Frag} {F H : Hp} {Q : VK} {i : Bool} (d : Dl K F H (.a (.bl i)) Q) (s : Same F H) : Q (.bl i) H := Dl.atom (x := .bl i) (v := .bl i) s rfl d
theorem Dl.non {K : PySem.W.Frag} {F H : Hp} {Q : VK} (d : Dl K F H (.a .non) Q) (s : Same F H) : Q .non H := Dl.atom (x := .non) (v := .non) s rfl d
/-- a two-place operation by trees -/
def rW (K : PySem.W.Frag) (g : W → W → Option W) : R2 := fun x y H Q => ∃ (F : Hp) (wx wy w : W) (fx fy : List Addr), Same F H ∧ Rep K F H wx x fx ∧ Rep K F H wy y fy ∧ g wx wy = some w ∧ Dl K F H w Q

section
variable {K : PySem.W.Frag} {F F' H H' : Hp} {L : List Pr} {xs ys : List W} {a : Addr} {vs : List V}
theorem RepL.fz' {fp : List Addr} (h : fzL xs = true) (r : RepL K F H xs vs fp) : RepL K F H xs vs [] := by
  have e := RepL.fz xs h r
  subst e
  exact r
theorem RepL.append : ∀ (xs ys : List W) {vs us : List V} {f g : List Addr}, RepL K F H xs vs f → RepL K F H ys us g → RepL K F H (xs ++ ys) (vs ++ us) (f ++ g)
  | [], ys, vs, us, f, g, r, r' => by rw [r.1, r.2]; exact r'
  | x :: xs, ys, vs, us, f, g, r, r' => by
    obtain ⟨v, vs', h, h', e1, e2, r1, r2⟩ := r
    exact ⟨v, vs' ++ us, h, h' ++ g, by rw [e1]; rfl, by rw [e2, List.append_assoc], r1, RepL.append xs ys r2 r'⟩
theorem fzL_append (xs ys : List W) : fzL (xs ++ ys) = (fzL xs && fzL ys) := by
  induction xs with
  | nil => simp [fzL]
  | cons x xs ih => simp only [List.cons_append, fzL, ih, Bool.and_assoc]
theorem RepL.rep {xs : List W} {vs : List V} (r : RepL K F H xs vs []) (k : Nat) : RepL K F H (List.replicate k xs).flatten (List.replicate k vs).flatten [] := by
  induction k with
  | zero => exact ⟨rfl, rfl⟩
  | succ k ih =>
    rw [List.replicate_succ, List.replicate_succ, List.flatten_cons, List.flatten_cons]
    exact RepL.append _ _ r ih
/-- a frozen or owned list stands in the heap -/
theorem Rep.lstH {m : Bool} {v : V} {fp : List Addr} (s : Same F H) (r : Rep K F H (.n (.lst m) xs) v fp) : ∃ a vs g, v = .ref a ∧ H a = some (.lst vs) ∧ RepL K F H xs vs g := by
  obtain ⟨a, vs, g, e, r1, r2⟩ := r
  cases m with
  | false => exact ⟨a, vs, g, e, s _ _ r2.1, r1⟩
  | true => exact ⟨a, vs, g, e, r2.1, r1⟩
theorem Rep.tupH {v : V} {fp : List Addr} (s : Same F H) (r : Rep K F H (.n .tup xs) v fp) : ∃ a vs g, v = .ref a ∧ SqT K H a vs ∧ RepL K F H xs vs g := by
  obtain ⟨a, vs, g, e, r1, r2⟩ := r
  exact ⟨a, vs, g, e, Same.sqT s r2.1, r1⟩
end

theorem MulOk_of {s : Str} {k : Int} (h1 : 2 ≤ k) (h2 : k < 2 ^ 62) (h3 : s.length ≠ 0) (h4 : k.toNat * s.length ≤ sizeLine) : MulOk s k := by
  have hs := sizeLine_eq
  have hk : k = (k.toNat : Int) := (Int.toNat_of_nonneg (by omega)).symm
  refine ⟨?_, fun _ _ hg => ?_, fun _ _ => ?_⟩
  · rw [Bool.or_eq_false_iff]
    exact ⟨decide_eq_false (by omega), decide_eq_false (by omega)⟩
  · have h5 : (s.length : Int) * k ≤ 2 ^ 63 - 1 := by
      rw [hk, ← Int.natCast_mul, Nat.mul_comm]
      omega
    have h6 := Int.le_ediv_of_mul_le (by omega : 0 < k) h5
    omega
  · unfold Builtin.Str.tooLong
    rw [Nat.mul_comm]
    exact decide_eq_false (by omega)
section
variable {X : Cx}
theorem opAdd : OpR X (binaryOp .Add) (rW X.K (binW .add)) := by
  refine OpR_imp (OpR.or op_add (OpR.or op_add_str (OpR.or op_cat op_catA))) fun x y H Q h => ?_
  obtain ⟨F, wx, wy, w, fx, fy, s, rx, ry, e, d⟩ := h
  cases wx with
  | a p =>
    cases wy with
    | a q =>
      cases p with
      | int i =>
        cases q with
        | int j =>
          cases e
          exact .inl ⟨i, j, rx.1, ry.1, d.int s⟩
        | _ => cases e
      | str i =>
        cases q with
        | str j =>
          simp only [binW] at e
          split at e
          · rename_i hz
            cases e
            exact .inr (.inl ⟨i, j, rx.1, ry.1, hz, d.str s⟩)
          · cases e
        | int k => cases e
        | _ => cases e
      | _ => cases q <;> cases e
    | n k ys => cases p <;> cases k <;> cases e
  | n k xs =>
    cases wy with
    | a q => cases k <;> cases q <;> cases e
    | n l ys =>
      cases k with
      | lst m =>
        cases l with
        | lst m' =>
          simp only [binW] at e
          split at e
          · rename_i hz
            cases e
            simp only [Bool.and_eq_true, decide_eq_true_eq] at hz
            obtain ⟨a, vs, g, e1, h1, r1⟩ := rx.lstH s
            obtain ⟨b, us, g', e2, h2, r2⟩ := ry.lstH s
            have l1 := RepL.length xs r1
            have l2 := RepL.length ys r2
            refine .inr (.inr (.inl ⟨a, b, vs, us, e1, e2, h1, h2, by rw [l1, l2]; exact hz.2, fun p hp => ?_⟩))
            exact d.lst s (RepL.append xs ys (RepL.fz' hz.1.1 r1) (RepL.fz' hz.1.2 r2)) rfl hp
          · cases e
        | _ => cases e
      | tup =>
        cases l with
        | tup =>
          simp only [binW] at e
          split at e
          · rename_i hz
            cases e
            simp only [Bool.and_eq_true, decide_eq_true_eq] at hz
            obtain ⟨a, vs, g, e1, h1, r1⟩ := rx.tupH s
            obtain ⟨b, us, g', e2, h2, r2⟩ := ry.tupH s
            have l1 := RepL.length xs r1
            have l2 := RepL.length ys r2
            have ra := RepL.append xs ys (RepL.fz' hz.1.1 r1) (RepL.fz' hz.1.2 r2)
            have fa : W.fz (.n .tup (xs ++ ys)) = true := by
              simp only [W.fz, Kd.fz, Bool.true_and, fzL_append, hz.1.1, hz.1.2, Bool.and_self]
            refine .inr (.inr (.inr ⟨a, b, vs, us, e1, e2, h1, h2, by rw [l1, l2]; exact hz.2, fun hv => ?_, fun _ hu => ?_, fun _ _ p hp => d.tup s ra rfl hp⟩))
            · subst hv
              have hx : xs = [] := List.eq_nil_of_length_eq_zero l1.symm
              subst hx
              subst e2
              exact d.fz s ry fa
            · subst hu
              have hy : ys = [] := List.eq_nil_of_length_eq_zero l2.symm
              subst hy
              rw [List.append_nil] at d fa
              subst e1
              exact d.fz s rx fa
          · cases e
        | _ => cases e
      | _ => cases l <;> cases e
theorem opSub : OpR X (binaryOp .Sub) (rW X.K (binW .sub)) := by
  refine OpR_imp op_sub fun x y H Q h => ?_
  obtain ⟨F, wx, wy, w, fx, fy, s, rx, ry, e, d⟩ := h
  unfold binW at e
  split at e <;> first | (cases e; done) | skip
  · cases e
    exact ⟨_, _, rx.1, ry.1, d.int s⟩
theorem opMod : OpR X (binaryOp .Mod) (rW X.K (binW .mod)) := by
  refine OpR_imp op_mod fun x y H Q h => ?_
  obtain ⟨F, wx, wy, w, fx, fy, s, rx, ry, e, d⟩ := h
  unfold binW at e
  split at e <;> first | (cases e; done) | skip
  · simp only [binI, Option.map_eq_some_iff] at e
    obtain ⟨k, e, rfl⟩ := e
    split at e
    · rename_i hz
      cases e
      exact ⟨_, _, rx.1, ry.1, of_decide_eq_true hz, d.int s⟩
    · cases e
theorem opDiv : OpR X (binaryOp .FloorDiv) (rW X.K (binW .fdiv)) := by
  refine OpR_imp op_fdiv fun x y H Q h => ?_
  obtain ⟨F, wx, wy, w, fx, fy, s, rx, ry, e, d⟩ := h
  unfold binW at e
  split at e <;> first | (cases e; done) | skip
  · simp only [binI, Option.map_eq_some_iff] at e
    obtain ⟨k, e, rfl⟩ := e
    split at e
    · rename_i hz
      cases e
      simp only [Bool.and_eq_true, decide_eq_true_eq] at hz
      exact ⟨_, _, rx.1, ry.1, hz, d.int s⟩
    · cases e
theorem opPow : OpR X (binaryOp .Pow) (rW X.K (binW .pow)) := by
  refine OpR_imp op_pow fun x y H Q h => ?_
  obtain ⟨F, wx, wy, w, fx, fy, s, rx, ry, e, d⟩ := h
  unfold binW at e
  split at e <;> first | (cases e; done) | skip
  · simp only [binI, Option.map_eq_some_iff] at e
    obtain ⟨k, e, rfl⟩ := e
    split at e
    · rename_i hz
      cases e
      simp only [Bool.and_eq_true, decide_eq_true_eq] at hz
      exact ⟨_, _, rx.1, ry.1, ⟨hz.1.1, hz.1.2, hz.2⟩, d.int s⟩
    · cases e
/-- s * k -/
theorem op_mul_s : OpR X (binaryOp .Mult) (fun x y H Q => ∃ (i : Str) (k : Int), x = .str i ∧ y = .int k ∧ MulOk i k ∧ Q (.str (Txt.mul i k)) H) := by
  rintro pins s σ H x y v u Q I rx ry ⟨i, k, rfl, rfl, hz, q⟩
  obtain ⟨t, rfl⟩ := rx
  obtain ⟨t', rfl⟩ := ry
  exact SB.mul hz fun t1 k1 => ⟨.str _, H, I.tok _, ⟨_, rfl⟩, q⟩
theorem opMul : OpR X (binaryOp .Mult) (rW X.K (binW .mul)) := by
  refine OpR_imp (OpR.or op_mul (OpR.or op_mul_s (OpR.or op_rep op_repT))) fun x y H Q h => ?_
  obtain ⟨F, wx, wy, w, fx, fy, s, rx, ry, e, d⟩ := h
  unfold binW at e
  split at e
  · simp only [binI, Option.map_eq_some_iff] at e
    obtain ⟨k, e, rfl⟩ := e
    split at e
    · rename_i hz
      cases e
      simp only [Bool.or_eq_true, Bool.and_eq_true, decide_eq_true_eq] at hz
      exact .inl ⟨_, _, rx.1, ry.1, hz, d.int s⟩
    · cases e
  · cases e
  · cases e
  · cases e
  · simp only at e
    split at e
    · rename_i hz
      cases e
      simp only [Bool.and_eq_true, decide_eq_true_eq, small63] at hz
      obtain ⟨a, vs, g, e1, h1, r1⟩ := rx.lstH s
      have l1 := RepL.length _ r1
      refine .inr (.inr (.inl ⟨a, _, vs, e1, ry.1, h1, hz.1.2.1, hz.1.2.2, by rw [l1]; exact hz.2, fun p hp => ?_⟩))
      exact d.lst s (RepL.rep (RepL.fz' hz.1.1 r1) _) rfl hp
    · cases e
  · simp only at e
    split at e
    · rename_i hz
      cases e
      simp only [Bool.and_eq_true, decide_eq_true_eq, Bool.not_eq_true'] at hz
      obtain ⟨a, vs, g, e1, h1, r1⟩ := rx.tupH s
      have l1 := RepL.length _ r1
      refine .inr (.inr (.inr ⟨a, _, vs, e1, ry.1, h1, fun q => ?_, hz.1.1.2, hz.1.2, by rw [l1]; exact hz.2, fun p hp => ?_⟩))
      · subst q
        have := List.eq_nil_of_length_eq_zero l1.symm
        rw [this] at hz
        exact absurd hz.1.1.1.2 (by simp)
      · exact d.tup s (RepL.rep (RepL.fz' hz.1.1.1.1 r1) _) rfl hp
    · cases e
  · simp only at e
    split at e
    · rename_i hz
      cases e
      simp only [Bool.and_eq_true, decide_eq_true_eq] at hz
      refine .inr (.inl ⟨_, _, rx.1, ry.1, ?_, d.str s⟩)
      exact MulOk_of hz.1.1.1 hz.1.1.2 hz.1.2 hz.2
    · cases e
  · cases e
def bopOf : Bop → Operator
  | .add => .Add
  | .sub => .Sub
  | .mul => .Mult
  | .fdiv => .FloorDiv
  | .mod => .Mod
  | .pow => .Pow
theorem opB : ∀ op : Bop, OpR X (binaryOp (bopOf op)) (rW X.K (binW op))
  | .add => opAdd
  | .sub => opSub
  | .mul => opMul
  | .fdiv => opDiv
  | .mod => opMod
  | .pow => opPow
variable {cl : Nat → List W → Option (List W × W)}
theorem snd_bin {op : Bop} {a b : Expr} {ma mb : Ex} {pos : Pos} (ha : PE X a (TV X cl ma)) (hb : PE X b (TV X cl mb)) : PE X (.BinOp a (bopOf op) b pos) (TV X cl (.bin op ma mb)) := by
  refine PE_imp (pe_op (opB op) ha hb) fun σ H Q ⟨hl, F, ρ, T, w, ρ', wd, ev, q⟩ => ?_
  simp only [evm] at ev
  split at ev <;> first | (cases ev; done) | skip
  rename_i x ρ1 e1
  split at ev <;> first | (cases ev; done) | skip
  rename_i y ρ2 e2
  split at ev <;> first | (cases ev; done) | skip
  rename_i w' e3
  cases ev
  refine ⟨hl, F, ρ, T, x, ρ1, wd, e1, fun F1 H1 vx s1 w1 => ⟨hl, F1, ρ1, (some vx, x) :: T, y, _, w1, e2, fun F2 H2 vy s2 w2 => ?_⟩⟩
  obtain ⟨F3, s3, w3⟩ := Wd.frzIn2 w2
  obtain ⟨fy, ry⟩ := w3.rep List.mem_cons_self
  obtain ⟨fx, rx⟩ := w3.rep (List.mem_cons_of_mem _ List.mem_cons_self)
  refine ⟨F3, _, _, w, fx, fy, w3.same, rx, ry, e3, fun F4 H4 v fp x4 r4 n4 f4 => ?_⟩
  exact q F4 H4 v ((s1.trans s2).trans (s3.trans x4.sF)) ((w3.dl x4 r4 n4 f4).drop2.drop2)
theorem snd_neg {a : Expr} {m : Ex} {pos : Pos} (h : PE X a (TV X cl m)) : PE X (.UnaryOp .USub a pos) (TV X cl (.neg m)) := by
  refine PE_imp (pe_un un_neg h) fun σ H Q ⟨hl, F, ρ, T, w, ρ', wd, ev, q⟩ => ?_
  simp only [evm] at ev
  split at ev <;> first | (cases ev; done) | skip
  rename_i i ρ1 e1
  cases ev
  refine ⟨hl, F, ρ, T, _, _, wd, e1, fun F1 H1 vx s1 w1 => ?_⟩
  obtain ⟨fx, rx⟩ := w1.rep List.mem_cons_self
  exact ⟨i, rx.1, q F1 H1 _ s1 (w1.tail.add ⟨rfl, rfl⟩)⟩
end
end Lin

set_option Elab.async false
set_option linter.all false
set_option maxRecDepth 100000
set_option maxHeartbeats 4000000
/-! Lin, part F: == between a dict and data of other kinds. -/
namespace Lin
open PySem PySem.SeqAt PySem.MeetsSeq
open AutoSeq1 (wpAny_loadPart')
theorem dict_declines_none (l : Addr) (es : Array DictEntry) (n : Nat) (dd : Option Addr) (sl : Array (Option Value)) :
    Meets (Builtin.«dict.__eq__» ⟨[.ref l, .none], []⟩) (fun _ R s => s.heap.get? l = some { cls := .type "dict", dict := dd, data := .dict es n, slots := sl } ∧ R (.ok (.ret .notImplemented)) s) :=
  .of_wp fun prog w A R s h => by obtain ⟨hp, g, d, tk, os⟩ := s; obtain ⟨hl, h⟩ := h; have f1 := F.sub_NoneType_dict; wp_walk using wpAny_loadPart' hl, wpAny_load hl; exact ⟨_, rfl, h⟩
theorem dict_declines_bool (l : Addr) (es : Array DictEntry) (n : Nat) (dd : Option Addr) (sl : Array (Option Value)) (b : Bool) :
    Meets (Builtin.«dict.__eq__» ⟨[.ref l, .bool b], []⟩) (fun _ R s => s.heap.get? l = some { cls := .type "dict", dict := dd, data := .dict es n, slots := sl } ∧ R (.ok (.ret .notImplemented)) s) :=
  .of_wp fun prog w A R s h => by obtain ⟨hp, g, d, tk, os⟩ := s; obtain ⟨hl, h⟩ := h; have f1 := F.sub_bool_dict; wp_walk using wpAny_loadPart' hl, wpAny_load hl; exact ⟨_, rfl, h⟩
theorem dict_declines_int (l : Addr) (es : Array DictEntry) (n : Nat) (dd : Option Addr) (sl : Array (Option Value)) (b : Int) (u : Tok) :
    Meets (Builtin.«dict.__eq__» ⟨[.ref l, .int b u], []⟩) (fun _ R s => s.heap.get? l = some { cls := .type "dict", dict := dd, data := .dict es n, slots := sl } ∧ R (.ok (.ret .notImplemented)) s) :=
  .of_wp fun prog w A R s h => by obtain ⟨hp, g, d, tk, os⟩ := s; obtain ⟨hl, h⟩ := h; have f1 := F.sub_int_dict; wp_walk using wpAny_loadPart' hl, wpAny_load hl; exact ⟨_, rfl, h⟩
theorem dict_declines_str (l : Addr) (es : Array DictEntry) (n : Nat) (dd : Option Addr) (sl : Array (Option Value)) (b : Str) (u : Tok) :
    Meets (Builtin.«dict.__eq__» ⟨[.ref l, .str b u], []⟩) (fun _ R s => s.heap.get? l = some { cls := .type "dict", dict := dd, data := .dict es n, slots := sl } ∧ R (.ok (.ret .notImplemented)) s) :=
  .of_wp fun prog w A R s h => by obtain ⟨hp, g, d, tk, os⟩ := s; obtain ⟨hl, h⟩ := h; have f1 := F.sub_str_dict; wp_walk using wpAny_loadPart' hl, wpAny_load hl; exact ⟨_, rfl, h⟩
theorem bool_declines_dict (l : Addr) (es : Array DictEntry) (n : Nat) (dd : Option Addr) (sl : Array (Option Value)) (b : Bool) :
    Meets (Builtin.«int.__eq__» ⟨[.bool b, .ref l], []⟩) (fun _ R s => s.heap.get? l = some { cls := .type "dict", dict := dd, data := .dict es n, slots := sl } ∧ R (.ok (.ret .notImplemented)) s) :=
  .of_wp fun prog w A R s h => by obtain ⟨hp, g, d, tk, os⟩ := s; obtain ⟨hl, h⟩ := h; wp_walk using wpAny_loadPart' hl, wpAny_load hl; exact ⟨_, rfl, h⟩
theorem int_declines_dict (l : Addr) (es : Array DictEntry) (n : Nat) (dd : Option Addr) (sl : Array (Option Value)) (b : Int) (u : Tok) :
    Meets (Builtin.«int.__eq__» ⟨[.int b u, .ref l], []⟩) (fun _ R s => s.heap.get? l = some { cls := .type "dict", dict := dd, data := .dict es n, slots := sl } ∧ R (.ok (.ret .notImplemented)) s) :=
  .of_wp fun prog w A R s h => by obtain ⟨hp, g, d, tk, os⟩ := s; obtain ⟨hl, h⟩ := h; wp_walk using wpAny_loadPart' hl, wpAny_load hl; exact ⟨_, rfl, h⟩
theorem str_declines_dict (l : Addr) (es : Array DictEntry) (n : Nat) (dd : Option Addr) (sl : Array (Option Value)) (b : Str) (u : Tok) :
    Meets (Builtin.«str.__eq__» ⟨[.str b u, .ref l], []⟩) (fun _ R s => s.heap.get? l = some { cls := .type "dict", dict := dd, data := .dict es n, slots := sl } ∧ R (.ok (.ret .notImplemented)) s) :=
  .of_wp fun prog w A R s h => by obtain ⟨hp, g, d, tk, os⟩ := s; obtain ⟨hl, h⟩ := h; wp_walk using wpAny_loadPart' hl, wpAny_load hl; exact ⟨_, rfl, h⟩
theorem dict_declines_list (l b : Addr) (es : Array DictEntry) (n : Nat) (dd : Option Addr) (sl : Array (Option Value)) (items : Array Value) (n2 : Nat) (dd2 : Option Addr) (sl2 : Array (Option Value)) :
    Meets (Builtin.«dict.__eq__» ⟨[.ref l, .ref b], []⟩) (fun _ R s => s.heap.get? l = some { cls := .type "dict", dict := dd, data := .dict es n, slots := sl } ∧ s.heap.get? b = some { cls := .type "list", dict := dd2, data := .seq items n2, slots := sl2 } ∧ R (.ok (.ret .notImplemented)) s) :=
  .of_wp fun prog w A R s h => by obtain ⟨hp, g, d, tk, os⟩ := s; obtain ⟨hl, hb, h⟩ := h; have f1 := F.sub_list_dict; wp_walk using wpAny_loadPart' hl, wpAny_load hl, wpAny_loadPart' hb, wpAny_load hb; exact ⟨_, rfl, h⟩
theorem list_declines_dict (l b : Addr) (es : Array DictEntry) (n : Nat) (dd : Option Addr) (sl : Array (Option Value)) (items : Array Value) (n2 : Nat) (dd2 : Option Addr) (sl2 : Array (Option Value)) :
    Meets (Builtin.«list.__eq__» ⟨[.ref b, .ref l], []⟩) (fun _ R s => s.heap.get? l = some { cls := .type "dict", dict := dd, data := .dict es n, slots := sl } ∧ s.heap.get? b = some { cls := .type "list", dict := dd2, data := .seq items n2, slots := sl2 } ∧ R (.ok (.ret .notImplemented)) s) :=
  .of_wp fun prog w A R s h => by obtain ⟨hp, g, d, tk, os⟩ := s; obtain ⟨hl, hb, h⟩ := h; have f1 := F.sub_dict_list; wp_walk using wpAny_loadPart' hl, wpAny_load hl, wpAny_loadPart' hb, wpAny_load hb; exact ⟨_, rfl, h⟩
theorem dict_declines_tuple (l b : Addr) (es : Array DictEntry) (n : Nat) (dd : Option Addr) (sl : Array (Option Value)) (items : Array Value) (n2 : Nat) (dd2 : Option Addr) (sl2 : Array (Option Value)) :
    Meets (Builtin.«dict.__eq__» ⟨[.ref l, .ref b], []⟩) (fun _ R s => s.heap.get? l = some { cls := .type "dict", dict := dd, data := .dict es n, slots := sl } ∧ s.heap.get? b = some { cls := .type "tuple", dict := dd2, data := .seq items n2, slots := sl2 } ∧ R (.ok (.ret .notImplemented)) s) :=
  .of_wp fun prog w A R s h => by obtain ⟨hp, g, d, tk, os⟩ := s; obtain ⟨hl, hb, h⟩ := h; have f1 := F.sub_tuple_dict; wp_walk using wpAny_loadPart' hl, wpAny_load hl, wpAny_loadPart' hb, wpAny_load hb; exact ⟨_, rfl, h⟩
theorem tuple_declines_dict (l b : Addr) (es : Array DictEntry) (n : Nat) (dd : Option Addr) (sl : Array (Option Value)) (items : Array Value) (n2 : Nat) (dd2 : Option Addr) (sl2 : Array (Option Value)) :
    Meets (Builtin.«tuple.__eq__» ⟨[.ref b, .ref l], []⟩) (fun _ R s => s.heap.get? l = some { cls := .type "dict", dict := dd, data := .dict es n, slots := sl } ∧ s.heap.get? b = some { cls := .type "tuple", dict := dd2, data := .seq items n2, slots := sl2 } ∧ R (.ok (.ret .notImplemented)) s) :=
  .of_wp fun prog w A R s h => by obtain ⟨hp, g, d, tk, os⟩ := s; obtain ⟨hl, hb, h⟩ := h; have f1 := F.sub_dict_tuple; wp_walk using wpAny_loadPart' hl, wpAny_load hl, wpAny_loadPart' hb, wpAny_load hb; exact ⟨_, rfl, h⟩
def IsD (h : Heap) (l : Addr) : Prop := ∃ (es : Array DictEntry) (n : Nat) (dd : Option Addr) (sl : Array (Option Value)), h.get? l = some { cls := .type "dict", dict := dd, data := .dict es n, slots := sl }
section
variable {A : Around} {s : Shared}
theorem RcAt.dict_none {l : Addr} (hl : IsD s.heap l) (hu : A.units < cLine) : RcAt A s (.ref l) (.none) false := fun prog w E Q h => by
  obtain ⟨es, n, dd, sl, ho⟩ := hl
  exact rc_eq_decline_or (k := false) ⟨_, ho, rfl⟩ rfl (by decide) F.sub_NoneType_dict F.slot_dict_eq F.slot_NoneType_eq_refl
    (fun _ hq => call_meets F.slot_dict_eq ⟨_, ho, rfl⟩ F.entry_dict_eq (F.args_dict_eq_2 _ _) (dict_declines_none l es n dd sl) ⟨ho, hq⟩)
    (fun _ hq => call_gives F.slot_NoneType_eq_refl rfl F.entry_NoneType_eq (F.args_NoneType_eq_2 _ _) (NoneType___eq___none_ref_0 l) hq)
    (fun _ hq => wpAny_of_eq (rfl : isSame (.ref l) (.none) = pure false) hq) (.inr hu) h
theorem RcAt.none_dict {l : Addr} (hl : IsD s.heap l) (hu : A.units < cLine) : RcAt A s (.none) (.ref l) false := fun prog w E Q h => by
  obtain ⟨es, n, dd, sl, ho⟩ := hl
  exact rc_eq_decline_or (k := false) rfl ⟨_, ho, rfl⟩ (by decide) F.sub_dict_NoneType F.slot_NoneType_eq F.slot_dict_eq_refl
    (fun _ hq => call_gives F.slot_NoneType_eq rfl F.entry_NoneType_eq (F.args_NoneType_eq_2 _ _) (NoneType___eq___none_ref_0 l) hq)
    (fun _ hq => call_meets F.slot_dict_eq_refl ⟨_, ho, rfl⟩ F.entry_dict_eq (F.args_dict_eq_2 _ _) (dict_declines_none l es n dd sl) ⟨ho, hq⟩)
    (fun _ hq => wpAny_of_eq (rfl : isSame (.none) (.ref l) = pure false) hq) (.inr hu) h
theorem EqAt.dict_none {l : Addr} (hl : IsD s.heap l) (hu : A.units < cLine) : EqAt A s (.ref l) (.none) false := fun prog w E Q h => by
  unfold eqBool
  refine wpAny_holding ?_
  refine wpAny_ite_split (fun hab => absurd (eq_of_beq hab) nofun) (fun _ => ?_)
  exact wpAny_bind (RcAt.dict_none hl hu prog w E _ (wpAny_truthy_bool h))
theorem EqAt.none_dict {l : Addr} (hl : IsD s.heap l) (hu : A.units < cLine) : EqAt A s (.none) (.ref l) false := fun prog w E Q h => by
  unfold eqBool
  refine wpAny_holding ?_
  refine wpAny_ite_split (fun hab => absurd (eq_of_beq hab) nofun) (fun _ => ?_)
  exact wpAny_bind (RcAt.none_dict hl hu prog w E _ (wpAny_truthy_bool h))
theorem RcAt.dict_bool {l : Addr} (b : Bool) (hl : IsD s.heap l) (hu : A.units < cLine) : RcAt A s (.ref l) (.bool b) false := fun prog w E Q h => by
  obtain ⟨es, n, dd, sl, ho⟩ := hl
  exact rc_eq_decline_or (k := false) ⟨_, ho, rfl⟩ rfl (by decide) F.sub_bool_dict F.slot_dict_eq F.slot_bool_eq_refl
    (fun _ hq => call_meets F.slot_dict_eq ⟨_, ho, rfl⟩ F.entry_dict_eq (F.args_dict_eq_2 _ _) (dict_declines_bool l es n dd sl b) ⟨ho, hq⟩)
    (fun _ hq => call_meets F.slot_bool_eq_refl rfl F.entry_int_eq (F.args_int_eq_2 _ _) (bool_declines_dict l es n dd sl b) ⟨ho, hq⟩)
    (fun _ hq => wpAny_of_eq (rfl : isSame (.ref l) (.bool b) = pure false) hq) (.inr hu) h
theorem RcAt.bool_dict {l : Addr} (b : Bool) (hl : IsD s.heap l) (hu : A.units < cLine) : RcAt A s (.bool b) (.ref l) false := fun prog w E Q h => by
  obtain ⟨es, n, dd, sl, ho⟩ := hl
  exact rc_eq_decline_or (k := false) rfl ⟨_, ho, rfl⟩ (by decide) F.sub_dict_bool F.slot_bool_eq F.slot_dict_eq_refl
    (fun _ hq => call_meets F.slot_bool_eq rfl F.entry_int_eq (F.args_int_eq_2 _ _) (bool_declines_dict l es n dd sl b) ⟨ho, hq⟩)
    (fun _ hq => call_meets F.slot_dict_eq_refl ⟨_, ho, rfl⟩ F.entry_dict_eq (F.args_dict_eq_2 _ _) (dict_declines_bool l es n dd sl b) ⟨ho, hq⟩)
    (fun _ hq => wpAny_of_eq (rfl : isSame (.bool b) (.ref l) = pure false) hq) (.inr hu) h
theorem EqAt.dict_bool {l : Addr} (b : Bool) (hl : IsD s.heap l) (hu : A.units < cLine) : EqAt A s (.ref l) (.bool b) false := fun prog w E Q h => by
  unfold eqBool
  refine wpAny_holding ?_
  refine wpAny_ite_split (fun hab => absurd (eq_of_beq hab) nofun) (fun _ => ?_)
  exact wpAny_bind (RcAt.dict_bool b hl hu prog w E _ (wpAny_truthy_bool h))
theorem EqAt.bool_dict {l : Addr} (b : Bool) (hl : IsD s.heap l) (hu : A.units < cLine) : EqAt A s (.bool b) (.ref l) false := fun prog w E Q h => by
  unfold eqBool
  refine wpAny_holding ?_
  refine wpAny_ite_split (fun hab => absurd (eq_of_beq hab) nofun) (fun _ => ?_)
  exact wpAny_bind (RcAt.bool_dict b hl hu prog w E _ (wpAny_truthy_bool h))
theorem RcAt.dict_int {l : Addr} (b : Int) (u : Tok) (hl : IsD s.heap l) (hu : A.units < cLine) : RcAt A s (.ref l) (.int b u) false := fun prog w E Q h => by
  obtain ⟨es, n, dd, sl, ho⟩ := hl
  exact rc_eq_decline_or (k := false) ⟨_, ho, rfl⟩ (typeIs_int s b u) (by decide) F.sub_int_dict F.slot_dict_eq F.slot_int_eq_refl
    (fun _ hq => call_meets F.slot_dict_eq ⟨_, ho, rfl⟩ F.entry_dict_eq (F.args_dict_eq_2 _ _) (dict_declines_int l es n dd sl b u) ⟨ho, hq⟩)
    (fun _ hq => call_meets F.slot_int_eq_refl (typeIs_int s b u) F.entry_int_eq (F.args_int_eq_2 _ _) (int_declines_dict l es n dd sl b u) ⟨ho, hq⟩)
    (fun _ hq => wpAny_of_eq (rfl : isSame (.ref l) (.int b u) = pure false) hq) (.inr hu) h
theorem RcAt.int_dict {l : Addr} (b : Int) (u : Tok) (hl : IsD s.heap l) (hu : A.units < cLine) : RcAt A s (.int b u) (.ref l) false := fun prog w E Q h => by
  obtain ⟨es, n, dd, sl, ho⟩ := hl
  exact rc_eq_decline_or (k := false) (typeIs_int s b u) ⟨_, ho, rfl⟩ (by decide) F.sub_dict_int F.slot_int_eq F.slot_dict_eq_refl
    (fun _ hq => call_meets F.slot_int_eq (typeIs_int s b u) F.entry_int_eq (F.args_int_eq_2 _ _) (int_declines_dict l es n dd sl b u) ⟨ho, hq⟩)
    (fun _ hq => call_meets F.slot_dict_eq_refl ⟨_, ho, rfl⟩ F.entry_dict_eq (F.args_dict_eq_2 _ _) (dict_declines_int l es n dd sl b u) ⟨ho, hq⟩)
    (fun _ hq => wpAny_of_eq (rfl : isSame (.int b u) (.ref l) = pure false) hq) (.inr hu) h
theorem EqAt.dict_int {l : Addr} (b : Int) (u : Tok) (hl : IsD s.heap l) (hu : A.units < cLine) : EqAt A s (.ref l) (.int b u) false := fun prog w E Q h => by
  unfold eqBool
  refine wpAny_holding ?_
  refine wpAny_ite_split (fun hab => absurd (eq_of_beq hab) nofun) (fun _ => ?_)
  exact wpAny_bind (RcAt.dict_int b u hl hu prog w E _ (wpAny_truthy_bool h))
theorem EqAt.int_dict {l : Addr} (b : Int) (u : Tok) (hl : IsD s.heap l) (hu : A.units < cLine) : EqAt A s (.int b u) (.ref l) false := fun prog w E Q h => by
  unfold eqBool
  refine wpAny_holding ?_
  refine wpAny_ite_split (fun hab => absurd (eq_of_beq hab) nofun) (fun _ => ?_)
  exact wpAny_bind (RcAt.int_dict b u hl hu prog w E _ (wpAny_truthy_bool h))
theorem RcAt.dict_str {l : Addr} (b : Str) (u : Tok) (hl : IsD s.heap l) (hu : A.units < cLine) : RcAt A s (.ref l) (.str b u) false := fun prog w E Q h => by
  obtain ⟨es, n, dd, sl, ho⟩ := hl
  exact rc_eq_decline_or (k := false) ⟨_, ho, rfl⟩ (typeIs_str s b u) (by decide) F.sub_str_dict F.slot_dict_eq F.slot_str_eq_refl
    (fun _ hq => call_meets F.slot_dict_eq ⟨_, ho, rfl⟩ F.entry_dict_eq (F.args_dict_eq_2 _ _) (dict_declines_str l es n dd sl b u) ⟨ho, hq⟩)
    (fun _ hq => call_meets F.slot_str_eq_refl (typeIs_str s b u) F.entry_str_eq (F.args_str_eq_2 _ _) (str_declines_dict l es n dd sl b u) ⟨ho, hq⟩)
    (fun _ hq => wpAny_of_eq (rfl : isSame (.ref l) (.str b u) = pure false) hq) (.inr hu) h
theorem RcAt.str_dict {l : Addr} (b : Str) (u : Tok) (hl : IsD s.heap l) (hu : A.units < cLine) : RcAt A s (.str b u) (.ref l) false := fun prog w E Q h => by
  obtain ⟨es, n, dd, sl, ho⟩ := hl
  exact rc_eq_decline_or (k := false) (typeIs_str s b u) ⟨_, ho, rfl⟩ (by decide) F.sub_dict_str F.slot_str_eq F.slot_dict_eq_refl
    (fun _ hq => call_meets F.slot_str_eq (typeIs_str s b u) F.entry_str_eq (F.args_str_eq_2 _ _) (str_declines_dict l es n dd sl b u) ⟨ho, hq⟩)
    (fun _ hq => call_meets F.slot_dict_eq_refl ⟨_, ho, rfl⟩ F.entry_dict_eq (F.args_dict_eq_2 _ _) (dict_declines_str l es n dd sl b u) ⟨ho, hq⟩)
    (fun _ hq => wpAny_of_eq (rfl : isSame (.str b u) (.ref l) = pure false) hq) (.inr hu) h
theorem EqAt.dict_str {l : Addr} (b : Str) (u : Tok) (hl : IsD s.heap l) (hu : A.units < cLine) : EqAt A s (.ref l) (.str b u) false := fun prog w E Q h => by
  unfold eqBool
  refine wpAny_holding ?_
  refine wpAny_ite_split (fun hab => absurd (eq_of_beq hab) nofun) (fun _ => ?_)
  exact wpAny_bind (RcAt.dict_str b u hl hu prog w E _ (wpAny_truthy_bool h))
theorem EqAt.str_dict {l : Addr} (b : Str) (u : Tok) (hl : IsD s.heap l) (hu : A.units < cLine) : EqAt A s (.str b u) (.ref l) false := fun prog w E Q h => by
  unfold eqBool
  refine wpAny_holding ?_
  refine wpAny_ite_split (fun hab => absurd (eq_of_beq hab) nofun) (fun _ => ?_)
  exact wpAny_bind (RcAt.str_dict b u hl hu prog w E _ (wpAny_truthy_bool h))
theorem ne_dict_list {l b : Addr} {items : Array Value} (hl : IsD s.heap l) (hb : s.heap.IsList b items) : l ≠ b := fun e => by
  obtain ⟨es, n, dd, sl, ho⟩ := hl
  obtain ⟨o, ho2, hc, _⟩ := hb
  rw [e, ho2] at ho
  cases ho
  exact absurd hc (by simp)
theorem RcAt.dict_list {l b : Addr} {items : Array Value} (hl : IsD s.heap l) (hb : s.heap.IsList b items) (hu : A.units < cLine) : RcAt A s (.ref l) (.ref b) false := fun prog w E Q h => by
  have hne := ne_dict_list hl hb
  obtain ⟨es, n, dd, sl, ho⟩ := hl
  obtain ⟨⟨cls2, dd2, data2, sl2⟩, ho2, hc2, n2, hd2⟩ := id hb
  simp only at hc2 hd2
  subst hc2 hd2
  exact rc_eq_decline_or (k := false) ⟨_, ho, rfl⟩ ⟨_, ho2, rfl⟩ (by decide) F.sub_list_dict F.slot_dict_eq F.slot_list_eq_refl
    (fun _ hq => call_meets F.slot_dict_eq ⟨_, ho, rfl⟩ F.entry_dict_eq (F.args_dict_eq_2 _ _) (dict_declines_list l b es n dd sl items n2 dd2 sl2) ⟨ho, ho2, hq⟩)
    (fun _ hq => call_meets F.slot_list_eq_refl ⟨_, ho2, rfl⟩ F.entry_list_eq (F.args_list_eq_2 _ _) (list_declines_dict l b es n dd sl items n2 dd2 sl2) ⟨ho, ho2, hq⟩)
    (fun _ hq => wpAny_isSame_ref_other hne ho ho2 (by simp) hq) (.inr hu) h
theorem RcAt.list_dict {l b : Addr} {items : Array Value} (hl : IsD s.heap l) (hb : s.heap.IsList b items) (hu : A.units < cLine) : RcAt A s (.ref b) (.ref l) false := fun prog w E Q h => by
  have hne := ne_dict_list hl hb
  obtain ⟨es, n, dd, sl, ho⟩ := hl
  obtain ⟨⟨cls2, dd2, data2, sl2⟩, ho2, hc2, n2, hd2⟩ := id hb
  simp only at hc2 hd2
  subst hc2 hd2
  exact rc_eq_decline_or (k := false) ⟨_, ho2, rfl⟩ ⟨_, ho, rfl⟩ (by decide) F.sub_dict_list F.slot_list_eq F.slot_dict_eq_refl
    (fun _ hq => call_meets F.slot_list_eq ⟨_, ho2, rfl⟩ F.entry_list_eq (F.args_list_eq_2 _ _) (list_declines_dict l b es n dd sl items n2 dd2 sl2) ⟨ho, ho2, hq⟩)
    (fun _ hq => call_meets F.slot_dict_eq_refl ⟨_, ho, rfl⟩ F.entry_dict_eq (F.args_dict_eq_2 _ _) (dict_declines_list l b es n dd sl items n2 dd2 sl2) ⟨ho, ho2, hq⟩)
    (fun _ hq => wpAny_isSame_ref_other' hne.symm ho2 ho (by simp) hq) (.inr hu) h
theorem EqAt.dict_list {l b : Addr} {items : Array Value} (hl : IsD s.heap l) (hb : s.heap.IsList b items) (hu : A.units < cLine) : EqAt A s (.ref l) (.ref b) false := EqAt.of_refs (ne_dict_list hl hb) (RcAt.dict_list hl hb hu)
theorem EqAt.list_dict {l b : Addr} {items : Array Value} (hl : IsD s.heap l) (hb : s.heap.IsList b items) (hu : A.units < cLine) : EqAt A s (.ref b) (.ref l) false := EqAt.of_refs (ne_dict_list hl hb).symm (RcAt.list_dict hl hb hu)
theorem ne_dict_tuple {l b : Addr} {items : Array Value} (hl : IsD s.heap l) (hb : s.heap.IsTuple b items) : l ≠ b := fun e => by
  obtain ⟨es, n, dd, sl, ho⟩ := hl
  obtain ⟨o, ho2, hc, _⟩ := hb
  rw [e, ho2] at ho
  cases ho
  exact absurd hc (by simp)
theorem RcAt.dict_tuple {l b : Addr} {items : Array Value} (hl : IsD s.heap l) (hb : s.heap.IsTuple b items) (hu : A.units < cLine) : RcAt A s (.ref l) (.ref b) false := fun prog w E Q h => by
  have hne := ne_dict_tuple hl hb
  obtain ⟨es, n, dd, sl, ho⟩ := hl
  obtain ⟨⟨cls2, dd2, data2, sl2⟩, ho2, hc2, n2, hd2⟩ := id hb
  simp only at hc2 hd2
  subst hc2 hd2
  exact rc_eq_decline_or (k := false) ⟨_, ho, rfl⟩ ⟨_, ho2, rfl⟩ (by decide) F.sub_tuple_dict F.slot_dict_eq F.slot_tuple_eq_refl
    (fun _ hq => call_meets F.slot_dict_eq ⟨_, ho, rfl⟩ F.entry_dict_eq (F.args_dict_eq_2 _ _) (dict_declines_tuple l b es n dd sl items n2 dd2 sl2) ⟨ho, ho2, hq⟩)
    (fun _ hq => call_meets F.slot_tuple_eq_refl ⟨_, ho2, rfl⟩ F.entry_tuple_eq (F.args_tuple_eq_2 _ _) (tuple_declines_dict l b es n dd sl items n2 dd2 sl2) ⟨ho, ho2, hq⟩)
    (fun _ hq => wpAny_isSame_ref_other hne ho ho2 (by simp) hq) (.inr hu) h
theorem RcAt.tuple_dict {l b : Addr} {items : Array Value} (hl : IsD s.heap l) (hb : s.heap.IsTuple b items) (hu : A.units < cLine) : RcAt A s (.ref b) (.ref l) false := fun prog w E Q h => by
  have hne := ne_dict_tuple hl hb
  obtain ⟨es, n, dd, sl, ho⟩ := hl
  obtain ⟨⟨cls2, dd2, data2, sl2⟩, ho2, hc2, n2, hd2⟩ := id hb
  simp only at hc2 hd2
  subst hc2 hd2
  exact rc_eq_decline_or (k := false) ⟨_, ho2, rfl⟩ ⟨_, ho, rfl⟩ (by decide) F.sub_dict_tuple F.slot_tuple_eq F.slot_dict_eq_refl
    (fun _ hq => call_meets F.slot_tuple_eq ⟨_, ho2, rfl⟩ F.entry_tuple_eq (F.args_tuple_eq_2 _ _) (tuple_declines_dict l b es n dd sl items n2 dd2 sl2) ⟨ho, ho2, hq⟩)
    (fun _ hq => call_meets F.slot_dict_eq_refl ⟨_, ho, rfl⟩ F.entry_dict_eq (F.args_dict_eq_2 _ _) (dict_declines_tuple l b es n dd sl items n2 dd2 sl2) ⟨ho, ho2, hq⟩)
    (fun _ hq => wpAny_isSame_ref_other' hne.symm ho2 ho (by simp) hq) (.inr hu) h
theorem EqAt.dict_tuple {l b : Addr} {items : Array Value} (hl : IsD s.heap l) (hb : s.heap.IsTuple b items) (hu : A.units < cLine) : EqAt A s (.ref l) (.ref b) false := EqAt.of_refs (ne_dict_tuple hl hb) (RcAt.dict_tuple hl hb hu)
theorem EqAt.tuple_dict {l b : Addr} {items : Array Value} (hl : IsD s.heap l) (hb : s.heap.IsTuple b items) (hu : A.units < cLine) : EqAt A s (.ref b) (.ref l) false := EqAt.of_refs (ne_dict_tuple hl hb).symm (RcAt.tuple_dict hl hb hu)
end
end Lin

set_option Elab.async false
set_option linter.all false
set_option maxRecDepth 100000
set_option maxHeartbeats 4000000
/-! Lin, part H: comparisons by trees. -/
namespace Lin
open PySem L2 PySem.SeqAt

section
variable {X : Cx} {pins : List (Addr × Obj)} {σ : L2.St} {F H : Hp} {s : Shared}
theorem isL (I : Inv X pins σ H s) (sm : Same F H) {m : Bool} {xs : List W} {v : V} {fp : List Addr} (r : Rep X.K F H (.n (.lst m) xs) v fp) :
    ∃ a vs g its, v = .ref a ∧ RepL X.K F H xs vs g ∧ Vals vs its ∧ s.heap.IsList a its.toArray := by
  obtain ⟨a, vs, g, e, h, r1⟩ := r.lstH sm
  obtain ⟨its, rv, p, _⟩ := I.list (SqL.of h)
  exact ⟨a, vs, g, its, e, r1, rv, p.isList⟩
theorem isT (I : Inv X pins σ H s) (sm : Same F H) {xs : List W} {v : V} {fp : List Addr} (r : Rep X.K F H (.n .tup xs) v fp) :
    ∃ a vs g its, v = .ref a ∧ RepL X.K F H xs vs g ∧ Vals vs its ∧ s.heap.IsTuple a its.toArray := by
  obtain ⟨a, vs, g, e, h, r1⟩ := r.tupH sm
  obtain ⟨its, rv, p, _⟩ := I.tuple h
  exact ⟨a, vs, g, its, e, r1, rv, p⟩
theorem Rep.dctH {K : PySem.W.Frag} {F H : Hp} {m : Bool} {ks : List Key} {xs : List W} {v : V} {fp : List Addr} (s : Same F H) (r : Rep K F H (.n (.dct m ks) xs) v fp) : ∃ a vs g, v = .ref a ∧ H a = some (.dK (ks.zip vs)) ∧ ks.length = vs.length ∧ RepL K F H xs vs g := by
  obtain ⟨a, vs, g, e, r1, r2⟩ := r
  cases m with
  | false => exact ⟨a, vs, g, e, s _ _ r2.1, r2.2.1, r1⟩
  | true => exact ⟨a, vs, g, e, r2.1, r2.2.1, r1⟩
theorem isDk (I : Inv X pins σ H s) (sm : Same F H) {m : Bool} {ks : List Key} {xs : List W} {v : V} {fp : List Addr} (r : Rep X.K F H (.n (.dct m ks) xs) v fp) :
    ∃ a, v = .ref a ∧ IsD s.heap a := by
  obtain ⟨a, vs, g, e, h, _, _⟩ := r.dctH sm
  obtain ⟨_, _, vs', _, o, es, ep, ho, hx, hd, _⟩ := (show ObjOk X.prog X.w H s.heap a (.dK _) from I.hok a _ h)
  obtain ⟨cls, dd, data, sl⟩ := o
  obtain ⟨h1, h2, h3⟩ := hx
  simp only at h1 hd
  subst h1 hd
  exact ⟨a, e, es, ep, dd, sl, ho⟩

mutual
/-- two trees of one thing are equal, where == is told -/
theorem rep_same (I : Inv X pins σ H s) (sm : Same F H) : ∀ (x y : W) {v : V} {fx fy : List Addr} {b : Bool}, Rep X.K F H x v fx → Rep X.K F H y v fy → eqW x y = some b → b = true
  | .a x, .a y, v, fx, fy, b, rx, ry, e => by
    cases x <;> cases y <;> simp only [eqW, eqA, Option.some.injEq, reduceCtorEq] at e <;> have h1 := rx.1 <;> have h2 := ry.1 <;> simp only [RepA] at h1 h2 <;> rw [h1] at h2 <;> injections <;> simp_all
  | .a x, .n k ys, v, fx, fy, b, rx, ry, e => by
    simp only [eqW] at e
    split at e
    · rename_i hp
      rw [Bool.and_eq_true] at hp
      obtain ⟨a, vs, g, rfl, _, _⟩ := ry
      have h1 := rx.1
      cases x <;> simp_all [At.plain, RepA]
    · cases e
  | .n k xs, .a y, v, fx, fy, b, rx, ry, e => by
    simp only [eqW] at e
    split at e
    · rename_i hp
      rw [Bool.and_eq_true] at hp
      obtain ⟨a, vs, g, rfl, _, _⟩ := rx
      have h1 := ry.1
      cases y <;> simp_all [At.plain, RepA]
    · cases e
  | .n k xs, .n l ys, v, fx, fy, b, rx, ry, e => by
    simp only [eqW] at e
    split at e
    · obtain ⟨a, vs, g, rfl, hT, r1⟩ := rx.tupH sm
      obtain ⟨a', vs', g', e', hT', r2⟩ := ry.tupH sm
      cases e'
      have := I.tuple_inj hT hT'
      subst this
      exact rep_sameL I sm xs ys r1 r2 e
    · obtain ⟨a, vs, g, rfl, hT, r1⟩ := rx.lstH sm
      obtain ⟨a', vs', g', e', hT', r2⟩ := ry.lstH sm
      cases e'
      rw [hT] at hT'
      cases hT'
      exact rep_sameL I sm xs ys r1 r2 e
    · cases e
    · cases e
    · cases e
    · exfalso
      cases k with
      | tup =>
        obtain ⟨a, vs, g, its, rfl, _, _, p⟩ := isT I sm rx
        cases l with
        | tup => simp_all
        | ro => simp_all
        | lst m =>
          obtain ⟨b, us, g', its', e', _, _, p'⟩ := isL I sm ry
          cases e'
          exact ne_of_list_tuple p' p rfl
        | dct m ks =>
          obtain ⟨b, e', p'⟩ := isDk I sm ry
          cases e'
          exact ne_dict_tuple p' p rfl
      | ro => simp_all
      | lst m =>
        obtain ⟨a, vs, g, its, rfl, _, _, p⟩ := isL I sm rx
        cases l with
        | tup =>
          obtain ⟨b, us, g', its', e', _, _, p'⟩ := isT I sm ry
          cases e'
          exact ne_of_list_tuple p p' rfl
        | ro => simp_all
        | lst m' => simp_all
        | dct m' ks =>
          obtain ⟨b, e', p'⟩ := isDk I sm ry
          cases e'
          exact ne_dict_list p' p rfl
      | dct m ks =>
        obtain ⟨a, rfl, p⟩ := isDk I sm rx
        cases l with
        | tup =>
          obtain ⟨b, us, g', its', e', _, _, p'⟩ := isT I sm ry
          cases e'
          exact ne_dict_tuple p p' rfl
        | ro => simp_all
        | lst m' =>
          obtain ⟨b, us, g', its', e', _, _, p'⟩ := isL I sm ry
          cases e'
          exact ne_dict_list p p' rfl
        | dct m' ks' => exact False.elim (by first | (rename_i h1 h2 h3; exact h1 _ _ _ _ rfl rfl) | (rename_i h1 h2; exact h1 _ _ _ _ rfl rfl) | (rename_i h1; exact h1 _ _ _ _ rfl rfl) | (exact (by assumption : ∀ (m : Bool) (ks : List Key) (m' : Bool) (ks' : List Key), _) _ _ _ _ rfl rfl))
theorem rep_sameL (I : Inv X pins σ H s) (sm : Same F H) : ∀ (xs ys : List W) {vs : List V} {fx fy : List Addr} {b : Bool}, RepL X.K F H xs vs fx → RepL X.K F H ys vs fy → eqL xs ys = some b → b = true
  | [], [], vs, fx, fy, b, rx, ry, e => by cases e; rfl
  | [], y :: ys, vs, fx, fy, b, rx, ry, e => by
    obtain ⟨v, vs', g, g', e1, _⟩ := ry
    rw [rx.1] at e1; cases e1
  | x :: xs, [], vs, fx, fy, b, rx, ry, e => by
    obtain ⟨v, vs', g, g', e1, _⟩ := rx
    rw [ry.1] at e1; cases e1
  | x :: xs, y :: ys, vs, fx, fy, b, rx, ry, e => by
    obtain ⟨v, vs', g, g', e1, _, r1, r2⟩ := rx
    obtain ⟨u, us', h, h', e2, _, r3, r4⟩ := ry
    rw [e1] at e2
    injection e2 with e3 e4
    subst e3 e4
    simp only [eqL] at e
    split at e
    · rename_i b1 h1
      split at e
      · rename_i b2 h2
        cases e
        rw [rep_same I sm x y r1 r3 h1, rep_sameL I sm xs ys r2 r4 h2]; rfl
      · cases e
    · cases e
end
/-- the pairs of two lists of trees, place by place -/
theorem eqL_pairs : ∀ (xs ys : List W) {b : Bool}, eqL xs ys = some b → ∃ f : Nat → Bool, (∀ i (h1 : i < xs.length) (h2 : i < ys.length), eqW xs[i] ys[i] = some (f i)) ∧ ((List.range (min xs.length ys.length)).all f && xs.length == ys.length) = b
  | [], [], b, e => by cases e; exact ⟨fun _ => true, fun i h => absurd h (Nat.not_lt_zero _), rfl⟩
  | [], y :: ys, b, e => by cases e; exact ⟨fun _ => true, fun i h => absurd h (Nat.not_lt_zero _), by simp⟩
  | x :: xs, [], b, e => by cases e; exact ⟨fun _ => true, fun i _ h => absurd h (Nat.not_lt_zero _), by simp⟩
  | x :: xs, y :: ys, b, e => by
    simp only [eqL] at e
    split at e
    · rename_i b1 h1
      split at e
      · rename_i b2 h2
        cases e
        obtain ⟨f, k1, k2⟩ := eqL_pairs xs ys h2
        refine ⟨fun i => match i with | 0 => b1 | i + 1 => f i, fun i q1 q2 => ?_, ?_⟩
        · cases i with
          | zero => exact h1
          | succ i => exact k1 i (by simpa using q1) (by simpa using q2)
        · rw [List.length_cons, List.length_cons, Nat.succ_min_succ, List.range_succ_eq_map, List.all_cons, List.all_map, ← k2, ← Bool.and_assoc]
          congr 1
          by_cases hl : xs.length = ys.length
          · rw [hl]; simp
          · rw [beq_eq_false_iff_ne.mpr hl, beq_eq_false_iff_ne.mpr (by omega)]
      · cases e
    · cases e
theorem vals_at {vs : List V} {us : List Value} (r : Vals vs us) {i : Nat} (h1 : i < vs.length) (h2 : i < us.length) : RelV vs[i] us[i] := by
  obtain ⟨u, e, q⟩ := Vals.get r (List.getElem?_eq_getElem h1)
  rw [List.getElem?_eq_getElem h2] at e
  cases e
  exact q
theorem RepL.at {K : PySem.W.Frag} {F H : Hp} : ∀ {xs : List W} {vs : List V} {fp : List Addr}, RepL K F H xs vs fp → ∀ (i : Nat) (h1 : i < xs.length) (h2 : i < vs.length), ∃ g, Rep K F H xs[i] vs[i] g
  | [], vs, fp, r, i, h1, h2 => absurd h1 (Nat.not_lt_zero _)
  | x :: xs, vs, fp, r, i, h1, h2 => by
    obtain ⟨v, vs', g, g', e1, _, r1, r2⟩ := r
    subst e1
    cases i with
    | zero => exact ⟨g, r1⟩
    | succ i => exact RepL.at r2 i (by simpa using h1) (by simpa using h2)
theorem depL_le : ∀ {xs : List W} {x : W}, x ∈ xs → x.dep ≤ depL xs
  | y :: ys, x, h => by
    simp only [depL]
    rcases List.mem_cons.mp h with rfl | h
    · exact Nat.le_max_left _ _
    · exact Nat.le_trans (depL_le h) (Nat.le_max_right _ _)
/-- == of trees -/
theorem eqAtW (I : Inv X pins σ H s) (sm : Same F H) : ∀ (x y : W) (A : Around) {v v' : V} {u u' : Value} {fx fy : List Addr} {b : Bool}, Rep X.K F H x v fx → Rep X.K F H y v' fy → RelV v u → RelV v' u' → eqW x y = some b → A.units + min x.dep y.dep < cLine → A.units < cLine → EqAt A s u u' b
  | .a x, .a y, A, v, v', u, u', fx, fy, b, rx, ry, q, q', e, _, hu => by
    cases x <;> cases y <;> simp only [eqW, eqA, Option.some.injEq, reduceCtorEq] at e <;> have h1 := rx.1 <;> have h2 := ry.1 <;> simp only [RepA] at h1 h2 <;> subst h1 <;> subst h2 <;> subst e
    · cases q; cases q'; exact EqAt.same _
    · cases q; cases q'; exact EqAt.none_bool _
    · cases q; obtain ⟨t', rfl⟩ := q'; exact EqAt.none_int _ _
    · cases q; obtain ⟨t', rfl⟩ := q'; exact EqAt.none_str _ _
    · cases q; cases q'; exact EqAt.bool_none _
    · cases q; cases q'; exact EqAt.bool_bool _ _
    · cases q; obtain ⟨t', rfl⟩ := q'; exact EqAt.bool_int _ _ _
    · cases q; obtain ⟨t', rfl⟩ := q'; exact EqAt.bool_str _ _ _
    · obtain ⟨t, rfl⟩ := q; cases q'; exact EqAt.int_none _ _
    · obtain ⟨t, rfl⟩ := q; cases q'; exact EqAt.int_bool _ _ _
    · obtain ⟨t, rfl⟩ := q; obtain ⟨t', rfl⟩ := q'; exact EqAt.int_int _ _ _ _
    · obtain ⟨t, rfl⟩ := q; obtain ⟨t', rfl⟩ := q'; exact EqAt.int_str _ _ _ _
    · obtain ⟨t, rfl⟩ := q; cases q'; exact EqAt.str_none _ _
    · obtain ⟨t, rfl⟩ := q; cases q'; exact EqAt.str_bool _ _ _
    · obtain ⟨t, rfl⟩ := q; obtain ⟨t', rfl⟩ := q'; exact EqAt.str_int _ _ _ _
    · obtain ⟨t, rfl⟩ := q; obtain ⟨t', rfl⟩ := q'; exact EqAt.str_str _ _ _ _
  | .a x, .n k ys, A, v, v', u, u', fx, fy, b, rx, ry, q, q', e, _, hu => by
    simp only [eqW] at e
    split at e
    · rename_i hp
      cases e
      rw [Bool.and_eq_true] at hp
      replace ⟨hp, hk⟩ := hp
      have h1 := rx.1
      cases k with
      | ro => cases hk
      | tup =>
        obtain ⟨a, vs, g, its, rfl, _, _, p⟩ := isT I sm ry
        cases q'
        cases x <;> simp only [At.plain, Bool.false_eq_true] at hp <;> simp only [RepA] at h1 <;> subst h1
        · cases q; exact EqAt.none_tuple p hu
        · cases q; exact EqAt.bool_tuple _ p hu
        · obtain ⟨t, rfl⟩ := q; exact EqAt.int_tuple _ _ p hu
        · obtain ⟨t, rfl⟩ := q; exact EqAt.str_tuple _ _ p hu
      | lst m =>
        obtain ⟨a, vs, g, its, rfl, _, _, p⟩ := isL I sm ry
        cases q'
        cases x <;> simp only [At.plain, Bool.false_eq_true] at hp <;> simp only [RepA] at h1 <;> subst h1
        · cases q; exact EqAt.none_list p hu
        · cases q; exact EqAt.bool_list _ p hu
        · obtain ⟨t, rfl⟩ := q; exact EqAt.int_list _ _ p hu
        · obtain ⟨t, rfl⟩ := q; exact EqAt.str_list _ _ p hu
      | dct m ks =>
        obtain ⟨a, rfl, p⟩ := isDk I sm ry
        cases q'
        cases x <;> simp only [At.plain, Bool.false_eq_true] at hp <;> simp only [RepA] at h1 <;> subst h1
        · cases q; exact Lin.EqAt.none_dict p hu
        · cases q; exact Lin.EqAt.bool_dict _ p hu
        · obtain ⟨t, rfl⟩ := q; exact Lin.EqAt.int_dict _ _ p hu
        · obtain ⟨t, rfl⟩ := q; exact Lin.EqAt.str_dict _ _ p hu
    · cases e
  | .n k xs, .a y, A, v, v', u, u', fx, fy, b, rx, ry, q, q', e, _, hu => by
    simp only [eqW] at e
    split at e
    · rename_i hp
      cases e
      rw [Bool.and_eq_true] at hp
      replace ⟨hp, hk⟩ := hp
      have h1 := ry.1
      cases k with
      | ro => cases hk
      | tup =>
        obtain ⟨a, vs, g, its, rfl, _, _, p⟩ := isT I sm rx
        cases q
        cases y <;> simp only [At.plain, Bool.false_eq_true] at hp <;> simp only [RepA] at h1 <;> subst h1
        · cases q'; exact EqAt.tuple_none p hu
        · cases q'; exact EqAt.tuple_bool _ p hu
        · obtain ⟨t, rfl⟩ := q'; exact EqAt.tuple_int _ _ p hu
        · obtain ⟨t, rfl⟩ := q'; exact EqAt.tuple_str _ _ p hu
      | lst m =>
        obtain ⟨a, vs, g, its, rfl, _, _, p⟩ := isL I sm rx
        cases q
        cases y <;> simp only [At.plain, Bool.false_eq_true] at hp <;> simp only [RepA] at h1 <;> subst h1
        · cases q'; exact EqAt.list_none p hu
        · cases q'; exact EqAt.list_bool _ p hu
        · obtain ⟨t, rfl⟩ := q'; exact EqAt.list_int _ _ p hu
        · obtain ⟨t, rfl⟩ := q'; exact EqAt.list_str _ _ p hu
      | dct m ks =>
        obtain ⟨a, rfl, p⟩ := isDk I sm rx
        cases q
        cases y <;> simp only [At.plain, Bool.false_eq_true] at hp <;> simp only [RepA] at h1 <;> subst h1
        · cases q'; exact Lin.EqAt.dict_none p hu
        · cases q'; exact Lin.EqAt.dict_bool _ p hu
        · obtain ⟨t, rfl⟩ := q'; exact Lin.EqAt.dict_int _ _ p hu
        · obtain ⟨t, rfl⟩ := q'; exact Lin.EqAt.dict_str _ _ p hu
    · cases e
  | .n k xs, .n l ys, A, v, v', u, u', fx, fy, b, rx, ry, q, q', e, hd, hu => by
    have e0 := e
    simp only [eqW] at e
    split at e
    · obtain ⟨a, vs, g, its, rfl, r1, rv1, p1⟩ := isT I sm rx
      obtain ⟨a', us, g', its', rfl, r2, rv2, p2⟩ := isT I sm ry
      cases q
      cases q'
      by_cases ha : a = a'
      · subst ha
        rw [rep_same I sm _ _ rx ry e0]
        exact EqAt.same _
      · obtain ⟨f, k1, k2⟩ := eqL_pairs xs ys e
        have z1 := rv1.length
        have z2 := rv2.length
        have z3 := RepL.length xs r1
        have z4 := RepL.length ys r2
        have key : b = ((List.range (min its.toArray.size its'.toArray.size)).all f && its.toArray.size == its'.toArray.size) := by
          rw [← k2, List.size_toArray, List.size_toArray, ← z1, ← z2, z3, z4]
        rw [key]
        refine EqAt.of_refs ha (RcAt.tuples p1 p2 hu fun j h1 h2 => ?_)
        simp only [List.size_toArray, List.getElem_toArray] at h1 h2 ⊢
        have j1 : j < xs.length := by omega
        have j2 : j < ys.length := by omega
        have j3 : j < vs.length := by omega
        have j4 : j < us.length := by omega
        obtain ⟨g1, q1⟩ := RepL.at r1 j j1 j3
        obtain ⟨g2, q2⟩ := RepL.at r2 j j2 j4
        have d1 := depL_le (List.getElem_mem j1)
        have d2 := depL_le (List.getElem_mem j2)
        have h3 : A.units + 1 + min xs[j].dep ys[j].dep < cLine := by
          simp only [W.dep] at hd
          omega
        exact eqAtW I sm xs[j] ys[j] A.in1 q1 q2 (vals_at rv1 j3 h1) (vals_at rv2 j4 h2) (k1 j j1 j2) h3 (by show A.units + 1 < cLine; omega)
    · obtain ⟨a, vs, g, its, rfl, r1, rv1, p1⟩ := isL I sm rx
      obtain ⟨a', us, g', its', rfl, r2, rv2, p2⟩ := isL I sm ry
      cases q
      cases q'
      by_cases ha : a = a'
      · subst ha
        rw [rep_same I sm _ _ rx ry e0]
        exact EqAt.same _
      · obtain ⟨f, k1, k2⟩ := eqL_pairs xs ys e
        have z1 := rv1.length
        have z2 := rv2.length
        have z3 := RepL.length xs r1
        have z4 := RepL.length ys r2
        by_cases hz : its.toArray.size = its'.toArray.size
        · have key : b = (List.range its.toArray.size).all f := by
            have hz' : xs.length = ys.length := by simp only [List.size_toArray] at hz; omega
            rw [← k2, List.size_toArray, ← z1, z3, hz', Nat.min_self, beq_self_eq_true, Bool.and_true]
          rw [key]
          refine EqAt.of_refs ha (RcAt.lists p1 p2 hz hu fun j h1 h2 => ?_)
          simp only [List.size_toArray, List.getElem_toArray] at h1 h2 ⊢
          have j1 : j < xs.length := by omega
          have j2 : j < ys.length := by omega
          have j3 : j < vs.length := by omega
          have j4 : j < us.length := by omega
          obtain ⟨g1, q1⟩ := RepL.at r1 j j1 j3
          obtain ⟨g2, q2⟩ := RepL.at r2 j j2 j4
          have d1 := depL_le (List.getElem_mem j1)
          have d2 := depL_le (List.getElem_mem j2)
          have h3 : A.units + 1 + min xs[j].dep ys[j].dep < cLine := by
            simp only [W.dep] at hd
            omega
          exact eqAtW I sm xs[j] ys[j] A.in1 q1 q2 (vals_at rv1 j3 h1) (vals_at rv2 j4 h2) (k1 j j1 j2) h3 (by show A.units + 1 < cLine; omega)
        · have hb : b = false := by
            have hz' : xs.length ≠ ys.length := by simp only [List.size_toArray] at hz; omega
            rw [← k2, beq_eq_false_iff_ne.mpr hz', Bool.and_false]
          rw [hb]
          exact EqAt.of_refs ha (RcAt.lists_lengths p1 p2 (bne_iff_ne.mpr hz) hu)
    · cases e
    · cases e
    · cases e
    · cases e
      cases k with
      | ro => exact absurd rfl (by assumption)
      | tup =>
        obtain ⟨a, vs, g, its, rfl, _, _, p⟩ := isT I sm rx
        cases l with
        | tup => simp_all
        | ro => exact absurd rfl (by assumption)
        | lst m =>
          obtain ⟨a', us, g', its', rfl, _, _, p'⟩ := isL I sm ry
          cases q; cases q'
          exact EqAt.of_refs (ne_of_list_tuple p' p).symm (RcAt.tuple_list p p' hu)
        | dct m ks =>
          obtain ⟨a', rfl, p'⟩ := isDk I sm ry
          cases q; cases q'
          exact Lin.EqAt.tuple_dict p' p hu
      | lst m =>
        obtain ⟨a, vs, g, its, rfl, _, _, p⟩ := isL I sm rx
        cases l with
        | lst m' => simp_all
        | ro => exact absurd rfl (by assumption)
        | tup =>
          obtain ⟨a', us, g', its', rfl, _, _, p'⟩ := isT I sm ry
          cases q; cases q'
          exact EqAt.of_refs (ne_of_list_tuple p p') (RcAt.list_tuple p p' hu)
        | dct m ks =>
          obtain ⟨a', rfl, p'⟩ := isDk I sm ry
          cases q; cases q'
          exact Lin.EqAt.list_dict p' p hu
      | dct m ks =>
        obtain ⟨a, rfl, p⟩ := isDk I sm rx
        cases l with
        | dct m' ks' => exact False.elim (by first | (rename_i h1 h2 h3; exact h1 _ _ _ _ rfl rfl) | (rename_i h1 h2; exact h1 _ _ _ _ rfl rfl) | (rename_i h1; exact h1 _ _ _ _ rfl rfl))
        | ro => exact absurd rfl (by assumption)
        | tup =>
          obtain ⟨a', us, g', its', rfl, _, _, p'⟩ := isT I sm ry
          cases q; cases q'
          exact Lin.EqAt.dict_tuple p p' hu
        | lst m' =>
          obtain ⟨a', us, g', its', rfl, _, _, p'⟩ := isL I sm ry
          cases q; cases q'
          exact Lin.EqAt.dict_list p p' hu
termination_by x => sizeOf x
decreasing_by
  all_goals
    have hm := List.sizeOf_lt_of_mem (List.getElem_mem j1)
    simp only [W.n.sizeOf_spec]
    omega
end
end Lin

set_option Elab.async false
set_option linter.all false
set_option maxRecDepth 100000
set_option maxHeartbeats 4000000
/-! Lin, part I: richCompare of trees; comparisons. -/
namespace Lin
open PySem L2 PySem.SeqAt
section
variable {X : Cx} {pins : List (Addr × Obj)} {σ : L2.St} {F H : Hp} {s : Shared}
/-- == at the top -/
theorem rcAtW (I : Inv X pins σ H s) (sm : Same F H) : ∀ (x y : W) (A : Around) {v v' : V} {u u' : Value} {fx fy : List Addr} {b : Bool}, Rep X.K F H x v fx → Rep X.K F H y v' fy → RelV v u → RelV v' u' → eqW x y = some b → A.units + min x.dep y.dep < cLine → A.units < cLine → RcAt A s u u' b
  | .a x, .a y, A, v, v', u, u', fx, fy, b, rx, ry, q, q', e, _, hu => by
    cases x <;> cases y <;> simp only [eqW, eqA, Option.some.injEq, reduceCtorEq] at e <;> have h1 := rx.1 <;> have h2 := ry.1 <;> simp only [RepA] at h1 h2 <;> subst h1 <;> subst h2 <;> subst e
    · cases q; cases q'; exact RcAt.none_none
    · cases q; cases q'; exact RcAt.none_bool _
    · cases q; obtain ⟨t', rfl⟩ := q'; exact RcAt.none_int _ _
    · cases q; obtain ⟨t', rfl⟩ := q'; exact RcAt.none_str _ _
    · cases q; cases q'; exact RcAt.bool_none _
    · cases q; cases q'; exact RcAt.bool_bool _ _
    · cases q; obtain ⟨t', rfl⟩ := q'; exact RcAt.bool_int _ _ _
    · cases q; obtain ⟨t', rfl⟩ := q'; exact RcAt.bool_str _ _ _
    · obtain ⟨t, rfl⟩ := q; cases q'; exact RcAt.int_none _ _
    · obtain ⟨t, rfl⟩ := q; cases q'; exact RcAt.int_bool _ _ _
    · obtain ⟨t, rfl⟩ := q; obtain ⟨t', rfl⟩ := q'; exact RcAt.int_int _ _ _ _
    · obtain ⟨t, rfl⟩ := q; obtain ⟨t', rfl⟩ := q'; exact RcAt.int_str _ _ _ _
    · obtain ⟨t, rfl⟩ := q; cases q'; exact RcAt.str_none _ _
    · obtain ⟨t, rfl⟩ := q; cases q'; exact RcAt.str_bool _ _ _
    · obtain ⟨t, rfl⟩ := q; obtain ⟨t', rfl⟩ := q'; exact RcAt.str_int _ _ _ _
    · obtain ⟨t, rfl⟩ := q; obtain ⟨t', rfl⟩ := q'; exact RcAt.str_str _ _ _ _
  | .a x, .n k ys, A, v, v', u, u', fx, fy, b, rx, ry, q, q', e, _, hu => by
    simp only [eqW] at e
    split at e
    · rename_i hp
      cases e
      rw [Bool.and_eq_true] at hp
      replace ⟨hp, hk⟩ := hp
      have h1 := rx.1
      cases k with
      | ro => cases hk
      | tup =>
        obtain ⟨a, vs, g, its, rfl, _, _, p⟩ := isT I sm ry
        cases q'
        cases x <;> simp only [At.plain, Bool.false_eq_true] at hp <;> simp only [RepA] at h1 <;> subst h1
        · cases q; exact RcAt.none_tuple p hu
        · cases q; exact RcAt.bool_tuple _ p hu
        · obtain ⟨t, rfl⟩ := q; exact RcAt.int_tuple _ _ p hu
        · obtain ⟨t, rfl⟩ := q; exact RcAt.str_tuple _ _ p hu
      | lst m =>
        obtain ⟨a, vs, g, its, rfl, _, _, p⟩ := isL I sm ry
        cases q'
        cases x <;> simp only [At.plain, Bool.false_eq_true] at hp <;> simp only [RepA] at h1 <;> subst h1
        · cases q; exact RcAt.none_list p hu
        · cases q; exact RcAt.bool_list _ p hu
        · obtain ⟨t, rfl⟩ := q; exact RcAt.int_list _ _ p hu
        · obtain ⟨t, rfl⟩ := q; exact RcAt.str_list _ _ p hu
      | dct m ks =>
        obtain ⟨a, rfl, p⟩ := isDk I sm ry
        cases q'
        cases x <;> simp only [At.plain, Bool.false_eq_true] at hp <;> simp only [RepA] at h1 <;> subst h1
        · cases q; exact Lin.RcAt.none_dict p hu
        · cases q; exact Lin.RcAt.bool_dict _ p hu
        · obtain ⟨t, rfl⟩ := q; exact Lin.RcAt.int_dict _ _ p hu
        · obtain ⟨t, rfl⟩ := q; exact Lin.RcAt.str_dict _ _ p hu
    · cases e
  | .n k xs, .a y, A, v, v', u, u', fx, fy, b, rx, ry, q, q', e, _, hu => by
    simp only [eqW] at e
    split at e
    · rename_i hp
      cases e
      rw [Bool.and_eq_true] at hp
      replace ⟨hp, hk⟩ := hp
      have h1 := ry.1
      cases k with
      | ro => cases hk
      | tup =>
        obtain ⟨a, vs, g, its, rfl, _, _, p⟩ := isT I sm rx
        cases q
        cases y <;> simp only [At.plain, Bool.false_eq_true] at hp <;> simp only [RepA] at h1 <;> subst h1
        · cases q'; exact RcAt.tuple_none p hu
        · cases q'; exact RcAt.tuple_bool _ p hu
        · obtain ⟨t, rfl⟩ := q'; exact RcAt.tuple_int _ _ p hu
        · obtain ⟨t, rfl⟩ := q'; exact RcAt.tuple_str _ _ p hu
      | lst m =>
        obtain ⟨a, vs, g, its, rfl, _, _, p⟩ := isL I sm rx
        cases q
        cases y <;> simp only [At.plain, Bool.false_eq_true] at hp <;> simp only [RepA] at h1 <;> subst h1
        · cases q'; exact RcAt.list_none p hu
        · cases q'; exact RcAt.list_bool _ p hu
        · obtain ⟨t, rfl⟩ := q'; exact RcAt.list_int _ _ p hu
        · obtain ⟨t, rfl⟩ := q'; exact RcAt.list_str _ _ p hu
      | dct m ks =>
        obtain ⟨a, rfl, p⟩ := isDk I sm rx
        cases q
        cases y <;> simp only [At.plain, Bool.false_eq_true] at hp <;> simp only [RepA] at h1 <;> subst h1
        · cases q'; exact Lin.RcAt.dict_none p hu
        · cases q'; exact Lin.RcAt.dict_bool _ p hu
        · obtain ⟨t, rfl⟩ := q'; exact Lin.RcAt.dict_int _ _ p hu
        · obtain ⟨t, rfl⟩ := q'; exact Lin.RcAt.dict_str _ _ p hu
    · cases e
  | .n k xs, .n l ys, A, v, v', u, u', fx, fy, b, rx, ry, q, q', e, hd, hu => by
    have e0 := e
    simp only [eqW] at e
    split at e
    · obtain ⟨a, vs, g, its, rfl, r1, rv1, p1⟩ := isT I sm rx
      obtain ⟨a', us, g', its', rfl, r2, rv2, p2⟩ := isT I sm ry
      cases q
      cases q'
      · obtain ⟨f, k1, k2⟩ := eqL_pairs xs ys e
        have z1 := rv1.length
        have z2 := rv2.length
        have z3 := RepL.length xs r1
        have z4 := RepL.length ys r2
        have key : b = ((List.range (min its.toArray.size its'.toArray.size)).all f && its.toArray.size == its'.toArray.size) := by
          rw [← k2, List.size_toArray, List.size_toArray, ← z1, ← z2, z3, z4]
        rw [key]
        refine RcAt.tuples p1 p2 hu fun j h1 h2 => ?_
        simp only [List.size_toArray, List.getElem_toArray] at h1 h2 ⊢
        have j1 : j < xs.length := by omega
        have j2 : j < ys.length := by omega
        have j3 : j < vs.length := by omega
        have j4 : j < us.length := by omega
        obtain ⟨g1, q1⟩ := RepL.at r1 j j1 j3
        obtain ⟨g2, q2⟩ := RepL.at r2 j j2 j4
        have d1 := depL_le (List.getElem_mem j1)
        have d2 := depL_le (List.getElem_mem j2)
        have h3 : A.units + 1 + min xs[j].dep ys[j].dep < cLine := by
          simp only [W.dep] at hd
          omega
        exact eqAtW I sm xs[j] ys[j] A.in1 q1 q2 (vals_at rv1 j3 h1) (vals_at rv2 j4 h2) (k1 j j1 j2) h3 (by show A.units + 1 < cLine; omega)
    · obtain ⟨a, vs, g, its, rfl, r1, rv1, p1⟩ := isL I sm rx
      obtain ⟨a', us, g', its', rfl, r2, rv2, p2⟩ := isL I sm ry
      cases q
      cases q'
      · obtain ⟨f, k1, k2⟩ := eqL_pairs xs ys e
        have z1 := rv1.length
        have z2 := rv2.length
        have z3 := RepL.length xs r1
        have z4 := RepL.length ys r2
        by_cases hz : its.toArray.size = its'.toArray.size
        · have key : b = (List.range its.toArray.size).all f := by
            have hz' : xs.length = ys.length := by simp only [List.size_toArray] at hz; omega
            rw [← k2, List.size_toArray, ← z1, z3, hz', Nat.min_self, beq_self_eq_true, Bool.and_true]
          rw [key]
          refine RcAt.lists p1 p2 hz hu fun j h1 h2 => ?_
          simp only [List.size_toArray, List.getElem_toArray] at h1 h2 ⊢
          have j1 : j < xs.length := by omega
          have j2 : j < ys.length := by omega
          have j3 : j < vs.length := by omega
          have j4 : j < us.length := by omega
          obtain ⟨g1, q1⟩ := RepL.at r1 j j1 j3
          obtain ⟨g2, q2⟩ := RepL.at r2 j j2 j4
          have d1 := depL_le (List.getElem_mem j1)
          have d2 := depL_le (List.getElem_mem j2)
          have h3 : A.units + 1 + min xs[j].dep ys[j].dep < cLine := by
            simp only [W.dep] at hd
            omega
          exact eqAtW I sm xs[j] ys[j] A.in1 q1 q2 (vals_at rv1 j3 h1) (vals_at rv2 j4 h2) (k1 j j1 j2) h3 (by show A.units + 1 < cLine; omega)
        · have hb : b = false := by
            have hz' : xs.length ≠ ys.length := by simp only [List.size_toArray] at hz; omega
            rw [← k2, beq_eq_false_iff_ne.mpr hz', Bool.and_false]
          rw [hb]
          exact RcAt.lists_lengths p1 p2 (bne_iff_ne.mpr hz) hu
    · cases e
    · cases e
    · cases e
    · cases e
      cases k with
      | ro => exact absurd rfl (by assumption)
      | tup =>
        obtain ⟨a, vs, g, its, rfl, _, _, p⟩ := isT I sm rx
        cases l with
        | tup => simp_all
        | ro => exact absurd rfl (by assumption)
        | lst m =>
          obtain ⟨a', us, g', its', rfl, _, _, p'⟩ := isL I sm ry
          cases q; cases q'
          exact RcAt.tuple_list p p' hu
        | dct m ks =>
          obtain ⟨a', rfl, p'⟩ := isDk I sm ry
          cases q; cases q'
          exact Lin.RcAt.tuple_dict p' p hu
      | lst m =>
        obtain ⟨a, vs, g, its, rfl, _, _, p⟩ := isL I sm rx
        cases l with
        | lst m' => simp_all
        | ro => exact absurd rfl (by assumption)
        | tup =>
          obtain ⟨a', us, g', its', rfl, _, _, p'⟩ := isT I sm ry
          cases q; cases q'
          exact RcAt.list_tuple p p' hu
        | dct m ks =>
          obtain ⟨a', rfl, p'⟩ := isDk I sm ry
          cases q; cases q'
          exact Lin.RcAt.list_dict p' p hu
      | dct m ks =>
        obtain ⟨a, rfl, p⟩ := isDk I sm rx
        cases l with
        | dct m' ks' => exact False.elim (by first | (rename_i h1 h2 h3; exact h1 _ _ _ _ rfl rfl) | (rename_i h1 h2; exact h1 _ _ _ _ rfl rfl) | (rename_i h1; exact h1 _ _ _ _ rfl rfl))
        | ro => exact absurd rfl (by assumption)
        | tup =>
          obtain ⟨a', us, g', its', rfl, _, _, p'⟩ := isT I sm ry
          cases q; cases q'
          exact Lin.RcAt.dict_tuple p p' hu
        | lst m' =>
          obtain ⟨a', us, g', its', rfl, _, _, p'⟩ := isL I sm ry
          cases q; cases q'
          exact Lin.RcAt.dict_list p p' hu
/-- != at the top -/
theorem rcNeAtW (I : Inv X pins σ H s) (sm : Same F H) : ∀ (x y : W) (A : Around) {v v' : V} {u u' : Value} {fx fy : List Addr} {b : Bool}, Rep X.K F H x v fx → Rep X.K F H y v' fy → RelV v u → RelV v' u' → eqW x y = some b → x.notD = true → y.notD = true → A.units + min x.dep y.dep < cLine → A.units < cLine → RcNeAt A s u u' (!b)
  | .a x, .a y, A, v, v', u, u', fx, fy, b, rx, ry, q, q', e, n1, n2, _, hu => by
    cases x <;> cases y <;> simp only [eqW, eqA, Option.some.injEq, reduceCtorEq] at e <;> have h1 := rx.1 <;> have h2 := ry.1 <;> simp only [RepA] at h1 h2 <;> subst h1 <;> subst h2 <;> subst e
    · cases q; cases q'; exact RcNeAt.none_none
    · cases q; cases q'; exact RcNeAt.none_bool _
    · cases q; obtain ⟨t', rfl⟩ := q'; exact RcNeAt.none_int _ _
    · cases q; obtain ⟨t', rfl⟩ := q'; exact RcNeAt.none_str _ _
    · cases q; cases q'; exact RcNeAt.bool_none _
    · cases q; cases q'; exact RcNeAt.bool_bool _ _
    · cases q; obtain ⟨t', rfl⟩ := q'; exact RcNeAt.bool_int _ _ _
    · cases q; obtain ⟨t', rfl⟩ := q'; exact RcNeAt.bool_str _ _ _
    · obtain ⟨t, rfl⟩ := q; cases q'; exact RcNeAt.int_none _ _
    · obtain ⟨t, rfl⟩ := q; cases q'; exact RcNeAt.int_bool _ _ _
    · obtain ⟨t, rfl⟩ := q; obtain ⟨t', rfl⟩ := q'; exact RcNeAt.int_int _ _ _ _
    · obtain ⟨t, rfl⟩ := q; obtain ⟨t', rfl⟩ := q'; exact RcNeAt.int_str _ _ _ _
    · obtain ⟨t, rfl⟩ := q; cases q'; exact RcNeAt.str_none _ _
    · obtain ⟨t, rfl⟩ := q; cases q'; exact RcNeAt.str_bool _ _ _
    · obtain ⟨t, rfl⟩ := q; obtain ⟨t', rfl⟩ := q'; exact RcNeAt.str_int _ _ _ _
    · obtain ⟨t, rfl⟩ := q; obtain ⟨t', rfl⟩ := q'; exact RcNeAt.str_str _ _ _ _
  | .a x, .n k ys, A, v, v', u, u', fx, fy, b, rx, ry, q, q', e, n1, n2, _, hu => by
    simp only [eqW] at e
    split at e
    · rename_i hp
      cases e
      rw [Bool.and_eq_true] at hp
      replace ⟨hp, hk⟩ := hp
      have h1 := rx.1
      cases k with
      | ro => cases hk
      | tup =>
        obtain ⟨a, vs, g, its, rfl, _, _, p⟩ := isT I sm ry
        cases q'
        cases x <;> simp only [At.plain, Bool.false_eq_true] at hp <;> simp only [RepA] at h1 <;> subst h1
        · cases q; exact RcNeAt.none_tuple p hu
        · cases q; exact RcNeAt.bool_tuple _ p hu
        · obtain ⟨t, rfl⟩ := q; exact RcNeAt.int_tuple _ _ p hu
        · obtain ⟨t, rfl⟩ := q; exact RcNeAt.str_tuple _ _ p hu
      | lst m =>
        obtain ⟨a, vs, g, its, rfl, _, _, p⟩ := isL I sm ry
        cases q'
        cases x <;> simp only [At.plain, Bool.false_eq_true] at hp <;> simp only [RepA] at h1 <;> subst h1
        · cases q; exact RcNeAt.none_list p hu
        · cases q; exact RcNeAt.bool_list _ p hu
        · obtain ⟨t, rfl⟩ := q; exact RcNeAt.int_list _ _ p hu
        · obtain ⟨t, rfl⟩ := q; exact RcNeAt.str_list _ _ p hu
      | dct m ks =>
        obtain ⟨a, rfl, p⟩ := isDk I sm ry
        cases q'
        cases x <;> simp only [At.plain, Bool.false_eq_true] at hp <;> simp only [RepA] at h1 <;> subst h1
        · cases q; exact absurd n1 (by first | decide | simp_all [W.notD])
        · cases q; exact absurd n1 (by first | decide | simp_all [W.notD])
        · obtain ⟨t, rfl⟩ := q; exact absurd n1 (by first | decide | simp_all [W.notD])
        · obtain ⟨t, rfl⟩ := q; exact absurd n1 (by first | decide | simp_all [W.notD])
    · cases e
  | .n k xs, .a y, A, v, v', u, u', fx, fy, b, rx, ry, q, q', e, n1, n2, _, hu => by
    simp only [eqW] at e
    split at e
    · rename_i hp
      cases e
      rw [Bool.and_eq_true] at hp
      replace ⟨hp, hk⟩ := hp
      have h1 := ry.1
      cases k with
      | ro => cases hk
      | tup =>
        obtain ⟨a, vs, g, its, rfl, _, _, p⟩ := isT I sm rx
        cases q
        cases y <;> simp only [At.plain, Bool.false_eq_true] at hp <;> simp only [RepA] at h1 <;> subst h1
        · cases q'; exact RcNeAt.tuple_none p hu
        · cases q'; exact RcNeAt.tuple_bool _ p hu
        · obtain ⟨t, rfl⟩ := q'; exact RcNeAt.tuple_int _ _ p hu
        · obtain ⟨t, rfl⟩ := q'; exact RcNeAt.tuple_str _ _ p hu
      | lst m =>
        obtain ⟨a, vs, g, its, rfl, _, _, p⟩ := isL I sm rx
        cases q
        cases y <;> simp only [At.plain, Bool.false_eq_true] at hp <;> simp only [RepA] at h1 <;> subst h1
        · cases q'; exact RcNeAt.list_none p hu
        · cases q'; exact RcNeAt.list_bool _ p hu
        · obtain ⟨t, rfl⟩ := q'; exact RcNeAt.list_int _ _ p hu
        · obtain ⟨t, rfl⟩ := q'; exact RcNeAt.list_str _ _ p hu
      | dct m ks =>
        obtain ⟨a, rfl, p⟩ := isDk I sm rx
        cases q
        cases y <;> simp only [At.plain, Bool.false_eq_true] at hp <;> simp only [RepA] at h1 <;> subst h1
        · cases q'; exact absurd n1 (by first | decide | simp_all [W.notD])
        · cases q'; exact absurd n1 (by first | decide | simp_all [W.notD])
        · obtain ⟨t, rfl⟩ := q'; exact absurd n1 (by first | decide | simp_all [W.notD])
        · obtain ⟨t, rfl⟩ := q'; exact absurd n1 (by first | decide | simp_all [W.notD])
    · cases e
  | .n k xs, .n l ys, A, v, v', u, u', fx, fy, b, rx, ry, q, q', e, n1, n2, hd, hu => by
    have e0 := e
    simp only [eqW] at e
    split at e
    · obtain ⟨a, vs, g, its, rfl, r1, rv1, p1⟩ := isT I sm rx
      obtain ⟨a', us, g', its', rfl, r2, rv2, p2⟩ := isT I sm ry
      cases q
      cases q'
      · obtain ⟨f, k1, k2⟩ := eqL_pairs xs ys e
        have z1 := rv1.length
        have z2 := rv2.length
        have z3 := RepL.length xs r1
        have z4 := RepL.length ys r2
        have key : b = ((List.range (min its.toArray.size its'.toArray.size)).all f && its.toArray.size == its'.toArray.size) := by
          rw [← k2, List.size_toArray, List.size_toArray, ← z1, ← z2, z3, z4]
        rw [key]
        refine RcNeAt.tuples p1 p2 hu fun j h1 h2 => ?_
        simp only [List.size_toArray, List.getElem_toArray] at h1 h2 ⊢
        have j1 : j < xs.length := by omega
        have j2 : j < ys.length := by omega
        have j3 : j < vs.length := by omega
        have j4 : j < us.length := by omega
        obtain ⟨g1, q1⟩ := RepL.at r1 j j1 j3
        obtain ⟨g2, q2⟩ := RepL.at r2 j j2 j4
        have d1 := depL_le (List.getElem_mem j1)
        have d2 := depL_le (List.getElem_mem j2)
        have h3 : A.units + 1 + min xs[j].dep ys[j].dep < cLine := by
          simp only [W.dep] at hd
          omega
        exact eqAtW I sm xs[j] ys[j] A.in1 q1 q2 (vals_at rv1 j3 h1) (vals_at rv2 j4 h2) (k1 j j1 j2) h3 (by show A.units + 1 < cLine; omega)
    · obtain ⟨a, vs, g, its, rfl, r1, rv1, p1⟩ := isL I sm rx
      obtain ⟨a', us, g', its', rfl, r2, rv2, p2⟩ := isL I sm ry
      cases q
      cases q'
      · obtain ⟨f, k1, k2⟩ := eqL_pairs xs ys e
        have z1 := rv1.length
        have z2 := rv2.length
        have z3 := RepL.length xs r1
        have z4 := RepL.length ys r2
        by_cases hz : its.toArray.size = its'.toArray.size
        · have key : b = (List.range its.toArray.size).all f := by
            have hz' : xs.length = ys.length := by simp only [List.size_toArray] at hz; omega
            rw [← k2, List.size_toArray, ← z1, z3, hz', Nat.min_self, beq_self_eq_true, Bool.and_true]
          rw [key]
          refine RcNeAt.lists p1 p2 hz hu fun j h1 h2 => ?_
          simp only [List.size_toArray, List.getElem_toArray] at h1 h2 ⊢
          have j1 : j < xs.length := by omega
          have j2 : j < ys.length := by omega
          have j3 : j < vs.length := by omega
          have j4 : j < us.length := by omega
          obtain ⟨g1, q1⟩ := RepL.at r1 j j1 j3
          obtain ⟨g2, q2⟩ := RepL.at r2 j j2 j4
          have d1 := depL_le (List.getElem_mem j1)
          have d2 := depL_le (List.getElem_mem j2)
          have h3 : A.units + 1 + min xs[j].dep ys[j].dep < cLine := by
            simp only [W.dep] at hd
            omega
          exact eqAtW I sm xs[j] ys[j] A.in1 q1 q2 (vals_at rv1 j3 h1) (vals_at rv2 j4 h2) (k1 j j1 j2) h3 (by show A.units + 1 < cLine; omega)
        · have hb : b = false := by
            have hz' : xs.length ≠ ys.length := by simp only [List.size_toArray] at hz; omega
            rw [← k2, beq_eq_false_iff_ne.mpr hz', Bool.and_false]
          rw [hb]
          exact RcNeAt.lists_lengths p1 p2 (bne_iff_ne.mpr hz) hu
    · cases e
    · cases e
    · cases e
    · cases e
      cases k with
      | ro => exact absurd rfl (by assumption)
      | tup =>
        obtain ⟨a, vs, g, its, rfl, _, _, p⟩ := isT I sm rx
        cases l with
        | tup => simp_all
        | ro => exact absurd rfl (by assumption)
        | lst m =>
          obtain ⟨a', us, g', its', rfl, _, _, p'⟩ := isL I sm ry
          cases q; cases q'
          exact RcNeAt.tuple_list p p' hu
        | dct m ks =>
          obtain ⟨a', rfl, p'⟩ := isDk I sm ry
          cases q; cases q'
          exact absurd n2 (by first | decide | simp_all [W.notD])
      | lst m =>
        obtain ⟨a, vs, g, its, rfl, _, _, p⟩ := isL I sm rx
        cases l with
        | lst m' => simp_all
        | ro => exact absurd rfl (by assumption)
        | tup =>
          obtain ⟨a', us, g', its', rfl, _, _, p'⟩ := isT I sm ry
          cases q; cases q'
          exact RcNeAt.list_tuple p p' hu
        | dct m ks =>
          obtain ⟨a', rfl, p'⟩ := isDk I sm ry
          cases q; cases q'
          exact absurd n2 (by first | decide | simp_all [W.notD])
      | dct m ks =>
        obtain ⟨a, rfl, p⟩ := isDk I sm rx
        cases l with
        | dct m' ks' => exact False.elim (by first | (rename_i h1 h2 h3; exact h1 _ _ _ _ rfl rfl) | (rename_i h1 h2; exact h1 _ _ _ _ rfl rfl) | (rename_i h1; exact h1 _ _ _ _ rfl rfl))
        | ro => exact absurd rfl (by assumption)
        | tup =>
          obtain ⟨a', us, g', its', rfl, _, _, p'⟩ := isT I sm ry
          cases q; cases q'
          exact absurd n1 (by first | decide | simp_all [W.notD])
        | lst m' =>
          obtain ⟨a', us, g', its', rfl, _, _, p'⟩ := isL I sm ry
          cases q; cases q'
          exact absurd n1 (by first | decide | simp_all [W.notD])
end

/-- a comparison by trees -/
def rC (K : PySem.W.Frag) (g : W → W → Option Bool) : R2 := fun x y H Q => ∃ (F : Hp) (wx wy : W) (fx fy : List Addr) (b : Bool), Same F H ∧ Rep K F H wx x fx ∧ Rep K F H wy y fy ∧ g wx wy = some b ∧ Q (.bl b) H
section
variable {X : Cx}
theorem eqD_some {x y : W} {b : Bool} (h : eqD x y = some b) : eqW x y = some b ∧ min x.dep y.dep ≤ 60 := by
  unfold eqD at h
  split at h
  · exact ⟨h, by assumption⟩
  · cases h
theorem cmpEq (hu : X.A.units + 64 < cLine) : OpR X (compareOp .Eq) (rC X.K (cmpW .Eq)) := by
  rintro pins s σ H x y v u Q I rx ry ⟨F, wx, wy, fx, fy, b, sm, r1, r2, e, q⟩
  obtain ⟨e1, e2⟩ := eqD_some (show eqD wx wy = some b from e)
  exact rcAtW I sm wx wy X.A r1 r2 rx ry e1 (by omega) (by omega) X.prog X.w X.xe _ ⟨.bl b, H, I, rfl, q⟩
theorem cmpNe (hu : X.A.units + 64 < cLine) : OpR X (compareOp .NotEq) (rC X.K (cmpW .NotEq)) := by
  rintro pins s σ H x y v u Q I rx ry ⟨F, wx, wy, fx, fy, b, sm, r1, r2, e, q⟩
  simp only [cmpW] at e
  split at e
  · rename_i hn
    rw [Bool.and_eq_true] at hn
    rw [Option.map_eq_some_iff] at e
    obtain ⟨c, e, rfl⟩ := e
    obtain ⟨e1, e2⟩ := eqD_some e
    exact rcNeAtW I sm wx wy X.A r1 r2 rx ry e1 hn.1 hn.2 (by omega) (by omega) X.prog X.w X.xe _ ⟨.bl !c, H, I, rfl, q⟩
  · cases e
theorem cmpInt {op : CmpOp} (g : Int → Int → Bool) (ho : OpR X (compareOp op) (rI0 fun i j => .bl (g i j))) (hg : ∀ i j, cmpI op i j = some (g i j)) : OpR X (compareOp op) (rC X.K fun x y => match x, y with
    | .a (.int i), .a (.int j) => cmpI op i j
    | _, _ => none) := by
  refine OpR_imp ho fun x y H Q ⟨F, wx, wy, fx, fy, b, sm, r1, r2, e, q⟩ => ?_
  simp only at e
  split at e
  · rw [hg] at e
    cases e
    exact ⟨_, _, r1.1, r2.1, q⟩
  · cases e
theorem repA_non {K : PySem.W.Frag} {F : Hp} {x : At} {v : V} (r : RepA K F x v) (hd : x ≠ .dead) : decide (v = .non) = decide (x = .non) := by
  cases x with
  | non => cases r; rfl
  | bl b => cases r; rfl
  | int b => cases r; rfl
  | str b => cases r; rfl
  | opq => obtain ⟨a, C, dx, fs, rfl, _, _⟩ := r; rfl
  | dead => exact absurd rfl hd
theorem cmpIs : OpR X (compareOp .Is) (rC X.K (cmpW .Is)) := by
  refine OpR_imp op_isN fun x y H Q ⟨F, wx, wy, fx, fy, b, sm, r1, r2, e, q⟩ => ?_
  simp only [cmpW] at e
  split at e
  · cases e
  · cases e
    exact ⟨r2.1, by rw [show x = V.non from r1.1]; exact q⟩
  · rename_i h1 h2
    cases e
    refine ⟨r2.1, ?_⟩
    have : decide (x = V.non) = false := by
      cases wx with
      | a z =>
        rw [repA_non r1.1 (fun h => by subst h; exact h1 rfl)]
        exact decide_eq_false fun h => by subst h; exact h2 rfl
      | n k xs => obtain ⟨a, _, _, rfl, _⟩ := r1; rfl
    rw [this]; exact q
  · cases e
theorem cmpIsNot : OpR X (compareOp .IsNot) (rC X.K (cmpW .IsNot)) := by
  refine OpR_imp op_notN fun x y H Q ⟨F, wx, wy, fx, fy, b, sm, r1, r2, e, q⟩ => ?_
  simp only [cmpW] at e
  split at e
  · cases e
  · cases e
    exact ⟨r2.1, by rw [show x = V.non from r1.1]; exact q⟩
  · rename_i h1 h2
    cases e
    refine ⟨r2.1, ?_⟩
    have : decide (x = V.non) = false := by
      cases wx with
      | a z =>
        rw [repA_non r1.1 (fun h => by subst h; exact h1 rfl)]
        exact decide_eq_false fun h => by subst h; exact h2 rfl
      | n k xs => obtain ⟨a, _, _, rfl, _⟩ := r1; rfl
    rw [this]; exact q
  · cases e
end
end Lin

set_option Elab.async false
set_option linter.all false
set_option maxRecDepth 100000
set_option maxHeartbeats 4000000
/-! Lin, part J: in, not in. -/
namespace Lin
open PySem L2 PySem.SeqAt
section
variable {X : Cx} {pins : List (Addr × Obj)} {σ : L2.St} {F H : Hp} {s : Shared}
theorem atom_same {K : PySem.W.Frag} {F : Hp} {x x' : At} {v : V} (h : RepA K F x v) (h' : RepA K F x' v) (p : x.plain = true) (p' : x'.plain = true) : x = x' := by
  cases x <;> simp only [At.plain, Bool.false_eq_true] at p <;> cases x' <;> simp only [At.plain, Bool.false_eq_true] at p' <;> simp only [RepA] at h h' <;> rw [h] at h' <;> first | rfl | (injection h' with e; rw [e]) | cases h'
theorem eqW_plain {x : At} {y : W} {b : Bool} (h : eqW (.a x) y = some b) : x.plain = true := by
  cases y with
  | a y => cases x <;> first | rfl | (cases y <;> cases h)
  | n k ys =>
    simp only [eqW] at h
    split at h
    · rename_i hp
      rw [Bool.and_eq_true] at hp
      exact hp.1
    · cases h
mutual
/-- what two trees of one thing tell of a third is one -/
theorem rep_congr (I : Inv X pins σ H s) (sm : Same F H) : ∀ (x x' y : W) {v : V} {fx fy : List Addr} {b b' : Bool}, Rep X.K F H x v fx → Rep X.K F H x' v fy → eqW x y = some b → eqW x' y = some b' → b = b'
  | .a x, .a x', y, v, fx, fy, b, b', rx, ry, e, e' => by
    have := atom_same rx.1 ry.1 (eqW_plain e) (eqW_plain e')
    subst this
    rw [e] at e'
    cases e'; rfl
  | .a x, .n k xs, y, v, fx, fy, b, b', rx, ry, e, e' => by
    have p := eqW_plain e
    obtain ⟨a, vs, g, rfl, _⟩ := ry
    have := rx.1
    cases x <;> simp_all [At.plain, RepA]
  | .n k xs, .a x, y, v, fx, fy, b, b', rx, ry, e, e' => by
    have p := eqW_plain e'
    obtain ⟨a, vs, g, rfl, _⟩ := rx
    have := ry.1
    cases x <;> simp_all [At.plain, RepA]
  | .n k xs, .n k' xs', .a y, v, fx, fy, b, b', rx, ry, e, e' => by
    simp only [eqW] at e e'
    split at e <;> cases e
    split at e' <;> cases e'
    rfl
  | .n k xs, .n k' xs', .n l ys, v, fx, fy, b, b', rx, ry, e, e' => by
    have hk : k.ok = true := by
      cases k <;> first | rfl | (cases l <;> simp [eqW] at e)
    have hk' : k'.ok = true := by
      cases k' <;> first | rfl | (cases l <;> simp [eqW] at e')
    cases k with
    | ro => cases hk
    | tup =>
      obtain ⟨a, vs, g, its, rfl, r1, rv, p⟩ := isT I sm rx
      cases k' with
      | ro => cases hk'
      | lst m => obtain ⟨a', vs', g', its', e2, _, _, p'⟩ := isL I sm ry; cases e2; exact absurd rfl (ne_of_list_tuple p' p)
      | dct m ks => obtain ⟨a', e2, p'⟩ := isDk I sm ry; cases e2; exact absurd rfl (ne_dict_tuple p' p)
      | tup =>
        obtain ⟨a1, vs1, g1, e1, hT1, q1⟩ := rx.tupH sm
        obtain ⟨a2, vs2, g2, e2, hT2, q2⟩ := ry.tupH sm
        cases e1; cases e2
        have := I.tuple_inj hT1 hT2
        subst this
        cases l with
        | tup => exact rep_congrL I sm xs xs' ys q1 q2 (by simpa [eqW] using e) (by simpa [eqW] using e')
        | ro => simp [eqW] at e
        | lst m => simp [eqW] at e e'; rw [e, e']
        | dct m ks => simp [eqW] at e e'; rw [e, e']
    | lst m =>
      obtain ⟨a, vs, g, its, rfl, r1, rv, p⟩ := isL I sm rx
      cases k' with
      | ro => cases hk'
      | tup => obtain ⟨a', vs', g', its', e2, _, _, p'⟩ := isT I sm ry; cases e2; exact absurd rfl (ne_of_list_tuple p p')
      | dct m ks => obtain ⟨a', e2, p'⟩ := isDk I sm ry; cases e2; exact absurd rfl (ne_dict_list p' p)
      | lst m' =>
        obtain ⟨a1, vs1, g1, e1, hT1, q1⟩ := rx.lstH sm
        obtain ⟨a2, vs2, g2, e2, hT2, q2⟩ := ry.lstH sm
        cases e1; cases e2
        rw [hT1] at hT2
        cases hT2
        cases l with
        | lst m'' => exact rep_congrL I sm xs xs' ys q1 q2 (by simpa [eqW] using e) (by simpa [eqW] using e')
        | ro => simp [eqW] at e
        | tup => simp [eqW] at e e'; rw [e, e']
        | dct m ks => simp [eqW] at e e'; rw [e, e']
    | dct m ks =>
      obtain ⟨a, rfl, p⟩ := isDk I sm rx
      cases k' with
      | ro => cases hk'
      | tup => obtain ⟨a', vs', g', its', e2, _, _, p'⟩ := isT I sm ry; cases e2; exact absurd rfl (ne_dict_tuple p p')
      | lst m => obtain ⟨a', vs', g', its', e2, _, _, p'⟩ := isL I sm ry; cases e2; exact absurd rfl (ne_dict_list p p')
      | dct m' ks' =>
        cases l with
        | ro => simp [eqW] at e
        | tup => simp [eqW] at e e'; rw [e, e']
        | lst m => simp [eqW] at e e'; rw [e, e']
        | dct m ks => simp [eqW] at e
theorem rep_congrL (I : Inv X pins σ H s) (sm : Same F H) : ∀ (xs xs' ys : List W) {vs : List V} {fx fy : List Addr} {b b' : Bool}, RepL X.K F H xs vs fx → RepL X.K F H xs' vs fy → eqL xs ys = some b → eqL xs' ys = some b' → b = b'
  | [], [], ys, vs, fx, fy, b, b', rx, ry, e, e' => by rw [e] at e'; cases e'; rfl
  | [], x :: xs, ys, vs, fx, fy, b, b', rx, ry, e, e' => by
    obtain ⟨v, vs', g, g', e1, _⟩ := ry
    rw [rx.1] at e1; cases e1
  | x :: xs, [], ys, vs, fx, fy, b, b', rx, ry, e, e' => by
    obtain ⟨v, vs', g, g', e1, _⟩ := rx
    rw [ry.1] at e1; cases e1
  | x :: xs, x' :: xs', [], vs, fx, fy, b, b', rx, ry, e, e' => by cases e; cases e'; rfl
  | x :: xs, x' :: xs', y :: ys, vs, fx, fy, b, b', rx, ry, e, e' => by
    obtain ⟨v, vs', g, g', e1, _, r1, r2⟩ := rx
    obtain ⟨u, us', h, h', e2, _, r3, r4⟩ := ry
    rw [e1] at e2
    injection e2 with e3 e4
    subst e3 e4
    simp only [eqL] at e e'
    split at e
    · rename_i b1 h1
      split at e
      · rename_i b2 h2
        cases e
        split at e'
        · rename_i b3 h3
          split at e'
          · rename_i b4 h4
            cases e'
            rw [rep_congr I sm x x' y r1 r3 h1 h3, rep_congrL I sm xs xs' ys r2 r4 h2 h4]
          · cases e'
        · cases e'
      · cases e
    · cases e
end
theorem inL_pairs (x : W) : ∀ (ys : List W) {b : Bool}, inL x ys = some b → ∃ f : Nat → Bool, (∀ i (h : i < ys.length), eqD ys[i] x = some (f i)) ∧ (List.range ys.length).any f = b
  | [], b, e => by cases e; exact ⟨fun _ => true, fun i h => absurd h (Nat.not_lt_zero _), rfl⟩
  | y :: ys, b, e => by
    simp only [inL] at e
    split at e
    · rename_i b1 b2 h1 h2
      cases e
      obtain ⟨f, k1, k2⟩ := inL_pairs x ys h2
      refine ⟨fun i => match i with | 0 => b1 | i + 1 => f i, fun i q1 => ?_, ?_⟩
      · cases i with
        | zero => exact h1
        | succ i => exact k1 i (by simpa using q1)
      · rw [List.length_cons, List.range_succ_eq_map, List.any_cons, List.any_map, ← k2]; rfl
    · cases e
/-- a function of values by their places -/
theorem byPlace {its : List Value} {f : Nat → Bool} (hf : ∀ i j (h1 : i < its.length) (h2 : j < its.length), its[i] = its[j] → f i = f j) :
    ∃ e : Value → Bool, (∀ i (h : i < its.length), e its[i] = f i) ∧ its.toArray.any e = (List.range its.length).any f := by
  refine ⟨fun y => (List.range its.length).any fun i => decide (its[i]? = some y) && f i, fun i h => ?_, ?_⟩
  · cases hi : f i with
    | true =>
      refine List.any_eq_true.mpr ⟨i, List.mem_range.mpr h, ?_⟩
      rw [List.getElem?_eq_getElem h, decide_eq_true rfl, hi]; rfl
    | false =>
      refine List.any_eq_false.mpr fun j hj => ?_
      have h2 := List.mem_range.mp hj
      by_cases e : its[j] = its[i]
      · rw [hf j i h2 h e, hi, Bool.and_false]; decide
      · rw [List.getElem?_eq_getElem h2, decide_eq_false (fun q => e (Option.some.inj q)), Bool.false_and]; decide
  · rw [List.any_toArray]
    apply Bool.eq_iff_iff.mpr
    rw [List.any_eq_true, List.any_eq_true]
    constructor
    · rintro ⟨y, hy, q⟩
      obtain ⟨i, hi, q⟩ := List.any_eq_true.mp q
      rw [Bool.and_eq_true] at q
      exact ⟨i, hi, q.2⟩
    · rintro ⟨i, hi, q⟩
      have h := List.mem_range.mp hi
      refine ⟨its[i], List.getElem_mem h, List.any_eq_true.mpr ⟨i, hi, ?_⟩⟩
      rw [List.getElem?_eq_getElem h, decide_eq_true rfl, q]; rfl
/-- what the items of a list tell of x -/
theorem in_items (I : Inv X pins σ H s) (sm : Same F H) {wx : W} {x : V} {v : Value} {fx g : List Addr} {ys : List W} {vs : List V} {its : List Value} {b : Bool} {A : Around} (rx : Rep X.K F H wx x fx) (qx : RelV x v) (r : RepL X.K F H ys vs g) (rv : Vals vs its)
    (hu : A.units + 64 < cLine) (h : inL wx ys = some b) : ∃ e : Value → Bool, (∀ y, y ∈ its.toArray → EqAt A.in1 s y v (e y)) ∧ its.toArray.any e = b := by
  obtain ⟨f, k1, k2⟩ := inL_pairs wx ys h
  have z1 := rv.length
  have z2 := RepL.length ys r
  obtain ⟨e, p1, p2⟩ := byPlace (its := its) (f := f) fun i j h1 h2 hij => by
    obtain ⟨g1, q1⟩ := RepL.at r i (by omega) (by omega)
    obtain ⟨g2, q2⟩ := RepL.at r j (by omega) (by omega)
    have v1 := vals_at rv (by omega : i < vs.length) h1
    have v2 := vals_at rv (by omega : j < vs.length) h2
    rw [hij] at v1
    have := v1.inj v2
    rw [← this] at q2
    exact rep_congr I sm _ _ _ q1 q2 (eqD_some (k1 i (by omega))).1 (eqD_some (k1 j (by omega))).1
  refine ⟨e, fun y hy => ?_, by rw [p2, ← k2]; congr 2; omega⟩
  obtain ⟨i, hi, rfl⟩ := List.getElem_of_mem (List.mem_toArray.mp hy)
  rw [p1 i hi]
  obtain ⟨e1, e2⟩ := eqD_some (k1 i (by omega))
  obtain ⟨g1, q1⟩ := RepL.at r i (by omega) (by omega)
  exact eqAtW I sm _ _ A.in1 q1 rx (vals_at rv (by omega) hi) qx e1 (by show A.units + 1 + _ < _; omega) (by show A.units + 1 < _; omega)
end
section
variable {X : Cx}
theorem valV_zip {k : Key} : ∀ (ks : List Key) (vs : List V), ks.length = vs.length → (valV (ks.zip vs) k).isSome = ks.any fun q => decide (q = k)
  | [], vs, _ => rfl
  | k' :: ks, [], h => by simp at h
  | k' :: ks, v :: vs, h => by
    rw [List.zip_cons_cons, List.any_cons]
    by_cases e : k' = k
    · rw [valV_pos (p := (k', v)) e, decide_eq_true e]; rfl
    · rw [valV_neg (p := (k', v)) e, decide_eq_false e, Bool.false_or]
      exact valV_zip ks vs (by simpa using h)
theorem keyW_V {F : Hp} {K : PySem.W.Frag} {H : Hp} {w : W} {v : V} {fp : List Addr} {k : Key} (r : Rep K F H w v fp) (h : keyW w = some k) : v = kV k := by
  cases w with
  | n k xs => cases h
  | a x => cases x <;> cases h <;> exact r.1
theorem cmpIn (hu : X.A.units + 64 < cLine) : OpR X (compareOp .In) (rC X.K (cmpW .In)) := by
  rintro pins s σ H x y v u Q I rx ry ⟨F, wx, wy, fx, fy, b, sm, r1, r2, e, q⟩
  replace e : isIn wx wy = some b := e
  unfold isIn at e
  split at e
  · split at e
    · cases e
      exact op_in_str pins s σ H x y v u Q I rx ry ⟨_, _, r1.1, r2.1, q⟩
    · cases e
  · split at e
    · rename_i k hk
      cases e
      obtain ⟨a, vs, g, rfl, hd, hl, _⟩ := r2.dctH sm
      cases ry
      refine d_in (o := valV _ k) (by omega) I (y := x) (by rw [keyW_V r1 hk]; exact DGet.k hd) rx fun s' I' => ⟨.bl _, H, I', rfl, ?_⟩
      rw [valV_zip _ _ hl]; exact q
    · cases e
  · cases e
  · rename_i kk ys h1 h2
    cases kk with
    | ro => exact absurd rfl (by assumption)
    | dct m ks => exact absurd rfl (h1 _ _)
    | tup =>
      obtain ⟨a, vs, g, its, rfl, r, rv, p⟩ := isT I sm r2
      cases ry
      obtain ⟨ev, k1, k2⟩ := in_items I sm r1 rx r rv hu e
      exact in_tupleAt ev p k1 (by rw [k2]; exact ⟨.bl b, H, I, rfl, q⟩)
    | lst m =>
      obtain ⟨a, vs, g, its, rfl, r, rv, p⟩ := isL I sm r2
      cases ry
      obtain ⟨ev, k1, k2⟩ := in_items I sm r1 rx r rv hu e
      exact in_listAt ev p k1 (by rw [k2]; exact ⟨.bl b, H, I, rfl, q⟩)
  · cases e
theorem cmpNotIn (hu : X.A.units + 64 < cLine) : OpR X (compareOp .NotIn) (rC X.K (cmpW .NotIn)) := by
  rintro pins s σ H x y v u Q I rx ry ⟨F, wx, wy, fx, fy, b, sm, r1, r2, e, q⟩
  have e2 : (isIn wx wy).map (!·) = some b := e
  clear e
  rw [Option.map_eq_some_iff] at e2
  obtain ⟨b, e, rfl⟩ := e2
  unfold isIn at e
  split at e
  · split at e
    · cases e
      exact op_notin_str pins s σ H x y v u Q I rx ry ⟨_, _, r1.1, r2.1, q⟩
    · cases e
  · split at e
    · rename_i k hk
      cases e
      obtain ⟨a, vs, g, rfl, hd, hl, _⟩ := r2.dctH sm
      cases ry
      refine d_notIn (o := valV _ k) (by omega) I (y := x) (by rw [keyW_V r1 hk]; exact DGet.k hd) rx fun s' I' => ⟨.bl _, H, I', rfl, ?_⟩
      rw [valV_zip _ _ hl]; exact q
    · cases e
  · cases e
  · rename_i kk ys h1 h2
    cases kk with
    | ro => exact absurd rfl (by assumption)
    | dct m ks => exact absurd rfl (h1 _ _)
    | tup =>
      obtain ⟨a, vs, g, its, rfl, r, rv, p⟩ := isT I sm r2
      cases ry
      obtain ⟨ev, k1, k2⟩ := in_items I sm r1 rx r rv hu e
      exact notIn_tupleAt ev p k1 (by rw [k2]; exact ⟨.bl _, H, I, rfl, q⟩)
    | lst m =>
      obtain ⟨a, vs, g, its, rfl, r, rv, p⟩ := isL I sm r2
      cases ry
      obtain ⟨ev, k1, k2⟩ := in_items I sm r1 rx r rv hu e
      exact notIn_listAt ev p k1 (by rw [k2]; exact ⟨.bl _, H, I, rfl, q⟩)
  · cases e
def cmpOk : CmpOp → Bool
  | .Lt | .LtE | .Gt | .GtE | .Eq | .NotEq | .Is | .IsNot | .In | .NotIn => true
theorem cmpAll (hu : X.A.units + 64 < cLine) : ∀ op : CmpOp, OpR X (compareOp op) (rC X.K (cmpW op))
  | .Eq => cmpEq hu
  | .NotEq => cmpNe hu
  | .Is => cmpIs
  | .IsNot => cmpIsNot
  | .In => cmpIn hu
  | .NotIn => cmpNotIn hu
  | .Lt => cmpInt _ op_lt fun _ _ => rfl
  | .LtE => cmpInt _ op_le fun _ _ => rfl
  | .Gt => cmpInt _ op_gt fun _ _ => rfl
  | .GtE => cmpInt _ op_ge fun _ _ => rfl
end
end Lin

set_option Elab.async false
set_option linter.all false
set_option maxRecDepth 100000
set_option maxHeartbeats 4000000
/-! Lin, part K: comparisons, isinstance, subscripts, slices, displays: the rules by the evaluator. -/
namespace Lin
open PySem L2 PySem.SeqAt
section
variable {K : PySem.W.Frag} {F F' H H' : Hp} {σ : L2.St} {ρ : Env} {L : List Pr}
/-- what an operand is stands there -/
theorem opRep {o : Od} {v : V} {x : W} (wd : Wd K F H (L ++ Sl σ ρ)) (h1 : ∀ w, o = .tm w → (some v, w) ∈ L) (h2 : ∀ i, o = .al i → σ[i]? = some (some v)) (hr : res o ρ = some x) : ∃ fp, Rep K F H x v fp := by
  cases o with
  | al i =>
    obtain ⟨v', hv, fp, r⟩ := wd.slot hr
    rw [h2 i rfl] at hv
    cases hv
    exact ⟨fp, r⟩
  | tm w =>
    cases hr
    exact wd.rep (List.mem_append_left _ (h1 _ rfl))
  | bo b => cases hr
theorem mem_tmp {w : W} {v : V} {T : List Pr} : (some v, w) ∈ tmp (.tm w) v ++ T := List.mem_append_left _ List.mem_cons_self
/-- a thing in the midst is frozen within -/
theorem Wd.frzAt {v : V} {w : W} {L1 L2 : List Pr} (wd : Wd K F H (L1 ++ (some v, w) :: L2)) : ∃ F', Same F F' ∧ Wd K F' H (L1 ++ (some v, w.frzIn) :: L2) := by
  obtain ⟨F', s, w2⟩ := (wd.perm List.perm_middle).frzIn
  exact ⟨F', s, w2.perm List.perm_middle.symm⟩
def frzO (o : Od) (v : V) : List Pr := match o with
  | .tm w => [(some v, w.frzIn)]
  | _ => []
theorem Wd.frzTmp {o : Od} {v : V} {L1 L2 : List Pr} (wd : Wd K F H (L1 ++ (tmp o v ++ L2))) : ∃ F', Same F F' ∧ Wd K F' H (L1 ++ (frzO o v ++ L2)) := by
  cases o with
  | tm w => exact wd.frzAt
  | al i => exact ⟨F, Same.refl _, wd⟩
  | bo b => exact ⟨F, Same.refl _, wd⟩
def W.inFz : W → Bool
  | .a _ => true
  | .n _ xs => fzL xs
theorem W.inFz_frzIn : ∀ w : W, w.frzIn.inFz = true
  | .a x => rfl
  | .n k xs => fzL_frzL xs
theorem resC_in {o : Od} {x : W} (h : resC o ρ = some x) : x.inFz = true := by
  cases o with
  | al i =>
    simp only [resC] at h
    split at h
    · split at h
      · cases h; assumption
      · cases h
    · rename_i h1
      cases x with
      | a x => rfl
      | n k xs => exact absurd h (h1 k xs)
  | tm w => cases h; exact W.inFz_frzIn w
  | bo b => cases h
theorem resC_res {i : Nat} {x : W} (h : resC (.al i) ρ = some x) : at? ρ i = some x := by
  simp only [resC] at h
  split at h
  · rename_i k xs e
    split at h
    · rw [e]; exact h
    · cases h
  · exact h
theorem opRepC {o : Od} {v : V} {x : W} {L1 L2 : List Pr} (wd : Wd K F H ((L1 ++ (frzO o v ++ L2)) ++ Sl σ ρ)) (h2 : ∀ i, o = .al i → σ[i]? = some (some v)) (hr : resC o ρ = some x) : ∃ fp, Rep K F H x v fp := by
  cases o with
  | al i =>
    obtain ⟨v', hv, fp, r⟩ := wd.slot (resC_res hr)
    rw [h2 i rfl] at hv
    cases hv
    exact ⟨fp, r⟩
  | tm w =>
    cases hr
    exact wd.rep (List.mem_append_left _ (List.mem_append_right _ List.mem_cons_self))
  | bo b => cases hr
theorem fzL_get : ∀ {xs : List W} {i : Nat} {w : W}, fzL xs = true → xs[i]? = some w → w.fz = true
  | x :: xs, 0, w, h, e => by
    simp only [fzL, Bool.and_eq_true] at h
    simp at e; subst e; exact h.1
  | x :: xs, i + 1, w, h, e => by
    simp only [fzL, Bool.and_eq_true] at h
    exact fzL_get h.2 (by simpa using e)
theorem RepL.get : ∀ {xs : List W} {vs : List V} {fp : List Addr} {i : Nat} {w : W}, RepL K F H xs vs fp → xs[i]? = some w → ∃ v g, vs[i]? = some v ∧ Rep K F H w v g
  | [], vs, fp, i, w, r, e => by simp at e
  | x :: xs, vs, fp, i, w, r, e => by
    obtain ⟨v, vs', g, g', e1, _, r1, r2⟩ := r
    subst e1
    cases i with
    | zero => simp at e; subst e; exact ⟨v, g, rfl, r1⟩
    | succ i =>
      obtain ⟨v2, g2, h1, h2⟩ := RepL.get r2 (by simpa using e)
      exact ⟨v2, g2, by simpa using h1, h2⟩
theorem RepL.take : ∀ {xs : List W} {vs : List V} (k : Nat), RepL K F H xs vs [] → RepL K F H (xs.take k) (vs.take k) []
  | xs, vs, 0, r => ⟨rfl, rfl⟩
  | [], vs, k + 1, r => by rw [r.1]; exact ⟨rfl, rfl⟩
  | x :: xs, vs, k + 1, r => by
    obtain ⟨v, vs', g, g', e1, e2, r1, r2⟩ := r
    subst e1
    obtain ⟨rfl, rfl⟩ := List.append_eq_nil_iff.mp e2.symm
    exact ⟨v, _, [], [], rfl, rfl, r1, RepL.take k r2⟩
theorem RepL.drop : ∀ {xs : List W} {vs : List V} (k : Nat), RepL K F H xs vs [] → RepL K F H (xs.drop k) (vs.drop k) []
  | xs, vs, 0, r => r
  | [], vs, k + 1, r => by rw [r.1]; exact ⟨rfl, rfl⟩
  | x :: xs, vs, k + 1, r => by
    obtain ⟨v, vs', g, g', e1, e2, r1, r2⟩ := r
    subst e1
    obtain ⟨rfl, rfl⟩ := List.append_eq_nil_iff.mp e2.symm
    exact RepL.drop k r2
theorem fzL_take : ∀ {xs : List W} (k : Nat), fzL xs = true → fzL (xs.take k) = true
  | xs, 0, h => rfl
  | [], k + 1, h => rfl
  | x :: xs, k + 1, h => by
    simp only [fzL, Bool.and_eq_true] at h
    simp only [List.take_succ_cons, fzL, h.1, fzL_take k h.2, Bool.and_self]
theorem fzL_drop : ∀ {xs : List W} (k : Nat), fzL xs = true → fzL (xs.drop k) = true
  | xs, 0, h => h
  | [], k + 1, h => rfl
  | x :: xs, k + 1, h => by
    simp only [fzL, Bool.and_eq_true] at h
    simpa using fzL_drop k h.2
end

/-- a two-place operation by trees, the first one's inner things frozen -/
def rWf (K : PySem.W.Frag) (g : W → W → Option W) : R2 := fun x y H Q => ∃ (F : Hp) (wx wy w : W) (fx fy : List Addr), Same F H ∧ Rep K F H wx x fx ∧ Rep K F H wy y fy ∧ wx.inFz = true ∧ g wx wy = some w ∧ Dl K F H w Q
def rSl (K : PySem.W.Frag) : V → Option Int → Option Int → Hp → VK → Prop := fun x lo hi H Q => ∃ (F : Hp) (wx w : W) (fx : List Addr), Same F H ∧ Rep K F H wx x fx ∧ wx.inFz = true ∧ sliceW wx lo hi = some w ∧ Dl K F H w Q
section
variable {X : Cx}
theorem atI_some {α : Type} {xs : List α} {k : Int} {w : α} (h : atI xs k = some w) : ∃ j, ixN xs.length k = some j ∧ xs[j]? = some w := by
  unfold atI at h
  cases e : ixN xs.length k with
  | none => rw [e] at h; cases h
  | some j => rw [e] at h; exact ⟨j, rfl, h⟩
theorem atI_of {α : Type} {xs : List α} {k : Int} {j : Nat} {w : α} (h : ixN xs.length k = some j) (e : xs[j]? = some w) : atI xs k = some w := by
  unfold atI
  rw [h]; exact e
/-- d[k] of a dict of ints and texts -/
theorem ix_dct (hu : X.A.units + 64 < cLine) : IxR X (fun x y H Q => ∃ (a : Addr) (v : V), x = .ref a ∧ DGet H a y (some v) ∧ Q v H) := by
  rintro value slice pins s σ H x y v u Q I rx ry ⟨a, z, rfl, g, q⟩ hs
  cases rx
  exact PyProof.Rows.tail_any (dict_typeIs I g) PySem.F.slot_dict_getitem.lookup (d_getItem (by omega) I g ry fun w' s' I' r' => ⟨z, H, I', r', q⟩) hs
theorem lookup_valV {k : Key} : ∀ {ks : List Key} {vs : List V} {xs : List W} {w : W} {K : PySem.W.Frag} {F H : Hp} {fp : List Addr}, ks.length = vs.length → RepL K F H xs vs fp → lookK k ks xs = some w → ∃ v g, valV (ks.zip vs) k = some v ∧ Rep K F H w v g ∧ w ∈ xs
  | [], vs, xs, w, K, F, H, fp, hl, r, e => by cases e
  | k' :: ks, [], xs, w, K, F, H, fp, hl, r, e => by simp at hl
  | k' :: ks, v :: vs, [], w, K, F, H, fp, hl, r, e => by cases e
  | k' :: ks, v :: vs, x :: xs, w, K, F, H, fp, hl, r, e => by
    obtain ⟨v1, vs', g, g', e1, e2, r1, r2⟩ := r
    cases e1
    unfold lookK at e
    by_cases hk : k' = k
    · subst hk
      rw [if_pos rfl] at e
      cases e
      exact ⟨v, g, valV_pos (p := (_, v)) rfl, r1, List.mem_cons_self⟩
    · rw [if_neg hk] at e
      obtain ⟨v2, g2, h1, h2, h3⟩ := lookup_valV (by simpa using hl) r2 e
      exact ⟨v2, g2, by rw [List.zip_cons_cons, valV_neg (p := (k', v)) hk]; exact h1, h2, List.mem_cons_of_mem _ h3⟩
theorem fzL_mem : ∀ {xs : List W} {w : W}, fzL xs = true → w ∈ xs → w.fz = true
  | x :: xs, w, h, m => by
    simp only [fzL, Bool.and_eq_true] at h
    rcases List.mem_cons.mp m with rfl | m
    · exact h.1
    · exact fzL_mem h.2 m
theorem ixAll (hu : X.A.units + 64 < cLine) : IxR X (rWf X.K subW) := by
  have base := IxR.or (ix_seq (X := X)) (ix_dct hu)
  refine fun value slice pins s σ H x y v u Q I rx ry h hs => base value slice pins s σ H x y v u Q I rx ry ?_ hs
  obtain ⟨F, wx, wy, w, fx, fy, sm, r1, r2, hin, e, d⟩ := h
  unfold subW at e
  split at e
  · rename_i xs k
    obtain ⟨a, vs, g, rfl, h, r⟩ := r1.lstH sm
    obtain ⟨j, e1, e2⟩ := atI_some e
    obtain ⟨z, g2, e3, r3⟩ := RepL.get r e2
    have hl := RepL.length _ r
    exact .inl (.inl ⟨a, vs, _, z, rfl, r2.1, SqL.of h, atI_of (by rw [hl]; exact e1) e3, d.fz sm r3 (fzL_get hin e2)⟩)
  · rename_i xs k
    obtain ⟨a, vs, g, rfl, h, r⟩ := r1.tupH sm
    obtain ⟨j, e1, e2⟩ := atI_some e
    obtain ⟨z, g2, e3, r3⟩ := RepL.get r e2
    have hl := RepL.length _ r
    exact .inl (.inr (.inl ⟨a, vs, _, z, rfl, r2.1, h, atI_of (by rw [hl]; exact e1) e3, d.fz sm r3 (fzL_get hin e2)⟩))
  · rename_i xs k
    obtain ⟨a, vs, g, rfl, r, h, _⟩ := r1
    obtain ⟨j, e1, e2⟩ := atI_some e
    obtain ⟨z, g2, e3, r3⟩ := RepL.get r e2
    have hl := RepL.length _ r
    exact .inl (.inl ⟨a, vs, _, z, rfl, r2.1, sm.seq h, atI_of (by rw [hl]; exact e1) e3, d.fz sm r3 (fzL_get hin e2)⟩)
  · split at e
    · rename_i hz
      rw [Option.map_eq_some_iff] at e
      obtain ⟨c, e, rfl⟩ := e
      exact .inl (.inr (.inr ⟨_, _, c, r1.1, r2.1, hz, e, d.str sm⟩))
    · cases e
  · split at e
    · rename_i k hk
      obtain ⟨a, vs, g, rfl, h, hl, r⟩ := r1.dctH sm
      obtain ⟨z, g2, e1, r3, hm⟩ := lookup_valV hl r e
      refine .inr ⟨a, z, rfl, ?_, d.fz sm r3 (fzL_mem hin hm)⟩
      rw [keyW_V r2 hk, ← e1]
      exact DGet.k h
    · cases e
  · cases e
theorem slAll : SlR X (rSl X.K) := by
  have base := SlR.or (sl_list (X := X)) (SlR.or sl_tupA sl_str)
  refine fun pins s σ H x v vl vu lo hi sl Q I rx hs pl pu h => base pins s σ H x v vl vu lo hi sl Q I rx hs pl pu ?_
  obtain ⟨F, wx, w, fx, sm, r1, hin, e, d⟩ := h
  unfold sliceW at e
  split at e
  · rename_i xs
    cases e
    obtain ⟨a, vs, g, rfl, h, r⟩ := r1.lstH sm
    have hl := RepL.length _ r
    refine .inl ⟨a, vs, rfl, SqL.of h, fun p hp => ?_⟩
    have r2 := RepL.fz' hin r
    unfold cutV
    rw [hl]
    exact d.lst sm (RepL.take _ (RepL.drop _ r2)) rfl hp
  · rename_i xs
    cases e
    obtain ⟨a, vs, g, e1, h, r⟩ := r1.tupH sm
    subst e1
    have hl := RepL.length _ r
    refine .inr (.inl ⟨a, vs, rfl, h, fun hw => ?_, fun hw p hp => ?_⟩)
    · rw [hl] at hw
      have : cutL xs lo hi = xs := by
        unfold cutL
        rw [hw.1, hw.2]
        simp
      rw [this] at d
      exact d.fz sm r1 (by simp only [W.fz, Kd.fz, Bool.true_and]; exact hin)
    · have r2 := RepL.fz' hin r
      unfold cutV
      rw [hl]
      exact d.tup sm (RepL.take _ (RepL.drop _ r2)) rfl hp
  · rename_i xs
    cases e
    obtain ⟨a, vs, g, rfl, r, h, _⟩ := r1
    have hl := RepL.length _ r
    refine .inl ⟨a, vs, rfl, sm.seq h, fun p hp => ?_⟩
    have r2 := RepL.fz' hin r
    unfold cutV
    rw [hl]
    exact d.lst sm (RepL.take _ (RepL.drop _ r2)) rfl hp
  · split at e
    · rename_i hz
      cases e
      refine .inr (.inr ⟨_, r1.1, hz, ?_⟩)
      have := d.str sm
      unfold cutStr cutL at this
      unfold cutS
      simpa [Str.length] using this
    · cases e
  · cases e
end
end Lin

set_option Elab.async false
set_option linter.all false
set_option maxRecDepth 100000
set_option maxHeartbeats 4000000
/-! Lin, part L: comparisons, isinstance, subscripts, slices, displays as expressions. -/
namespace Lin
open PySem L2 PySem.SeqAt
section
variable {X : Cx} {cl : Nat → List W → Option (List W × W)}
theorem snd_cmp {op : CmpOp} {a b : Expr} {ma mb : Ex} {pos : Pos} (hu : X.A.units + 64 < cLine) (ha : PE X a (TO X cl ma)) (hb : PE X b (TO X cl mb)) (hm : behindInMarks op b = false) : PE X (.Compare a [op] [b] pos) (TV X cl (.cmp op ma mb)) := by
  refine PE_imp (pe_cmpR (cmpAll hu op) ha hb hm) fun σ H Q ⟨hl, F, ρ, T, w, ρ', wd, ev, q⟩ => ?_
  simp only [evm] at ev
  split at ev <;> first | (cases ev; done) | skip
  rename_i oa ρ1 e1
  split at ev <;> first | (cases ev; done) | skip
  rename_i ob ρ2 e2
  split at ev <;> first | (cases ev; done) | skip
  rename_i x y hx hy
  split at ev <;> first | (cases ev; done) | skip
  rename_i c hc
  cases ev
  refine ⟨hl, F, ρ, T, oa, _, wd, e1, fun F1 H1 va s1 w1 al1 => ⟨hl, F1, _, tmp oa va ++ T, ob, _, by rw [List.append_assoc]; exact w1, e2, fun F2 H2 vb s2 w2 al2 => ?_⟩⟩
  rw [← List.append_assoc] at w2
  obtain ⟨fx, rx⟩ := opRep w2 (fun w h => by subst h; exact List.mem_append_right _ (List.mem_append_left _ List.mem_cons_self)) al1 hx
  obtain ⟨fy, ry⟩ := opRep w2 (fun w h => by subst h; exact List.mem_append_left _ List.mem_cons_self) al2 hy
  refine ⟨F2, x, y, fx, fy, c, w2.same, rx, ry, hc, q F2 H2 _ (s1.trans s2) (Wd.add ?_ ⟨rfl, rfl⟩)⟩
  rw [List.append_assoc, List.append_assoc] at w2
  exact w2.right.right
theorem cmp_bl {op : CmpOp} {ma mb : Ex} {ρ ρ' : Env} {w : W} (ev : evm cl (.cmp op ma mb) .val ρ = some (.tm w, ρ')) : ∃ b, w = .a (.bl b) := by
  simp only [evm] at ev
  repeat' (split at ev <;> first | (cases ev; done) | skip)
  cases ev
  exact ⟨_, rfl⟩
theorem snd_cmpT {op : CmpOp} {a b : Expr} {ma mb : Ex} {pos : Pos} (hu : X.A.units + 64 < cLine) (ha : PE X a (TO X cl ma)) (hb : PE X b (TO X cl mb)) (hm : behindInMarks op b = false) : PT X (.Compare a [op] [b] pos) (TTs X cl (.cmp op ma mb)) := by
  refine PT_imp (pt_cmpR (cmpAll hu op) ha hb hm) fun σ H Q ⟨hl, F, ρ, T, c0, ρ', wd, ev, q⟩ => ?_
  rw [tst_fin _ rfl] at ev
  split at ev <;> first | (cases ev; done) | skip
  rename_i w ρ1 ev1
  obtain ⟨c1, rfl⟩ := cmp_bl ev1
  simp only [fin, tru] at ev
  cases ev
  simp only [evm] at ev1
  split at ev1 <;> first | (cases ev1; done) | skip
  rename_i oa ρ1 e1
  split at ev1 <;> first | (cases ev1; done) | skip
  rename_i ob ρ2 e2
  split at ev1 <;> first | (cases ev1; done) | skip
  rename_i x y hx hy
  split at ev1 <;> first | (cases ev1; done) | skip
  rename_i c hc
  cases ev1
  refine ⟨hl, F, ρ, T, oa, _, wd, e1, fun F1 H1 va s1 w1 al1 => ⟨hl, F1, _, tmp oa va ++ T, ob, _, by rw [List.append_assoc]; exact w1, e2, fun F2 H2 vb s2 w2 al2 => ?_⟩⟩
  rw [← List.append_assoc] at w2
  obtain ⟨fx, rx⟩ := opRep w2 (fun w h => by subst h; exact List.mem_append_right _ (List.mem_append_left _ List.mem_cons_self)) al1 hx
  obtain ⟨fy, ry⟩ := opRep w2 (fun w h => by subst h; exact List.mem_append_left _ List.mem_cons_self) al2 hy
  refine ⟨F2, x, y, fx, fy, _, w2.same, rx, ry, hc, _, rfl, q F2 H2 (s1.trans s2) ?_⟩
  rw [List.append_assoc, List.append_assoc] at w2
  exact w2.right.right
theorem snd_sub {a i : Expr} {ma mi : Ex} {pos : Pos} (hu : X.A.units + 64 < cLine) (ha : PE X a (TO X cl ma)) (hi : PE X i (TO X cl mi)) (hs : PlainIx i) : PE X (.Subscript a i pos) (TV X cl (.sub ma mi)) := by
  refine PE_imp (pe_ix (ixAll hu) ha hi hs) fun σ H Q ⟨hl, F, ρ, T, w, ρ', wd, ev, q⟩ => ?_
  simp only [evm] at ev
  split at ev <;> first | (cases ev; done) | skip
  rename_i oa ρ1 e1
  split at ev <;> first | (cases ev; done) | skip
  rename_i ob ρ2 e2
  split at ev <;> first | (cases ev; done) | skip
  rename_i x y hx hy
  split at ev <;> first | (cases ev; done) | skip
  rename_i c hc
  cases ev
  refine ⟨hl, F, ρ, T, oa, _, wd, e1, fun F1 H1 va s1 w1 al1 => ⟨hl, F1, _, tmp oa va ++ T, ob, _, by rw [List.append_assoc]; exact w1, e2, fun F2 H2 vb s2 w2 al2 => ?_⟩⟩
  obtain ⟨F3, s3, w3⟩ := Wd.frzTmp (L1 := tmp ob vb) (L2 := T ++ Sl σ _) (by rw [List.append_assoc] at w2; exact w2)
  rw [← List.append_assoc, ← List.append_assoc, List.append_assoc (tmp ob vb)] at w3
  obtain ⟨fx, rx⟩ := opRepC w3 al1 hx
  obtain ⟨fy, ry⟩ := opRep w3 (fun w h => by subst h; exact List.mem_append_left _ List.mem_cons_self) al2 hy
  refine ⟨F3, x, y, w, fx, fy, w3.same, rx, ry, resC_in hx, hc, fun F4 H4 v fp x4 r4 n4 f4 => ?_⟩
  refine q F4 H4 v ((s1.trans s2).trans (s3.trans x4.sF)) (Wd.dl ?_ x4 r4 n4 f4)
  rw [List.append_assoc, List.append_assoc] at w3
  exact w3.right.right
/-- an index, if any -/
def tPt (K : PySem.W.Frag) (n : Nat) (m : Option Ex) : L2.TO := fun σ H Q => σ.length = n ∧ ∃ (F : Hp) (ρ : Env) (T : List Pr) (o : Option Int) (ρ' : Env), Wd K F H (T ++ Sl σ ρ) ∧ evO cl m ρ = some (o, ρ') ∧
  ∀ (F' H' : Hp), Same F F' → Wd K F' H' (T ++ Sl σ ρ') → Q o H'
theorem PO_imp {e : Option Expr} {t t' : L2.TO} (h : PO X e t) (f : ∀ σ H Q, t' σ H Q → t σ H Q) : PO X e t' := ⟨fun pins s σ H Q I q => h.run pins s σ H Q I (f σ H Q q)⟩
theorem snd_ptN : PO X none (tPt (cl := cl) X.K X.N.length none) := by
  refine PO_imp po_none fun σ H Q ⟨hl, F, ρ, T, o, ρ', wd, ev, q⟩ => ?_
  cases ev
  exact q F H (Same.refl _) wd
theorem snd_ptS {e : Expr} {m : Ex} (h : PE X e (TV X cl m)) : PO X (some e) (tPt (cl := cl) X.K X.N.length (some m)) := by
  refine PO_imp (po_some h) fun σ H Q ⟨hl, F, ρ, T, o, ρ', wd, ev, q⟩ => ?_
  simp only [evO] at ev
  split at ev <;> first | (cases ev; done) | skip
  rename_i i ρ1 e1
  cases ev
  refine ⟨hl, F, ρ, T, _, _, wd, e1, fun F1 H1 v s1 w1 => ?_⟩
  obtain ⟨fp, r⟩ := w1.rep List.mem_cons_self
  exact ⟨i, r.1, q F1 H1 s1 w1.tail⟩
theorem snd_slice {a : Expr} {lo hi : Option Expr} {ma : Ex} {ml mh : Option Ex} {pos p2 : Pos} (ha : PE X a (TO X cl ma)) (hlo : PO X lo (tPt (cl := cl) X.K X.N.length ml)) (hhi : PO X hi (tPt (cl := cl) X.K X.N.length mh)) :
    PE X (.Subscript a (.Slice lo hi none p2) pos) (TV X cl (.slice ma ml mh)) := by
  refine PE_imp (pe_slice slAll ha hlo hhi) fun σ H Q ⟨hl, F, ρ, T, w, ρ', wd, ev, q⟩ => ?_
  simp only [evm] at ev
  split at ev <;> first | (cases ev; done) | skip
  rename_i oa ρ1 e1
  split at ev <;> first | (cases ev; done) | skip
  rename_i l ρ2 e2
  split at ev <;> first | (cases ev; done) | skip
  rename_i h ρ3 e3
  split at ev <;> first | (cases ev; done) | skip
  rename_i x hx
  split at ev <;> first | (cases ev; done) | skip
  rename_i c hc
  cases ev
  refine ⟨hl, F, ρ, T, oa, _, wd, e1, fun F1 H1 va s1 w1 al1 => ⟨hl, F1, _, tmp oa va ++ T, _, _, by rw [List.append_assoc]; exact w1, e2, fun F2 H2 s2 w2 => ⟨hl, F2, _, tmp oa va ++ T, _, _, w2, e3, fun F3 H3 s3 w3 => ?_⟩⟩⟩
  obtain ⟨F4, s4, w4⟩ := Wd.frzTmp (L1 := []) (L2 := T ++ Sl σ _) (by rw [List.append_assoc] at w3; exact w3)
  obtain ⟨fx, rx⟩ := opRepC (L1 := []) (L2 := T) (by rw [List.nil_append, List.append_assoc]; exact w4) al1 hx
  refine ⟨F4, x, w, fx, w4.same, rx, resC_in hx, hc, fun F5 H5 v fp x5 r5 n5 f5 => ?_⟩
  exact q F5 H5 v (((s1.trans s2).trans (s3.trans s4)).trans x5.sF) (Wd.dl (Wd.right w4) x5 r5 n5 f5)

/-! ### displays -/
def prs (vs : List V) (ws : List W) : List Pr := (vs.zip ws).map fun p => (some p.1, p.2)
theorem prs_nil : prs [] [] = [] := rfl
theorem prs_cons {v : V} {vs : List V} {w : W} {ws : List W} : prs (v :: vs) (w :: ws) = (some v, w) :: prs vs ws := rfl
theorem prs_append {vs us : List V} {ws xs : List W} (h : vs.length = ws.length) : prs (vs ++ us) (ws ++ xs) = prs vs ws ++ prs us xs := by
  unfold prs
  rw [List.zip_append h, List.map_append]
section
variable {K : PySem.W.Frag} {F H : Hp}
theorem RepPs.prs : ∀ {vs : List V} {ws : List W} {fp : List Addr}, vs.length = ws.length → RepPs K F H (prs vs ws) fp → RepL K F H ws vs fp
  | [], [], fp, _, r => ⟨rfl, r⟩
  | v :: vs, w :: ws, fp, h, r => by
    obtain ⟨g, g', e, r1, r2⟩ := r
    exact ⟨v, vs, g, g', rfl, e, r1, RepPs.prs (by simpa using h) r2⟩
theorem RepL.prs : ∀ {vs : List V} {ws : List W} {fp : List Addr}, RepL K F H ws vs fp → RepPs K F H (prs vs ws) fp
  | vs, [], fp, r => by rw [r.1]; exact r.2
  | vs, w :: ws, fp, r => by
    obtain ⟨v, vs', g, g', e1, e2, r1, r2⟩ := r
    subst e1
    exact ⟨g, g', e2, r1, RepL.prs r2⟩
/-- things become a new tuple -/
theorem Wd.pkT {vs : List V} {ws : List W} {L : List Pr} (wd : Wd K F H (prs vs ws ++ L)) (hl : vs.length = ws.length) {p : Addr} (hp : H p = none) :
    ∃ F', Same F F' ∧ Wd K F' (upd H p (.tup vs)) ((some (.ref p), .n .tup ws) :: L) := by
  have hF := wd.free hp
  have sF : Same F (upd F p (.tup vs)) := Same.upd hF
  obtain ⟨⟨f1, r1, n1, d1⟩, s1⟩ := wd
  have hn : ∀ b ∈ f1, b ≠ p := fun b hb e => by
    obtain ⟨o, h, _⟩ := r1.there _ b hb
    rw [e, hp] at h; cases h
  obtain ⟨g, g', e, q1, q2⟩ := RepPs.split _ _ r1
  subst e
  refine ⟨_, sF, ⟨⟨g ++ g', ⟨g, g', rfl, ?_, q2.mono L sF fun b hb => by rw [upd_ne (hn b (List.mem_append_right _ hb))]⟩, n1, fun b hb => by rw [upd_ne (hn b hb)]; exact d1 b hb⟩, fun b o h => ?_⟩⟩
  · exact ⟨p, vs, g, rfl, RepL.mono ws sF (fun b hb => by rw [upd_ne (hn b (List.mem_append_left _ hb))]) (RepPs.prs hl q1), .inl (.inl upd_same), rfl⟩
  · by_cases e : b = p
    · subst e; rw [upd_same] at h ⊢; exact h
    · rw [upd_ne e] at h ⊢; exact s1 b o h
/-- .. a new list -/
theorem Wd.pkL {vs : List V} {ws : List W} {L : List Pr} (wd : Wd K F H (prs vs ws ++ L)) (hl : vs.length = ws.length) {p : Addr} (hp : H p = none) :
    Wd K F (upd H p (.lst vs)) ((some (.ref p), .n (.lst true) ws) :: L) := by
  have hF := wd.free hp
  have sH : Same H (upd H p (.lst vs)) := Same.upd hp
  obtain ⟨⟨f1, r1, n1, d1⟩, s1⟩ := wd
  have hn : ∀ b ∈ f1, b ≠ p := fun b hb e => by
    obtain ⟨o, h, _⟩ := r1.there _ b hb
    rw [e, hp] at h; cases h
  obtain ⟨g, g', e, q1, q2⟩ := RepPs.split _ _ r1
  subst e
  refine ⟨⟨(p :: g) ++ g', ⟨p :: g, g', rfl, ?_, q2.mono L (Same.refl _) fun b hb => by rw [upd_ne (hn b (List.mem_append_right _ hb))]⟩, ?_, fun b hb => ?_⟩, s1.trans sH⟩
  · exact ⟨p, vs, g, rfl, RepL.mono ws (Same.refl _) (fun b hb => by rw [upd_ne (hn b (List.mem_append_left _ hb))]) (RepPs.prs hl q1), upd_same, rfl⟩
  · rw [List.cons_append]
    exact List.nodup_cons.mpr ⟨fun hb => hn p hb rfl, n1⟩
  · rw [List.cons_append] at hb
    rcases List.mem_cons.mp hb with rfl | hb
    · exact hF
    · exact d1 b hb
end
/-- items, from the left -/
def tL (K : PySem.W.Frag) (n : Nat) (ms : List Ex) : TA := fun σ H Q => σ.length = n ∧ ∃ (F : Hp) (ρ : Env) (T : List Pr) (ws : List W) (ρ' : Env), Wd K F H (T ++ Sl σ ρ) ∧ evL cl ms ρ = some (ws, ρ') ∧
  ∀ (F' H' : Hp) (vs : List V), Same F F' → vs.length = ws.length → Wd K F' H' (prs vs ws ++ (T ++ Sl σ ρ')) → Q vs H'
abbrev TLs (X : Cx) (cl : Nat → List W → Option (List W × W)) (ms : List Ex) : TA := tL (cl := cl) X.K X.N.length ms
theorem snd_nil : PA X [] (TLs X cl []) := by
  refine PA_imp pa_nil fun σ H Q ⟨hl, F, ρ, T, ws, ρ', wd, ev, q⟩ => ?_
  simp only [evL] at ev
  cases ev
  exact q F H [] (Same.refl _) rfl wd
theorem evL_cons {m : Ex} {ms : List Ex} (hm : ∀ e, m ≠ .star e) (ρ : Env) : evL cl (m :: ms) ρ = match evm cl m .val ρ with
    | some (.tm w, ρ1) => match evL cl ms ρ1 with
      | some (ws, ρ2) => some (w :: ws, ρ2)
      | none => none
    | _ => none := by
  cases m with
  | star e => exact absurd rfl (hm e)
  | _ => simp only [evL] <;> rfl
theorem snd_cons {e : Expr} {es : List Expr} {m : Ex} {ms : List Ex} (hm : ∀ e, m ≠ .star e) (h : PE X e (TV X cl m)) (h' : PA X es (TLs X cl ms)) (hs : starEach (e :: es) X.env = (false, eval e X.env) :: starEach es X.env) : PA X (e :: es) (TLs X cl (m :: ms)) := by
  refine PA_imp (pa_cons h h' hs) fun σ H Q ⟨hl, F, ρ, T, ws, ρ', wd, ev, q⟩ => ?_
  rw [evL_cons hm] at ev
  split at ev <;> first | (cases ev; done) | skip
  rename_i w ρ1 e1
  split at ev <;> first | (cases ev; done) | skip
  rename_i ws' ρ2 e2
  cases ev
  refine ⟨hl, F, ρ, T, w, _, wd, e1, fun F1 H1 v s1 w1 => ⟨hl, F1, _, (some v, w) :: T, ws', _, w1, e2, fun F2 H2 vs s2 l2 w2 => ?_⟩⟩
  refine q F2 H2 (v :: vs) (s1.trans s2) (by simp [l2]) ?_
  exact Wd.perm List.perm_middle w2
theorem snd_tup {es : List Expr} {ms : List Ex} {k : Nat} {pos : Pos} (h : PA X es (TLs X cl ms)) : PE X (.Tuple es k pos) (TV X cl (.tup ms)) := by
  refine PE_imp (pe_tup h) fun σ H Q ⟨hl, F, ρ, T, w, ρ', wd, ev, q⟩ => ?_
  simp only [evm] at ev
  split at ev <;> first | (cases ev; done) | skip
  rename_i ws ρ1 e1
  split at ev <;> first | (cases ev; done) | skip
  rename_i hz
  cases ev
  refine ⟨hl, F, ρ, T, ws, _, wd, e1, fun F1 H1 vs s1 l1 w1 => ⟨by rw [l1]; exact hz, fun p hp => ?_⟩⟩
  obtain ⟨F2, s2, w2⟩ := w1.pkT l1 hp
  exact q F2 _ _ (s1.trans s2) w2
theorem snd_lst {es : List Expr} {ms : List Ex} {pos : Pos} (h : PA X es (TLs X cl ms)) : PE X (.List es pos) (TV X cl (.lst ms)) := by
  refine PE_imp (pe_lst h) fun σ H Q ⟨hl, F, ρ, T, w, ρ', wd, ev, q⟩ => ?_
  simp only [evm] at ev
  split at ev <;> first | (cases ev; done) | skip
  rename_i ws ρ1 e1
  split at ev <;> first | (cases ev; done) | skip
  rename_i hz
  cases ev
  refine ⟨hl, F, ρ, T, ws, _, wd, e1, fun F1 H1 vs s1 l1 w1 => ⟨by rw [l1]; exact hz, fun p hp => ?_⟩⟩
  exact q F1 _ _ s1 (w1.pkL l1 hp)
end
end Lin

set_option Elab.async false
set_option linter.all false
set_option maxRecDepth 100000
set_option maxHeartbeats 4000000
/-! Lin, part M: operands of calls; the built-in calls. -/
namespace Lin
open PySem L2 PySem.SeqAt

section
variable {K : PySem.W.Frag} {F F' H H' : Hp} {σ : L2.St} {ρ : Env} {L : List Pr}
def tmps : List Od → List V → List Pr
  | o :: os, v :: vs => tmp o v ++ tmps os vs
  | _, _ => []
def frzOs : List Od → List V → List Pr
  | o :: os, v :: vs => frzO o v ++ frzOs os vs
  | _, _ => []
def Als (σ : L2.St) : List Od → List V → Prop
  | [], [] => True
  | o :: os, v :: vs => (∀ i, o = .al i → σ[i]? = some (some v)) ∧ Als σ os vs
  | _, _ => False
def Reps (K : PySem.W.Frag) (F H : Hp) : List W → List V → Prop
  | [], [] => True
  | w :: ws, v :: vs => (∃ fp, Rep K F H w v fp) ∧ Reps K F H ws vs
  | _, _ => False
theorem Wd.frzTmps : ∀ {os : List Od} {vs : List V} {F : Hp} {L1 L2 : List Pr}, Wd K F H (L1 ++ (tmps os vs ++ L2)) → ∃ F', Same F F' ∧ Wd K F' H (L1 ++ (frzOs os vs ++ L2))
  | [], vs, F, L1, L2, wd => ⟨F, Same.refl _, by cases vs <;> exact wd⟩
  | o :: os, [], F, L1, L2, wd => ⟨F, Same.refl _, wd⟩
  | o :: os, v :: vs, F, L1, L2, wd => by
    have e : L1 ++ (tmps (o :: os) (v :: vs) ++ L2) = L1 ++ (tmp o v ++ (tmps os vs ++ L2)) := by
      show L1 ++ ((tmp o v ++ tmps os vs) ++ L2) = _
      rw [List.append_assoc (tmp o v)]
    rw [e] at wd
    obtain ⟨F1, s1, w1⟩ := wd.frzTmp
    rw [← List.append_assoc] at w1
    obtain ⟨F2, s2, w2⟩ := Wd.frzTmps (os := os) (vs := vs) (L1 := L1 ++ frzO o v) w1
    refine ⟨F2, s1.trans s2, ?_⟩
    have e2 : L1 ++ (frzOs (o :: os) (v :: vs) ++ L2) = (L1 ++ frzO o v) ++ (frzOs os vs ++ L2) := by
      show L1 ++ ((frzO o v ++ frzOs os vs) ++ L2) = _
      rw [List.append_assoc (frzO o v), List.append_assoc L1]
    rw [e2]; exact w2
theorem repsC : ∀ {os : List Od} {vs : List V} {ws : List W} {L1 L2 : List Pr}, Wd K F H ((L1 ++ (frzOs os vs ++ L2)) ++ Sl σ ρ) → Als σ os vs → resL os ρ = some ws → Reps K F H ws vs ∧ ∀ x ∈ ws, x.inFz = true
  | [], [], ws, L1, L2, wd, al, hr => by
    cases hr
    exact ⟨trivial, fun x h => nomatch h⟩
  | [], v :: vs, ws, L1, L2, wd, al, hr => al.elim
  | o :: os, [], ws, L1, L2, wd, al, hr => al.elim
  | o :: os, v :: vs, ws, L1, L2, wd, al, hr => by
    simp only [resL] at hr
    split at hr
    · rename_i w ws' h1 h2
      cases hr
      have e : L1 ++ (frzOs (o :: os) (v :: vs) ++ L2) = L1 ++ (frzO o v ++ (frzOs os vs ++ L2)) := by
        show L1 ++ ((frzO o v ++ frzOs os vs) ++ L2) = _
        rw [List.append_assoc (frzO o v)]
      rw [e] at wd
      have r1 := opRepC wd al.1 h1
      rw [← List.append_assoc L1] at wd
      obtain ⟨r2, z⟩ := repsC wd al.2 h2
      refine ⟨⟨r1, r2⟩, fun x hx => ?_⟩
      rcases List.mem_cons.mp hx with rfl | hx
      · exact resC_in h1
      · exact z x hx
    · cases hr
theorem Als.length : ∀ {os : List Od} {vs : List V}, Als σ os vs → os.length = vs.length
  | [], [], _ => rfl
  | [], _ :: _, h => h.elim
  | _ :: _, [], h => h.elim
  | o :: os, v :: vs, h => by rw [List.length_cons, List.length_cons, Als.length h.2]
theorem Reps.length : ∀ {ws : List W} {vs : List V}, Reps K F H ws vs → ws.length = vs.length
  | [], [], _ => rfl
  | [], _ :: _, h => h.elim
  | _ :: _, [], h => h.elim
  | o :: os, v :: vs, h => by rw [List.length_cons, List.length_cons, Reps.length h.2]
end

section
variable {cl : Nat → List W → Option (List W × W)}
/-- operands, from the left -/
def tOs (K : PySem.W.Frag) (cl : Nat → List W → Option (List W × W)) (n : Nat) (ms : List Ex) : TA := fun σ H Q => σ.length = n ∧ ∃ (F : Hp) (ρ : Env) (T : List Pr) (os : List Od) (ρ' : Env), Wd K F H (T ++ Sl σ ρ) ∧ opL cl ms ρ = some (os, ρ') ∧
  ∀ (F' H' : Hp) (vs : List V), Same F F' → Als σ os vs → Wd K F' H' (tmps os vs ++ (T ++ Sl σ ρ')) → Q vs H'
end
section
variable {X : Cx} {cl : Nat → List W → Option (List W × W)}
abbrev TOs (X : Cx) (cl : Nat → List W → Option (List W × W)) (ms : List Ex) : TA := tOs X.K cl X.N.length ms
theorem snd_onil : PA X [] (TOs X cl []) := by
  refine PA_imp pa_nil fun σ H Q ⟨hl, F, ρ, T, os, ρ', wd, ev, q⟩ => ?_
  simp only [opL] at ev
  cases ev
  exact q F H [] (Same.refl _) trivial wd
theorem snd_ocons {e : Expr} {es : List Expr} {m : Ex} {ms : List Ex} (h : PE X e (TO X cl m)) (h' : PA X es (TOs X cl ms)) (hs : starEach (e :: es) X.env = (false, eval e X.env) :: starEach es X.env) : PA X (e :: es) (TOs X cl (m :: ms)) := by
  refine PA_imp (pa_cons h h' hs) fun σ H Q ⟨hl, F, ρ, T, os, ρ', wd, ev, q⟩ => ?_
  simp only [opL] at ev
  split at ev <;> first | (cases ev; done) | skip
  rename_i o ρ1 e1
  split at ev <;> first | (cases ev; done) | skip
  rename_i os' ρ2 e2
  cases ev
  refine ⟨hl, F, ρ, T, o, _, wd, e1, fun F1 H1 v s1 w1 al1 => ⟨hl, F1, _, tmp o v ++ T, os', _, by rw [List.append_assoc]; exact w1, e2, fun F2 H2 vs s2 al2 w2 => ?_⟩⟩
  refine q F2 H2 (v :: vs) (s1.trans s2) ⟨al1, al2⟩ ?_
  show Wd X.K F2 H2 ((tmp o v ++ tmps os' vs) ++ (T ++ Sl σ _))
  rw [List.append_assoc]
  refine Wd.perm ?_ w2
  rw [List.append_assoc]
  exact List.perm_append_comm_assoc _ _ _

/-- a built-in's call by values -/
def rBi (K : PySem.W.Frag) (b : Bi) : List V → Hp → VK → Prop := fun vs H Q => ∃ (F : Hp) (ws : List W) (w : W), Same F H ∧ Reps K F H ws vs ∧ (∀ x ∈ ws, x.inFz = true) ∧ biW b ws = some w ∧ Dl K F H w Q
theorem bi_run {b : Bi} {es : List Expr} {ms : List Ex} {e : Expr} (h : PE X e (tCB (rBi X.K b) (TOs X cl ms))) : PE X e (TV X cl (.bi b ms)) := by
  refine PE_imp h fun σ H Q ⟨hl, F, ρ, T, w, ρ', wd, ev, q⟩ => ?_
  simp only [evm] at ev
  split at ev <;> first | (cases ev; done) | skip
  rename_i os ρ1 e1
  split at ev <;> first | (cases ev; done) | skip
  rename_i ws e2
  split at ev <;> first | (cases ev; done) | skip
  rename_i w1 e3
  cases ev
  refine ⟨hl, F, ρ, T, os, _, wd, e1, fun F1 H1 vs s1 al w2 => ?_⟩
  obtain ⟨F2, s2, w3⟩ := Wd.frzTmps (os := os) (vs := vs) (L1 := []) w2
  rw [List.nil_append, ← List.append_assoc] at w3
  obtain ⟨r, z⟩ := repsC (L1 := []) w3 al e2
  refine ⟨F2, ws, w, w3.same, r, z, e3, fun F4 H4 v fp x4 r4 n4 f4 => ?_⟩
  rw [List.append_assoc] at w3
  exact q F4 H4 v (s1.trans (s2.trans x4.sF)) (Wd.dl w3.right x4 r4 n4 f4)
end

/-! ### the built-ins by values -/
section
variable {X : Cx} {K : PySem.W.Frag} {F H : Hp}
theorem reps1 {w : W} {vs : List V} (r : Reps K F H [w] vs) : ∃ v fp, vs = [v] ∧ Rep K F H w v fp := by
  match vs, r with
  | [v], ⟨⟨fp, r⟩, _⟩ => exact ⟨v, fp, rfl, r⟩
theorem reps2 {w w' : W} {vs : List V} (r : Reps K F H [w, w'] vs) : ∃ v v' fp fp', vs = [v, v'] ∧ Rep K F H w v fp ∧ Rep K F H w' v' fp' := by
  match vs, r with
  | [v, v'], ⟨⟨fp, r⟩, ⟨fp', r'⟩, _⟩ => exact ⟨v, v', fp, fp', rfl, r, r'⟩
theorem RepL.bools : ∀ {xs : List W} {vs : List V} {fp : List Addr} {bs : List Bool}, RepL K F H xs vs fp → boolsW xs = some bs → vs = bs.map V.bl
  | [], vs, fp, bs, r, h => by cases h; exact r.1
  | .n _ _ :: xs, vs, fp, bs, r, h => by cases h
  | .a x :: xs, vs, fp, bs, r, h => by
    obtain ⟨v, vs', g, g', e1, e2, r1, r2⟩ := r
    cases x with
    | bl b =>
      simp only [boolsW, Option.map_eq_some_iff] at h
      obtain ⟨bs', h1, h2⟩ := h
      subst h2 e1
      rw [List.map_cons, RepL.bools r2 h1, show v = .bl b from r1.1]
    | _ => cases h
theorem RepL.ints : ∀ {xs : List W} {vs : List V} {fp : List Addr} {bs : List Int}, RepL K F H xs vs fp → intsW xs = some bs → vs = bs.map V.int
  | [], vs, fp, bs, r, h => by cases h; exact r.1
  | .n _ _ :: xs, vs, fp, bs, r, h => by cases h
  | .a x :: xs, vs, fp, bs, r, h => by
    obtain ⟨v, vs', g, g', e1, e2, r1, r2⟩ := r
    cases x with
    | int b =>
      simp only [intsW, Option.map_eq_some_iff] at h
      obtain ⟨bs', h1, h2⟩ := h
      subst h2 e1
      rw [List.map_cons, RepL.ints r2 h1, show v = .int b from r1.1]
    | _ => cases h
theorem RepL.strs : ∀ {xs : List W} {vs : List V} {fp : List Addr} {bs : List Str}, RepL K F H xs vs fp → strsW xs = some bs → vs = bs.map V.str
  | [], vs, fp, bs, r, h => by cases h; exact r.1
  | .n _ _ :: xs, vs, fp, bs, r, h => by cases h
  | .a x :: xs, vs, fp, bs, r, h => by
    obtain ⟨v, vs', g, g', e1, e2, r1, r2⟩ := r
    cases x with
    | str b =>
      simp only [strsW, Option.map_eq_some_iff] at h
      obtain ⟨bs', h1, h2⟩ := h
      subst h2 e1
      rw [List.map_cons, RepL.strs r2 h1, show v = .str b from r1.1]
    | _ => cases h

theorem CallR.imp {f : Value} {r r' : List V → Hp → VK → Prop} (h : CallR X f r) (g : ∀ vs H Q, r' vs H Q → r vs H Q) : CallR X f r' := fun pins s σ H xs us Q I rv q => h pins s σ H xs us Q I rv (g _ _ _ q)
theorem CallR.cases {f : Value} {r r1 r2 : List V → Hp → VK → Prop} (h1 : CallR X f r1) (h2 : CallR X f r2) (g : ∀ vs H Q, r vs H Q → r1 vs H Q ∨ r2 vs H Q) : CallR X f r := fun pins s σ H xs us Q I rv q => (g _ _ _ q).elim (h1 pins s σ H xs us Q I rv) (h2 pins s σ H xs us Q I rv)

theorem bi_len : CallR X (.builtin "len") (rBi X.K .len) := by
  refine CallR.cases call_len call_lenD fun vs H Q ⟨F, ws, w, sF, rp, fz, hb, d⟩ => ?_
  unfold biW at hb
  split at hb <;> first | (cases hb; done) | skip
  all_goals (rename_i hbi; first | (cases hbi; done) | skip)
  · rename_i k xs
    cases hb
    obtain ⟨v, fp, rfl, r⟩ := reps1 rp
    obtain ⟨a, vs, g, rfl, r1, r2⟩ := r
    have hl := RepL.length xs r1
    have q := d.int sF
    rw [← hl] at q
    cases k with
    | tup => exact .inl ⟨_, _, rfl, .inr ⟨vs, Same.sqT sF r2.1, rfl⟩, q⟩
    | ro => exact .inl ⟨_, _, rfl, .inl ⟨vs, sF.seq r2.1, rfl⟩, q⟩
    | lst m => cases m with
      | false => exact .inl ⟨_, _, rfl, .inl ⟨vs, SqL.of (sF _ _ r2.1), rfl⟩, q⟩
      | true => exact .inl ⟨_, _, rfl, .inl ⟨vs, SqL.of r2.1, rfl⟩, q⟩
    | dct m ks =>
      have hz : (ks.zip vs).length = vs.length := by
        cases m with
        | false => rw [List.length_zip, r2.2.1, Nat.min_self]
        | true => rw [List.length_zip, r2.2.1, Nat.min_self]
      rw [← hz] at q
      cases m with
      | false => exact .inr ⟨a, _, rfl, sF _ _ r2.1, q⟩
      | true => exact .inr ⟨a, _, rfl, r2.1, q⟩
  · rename_i z
    split at hb
    · rename_i hz
      cases hb
      obtain ⟨v, fp, rfl, r⟩ := reps1 rp
      cases (show v = .str z from r.1)
      exact .inl ⟨_, _, rfl, ⟨hz, rfl⟩, d.int sF⟩
    · cases hb
end
end Lin

set_option Elab.async false
set_option linter.all false
set_option maxRecDepth 100000
set_option maxHeartbeats 4000000
/-! Lin, part N: the built-ins by values, further. -/
namespace Lin
open PySem L2 PySem.SeqAt
section
variable {X : Cx} {K : PySem.W.Frag} {F H : Hp}
theorem bi_int : CallR X (.type "int") (rBi X.K .int) := by
  refine CallR.imp call_int1 fun vs H Q ⟨F, ws, w, sF, rp, fz, hb, d⟩ => ?_
  unfold biW at hb
  split at hb <;> first | (cases hb; done) | skip
  all_goals (rename_i hbi; first | (cases hbi; done) | skip)
  · rename_i i
    cases hb
    obtain ⟨v, fp, rfl, r⟩ := reps1 rp
    cases (show v = .int i from r.1)
    exact .inl ⟨i, rfl, d.int sF⟩
  · rename_i i
    cases hb
    obtain ⟨v, fp, rfl, r⟩ := reps1 rp
    cases (show v = .bl i from r.1)
    exact .inr ⟨i, rfl, d.int sF⟩
theorem bi_str : CallR X (.type "str") (rBi X.K .str) := by
  refine CallR.imp call_str_int fun vs H Q ⟨F, ws, w, sF, rp, fz, hb, d⟩ => ?_
  unfold biW at hb
  split at hb <;> first | (cases hb; done) | skip
  all_goals (rename_i hbi; first | (cases hbi; done) | skip)
  · rename_i i
    split at hb
    · rename_i hz
      cases hb
      obtain ⟨v, fp, rfl, r⟩ := reps1 rp
      cases (show v = .int i from r.1)
      exact ⟨i, rfl, hz, d.str sF⟩
    · cases hb
theorem bi_abs : CallR X (.builtin "abs") (rBi X.K .abs) := by
  refine CallR.imp call_abs fun vs H Q ⟨F, ws, w, sF, rp, fz, hb, d⟩ => ?_
  unfold biW at hb
  split at hb <;> first | (cases hb; done) | skip
  all_goals (rename_i hbi; first | (cases hbi; done) | skip)
  · rename_i i
    cases hb
    obtain ⟨v, fp, rfl, r⟩ := reps1 rp
    cases (show v = .int i from r.1)
    exact ⟨i, rfl, d.int sF⟩
theorem bi_max (hc : X.calm = true) : CallR X (.builtin "max") (rBi X.K .max) := by
  refine CallR.imp (call_max2 hc) fun vs H Q ⟨F, ws, w, sF, rp, fz, hb, d⟩ => ?_
  unfold biW at hb
  split at hb <;> first | (cases hb; done) | skip
  all_goals (rename_i hbi; first | (cases hbi; done) | skip)
  · rename_i i j
    cases hb
    obtain ⟨v, v', fp, fp', rfl, r, r'⟩ := reps2 rp
    cases (show v = .int i from r.1)
    cases (show v' = .int j from r'.1)
    exact ⟨i, j, rfl, d.int sF⟩
theorem bi_min (hc : X.calm = true) : CallR X (.builtin "min") (rBi X.K .min) := by
  refine CallR.imp (call_min2 hc) fun vs H Q ⟨F, ws, w, sF, rp, fz, hb, d⟩ => ?_
  unfold biW at hb
  split at hb <;> first | (cases hb; done) | skip
  all_goals (rename_i hbi; first | (cases hbi; done) | skip)
  · rename_i i j
    cases hb
    obtain ⟨v, v', fp, fp', rfl, r, r'⟩ := reps2 rp
    cases (show v = .int i from r.1)
    cases (show v' = .int j from r'.1)
    exact ⟨i, j, rfl, d.int sF⟩
theorem bi_list : CallR X (.type "list") (rBi X.K .list) := by
  refine CallR.imp call_list_of fun vs H Q ⟨F, ws, w, sF, rp, fz, hb, d⟩ => ?_
  unfold biW at hb
  split at hb <;> first | (cases hb; done) | skip
  all_goals (rename_i hbi; first | (cases hbi; done) | skip)
  · rename_i m xs
    split at hb
    · rename_i hz
      cases hb
      obtain ⟨v, fp, rfl, r⟩ := reps1 rp
      obtain ⟨a, vs, g, rfl, h, r1⟩ := r.lstH sF
      exact ⟨a, vs, rfl, .inl (SqL.of h), fun l hl => d.lst sF (r1.fz' hz) rfl hl⟩
    · cases hb
  · rename_i xs
    split at hb
    · rename_i hz
      cases hb
      obtain ⟨v, fp, rfl, r⟩ := reps1 rp
      obtain ⟨a, vs, g, rfl, h, r1⟩ := r.tupH sF
      exact ⟨a, vs, rfl, .inr h, fun l hl => d.lst sF (r1.fz' hz) rfl hl⟩
    · cases hb
theorem bi_tuple : CallR X (.type "tuple") (rBi X.K .tuple) := by
  refine CallR.imp call_tuple_of fun vs H Q ⟨F, ws, w, sF, rp, fz, hb, d⟩ => ?_
  unfold biW at hb
  split at hb <;> first | (cases hb; done) | skip
  all_goals (rename_i hbi; first | (cases hbi; done) | skip)
  · rename_i m xs
    split at hb
    · rename_i hz
      cases hb
      obtain ⟨v, fp, rfl, r⟩ := reps1 rp
      obtain ⟨a, vs, g, rfl, h, r1⟩ := r.lstH sF
      exact ⟨a, vs, rfl, .inl ⟨SqL.of h, fun l hl => d.tup sF (r1.fz' hz) rfl hl⟩⟩
    · cases hb
  · rename_i xs
    split at hb
    · rename_i hz
      cases hb
      obtain ⟨v, fp, rfl, r⟩ := reps1 rp
      obtain ⟨a, vs, g, rfl, h, r1⟩ := r.tupH sF
      refine ⟨a, vs, rfl, .inr ⟨h, d.fz sF r ?_⟩⟩
      simp only [W.fz, Kd.fz, hz, Bool.and_self]
    · cases hb
theorem bi_all (hc : X.calm = true) : CallR X (.builtin "all") (rBi X.K .all) := by
  refine CallR.imp (cr_all hc) fun vs H Q ⟨F, ws, w, sF, rp, fz, hb, d⟩ => ?_
  unfold biW at hb
  split at hb <;> first | (cases hb; done) | skip
  all_goals (rename_i hbi; first | (cases hbi; done) | skip)
  · rename_i m xs
    obtain ⟨bs, h1, h2⟩ := Option.map_eq_some_iff.mp hb
    subst h2
    obtain ⟨v, fp, rfl, r⟩ := reps1 rp
    obtain ⟨a, vs, g, rfl, h, r1⟩ := r.lstH sF
    cases r1.bools h1
    exact ⟨a, bs, rfl, SqL.of h, d.bl sF⟩
theorem bi_any (hc : X.calm = true) : CallR X (.builtin "any") (rBi X.K .any) := by
  refine CallR.imp (cr_any hc) fun vs H Q ⟨F, ws, w, sF, rp, fz, hb, d⟩ => ?_
  unfold biW at hb
  split at hb <;> first | (cases hb; done) | skip
  all_goals (rename_i hbi; first | (cases hbi; done) | skip)
  · rename_i m xs
    obtain ⟨bs, h1, h2⟩ := Option.map_eq_some_iff.mp hb
    subst h2
    obtain ⟨v, fp, rfl, r⟩ := reps1 rp
    obtain ⟨a, vs, g, rfl, h, r1⟩ := r.lstH sF
    cases r1.bools h1
    exact ⟨a, bs, rfl, SqL.of h, d.bl sF⟩
theorem bi_sum (hc : X.calm = true) : CallR X (.builtin "sum") (rBi X.K .sum) := by
  refine CallR.imp (cr_sum hc) fun vs H Q ⟨F, ws, w, sF, rp, fz, hb, d⟩ => ?_
  unfold biW at hb
  split at hb <;> first | (cases hb; done) | skip
  all_goals (rename_i hbi; first | (cases hbi; done) | skip)
  · rename_i m xs
    obtain ⟨bs, h1, h2⟩ := Option.map_eq_some_iff.mp hb
    subst h2
    obtain ⟨v, fp, rfl, r⟩ := reps1 rp
    obtain ⟨a, vs, g, rfl, h, r1⟩ := r.lstH sF
    cases r1.ints h1
    exact ⟨a, bs, rfl, SqL.of h, d.int sF⟩

/-! ### repr -/
section
variable {pins : List (Addr × Obj)} {σ : L2.St} {s : Shared}
theorem kd_reads {u : Value} {k : Key} {h : Heap} (e : keyIs k u = true) : Reads h u (kD k) [] := by
  rcases keyIs_shape e with ⟨i, t, rfl, rfl⟩ | ⟨x, t, rfl, rfl⟩
  · exact .int i t
  · exact .str x t
theorem pairs_reads {P : Program} {w : World} {h : Heap} : ∀ {es : List DictEntry} {kvs : List (Key × Value)} {ks : List Key} {us : List Value}, Pairs (mixKind P w) es kvs → kvs = ks.zip us → ks.length = us.length →
    ReadsAll h (es.map (·.key)) (ks.map kD) [] ∧ es.map (·.val) = us
  | [], _, [], [], .nil, _, _ => ⟨.nil, rfl⟩
  | [], _, k :: ks, u :: us, .nil, e, _ => by cases e
  | [], _, [], u :: us, .nil, e, hl => by simp at hl
  | [], _, k :: ks, [], .nil, e, hl => by simp at hl
  | e :: es, _, [], us, .cons h1 h2 r, q, hl => by cases us <;> cases q
  | e :: es, _, k :: ks, [], .cons h1 h2 r, q, hl => by cases q
  | e :: es, _, k :: ks, u :: us, .cons (kv := kv) h1 h2 r, q, hl => by
    rw [List.zip_cons_cons] at q
    injection q with q1 q2
    obtain ⟨a, b⟩ := pairs_reads (h := h) r q2 (by simpa using hl)
    subst q1
    refine ⟨?_, ?_⟩
    · exact .cons (as := []) (bs := []) (kd_reads h1) a
    · rw [List.map_cons, b, show e.val = u from h2]
theorem kv_zip : ∀ (ks : List Key) (vs : List V) {kus : List (Key × Value)}, ks.length = vs.length → KV (ks.zip vs) kus → ∃ us, kus = ks.zip us ∧ ks.length = us.length ∧ Vals vs us
  | [], [], _, _, .nil => ⟨[], rfl, rfl, .nil⟩
  | [], _ :: _, _, h, _ => by simp at h
  | _ :: _, [], _, h, _ => by simp at h
  | k :: ks, v :: vs, _, h, .cons (b := q) (l₂ := kus) r t => by
    obtain ⟨us, e1, e2, rv⟩ := kv_zip ks vs (by simpa using h) t
    obtain ⟨q1, q2⟩ := q
    obtain ⟨r1, r2⟩ := r
    cases (show k = q1 from r1)
    exact ⟨q2 :: us, by rw [e1]; rfl, by simp [e2], .cons r2 rv⟩
mutual
theorem reads_of (I : Inv X pins σ H s) (sF : Same F H) (sy : ∃ o, X.base.get? sysModules = some o) : ∀ (w : W) {v : V} {fp : List Addr} {d : PyData} {u : Value}, Rep X.K F H w v fp → toD w = some d → RelV v u → ∃ as, Reads s.heap u d as ∧ sysModules ∉ as
  | .a x, v, fp, d, u, r, h, ru => by
    obtain ⟨r, _⟩ := r
    cases x with
    | non => cases r; cases h; cases ru; exact ⟨[], .none, by simp⟩
    | bl b => cases r; cases h; cases ru; exact ⟨[], .bool _, by simp⟩
    | int b => cases r; cases h; obtain ⟨t, rfl⟩ := ru; exact ⟨[], .int _ _, by simp⟩
    | str b => cases r; cases h; obtain ⟨t, rfl⟩ := ru; exact ⟨[], .str _ _, by simp⟩
    | opq => cases h
    | dead => cases h
  | .n k xs, v, fp, d, u, r, h, ru => by
    simp only [toD] at h
    split at h
    · cases h
    · rename_i ds hds
      obtain ⟨a, vs, g, rfl, r1, r2⟩ := r
      cases ru
      have nsys : ∀ o, H a = some o → a ≠ sysModules := fun o e q => by
        obtain ⟨ob, hb⟩ := sy
        have := (I.bs _ _ hb).2
        rw [← q, e] at this
        cases this
      cases k with
      | tup =>
        cases h
        obtain ⟨its, rv, ⟨o, h1, h2, n, h3⟩, _⟩ := I.tuple (Same.sqT sF r2.1)
        obtain ⟨as, ra, na⟩ := readsL_of I sF sy xs r1 hds rv
        exact ⟨as, .tuple h1 h2 h3 ra, na⟩
      | ro => cases h
      | lst m =>
        cases h
        have hH : H a = some (.lst vs) := by
          cases m with
          | false => exact sF _ _ r2.1
          | true => exact r2.1
        obtain ⟨_, its, n, rv, h1⟩ := (show ObjOk X.prog X.w H s.heap a (.lst vs) from I.hok a _ hH)
        obtain ⟨as, ra, na⟩ := readsL_of I sF sy xs r1 hds rv
        refine ⟨a :: as, .list h1 rfl rfl ra, fun hm => ?_⟩
        rcases List.mem_cons.mp hm with e | hm
        · exact nsys _ hH e.symm
        · exact na hm
      | dct m ks =>
        simp only at h
        split at h
        · rename_i hl
          cases h
          obtain ⟨hH, hkl⟩ : H a = some (.dK (ks.zip vs)) ∧ ks.length = vs.length := by
            cases m with
            | false => exact ⟨sF _ _ r2.1, r2.2.1⟩
            | true => exact ⟨r2.1, r2.2.1⟩
          obtain ⟨_, _, kus, kv, o, es, ep, h1, h2, h3, _, h4, _⟩ := (show ObjOk X.prog X.w H s.heap a (.dK _) from I.hok a _ hH)
          obtain ⟨us, e1, e2, rv⟩ := kv_zip ks vs hkl kv
          obtain ⟨a1, a2⟩ := pairs_reads (h := s.heap) h4 e1 e2
          obtain ⟨as, ra, na⟩ := readsL_of I sF sy xs r1 hds rv
          have k1 : ((ks.map kD).zip ds).map (·.1) = ks.map kD := by
            rw [List.map_fst_zip]; simp [hl]
          have k2 : ((ks.map kD).zip ds).map (·.2) = ds := by
            rw [List.map_snd_zip]; simp [hl]
          refine ⟨a :: [] ++ as, .dict (as := []) h1 h2.1 h3 (by rw [k1]; exact a1) (by rw [k2, a2]; exact ra), fun hm => ?_⟩
          rcases List.mem_cons.mp hm with e | hm
          · exact nsys _ hH e.symm
          · exact na hm
        · cases h
theorem readsL_of (I : Inv X pins σ H s) (sF : Same F H) (sy : ∃ o, X.base.get? sysModules = some o) : ∀ (ws : List W) {vs : List V} {fp : List Addr} {ds : List PyData} {us : List Value}, RepL X.K F H ws vs fp → toDL ws = some ds → Vals vs us → ∃ as, ReadsAll s.heap us ds as ∧ sysModules ∉ as
  | [], vs, fp, ds, us, r, h, ru => by
    cases h
    obtain ⟨rfl, _⟩ := r
    cases ru
    exact ⟨[], .nil, by simp⟩
  | x :: xs, vs, fp, ds, us, r, h, ru => by
    obtain ⟨v, vs', g, g', rfl, _, r1, r2⟩ := r
    simp only [toDL] at h
    split at h
    · cases h
    · rename_i d hd
      split at h
      · cases h
      · rename_i ds' hds
        cases h
        cases ru with
        | cons q qs =>
          obtain ⟨as, a1, a2⟩ := reads_of I sF sy x r1 hd q
          obtain ⟨bs, b1, b2⟩ := readsL_of I sF sy xs r2 hds qs
          exact ⟨as ++ bs, .cons a1 b1, fun hm => (List.mem_append.mp hm).elim a2 b2⟩
end
theorem bi_repr (hg : X.A.guards = some []) (hu : X.A.units + 64 < cLine) (sy : ∃ o, X.base.get? sysModules = some o) : CallR X (.builtin "repr") (rBi X.K .repr) := by
  intro pins s σ H vs us Q I rv ⟨F, ws, w, sF, rp, fz, hb, d⟩
  unfold biW at hb
  split at hb <;> first | (cases hb; done) | skip
  all_goals (rename_i hbi; first | (cases hbi; done) | skip)
  rename_i w0
  obtain ⟨z, hz, e⟩ := Option.map_eq_some_iff.mp hb
  subst e
  obtain ⟨v, fp, rfl, r⟩ := reps1 rp
  obtain ⟨u, rfl, ru⟩ := vals1 rv
  unfold reprW at hz
  split at hz
  · cases hz
  · rename_i dd hd
    split at hz
    · rename_i hs
      cases hz
      simp only [Bool.and_eq_true, decide_eq_true_eq] at hs
      obtain ⟨as, ra, na⟩ := reads_of I sF sy w0 r hd ru
      cases ra with
      | none => exact PySem.P.repr_of_none ⟨.str _, H, I.tok _, ⟨_, rfl⟩, d.str sF⟩
      | bool b => exact PySem.P.repr_of_bool ⟨.str _, H, I.tok _, ⟨_, rfl⟩, d.str sF⟩
      | int i t => exact PySem.P.repr_of_int (by simpa [PyData.showable] using hs.1.1) ⟨.str _, H, I.tok _, ⟨_, rfl⟩, d.str sF⟩
      | str x t => exact PySem.P.repr_of_str ⟨.str _, H, I.tok _, ⟨_, rfl⟩, d.str sF⟩ (by simpa [PyData.shown] using hs.1.2)
      | list a b c e =>
        exact repr_of_reads' (.list a b c e) hs.1.1 (fun _ => na) hg (by omega) (fun _ _ h => h) (fun h' u tk hk => ⟨.str _, H, I.kept hk, ⟨_, rfl⟩, d.str sF⟩) hs.1.2
      | tuple a b c e =>
        exact repr_of_reads' (.tuple a b c e) hs.1.1 (fun _ => na) hg (by omega) (fun _ _ h => h) (fun h' u tk hk => ⟨.str _, H, I.kept hk, ⟨_, rfl⟩, d.str sF⟩) hs.1.2
      | dict a b c e f =>
        exact repr_of_reads' (.dict a b c e f) hs.1.1 (fun _ => na) hg (by omega) (fun _ _ h => h) (fun h' u tk hk => ⟨.str _, H, I.kept hk, ⟨_, rfl⟩, d.str sF⟩) hs.1.2
    · cases hz
end
end
end Lin

set_option Elab.async false
set_option linter.all false
set_option maxRecDepth 100000
set_option maxHeartbeats 4000000
/-! Lin, part O: methods of lists and texts. -/
namespace Lin
open PySem L2 PySem.SeqAt
section
variable {K : PySem.W.Frag} {F F' H H' : Hp} {σ : L2.St} {ρ : Env} {L L' : List Pr} {a : Addr}
/-- a world beside an owned object at a, which may be written -/
structure WdA (K : PySem.W.Frag) (a : Addr) (F H : Hp) (L : List Pr) : Prop where
  ex : ∃ fp, RepPs K F H L fp ∧ (a :: fp).Nodup ∧ ∀ b ∈ a :: fp, F b = none
  same : Same F H
theorem WdA.perm (w : WdA K a F H L) (p : L.Perm L') : WdA K a F H L' := by
  obtain ⟨⟨fp, r, n, d⟩, s⟩ := w
  obtain ⟨fp', p', r'⟩ := r.perm p
  exact ⟨⟨fp', r', (p'.cons a).nodup n, fun b hb => d b ((p'.cons a).mem_iff.mpr hb)⟩, s⟩
theorem WdA.right (w : WdA K a F H (L ++ L')) : WdA K a F H L' := by
  obtain ⟨⟨fp, r, n, d⟩, s⟩ := w
  obtain ⟨g, g', e, r1, r2⟩ := r.split
  subst e
  refine ⟨⟨g', r2, ?_, fun b hb => ?_⟩, s⟩
  · obtain ⟨n1, n2⟩ := List.nodup_cons.mp n
    exact List.nodup_cons.mpr ⟨fun h => n1 (List.mem_append_right _ h), (List.nodup_append.mp n2).2.1⟩
  · rcases List.mem_cons.mp hb with rfl | hb
    · exact d _ List.mem_cons_self
    · exact d b (List.mem_cons_of_mem _ (List.mem_append_right _ hb))
/-- an owned list is opened -/
theorem Wd.opn {v : V} {xs : List W} (wd : Wd K F H ((some v, .n (.lst true) xs) :: L)) : ∃ a vs, v = .ref a ∧ H a = some (.lst vs) ∧ vs.length = xs.length ∧ WdA K a F H (prs vs xs ++ L) := by
  obtain ⟨⟨fp, ⟨g, g', e, r1, r2⟩, n, d⟩, s⟩ := wd
  subst e
  obtain ⟨a, vs, g0, rfl, q1, q2, q3⟩ := (show Rep K F H (.n (.lst true) xs) v g from r1)
  subst q3
  exact ⟨a, vs, rfl, q2, RepL.length xs q1, ⟨⟨g0 ++ g', RepPs.append _ _ (RepL.prs q1) r2, n, d⟩, s⟩⟩
theorem Same.updN {o : HO} (s : Same F H) (h : F a = none) : Same F (L2.upd H a o) := fun b u e => by
  by_cases hb : b = a
  · subst hb; rw [h] at e; cases e
  · rw [upd_ne hb]; exact s b u e
/-- .. and closed, with other things -/
theorem WdA.cls {vs : List V} {xs : List W} (wd : WdA K a F H (prs vs xs ++ L)) (hl : vs.length = xs.length) : Wd K F (upd H a (.lst vs)) ((some (.ref a), .n (.lst true) xs) :: L) := by
  obtain ⟨⟨fp, r, n, d⟩, s⟩ := wd
  obtain ⟨g, g', e, r1, r2⟩ := r.split
  subst e
  have hn : ∀ b ∈ g ++ g', b ≠ a := fun b hb e => by subst e; exact (List.nodup_cons.mp n).1 hb
  refine ⟨⟨(a :: g) ++ g', ⟨a :: g, g', rfl, ?_, r2.mono L (Same.refl _) fun b hb => by rw [upd_ne (hn b (List.mem_append_right _ hb))]⟩, n, d⟩, Same.updN s (d a List.mem_cons_self)⟩
  exact ⟨a, vs, g, rfl, RepL.mono xs (Same.refl _) (fun b hb => by rw [upd_ne (hn b (List.mem_append_left _ hb))]) (RepPs.prs hl r1), upd_same, rfl⟩
theorem WdA.adds {vs : List V} {xs : List W} (wd : WdA K a F H L) (r : RepL K F H xs vs []) : WdA K a F H (prs vs xs ++ L) := by
  obtain ⟨⟨fp, r1, n, d⟩, s⟩ := wd
  exact ⟨⟨[] ++ fp, RepPs.append _ _ (RepL.prs r) r1, n, d⟩, s⟩
theorem WdA.fz (wd : WdA K a F H L) {F1 : Hp} (sF : Same F F1) (s1 : Same F1 H) (h : ∀ b, F1 b ≠ none → F b ≠ none) : WdA K a F1 H L := by
  obtain ⟨⟨fp, r, n, d⟩, s⟩ := wd
  refine ⟨⟨fp, r.mono L sF (fun _ _ => rfl), n, fun b hb => ?_⟩, s1⟩
  have := d b hb
  cases e : F1 b with
  | none => rfl
  | some o => exact absurd this (h b (by rw [e]; simp))
theorem prs_take {vs : List V} {xs : List W} (i : Nat) : prs (vs.take i) (xs.take i) ++ prs (vs.drop i) (xs.drop i) = prs vs xs := by
  unfold prs
  rw [← List.map_append]
  congr 1
  rw [List.zip_eq_zipWith, List.zip_eq_zipWith, List.zip_eq_zipWith]
  exact (by rw [← List.take_zipWith, ← List.drop_zipWith, List.take_append_drop])
theorem prs_get {vs : List V} {xs : List W} {i : Nat} {x : W} (hl : vs.length = xs.length) (h : xs[i]? = some x) : ∃ v, vs[i]? = some v ∧ (prs vs xs).Perm ((some v, x) :: prs (vs.eraseIdx i) (xs.eraseIdx i)) := by
  induction xs generalizing vs i with
  | nil => simp at h
  | cons y ys ih =>
    cases vs with
    | nil => simp at hl
    | cons u us =>
      cases i with
      | zero => simp at h; subst h; exact ⟨u, rfl, .refl _⟩
      | succ i =>
        obtain ⟨v, h1, p⟩ := ih (vs := us) (i := i) (by simpa using hl) (by simpa using h)
        refine ⟨v, by simpa using h1, ?_⟩
        rw [List.eraseIdx_cons_succ, List.eraseIdx_cons_succ, prs_cons, prs_cons]
        exact (p.cons _).trans (.swap _ _ _)
theorem eraseIdx_dropLast {α : Type} : ∀ (xs : List α), xs.eraseIdx (xs.length - 1) = xs.dropLast
  | [] => rfl
  | [x] => rfl
  | x :: y :: r => by
    show x :: (y :: r).eraseIdx ((y :: r).length - 1) = x :: (y :: r).dropLast
    rw [eraseIdx_dropLast (y :: r)]
end

theorem frzL_len : ∀ ys : List W, (frzL ys).length = ys.length
  | [] => rfl
  | y :: ys => by rw [frzL, List.length_cons, List.length_cons, frzL_len ys]
def mtT : Mt → String
  | .upper => "str"
  | .split => "str"
  | .join => "str"
  | .get => "dict"
  | .upd => "dict"
  | _ => "list"
/-- a method by values -/
def rMt (K : PySem.W.Frag) (m : Mt) : V → List V → Hp → VK → Prop := fun x xs H Q => ∃ (F : Hp) (L : List Pr) (w : W) (ws : List W) (r w' : W), Wd K F H ((some x, w) :: (prs xs ws ++ L)) ∧ xs.length = ws.length ∧ mtW m w ws = some (r, w') ∧
  ∀ (F' H' : Hp) (v : V), Same F F' → Wd K F' H' ((some v, r) :: (some x, w') :: L) → Q v H'
section
variable {X : Cx} {cl : Nat → List W → Option (List W × W)}
theorem mtOk_ty {K : PySem.W.Frag} {F H : Hp} {m : Mt} {w : W} {x : V} {fp : List Addr} (sF : Same F H) (r : Rep K F H w x fp) (h : mtOk m w = true) : tyV K (mtT m) x H := by
  unfold mtOk at h
  split at h <;> first | (cases h; done) | skip
  · rename_i z; cases (show x = .str z from r.1); rfl
  · rename_i z; cases (show x = .str z from r.1); rfl
  · rename_i z; cases (show x = .str z from r.1); rfl
  · obtain ⟨a, vs, g, rfl, h, _⟩ := r.dctH sF
    exact .inr (.inr (.inl ⟨rfl, .inl ⟨_, h⟩⟩))
  · obtain ⟨a, vs, g, rfl, h, _⟩ := r.dctH sF
    exact .inr (.inr (.inl ⟨rfl, .inl ⟨_, h⟩⟩))
  · rename_i n1 n2 n3 n4 n5
    obtain ⟨a, vs, g, rfl, h, _⟩ := r.lstH sF
    have e : mtT m = "list" := by cases m <;> first | rfl | (exact absurd rfl n1; done) | (exact absurd rfl n2; done) | (exact absurd rfl n3; done) | (exact absurd rfl n4; done) | (exact absurd rfl n5; done) | simp_all
    exact .inl ⟨e, vs, SqL.of h⟩
theorem meth_fin {m : Mt} {mo : Ex} {ms : List Ex} {T : String} {ρ ρ1 ρ' : Env} {w : W} {md : Md} (h : evm cl (.meth m mo ms) .val ρ = some (.tm w, ρ')) :
    ∃ od ρ1 w0 ws ρ2 w1 w', evm cl mo .opr ρ = some (od, ρ1) ∧ res od ρ1 = some w0 ∧ mtOk m w0 = true ∧ evL cl ms ρ1 = some (ws, ρ2) ∧ res od ρ2 = some w1 ∧ mtW m w1 ws = some (w, w') ∧ ρ' = backO od w' ρ2 := by
  simp only [evm] at h
  split at h <;> first | (cases h; done) | skip
  rename_i od ρ1 e1
  split at h <;> first | (cases h; done) | skip
  rename_i w0 e2
  split at h <;> first | (cases h; done) | skip
  rename_i e3
  split at h <;> first | (cases h; done) | skip
  rename_i ws ρ2 e4
  split at h <;> first | (cases h; done) | skip
  rename_i w1 e5
  split at h <;> first | (cases h; done) | skip
  rename_i r w' e6
  cases h
  exact ⟨od, ρ1, w0, ws, ρ2, w1, w', e1, e2, e3, e4, e5, e6, rfl⟩
/-- behind the arguments -/
theorem meth_go {m : Mt} {od : Od} {σ : L2.St} {F F0 H : Hp} {T : List Pr} {ρ2 : Env} {x : V} {vs : List V} {ws : List W} {w1 r w' : W} {Q : VK} (wd : Wd X.K F H (prs vs ws ++ (tmp od x ++ (T ++ Sl σ ρ2)))) (hl : vs.length = ws.length)
    (al : ∀ i, od = .al i → σ[i]? = some (some x)) (e5 : res od ρ2 = some w1) (e6 : mtW m w1 ws = some (r, w')) (s0 : Same F0 F) (q : ∀ F' H' v, Same F0 F' → Wd X.K F' H' ((some v, r) :: (T ++ Sl σ (backO od w' ρ2))) → Q v H') :
    rMt X.K m x vs H Q := by
  cases od with
  | al i =>
    obtain ⟨h1, h2⟩ := at?_some e5
    have hv := al i rfl
    rw [show tmp (.al i) x ++ (T ++ Sl σ ρ2) = T ++ Sl σ ρ2 from rfl, ← List.append_assoc] at wd
    have w3 := wd.take h1 hv
    rw [List.append_assoc] at w3
    refine ⟨F, _, w1, ws, r, w', w3, hl, e6, fun F' H' v s w4 => q F' H' v (s0.trans s) ?_⟩
    have w5 := (Wd.swap w4)
    have w6 := Wd.put (T := (some v, r) :: T) (by exact w5) hv
    rw [List.set_set] at w6
    exact w6
  | tm w0 =>
    cases e5
    refine ⟨F, T ++ Sl σ ρ2, _, ws, r, w', Wd.perm List.perm_middle wd, hl, e6, fun F' H' v s w4 => q F' H' v (s0.trans s) ?_⟩
    exact Wd.drop2 w4
  | bo b => cases e5
theorem snd_meth {m : Mt} {mo : Ex} {ms : List Ex} {e : Expr} (h : PE X e (tBM X.K (mtT m) (rMt X.K m) (TO X cl mo) (TLs X cl ms))) : PE X e (TV X cl (.meth m mo ms)) := by
  refine PE_imp h fun σ H Q ⟨hl, F, ρ, T, w, ρ', wd, ev, q⟩ => ?_
  obtain ⟨od, ρ1, w0, ws, ρ2, w1, w', e1, e2, e3, e4, e5, e6, e7⟩ := meth_fin (T := "") (ρ1 := ρ) (md := .val) ev
  subst e7
  refine ⟨hl, F, ρ, T, od, ρ1, wd, e1, fun F1 H1 x s1 wd1 al => ⟨?_, hl, F1, ρ1, tmp od x ++ T, ws, ρ2, by rw [List.append_assoc]; exact wd1, e4, fun F2 H2 vs s2 hlv wd2 => ?_⟩⟩
  · rw [← List.append_assoc] at wd1
    obtain ⟨fp, r⟩ := opRep wd1 (fun w h => by subst h; exact mem_tmp) al e2
    exact mtOk_ty wd1.same r e3
  · rw [List.append_assoc] at wd2
    exact meth_go wd2 hlv al e5 e6 (s1.trans s2) q
theorem snd_meth0 {m : Mt} {mo : Ex} {e : Expr} (h : PE X e (tBM0 X.K (mtT m) (rMt X.K m) (TO X cl mo))) : PE X e (TV X cl (.meth m mo [])) := by
  refine PE_imp h fun σ H Q ⟨hl, F, ρ, T, w, ρ', wd, ev, q⟩ => ?_
  obtain ⟨od, ρ1, w0, ws, ρ2, w1, w', e1, e2, e3, e4, e5, e6, e7⟩ := meth_fin (T := "") (ρ1 := ρ) (md := .val) ev
  subst e7
  simp only [evL] at e4
  cases e4
  refine ⟨hl, F, ρ, T, od, ρ1, wd, e1, fun F1 H1 x s1 wd1 al => ⟨?_, ?_⟩⟩
  · rw [← List.append_assoc] at wd1
    obtain ⟨fp, r⟩ := opRep wd1 (fun w h => by subst h; exact mem_tmp) al e2
    exact mtOk_ty wd1.same r e3
  · exact meth_go (vs := []) (ws := []) wd1 rfl al e5 e6 s1 q

/-! ### each method by values -/
theorem MtR.imp {id : String} {r r' : V → List V → Hp → VK → Prop} (h : MtR X id r) (g : ∀ x xs H Q, r' x xs H Q → r x xs H Q) : MtR X id r' := fun pins s σ H x xs v us Q I rx rv q => h pins s σ H x xs v us Q I rx rv (g _ _ _ _ q)
theorem Wd.noneAt {K : PySem.W.Frag} {F H : Hp} {L : List Pr} (wd : Wd K F H L) : Wd K F H ((some .non, .a .non) :: L) := wd.add ⟨rfl, rfl⟩
theorem prs1 {vs : List V} {w : W} (h : vs.length = [w].length) : ∃ v, vs = [v] ∧ prs vs [w] = [(some v, w)] := by
  match vs, h with
  | [v], _ => exact ⟨v, rfl, rfl⟩
theorem prs2 {vs : List V} {w w' : W} (h : vs.length = [w, w'].length) : ∃ v v', vs = [v, v'] ∧ prs vs [w, w'] = [(some v, w), (some v', w')] := by
  match vs, h with
  | [v, v'], _ => exact ⟨v, v', rfl, rfl⟩
theorem mtr_append : MtR X "list.append" (rMt X.K .append) := by
  refine MtR.imp mt_append fun x xs H Q ⟨F, L, w, ws, r, w', wd, hl, e, q⟩ => ?_
  unfold mtW at e
  split at e <;> first | (cases e; done) | skip
  all_goals (rename_i hm; first | (cases hm; done) | skip)
  rename_i xs' y
  split at e
  · rename_i hz
    cases e
    obtain ⟨v, rfl, e2⟩ := prs1 hl
    rw [e2] at wd
    obtain ⟨a, vs, rfl, h, hl2, wo⟩ := wd.opn
    refine ⟨a, vs, v, rfl, rfl, h, by rw [hl2]; exact hz, q _ _ _ (Same.refl _) (Wd.noneAt (WdA.cls ?_ (by simp [hl2])))⟩
    rw [prs_append hl2, List.append_assoc]
    exact wo
  · cases e
theorem mtr_extend : MtR X "list.extend" (rMt X.K .extend) := by
  refine MtR.imp mt_extend fun x xs H Q ⟨F, L, w, ws, r, w', wd, hl, e, q⟩ => ?_
  unfold mtW at e
  split at e <;> first | (cases e; done) | skip
  all_goals (rename_i hm; first | (cases hm; done) | skip)
  rename_i xs' m ys
  split at e
  · rename_i hz
    cases e
    obtain ⟨v, rfl, e2⟩ := prs1 hl
    rw [e2] at wd
    obtain ⟨F1, s1, w1, r1⟩ := (Wd.swap wd).frz
    obtain ⟨b, zs, g, rfl, hb, rb⟩ := (show Rep X.K F1 H (.n (.lst false) (frzL ys)) v [] from r1).lstH w1.same
    have rb := rb.fz' (fzL_frzL ys)
    obtain ⟨a, vs, rfl, h, hl2, wo⟩ := (Wd.swap w1).opn
    have hlz := RepL.length _ rb
    have hly : (frzL ys).length = ys.length := frzL_len ys
    refine ⟨a, b, vs, zs, rfl, rfl, h, hb, by rw [hl2, hlz, hly]; exact hz, q _ _ _ s1 (Wd.noneAt (WdA.cls ?_ (by simp [hl2, hlz])))⟩
    rw [prs_append hl2, List.append_assoc]
    refine WdA.perm (L := prs zs (frzL ys) ++ (prs vs xs' ++ L)) ?_ (List.perm_append_comm_assoc _ _ _)
    refine WdA.adds ?_ rb
    exact WdA.right (L := [(some (V.ref b), W.n (.lst false) (frzL ys))]) (wo.perm List.perm_middle)
  · cases e
theorem mtr_pop : MtR X "list.pop" (rMt X.K .pop) := by
  refine MtR.imp mt_pop fun x xs H Q ⟨F, L, w, ws, r, w', wd, hl, e, q⟩ => ?_
  unfold mtW at e
  split at e <;> first | (cases e; done) | skip
  all_goals (rename_i hm; first | (cases hm; done) | skip)
  rename_i xs'
  split at e
  · rename_i y hy
    cases e
    have hv : xs = [] := List.eq_nil_of_length_eq_zero (by simpa using hl)
    subst hv
    obtain ⟨a, vs, rfl, h, hl2, wo⟩ := wd.opn
    obtain ⟨v, h1, p⟩ := prs_get hl2 hy
    refine ⟨a, vs, v, rfl, rfl, h, by rw [hl2]; exact h1, q _ _ _ (Same.refl _) ?_⟩
    rw [← eraseIdx_dropLast, ← eraseIdx_dropLast, hl2]
    refine Wd.swap (WdA.cls ?_ (by rw [List.length_eraseIdx, List.length_eraseIdx, hl2]))
    refine wo.perm ((p.append_right _).trans ?_)
    exact List.perm_middle.symm
  · cases e
theorem mtr_popAt : MtR X "list.pop" (rMt X.K .popAt) := by
  refine MtR.imp mt_popAt fun x xs H Q ⟨F, L, w, ws, r, w', wd, hl, e, q⟩ => ?_
  unfold mtW at e
  split at e <;> first | (cases e; done) | skip
  all_goals (rename_i hm; first | (cases hm; done) | skip)
  rename_i xs' i
  split at e
  · rename_i hi
    split at e
    · rename_i y hy
      cases e
      obtain ⟨v0, rfl, e2⟩ := prs1 hl
      rw [e2] at wd
      obtain ⟨fp, ri⟩ := wd.rep (List.mem_cons_of_mem _ List.mem_cons_self)
      cases (show v0 = .int i from ri.1)
      obtain ⟨a, vs, rfl, h, hl2, wo⟩ := (Wd.drop2 wd).opn
      obtain ⟨v, h1, p⟩ := prs_get hl2 hy
      have hlt : i.toNat < xs'.length := by
        rcases Nat.lt_or_ge i.toNat xs'.length with h | h
        · exact h
        · rw [List.getElem?_eq_none h] at hy; cases hy
      refine ⟨a, vs, i, i.toNat, v, rfl, rfl, h, by omega, by omega, ?_, h1, q _ _ _ (Same.refl _) ?_⟩
      · unfold PySem.seqIndex?
        simp only [hl2]
        split <;> simp_all <;> omega
      · refine Wd.swap (WdA.cls ?_ (by rw [List.length_eraseIdx, List.length_eraseIdx, hl2]))
        refine wo.perm ((p.append_right _).trans ?_)
        exact List.perm_middle.symm
    · cases e
  · cases e
theorem mtr_insert : MtR X "list.insert" (rMt X.K .insert) := by
  refine MtR.imp mt_insert fun x xs H Q ⟨F, L, w, ws, r, w', wd, hl, e, q⟩ => ?_
  unfold mtW at e
  split at e <;> first | (cases e; done) | skip
  all_goals (rename_i hm; first | (cases hm; done) | skip)
  rename_i xs' i y
  split at e
  · rename_i hi
    cases e
    obtain ⟨v0, v, rfl, e2⟩ := prs2 hl
    rw [e2] at wd
    obtain ⟨fp, ri⟩ := wd.rep (List.mem_cons_of_mem _ List.mem_cons_self)
    cases (show v0 = .int i from ri.1)
    obtain ⟨a, vs, rfl, h, hl2, wo⟩ := (Wd.drop2 wd).opn
    refine ⟨a, vs, i, v, rfl, rfl, h, by rw [hl2]; exact hi.2.2, hi.1, by omega, q _ _ _ (Same.refl _) (Wd.noneAt (WdA.cls ?_ (by simp [hl2])))⟩
    have hlt : (vs.take i.toNat).length = (xs'.take i.toNat).length := by rw [List.length_take, List.length_take, hl2]
    rw [List.append_assoc, List.append_assoc, prs_append hlt]
    refine wo.perm ?_
    rw [← prs_take i.toNat, List.append_assoc, List.append_assoc]
    refine List.Perm.append_left _ ?_
    exact List.perm_middle
  · cases e
theorem mtr_clear : MtR X "list.clear" (rMt X.K .clear) := by
  refine MtR.imp mt_clear fun x xs H Q ⟨F, L, w, ws, r, w', wd, hl, e, q⟩ => ?_
  unfold mtW at e
  split at e <;> first | (cases e; done) | skip
  all_goals (rename_i hm; first | (cases hm; done) | skip)
  rename_i xs'
  cases e
  have hv : xs = [] := List.eq_nil_of_length_eq_zero (by simpa using hl)
  subst hv
  obtain ⟨a, vs, rfl, h, hl2, wo⟩ := wd.opn
  exact ⟨a, vs, rfl, rfl, h, q _ _ _ (Same.refl _) (Wd.noneAt (WdA.cls (vs := []) (xs := []) (WdA.right wo) rfl))⟩
theorem mtr_upper : MtR X "str.upper" (rMt X.K .upper) := by
  refine MtR.imp mt_upper fun x xs H Q ⟨F, L, w, ws, r, w', wd, hl, e, q⟩ => ?_
  unfold mtW at e
  split at e <;> first | (cases e; done) | skip
  all_goals (rename_i hm; first | (cases hm; done) | skip)
  rename_i z
  split at e
  · rename_i hz
    cases e
    have hv : xs = [] := List.eq_nil_of_length_eq_zero (by simpa using hl)
    subst hv
    obtain ⟨fp, ri⟩ := wd.rep List.mem_cons_self
    cases (show x = .str z from ri.1)
    exact ⟨z, rfl, rfl, hz, q _ _ _ (Same.refl _) (wd.add ⟨rfl, rfl⟩)⟩
  · cases e
theorem mtr_split : MtR X "str.split" (rMt X.K .split) := by
  refine MtR.imp mt_split fun x xs H Q ⟨F, L, w, ws, r, w', wd, hl, e, q⟩ => ?_
  unfold mtW at e
  split at e <;> first | (cases e; done) | skip
  all_goals (rename_i hm; first | (cases hm; done) | skip)
  rename_i z t
  split at e
  · rename_i hz
    cases e
    obtain ⟨v, rfl, e2⟩ := prs1 hl
    rw [e2] at wd
    obtain ⟨fp, ri⟩ := wd.rep List.mem_cons_self
    cases (show x = .str z from ri.1)
    obtain ⟨fp, ri2⟩ := wd.rep (List.mem_cons_of_mem _ List.mem_cons_self)
    cases (show v = .str t from ri2.1)
    refine ⟨z, t, rfl, rfl, by simpa using hz.1, hz.2, fun p hp => q _ _ _ (Same.refl _) ?_⟩
    have rl : ∀ ss : List Str, RepL X.K F H (ss.map fun x => W.a (.str x)) (ss.map V.str) [] := fun ss => by
      induction ss with
      | nil => exact ⟨rfl, rfl⟩
      | cons y ys ih => exact ⟨.str y, ys.map V.str, [], [], rfl, rfl, ⟨rfl, rfl⟩, ih⟩
    have hp2 := Same.upd (o := .lst ((Txt.split z t).map V.str)) hp
    refine Wd.pkL (vs := (Txt.split z t).map V.str) ?_ (by simp) hp
    obtain ⟨⟨f1, q1, n1, d1⟩, s1⟩ := Wd.drop2 wd
    exact ⟨⟨[] ++ f1, RepPs.append _ _ (RepL.prs (rl _)) q1, n1, d1⟩, s1⟩
  · cases e
theorem mtr_join : MtR X "str.join" (rMt X.K .join) := by
  refine MtR.imp mt_join fun x xs H Q ⟨F, L, w, ws, r, w', wd, hl, e, q⟩ => ?_
  unfold mtW at e
  split at e <;> first | (cases e; done) | skip
  all_goals (rename_i hm; first | (cases hm; done) | skip)
  rename_i z m ys
  split at e <;> first | (cases e; done) | skip
  rename_i ss hss
  split at e
  · rename_i hz
    cases e
    obtain ⟨v, rfl, e2⟩ := prs1 hl
    rw [e2] at wd
    obtain ⟨fp, ri⟩ := wd.rep List.mem_cons_self
    cases (show x = .str z from ri.1)
    obtain ⟨fp, ri2⟩ := wd.rep (List.mem_cons_of_mem _ List.mem_cons_self)
    obtain ⟨a, vs, g, rfl, h, r1⟩ := ri2.lstH wd.same
    cases r1.strs hss
    exact ⟨z, a, ss, rfl, rfl, .inl (SqL.of h), hz, q _ _ _ (Same.refl _) (Wd.add (Wd.drop2 wd) ⟨rfl, rfl⟩)⟩
  · cases e
end
end Lin

set_option Elab.async false
set_option linter.all false
set_option maxRecDepth 100000
set_option maxHeartbeats 4000000
/-! Lin, part P: isinstance, chains, dict displays, starred items. -/
namespace Lin
open PySem L2 PySem.SeqAt
section
variable {K : PySem.W.Frag} {F H : Hp}
theorem kit_no (t : Ty) : kitB "NoneType" t.name = some false := by cases t <;> decide +kernel
theorem kit_bl (t : Ty) : kitB "bool" t.name = some (decide (t = .bool) || decide (t = .int)) := by cases t <;> decide +kernel
theorem kit_int (t : Ty) : kitB "int" t.name = some (decide (t = .int)) := by cases t <;> decide +kernel
theorem kit_str (t : Ty) : kitB "str" t.name = some (decide (t = .str)) := by cases t <;> decide +kernel
theorem kit_tup (t : Ty) : kitB "tuple" t.name = some (decide (t = .tuple)) := by cases t <;> decide +kernel
theorem kit_lst (t : Ty) : kitB "list" t.name = some (decide (t = .list)) := by cases t <;> decide +kernel
theorem kit_dct (t : Ty) : kitB "dict" t.name = some (decide (t = .dict)) := by cases t <;> decide +kernel
/-- the type of a tree -/
theorem tyx {w : W} {v : V} {fp : List Addr} (s : Same F H) (r : Rep K F H w v fp) {t : Ty} {b : Bool} (ht : isTy w t = some b) : ∃ y, TyX K H v y ∧ ∀ (t : Ty) (b : Bool), isTy w t = some b → PySem.W.kitOne K y (.type t.name) = some b := by
  cases w with
  | a x =>
    obtain ⟨r, _⟩ := r
    cases x with
    | non => cases r; exact ⟨_, .base .non, fun t b h => by cases h; exact kit_ty (kit_no t)⟩
    | bl z => cases r; exact ⟨_, .base (.bl z), fun t b h => by cases h; exact kit_ty (kit_bl t)⟩
    | int z => cases r; exact ⟨_, .base (.int z), fun t b h => by cases h; exact kit_ty (kit_int t)⟩
    | str z => cases r; exact ⟨_, .base (.str z), fun t b h => by cases h; exact kit_ty (kit_str t)⟩
    | opq =>
      obtain ⟨a, C, dx, fs, rfl, h, c⟩ := r
      exact ⟨_, .base (.ins (s _ _ h) c.cl c.ha c.hn c.htk c.hm), fun t b h => by cases h; exact c.no t⟩
    | dead => cases ht
  | n k xs =>
    cases k with
    | tup =>
      obtain ⟨a, vs, g, rfl, h, r1⟩ := r.tupH s
      have z : ∀ (t : Ty) (b : Bool), isTy (.n .tup xs) t = some b → PySem.W.kitOne K (.type "tuple") (.type t.name) = some b := fun t b h => by cases h; exact kit_ty (kit_tup t)
      rcases h with (h | ⟨o, h⟩) | ⟨o, its, n, h, hc, _⟩
      · exact ⟨_, .base (.tup h), z⟩
      · exact ⟨_, .fTuple h, z⟩
      · exact ⟨_, .kTuple h hc, z⟩
    | lst m =>
      obtain ⟨a, vs, g, rfl, h, r1⟩ := r.lstH s
      exact ⟨_, .base (.lst h), fun t b h => by cases h; exact kit_ty (kit_lst t)⟩
    | dct m ks =>
      obtain ⟨a, vs, g, rfl, h, _, r1⟩ := r.dctH s
      exact ⟨_, .base (.dK h), fun t b h => by cases h; exact kit_ty (kit_dct t)⟩
    | ro => cases ht
theorem isTys_head {w : W} {t : Ty} {ts : List Ty} {b : Bool} (h : isTys w (t :: ts) = some b) : ∃ c, isTy w t = some c := by
  unfold isTys at h
  split at h
  · exact ⟨_, by assumption⟩
  · exact ⟨_, by assumption⟩
  · cases h
theorem kitAny_tys {w : W} {y : Value} (z : ∀ (t : Ty) (b : Bool), isTy w t = some b → PySem.W.kitOne K y (.type t.name) = some b) : ∀ (ts : List Ty) (b : Bool), isTys w ts = some b → PySem.W.kitAny K y (ts.map fun t => Value.type t.name) = some b
  | [], b, h => by cases h; exact kitAny_nil
  | t :: ts, b, h => by
    unfold isTys at h
    split at h
    · rename_i e; cases h; exact kitAny_cons (z t _ e) (fun q => nomatch q) (fun _ => rfl)
    · rename_i e; exact kitAny_cons (z t _ e) (fun _ => kitAny_tys z ts b h) (fun q => nomatch q)
    · cases h
end
section
variable {X : Cx} {cl : Nat → List W → Option (List W × W)}
/-- classes by name -/
def tTys (ts : List Ty) : TA := fun _ H Q => Q (ts.map fun t => V.ty t.name) H
theorem tys_nil : PA X [] (tTys []) := PA_imp pa_nil fun σ H Q q => q
theorem boot_ty (t : Ty) : bootBuiltins (Str.ofString t.name) = some (.type t.name) := by cases t <;> decide +kernel
theorem ty_name {t : Ty} {p : Pos} (hg : Gl X (Str.ofString t.name)) (hm : X.mg (Str.ofString t.name) = none) : PE X (.Name (Str.ofString t.name) p) (tC (.ty t.name)) :=
  pe_bltn hg hm (boot_ty t) rfl (by cases t <;> decide) (by cases t <;> decide)
theorem tys_cons {t : Ty} {ts : List Ty} {e : Expr} {es : List Expr} (h : PE X e (tC (.ty t.name))) (h' : PA X es (tTys ts)) (hs : starEach (e :: es) X.env = (false, eval e X.env) :: starEach es X.env) : PA X (e :: es) (tTys (t :: ts)) :=
  PA_imp (pa_cons h h' hs) fun σ H Q q => q
theorem snd_isi1 {m : Ex} {t : Ty} {a e2 : Expr} {p pos : Pos} (hg : Gl X "isinstance") (hm : X.mg "isinstance" = none) (ha : PE X a (TO X cl m)) (h2 : PE X e2 (tC (.ty t.name))) (hs1 : starEach [a, e2] X.env = (false, eval a X.env) :: starEach [e2] X.env)
    (hs2 : starEach [e2] X.env = (false, eval e2 X.env) :: starEach [] X.env) (hpl : (backTo pos (starEach [e2] X.env)).any (·.1) = false) : PE X (.Call (.Name "isinstance" p) [a, e2] [] pos) (TV X cl (.isi m [t])) := by
  refine PE_imp (pe_callB call_isi hg hm (by decide +kernel) (pa_cons ha (pa_cons h2 pa_nil hs2) hs1) (he := hs1) (hpl := hpl)) fun σ H Q ⟨hl, F, ρ, T, w, ρ', wd, ev, q⟩ => ?_
  simp only [evm] at ev
  split at ev <;> first | (cases ev; done) | skip
  rename_i o ρ1 e1
  split at ev <;> first | (cases ev; done) | skip
  rename_i w1 e2
  split at ev <;> first | (cases ev; done) | skip
  rename_i b e3
  cases ev
  refine ⟨hl, F, ρ, T, o, _, wd, e1, fun F1 H1 v s1 wd1 al => ?_⟩
  rw [← List.append_assoc] at wd1
  obtain ⟨fp, r⟩ := opRep wd1 (fun w h => by subst h; exact mem_tmp) al e2
  obtain ⟨c, hc⟩ := isTys_head e3
  obtain ⟨y, ty, z⟩ := tyx wd1.same r hc
  have hb : c = b := by
    simp only [isTys, hc] at e3
    cases c <;> simpa using e3
  subst hb
  rw [List.append_assoc] at wd1
  exact ⟨v, .ty t.name, y, .type t.name, c, rfl, .ty _, ty, z t c hc, q F1 H1 _ s1 (wd1.right.add ⟨rfl, rfl⟩)⟩
theorem Rep.up {w : W} {v : V} {fp : List Addr} {K : PySem.W.Frag} {F H H' : Hp} (r : Rep K F H w v fp) (s : Same H H') : Rep K F H' w v fp := r.mono w (Same.refl _) fun b hb => by
  obtain ⟨o, h, _⟩ := r.there w b hb
  rw [h, s b o h]
theorem clsV_tys : ∀ ts : List Ty, Paired ClsV (ts.map fun t => V.ty t.name) (ts.map fun t => Value.type t.name)
  | [] => .nil
  | t :: ts => .cons (.ty _) (clsV_tys ts)
theorem snd_isiN {m : Ex} {ts : List Ty} {a : Expr} {es : List Expr} {p p2 pos : Pos} {k : Nat} (hg : Gl X "isinstance") (hm : X.mg "isinstance" = none) (ha : PE X a (TO X cl m)) (h2 : PA X es (tTys ts)) (hz : ts ≠ []) (hsz : ts.length ≤ sizeLine)
    (hs1 : starEach [a, .Tuple es k p2] X.env = (false, eval a X.env) :: starEach [.Tuple es k p2] X.env)
    (hs2 : starEach [.Tuple es k p2] X.env = (false, eval (.Tuple es k p2) X.env) :: starEach [] X.env) (hpl : (backTo pos (starEach [.Tuple es k p2] X.env)).any (·.1) = false) : PE X (.Call (.Name "isinstance" p) [a, .Tuple es k p2] [] pos) (TV X cl (.isi m ts)) := by
  refine PE_imp (pe_callB call_isiT hg hm (by decide +kernel) (pa_cons ha (pa_cons (pe_tup h2) pa_nil hs2) hs1) (he := hs1) (hpl := hpl)) fun σ H Q ⟨hl, F, ρ, T, w, ρ', wd, ev, q⟩ => ?_
  simp only [evm] at ev
  split at ev <;> first | (cases ev; done) | skip
  rename_i o ρ1 e1
  split at ev <;> first | (cases ev; done) | skip
  rename_i w1 e2
  split at ev <;> first | (cases ev; done) | skip
  rename_i b e3
  cases ev
  refine ⟨hl, F, ρ, T, o, _, wd, e1, fun F1 H1 v s1 wd1 al => ⟨by rw [List.length_map]; exact hsz, fun pp hp => ?_⟩⟩
  rw [← List.append_assoc] at wd1
  obtain ⟨fp, r⟩ := opRep wd1 (fun w h => by subst h; exact mem_tmp) al e2
  obtain ⟨c, hc⟩ : ∃ c, isTy w1 (ts.head hz) = some c := by
    cases ts with
    | nil => exact absurd rfl hz
    | cons t ts => exact isTys_head e3
  have sp := Same.upd (o := .tup (ts.map fun t => V.ty t.name)) hp
  obtain ⟨y, ty, z⟩ := tyx (wd1.same.trans sp) (r.up sp) hc
  rw [List.append_assoc] at wd1
  exact ⟨v, pp, _, y, _, b, rfl, upd_same, clsV_tys ts, ty, kitAny_tys z ts b e3, q F1 _ _ s1 ((wd1.right.same' sp).add ⟨rfl, rfl⟩)⟩

/-! ### chains of comparisons -/
theorem chain_imp {op op' : CmpOp} {ma mb mc : Ex} {σ : L2.St} {H : Hp} {Q : VK} (h : TV X cl (.chain op op' ma mb mc) σ H Q) : tChain (rC X.K (cmpW op)) (rC X.K (cmpW op')) (TV X cl ma) (TV X cl mb) (TV X cl mc) σ H Q := by
  obtain ⟨hl, F, ρ, T, w, ρ', wd, ev, q⟩ := h
  have hcmp : ∀ (op : CmpOp) (i j : Int) (b : Bool), cmpI op i j = some b → cmpW op (.a (.int i)) (.a (.int j)) = some b := fun op i j b h => by
    cases op <;> first | exact h | (cases h; done)
  simp only [evm] at ev
  split at ev <;> first | (cases ev; done) | skip
  rename_i x ρ1 e1
  split at ev <;> first | (cases ev; done) | skip
  rename_i y ρ2 e2
  refine ⟨hl, F, ρ, T, _, _, wd, e1, fun F1 H1 va s1 w1 => ⟨hl, F1, ρ1, (some va, .a (.int x)) :: T, _, _, w1, e2, fun F2 H2 vb s2 w2 => ?_⟩⟩
  obtain ⟨fb, rb⟩ := w2.rep List.mem_cons_self
  obtain ⟨fa, ra⟩ := w2.rep (List.mem_cons_of_mem _ List.mem_cons_self)
  split at ev <;> first | (cases ev; done) | skip
  · rename_i hc
    cases ev
    refine ⟨F2, _, _, fa, fb, false, w2.same, ra, rb, hcmp _ _ _ _ hc, false, rfl, ?_⟩
    exact q F2 H2 (.bl false) (s1.trans s2) (w2.tail.tail.add ⟨rfl, rfl⟩)
  · rename_i hc
    split at ev <;> first | (cases ev; done) | skip
    rename_i z ρ3 e3
    split at ev <;> first | (cases ev; done) | skip
    rename_i d hd
    cases ev
    refine ⟨F2, _, _, fa, fb, true, w2.same, ra, rb, hcmp _ _ _ _ hc, true, rfl, ?_⟩
    refine ⟨hl, F2, ρ2, (some vb, .a (.int y)) :: T, _, _, Wd.drop2 w2, e3, fun F3 H3 vc s3 w3 => ?_⟩
    obtain ⟨fc, rc⟩ := w3.rep List.mem_cons_self
    obtain ⟨fb, rb⟩ := w3.rep (List.mem_cons_of_mem _ List.mem_cons_self)
    exact ⟨F3, _, _, fb, fc, d, w3.same, rb, rc, hcmp _ _ _ _ hd, q F3 H3 (.bl d) ((s1.trans s2).trans s3) (w3.tail.tail.add ⟨rfl, rfl⟩)⟩
theorem snd_chain {op op' : CmpOp} {ma mb mc : Ex} {a b c : Expr} {pos : Pos} (hu : X.A.units + 64 < cLine) (ha : PE X a (TV X cl ma)) (hb : PE X b (TV X cl mb)) (hc : PE X c (TV X cl mc)) (hm : lastMarks [op, op'] [b, c] = false) :
    PE X (.Compare a [op, op'] [b, c] pos) (TV X cl (.chain op op' ma mb mc)) := PE_imp (pe_chain (cmpAll hu _) (cmpAll hu _) ha hb hc hm) fun σ H Q h => chain_imp h
theorem snd_chainT {op op' : CmpOp} {ma mb mc : Ex} {a b c : Expr} {pos : Pos} (hu : X.A.units + 64 < cLine) (ha : PE X a (TV X cl ma)) (hb : PE X b (TV X cl mb)) (hc : PE X c (TV X cl mc)) (hm : lastMarks [op, op'] [b, c] = false) :
    PT X (.Compare a [op, op'] [b, c] pos) (TTs X cl (.chain op op' ma mb mc)) := by
  refine snd_tstB rfl (PT_imp (pt_chain (cmpAll hu _) (cmpAll hu _) ha hb hc hm) fun σ H Q h => chain_imp h) fun ρ w ρ' ev => ?_
  simp only [evm] at ev
  repeat' split at ev
  all_goals first | (cases ev; done) | (cases ev; exact ⟨_, rfl⟩)
end
end Lin

set_option Elab.async false
set_option linter.all false
set_option maxRecDepth 100000
set_option maxHeartbeats 4000000
/-! Lin, part Q: starred items, dict displays, opaque instances, slots of comprehensions. -/
namespace Lin
open PySem L2 PySem.SeqAt
section
variable {K : PySem.W.Frag} {F F' H H' : Hp} {σ : L2.St} {ρ : Env} {L L' T : List Pr} {a : Addr}
theorem Wd.adds {vs : List V} {xs : List W} (wd : Wd K F H L) (r : RepL K F H xs vs []) : Wd K F H (prs vs xs ++ L) := by
  obtain ⟨⟨fp, r1, n, d⟩, s⟩ := wd
  exact ⟨⟨[] ++ fp, RepPs.append _ _ (RepL.prs r) r1, n, d⟩, s⟩
/-- an owned dict is opened -/
theorem Wd.opnD {v : V} {ks : List Key} {xs : List W} (wd : Wd K F H ((some v, .n (.dct true ks) xs) :: L)) : ∃ a vs, v = .ref a ∧ H a = some (.dK (ks.zip vs)) ∧ ks.length = vs.length ∧ vs.length = xs.length ∧ WdA K a F H (prs vs xs ++ L) := by
  obtain ⟨⟨fp, ⟨g, g', e, r1, r2⟩, n, d⟩, s⟩ := wd
  subst e
  obtain ⟨a, vs, g0, rfl, q1, q2, q4, q3⟩ := (show Rep K F H (.n (.dct true ks) xs) v g from r1)
  subst q3
  exact ⟨a, vs, rfl, q2, q4, RepL.length xs q1, ⟨⟨g0 ++ g', RepPs.append _ _ (RepL.prs q1) r2, n, d⟩, s⟩⟩
theorem WdA.clsD {vs : List V} {ks : List Key} {xs : List W} (wd : WdA K a F H (prs vs xs ++ L)) (hl : vs.length = xs.length) (hk : ks.length = vs.length) : Wd K F (upd H a (.dK (ks.zip vs))) ((some (.ref a), .n (.dct true ks) xs) :: L) := by
  obtain ⟨⟨fp, r, n, d⟩, s⟩ := wd
  obtain ⟨g, g', e, r1, r2⟩ := r.split
  subst e
  have hn : ∀ b ∈ g ++ g', b ≠ a := fun b hb e => by subst e; exact (List.nodup_cons.mp n).1 hb
  refine ⟨⟨(a :: g) ++ g', ⟨a :: g, g', rfl, ?_, r2.mono L (Same.refl _) fun b hb => by rw [upd_ne (hn b (List.mem_append_right _ hb))]⟩, n, d⟩, Same.updN s (d a List.mem_cons_self)⟩
  exact ⟨a, vs, g, rfl, RepL.mono xs (Same.refl _) (fun b hb => by rw [upd_ne (hn b (List.mem_append_left _ hb))]) (RepPs.prs hl r1), upd_same, hk, rfl⟩
/-- a new place -/
theorem Wd.opnNew {o : HO} (wd : Wd K F H L) {p : Addr} (hp : H p = none) : WdA K p F H L := by
  have hF := wd.free hp
  obtain ⟨⟨fp, r, n, d⟩, s⟩ := wd
  refine ⟨⟨fp, r, List.nodup_cons.mpr ⟨fun hb => ?_, n⟩, fun b hb => ?_⟩, s⟩
  · obtain ⟨o, h, _⟩ := r.there _ p hb
    rw [hp] at h; cases h
  · rcases List.mem_cons.mp hb with rfl | hb
    · exact hF
    · exact d b hb
theorem mergeK_nodup : ∀ (kvs more : List (Key × V)), ((kvs ++ more).map (·.1)).Nodup → mergeK kvs more = kvs ++ more
  | kvs, [], _ => by rw [List.append_nil]; rfl
  | kvs, p :: more, h => by
    have e : (kvs.any fun kv => decide (kv.1 = p.1)) = false := by
      rw [List.any_eq_false]
      intro kv hk he
      have he : kv.1 = p.1 := of_decide_eq_true he
      rw [List.map_append, List.map_cons] at h
      exact (List.nodup_append.mp h).2.2 kv.1 (List.mem_map_of_mem hk) p.1 List.mem_cons_self he
    show mergeK (putK kvs p.1 p.2) more = _
    unfold putK
    rw [e, if_neg (by simp), mergeK_nodup (kvs ++ [(p.1, p.2)]) more (by rw [List.append_assoc]; exact h), List.append_assoc]
    rfl
end
section
variable {X : Cx} {cl : Nat → List W → Option (List W × W)}
theorem snd_star {e : Expr} {es : List Expr} {m : Ex} {ms : List Ex} {p : Pos} (h : PE X e (TV X cl m)) (h' : PA X es (TLs X cl ms)) (hs : starEach (.Starred e p :: es) X.env = (true, eval e X.env) :: starEach es X.env) : PA X (.Starred e p :: es) (TLs X cl (.star m :: ms)) := by
  refine PA_imp (StX.pa_star h h' hs) fun σ H Q ⟨hl, F, ρ, T, ws, ρ', wd, ev, q⟩ => ?_
  simp only [evL] at ev
  split at ev <;> first | (cases ev; done) | skip
  rename_i w ρ1 e1
  split at ev <;> first | (cases ev; done) | skip
  rename_i xs hx
  split at ev <;> first | (cases ev; done) | skip
  rename_i ws' ρ2 e2
  cases ev
  refine ⟨hl, F, ρ, T, w, _, wd, e1, fun F1 H1 v s1 w1 => ?_⟩
  obtain ⟨F2, s2, w2, r2⟩ := w1.frz
  have key : ∃ a vs, v = .ref a ∧ (SqT X.K H1 a vs ∨ SqL X.K H1 a vs) ∧ RepL X.K F2 H1 xs vs [] := by
    cases w with
    | a x => cases hx
    | n k ys =>
      cases k with
      | tup =>
        cases hx
        obtain ⟨a, vs, g, rfl, h, r⟩ := (show Rep X.K F2 H1 (.n .tup (frzL ys)) v [] from r2).tupH w2.same
        exact ⟨a, vs, rfl, .inl h, r.fz' (fzL_frzL ys)⟩
      | lst b =>
        cases hx
        obtain ⟨a, vs, g, rfl, h, r⟩ := (show Rep X.K F2 H1 (.n (.lst false) (frzL ys)) v [] from r2).lstH w2.same
        exact ⟨a, vs, rfl, .inr (SqL.of h), r.fz' (fzL_frzL ys)⟩
      | dct b ks => cases hx
      | ro => cases hx
  obtain ⟨a, vs, rfl, hsq, rl⟩ := key
  refine ⟨a, vs, rfl, hsq, hl, F2, ρ1, prs vs xs ++ T, ws', _, ?_, e2, fun F3 H3 us s3 l3 w3 => ?_⟩
  · rw [List.append_assoc]; exact w2.tail.adds rl
  · have hlv := RepL.length _ rl
    refine q F3 H3 (vs ++ us) ((s1.trans s2).trans s3) (by simp [hlv, l3]) ?_
    rw [prs_append hlv, List.append_assoc]
    refine Wd.perm ?_ w3
    rw [List.append_assoc]
    exact List.perm_append_comm_assoc _ _ _

/-! ### dict displays -/
def noStar : Ex → Bool
  | .star _ => false
  | _ => true
theorem evL_no {m : Ex} {ms : List Ex} (h : noStar m = true) (ρ : Env) : evL cl (m :: ms) ρ = match evm cl m .val ρ with
    | some (.tm w, ρ1) => match evL cl ms ρ1 with
      | some (ws, ρ2) => some (w :: ws, ρ2)
      | none => none
    | _ => none := evL_cons (fun e q => by subst q; cases h) ρ
theorem pairs_go : ∀ (ks : List Key) (ms : List Ex) {σ : L2.St} {H : Hp} {F : Hp} {ρ ρ' : Env} {T : List Pr} {ws : List W} {Q : List (V × V) → Hp → Prop}, ms.all noStar = true → ks.length = ms.length → σ.length = X.N.length → Wd X.K F H (T ++ Sl σ ρ) → evL cl ms ρ = some (ws, ρ') →
    (∀ (F' H' : Hp) (vs : List V), Same F F' → vs.length = ws.length → Wd X.K F' H' (prs vs ws ++ (T ++ Sl σ ρ')) → Q ((ks.map kV).zip vs) H') →
    tPairs ((ks.zip ms).map fun p => (tC (kV p.1), TV X cl p.2)) σ H Q
  | [], [], σ, H, F, ρ, ρ', T, ws, Q, _, _, hl, wd, ev, q => by
    simp only [evL] at ev; cases ev
    exact q F H [] (Same.refl _) rfl wd
  | [], _ :: _, σ, H, F, ρ, ρ', T, ws, Q, _, h, hl, wd, ev, q => by simp at h
  | _ :: _, [], σ, H, F, ρ, ρ', T, ws, Q, _, h, hl, wd, ev, q => by simp at h
  | k :: ks, m :: ms, σ, H, F, ρ, ρ', T, ws, Q, hn, h, hl, wd, ev, q => by
    rw [List.all_cons, Bool.and_eq_true] at hn
    rw [evL_no hn.1] at ev
    split at ev <;> first | (cases ev; done) | skip
    rename_i w ρ1 e1
    split at ev <;> first | (cases ev; done) | skip
    rename_i ws' ρ2 e2
    cases ev
    refine ⟨hl, F, ρ, T, w, _, wd, e1, fun F1 H1 v s1 w1 => ?_⟩
    refine pairs_go ks ms (T := (some v, w) :: T) hn.2 (by simpa using h) hl w1 e2 fun F2 H2 vs s2 l2 w2 => ?_
    exact q F2 H2 (v :: vs) (s1.trans s2) (by simp [l2]) (Wd.perm List.perm_middle w2)
theorem zip_kV (ks : List Key) (vs : List V) : (ks.map kV).zip vs = (ks.zip vs).map fun kv => (kV kv.1, kv.2) := by
  rw [List.zip_map_left]
  apply List.map_congr_left
  intro p _
  rfl
theorem dct_ev {ks : List Key} {ms : List Ex} {ρ ρ' : Env} {w : W} (ev : evm cl (.dct ks ms) .val ρ = some (.tm w, ρ')) : ∃ ws, evL cl ms ρ = some (ws, ρ') ∧ ks.length = ws.length ∧ ks.Nodup ∧ ks.length ≤ 15 ∧ w = .n (.dct true ks) ws := by
  simp only [evm] at ev
  split at ev <;> first | (cases ev; done) | skip
  rename_i ws ρ1 e1
  split at ev
  · rename_i h
    cases ev
    exact ⟨ws, e1, h.1, h.2.1, h.2.2, rfl⟩
  · cases ev
theorem snd_dct {pos : Pos} {keys : List (Option Expr)} {values : List Expr} {ks : List Key} {ms : List Ex} (h : PPs X pos keys values ((ks.zip ms).map fun p => (tC (kV p.1), TV X cl p.2))) (hn : ms.all noStar = true) (hkm : ks.length = ms.length)
    (hall : keys.all (·.isSome) = true) (hl : keys.length = values.length) (h0 : keys ≠ []) (h15 : keys.length ≤ 15) : PE X (.Dict keys values pos) (TV X cl (.dct ks ms)) := by
  refine PE_imp (pe_disp h hall hl h0 h15) fun σ H Q ⟨hl, F, ρ, T, w, ρ', wd, ev, q⟩ => ?_
  obtain ⟨ws, e1, h1, h2, h3, rfl⟩ := dct_ev ev
  intro p hp
  have w0 : Wd X.K F (upd H p (.dK [])) ((some (.ref p), .n (.dct true []) []) :: (T ++ Sl σ ρ)) := by
    exact WdA.clsD (vs := []) (ks := []) (xs := []) (wd.opnNew (o := .dK []) hp) rfl rfl
  refine pairs_go ks ms (T := (some (.ref p), .n (.dct true []) []) :: T) hn hkm hl w0 e1 fun F1 H1 vs s1 l1 w1 => ?_
  have w2 := Wd.perm List.perm_middle w1
  obtain ⟨a, us, e, hH, hk, hu, wo⟩ := Wd.opnD w2
  cases e
  have hu0 : us = [] := List.eq_nil_of_length_eq_zero (by simpa using hu)
  subst hu0
  have hlv : ks.length = vs.length := by rw [h1, l1]
  refine ⟨hH, ks.zip vs, zip_kV ks vs, by rw [List.length_zip, hlv, Nat.min_self, ← hlv]; exact h3, ?_⟩
  rw [mergeK_nodup [] _ (by rw [List.nil_append, List.map_fst_zip (by omega)]; exact h2), List.nil_append]
  exact q F1 _ _ s1 (WdA.clsD wo l1 hlv)
theorem snd_dct0 {pos : Pos} : PE X (.Dict [] [] pos) (TV X cl (.dct [] [])) := by
  refine PE_imp pe_dnewK fun σ H Q ⟨hl, F, ρ, T, w, ρ', wd, ev, q⟩ => ?_
  obtain ⟨ws, e1, h1, h2, h3, rfl⟩ := dct_ev ev
  simp only [evL] at e1; cases e1
  intro p hp
  exact q F _ _ (Same.refl _) (WdA.clsD (vs := []) (ks := []) (xs := []) (wd.opnNew (o := .dK []) hp) rfl rfl)

/-! ### opaque instances -/
def tOpq (K : PySem.W.Frag) : TE := fun _ H Q => ∀ (H' : Hp) (a C dx : Addr) (fs : List (Str × V)), Same H H' → H a = none → H' a = some (.ins C dx fs) → OpqC K C → Q (.ref a) H'
theorem snd_opqV {e : Expr} (h : PE X e (tOpq X.K)) : PE X e (TV X cl .opq) := by
  refine PE_imp h fun σ H Q ⟨hl, F, ρ, T, w, ρ', wd, ev, q⟩ => ?_
  simp only [evm] at ev
  cases ev
  intro H' a C dx fs s hn ha hc
  have hF := wd.free hn
  have sF : Same F (L2.upd F a (.ins C dx fs)) := Same.upd hF
  obtain ⟨⟨fp, r0, n, d⟩, s0⟩ := wd
  have hna : ∀ b ∈ fp, b ≠ a := fun b hb e => by
    subst e
    obtain ⟨o, h1, h2⟩ := r0.there _ _ hb
    rw [hn] at h1; cases h1
  have r : RepPs X.K F H' (T ++ Sl σ ρ) fp := r0.mono _ (Same.refl _) fun b hb => by
    obtain ⟨o, h1, _⟩ := r0.there _ _ hb
    rw [h1, s b o h1]
  have s2 := s0.trans s
  refine q _ H' (.ref a) sF ⟨⟨[] ++ fp, ⟨[], fp, rfl, ⟨⟨a, C, dx, fs, rfl, upd_same, hc⟩, rfl⟩, r.mono _ sF fun _ _ => rfl⟩, n, fun b hb => ?_⟩, fun b o h => ?_⟩
  · rw [upd_ne (hna b hb)]; exact d b hb
  · by_cases e : b = a
    · subst e; rw [upd_same] at h; cases h; exact ha
    · rw [upd_ne e] at h; exact s2 b o h

/-! ### the slots of comprehensions -/
theorem Wd.wipes {K : PySem.W.Frag} {F H : Hp} {T : List Pr} {σ : L2.St} {ρ : Env} (wd : Wd K F H (T ++ Sl σ ρ)) : ∀ (vs : List Nat), (∀ i ∈ vs, i < σ.length) → Wd K F H (T ++ Sl (L2.wipe σ vs) (wipeW ρ vs))
  | [], _ => wd
  | v :: vs, h => Wd.wipe (Wd.wipes wd vs fun i hi => h i (List.mem_cons_of_mem _ hi)) (by rw [wipe_length]; exact h v List.mem_cons_self)
theorem wipeW_set (ρ : Env) (v : Nat) : ∀ vs : List Nat, wipeW (ρ.set v .dead) vs = (wipeW ρ vs).set v .dead
  | [] => rfl
  | u :: vs => by
    show (wipeW (ρ.set v .dead) vs).set u .dead = ((wipeW ρ vs).set u .dead).set v .dead
    rw [wipeW_set ρ v vs]
    by_cases e : u = v
    · subst e; rw [List.set_set]
    · rw [List.set_comm _ _ (show v ≠ u from fun h => e h.symm)]
theorem Wd.unwipes {K : PySem.W.Frag} {F H : Hp} {T : List Pr} {σ : L2.St} : ∀ (vs : List Nat) {ρ : Env}, Wd K F H (T ++ Sl (L2.wipe σ vs) ρ) → (∀ i ∈ vs, i < σ.length) → Wd K F H (T ++ Sl σ (wipeW ρ vs))
  | [], ρ, wd, _ => wd
  | v :: vs, ρ, wd, h => by
    have hv : v < (L2.wipe σ vs).length := by rw [wipe_length]; exact h v List.mem_cons_self
    have w1 := Wd.wipe (i := v) (o := (L2.wipe σ vs)[v]) wd (by rw [wipe_length]; exact h v List.mem_cons_self)
    have e : (L2.wipe σ (v :: vs)).set v (L2.wipe σ vs)[v] = L2.wipe σ vs := by
      show ((L2.wipe σ vs).set v none).set v (L2.wipe σ vs)[v] = _
      rw [List.set_set, List.set_getElem_self]
    rw [e] at w1
    have w2 := Wd.unwipes vs w1 fun i hi => h i (List.mem_cons_of_mem _ hi)
    rw [wipeW_set] at w2
    exact w2
theorem wipe_get (σ : L2.St) (i : Nat) : ∀ vs : List Nat, (L2.wipe σ vs)[i]? = if i ∈ vs ∧ i < σ.length then some none else σ[i]?
  | [] => by rw [if_neg (by simp)]; rfl
  | v :: vs => by
    show ((L2.wipe σ vs).set v none)[i]? = _
    by_cases e : v = i
    · subst e
      by_cases hl : v < σ.length
      · rw [List.getElem?_set_self (by rw [wipe_length]; exact hl), if_pos ⟨List.mem_cons_self, hl⟩]
      · rw [List.getElem?_eq_none (by simp [wipe_length]; omega), if_neg fun h => hl h.2, List.getElem?_eq_none (by omega)]
    · rw [List.getElem?_set_ne e, wipe_get σ i vs]
      by_cases h : i ∈ vs ∧ i < σ.length
      · rw [if_pos h, if_pos ⟨List.mem_cons_of_mem _ h.1, h.2⟩]
      · rw [if_neg h, if_neg fun q => ?_]
        rcases List.mem_cons.mp q.1 with e2 | e2
        · exact e e2.symm
        · exact h ⟨e2, q.2⟩
theorem wipe_eq {σ σ' : L2.St} {vs : List Nat} (hl : σ'.length = σ.length) (h : ∀ i, i ∉ vs → σ'[i]? = σ[i]?) : L2.wipe σ' vs = L2.wipe σ vs := by
  apply List.ext_getElem?
  intro i
  rw [wipe_get, wipe_get, hl]
  by_cases hi : i ∈ vs
  · by_cases h2 : i < σ.length
    · rw [if_pos ⟨hi, h2⟩, if_pos ⟨hi, h2⟩]
    · rw [if_neg fun q => h2 q.2, if_neg fun q => h2 q.2, List.getElem?_eq_none (by omega), List.getElem?_eq_none (by omega)]
  · rw [if_neg fun q => hi q.1, if_neg fun q => hi q.1, h i hi]
end
end Lin

set_option Elab.async false
set_option linter.all false
set_option maxRecDepth 100000
set_option maxHeartbeats 4000000
/-! Lin, part R: what loops go through; targets; comprehensions. -/
namespace Lin
open PySem L2 PySem.SeqAt
section
variable {K : PySem.W.Frag} {F F' H H' : Hp} {σ : L2.St} {ρ : Env} {L L' T : List Pr} {a : Addr}
theorem RepL.get0 : ∀ {xs : List W} {vs : List V} {i : Nat} {w : W}, RepL K F H xs vs [] → xs[i]? = some w → ∃ v, vs[i]? = some v ∧ Rep K F H w v []
  | [], vs, i, w, r, e => by simp at e
  | x :: xs, vs, i, w, r, e => by
    obtain ⟨v, vs', g, g', e1, e2, r1, r2⟩ := r
    obtain ⟨rfl, rfl⟩ := List.append_eq_nil_iff.mp e2.symm
    subst e1
    cases i with
    | zero => simp at e; subst e; exact ⟨v, rfl, r1⟩
    | succ i =>
      obtain ⟨u, h1, h2⟩ := RepL.get0 r2 (by simpa using e)
      exact ⟨u, by simpa using h1, h2⟩
/-- a turn's item, in any world that has grown -/
def YW (K : PySem.W.Frag) (F : Hp) (items : List W) : Nat → Hp → V → Hp → Prop := fun i H x H' => ∀ (F1 : Hp) (L : List Pr), Same F F1 → Wd K F1 H L → ∃ (F2 : Hp) (w : W), items[i]? = some w ∧ Same F1 F2 ∧ Wd K F2 H' ((some x, w) :: L)
theorem yw_rep {items : List W} {vs : List V} {H0 : Hp} (r : RepL K F H0 items vs []) {i : Nat} {x : V} (h : vs[i]? = some x) {H1 F1 : Hp} (s1 : Same F F1) : ∃ w, items[i]? = some w ∧ Rep K F1 H1 w x [] := by
  have hl := RepL.length _ r
  have hi : i < items.length := by
    rw [← hl]
    rcases Nat.lt_or_ge i vs.length with h2 | h2
    · exact h2
    · rw [List.getElem?_eq_none h2] at h; cases h
  have hw : items[i]? = some items[i] := List.getElem?_eq_getElem hi
  have r2 : RepL K F1 H1 items vs [] := r.mono _ s1 (fun b hb => nomatch hb)
  obtain ⟨v, h1, h2⟩ := r2.get0 hw
  rw [h] at h1; cases h1
  exact ⟨_, hw, h2⟩
theorem yw_at {items : List W} {vs : List V} {H0 : Hp} (r : RepL K F H0 items vs []) {i : Nat} {H1 : Hp} {x : V} {H2 : Hp} (h : YAt vs i H1 x H2) : YW K F items i H1 x H2 := by
  obtain ⟨rfl, h⟩ := h
  intro F1 L s1 wd
  obtain ⟨w, hw, h2⟩ := yw_rep (H1 := H2) r h s1
  exact ⟨F1, w, hw, Same.refl _, wd.add h2⟩
/-- a new pair -/
theorem yw_pair {T : Addr} {x y : V} {w w' : W} {H1 F1 : Hp} (wd : Wd K F1 H1 L) (hT : H1 T = none) (r : Rep K F1 H1 w x []) (r' : Rep K F1 H1 w' y []) : ∃ F2, Same F1 F2 ∧ Wd K F2 (upd H1 T (.tup [x, y])) ((some (.ref T), .n .tup [w, w']) :: L) := by
  have w1 : Wd K F1 H1 (prs [x, y] [w, w'] ++ L) := (wd.add r').add r
  exact w1.pkT rfl hT
end
section
variable {X : Cx} {cl : Nat → List W → Option (List W × W)}
/-- what a loop goes through -/
def tSrc (K : PySem.W.Frag) (cl : Nat → List W → Option (List W × W)) (n : Nat) (s : Sr) (ms : List Ex) : TI := fun σ H R => σ.length = n ∧ ∃ (F : Hp) (ρ : Env) (T : List Pr) (ws : List W) (ρ' : Env) (items : List W), Wd K F H (T ++ Sl σ ρ) ∧ evL cl ms ρ = some (ws, ρ') ∧ srcW s (frzL ws) = some items ∧
  ∀ (F' H' : Hp) (J : It), Same F F' → Wd K F' H' (T ++ Sl σ ρ') → Walk J items.length (fun H => Same F' H) (YW K F' items) → R J H'
abbrev TSrc (X : Cx) (cl : Nat → List W → Option (List W × W)) (s : Sr) (ms : List Ex) : TI := tSrc X.K cl X.N.length s ms
theorem evL1 {m : Ex} (hm : noStar m = true) {ρ ρ' : Env} {ws : List W} (ev : evL cl [m] ρ = some (ws, ρ')) : ∃ w, evm cl m .val ρ = some (.tm w, ρ') ∧ ws = [w] := by
  rw [evL_no hm] at ev
  split at ev <;> first | (cases ev; done) | skip
  rename_i w ρ1 e1
  simp only [evL] at ev
  cases ev
  exact ⟨w, e1, rfl⟩
theorem walk_len {J : It} {n m : Nat} {G : Hp → Prop} {Y : Nat → Hp → V → Hp → Prop} (w : Walk J n G Y) (h : n = m) : Walk J m G Y := h ▸ w
theorem src_seq {m : Ex} {e tg : Expr} (hm : noStar m = true) (h : PE X e (TV X cl m)) : PI X tg e (TSrc X cl .seq [m]) := by
  refine ⟨fun pins s σ H R I ⟨hl, F, ρ, T, ws, ρ', items, wd, ev, hs, q⟩ => ?_⟩
  obtain ⟨w, e1, rfl⟩ := evL1 hm ev
  have hs : itemsW w.frz = some items := hs
  cases w with
  | a x =>
    cases x with
    | str z =>
      refine (pi_str h).run pins s σ H R I ⟨hl, F, ρ, T, _, _, wd, e1, fun F1 H1 v s1 w1 => ?_⟩
      obtain ⟨fp, r⟩ := w1.rep List.mem_cons_self
      cases (show v = .str z from r.1)
      simp only [W.frz, itemsW] at hs
      split at hs <;> first | (cases hs; done) | skip
      cases hs
      refine ⟨z, rfl, q F1 H1 (Its z) s1 w1.tail (walk_len (Walk.mono walk_str (fun _ _ => trivial) fun i H2 x H3 hi hg hy => ?_) ?_)⟩
      · obtain ⟨rfl, c, hc, rfl⟩ := hy
        intro F2 L s2 wd2
        refine ⟨F2, .a (.str ⟨#[c]⟩), ?_, Same.refl _, wd2.add ⟨rfl, rfl⟩⟩
        rw [List.getElem?_map, Array.getElem?_toList, hc]
        rfl
      · rw [List.length_map, Array.length_toList]
    | _ => cases hs
  | n k ys =>
    cases k with
    | tup =>
      cases hs
      refine (pi_tup h).run pins s σ H R I ⟨hl, F, ρ, T, _, _, wd, e1, fun F1 H1 v s1 w1 => ?_⟩
      obtain ⟨F2, s2, w2, r2⟩ := w1.frz
      obtain ⟨a, vs, g, rfl, r1, rk, rg⟩ := (show Rep X.K F2 H1 (.n .tup (frzL ys)) v [] from r2)
      subst rg
      refine ⟨a, rfl, ⟨vs, Same.sqT w2.same rk⟩, q F2 H1 _ (s1.trans s2) w2.tail (walk_len (Walk.mono (walk_tup (K := X.K) (a := a) (xs := vs)) (fun H h => Same.sqT h rk) fun i H2 x H3 hi hg hy => yw_at r1 hy) (RepL.length _ r1))⟩
    | lst b =>
      cases hs
      refine (pi_list h).run pins s σ H R I ⟨hl, F, ρ, T, _, _, wd, e1, fun F1 H1 v s1 w1 => ?_⟩
      obtain ⟨F2, s2, w2, r2⟩ := w1.frz
      obtain ⟨a, vs, g, rfl, r1, rk, rg⟩ := (show Rep X.K F2 H1 (.n (.lst false) (frzL ys)) v [] from r2)
      subst rg
      refine ⟨a, rfl, ⟨vs, SqL.of (w2.same _ _ rk)⟩, q F2 H1 _ (s1.trans s2) w2.tail (walk_len (Walk.mono (walk_list (K := X.K) (a := a) (xs := vs)) (fun H h => SqL.of (h _ _ rk)) fun i H2 x H3 hi hg hy => yw_at r1 hy) (RepL.length _ r1))⟩
    | ro =>
      cases hs
      refine (pi_list h).run pins s σ H R I ⟨hl, F, ρ, T, _, _, wd, e1, fun F1 H1 v s1 w1 => ?_⟩
      obtain ⟨F2, s2, w2, r2⟩ := w1.frz
      obtain ⟨a, vs, g, rfl, r1, rk, rg⟩ := (show Rep X.K F2 H1 (.n .ro (frzL ys)) v [] from r2)
      subst rg
      refine ⟨a, rfl, ⟨vs, w2.same.seq rk⟩, q F2 H1 _ (s1.trans s2) w2.tail (walk_len (Walk.mono (walk_list (K := X.K) (a := a) (xs := vs)) (fun H h => h.seq rk) fun i H2 x H3 hi hg hy => yw_at r1 hy) (RepL.length _ r1))⟩
    | dct b ks => cases hs
theorem frz_int {w : W} {i : Int} (h : w.frz = .a (.int i)) : w = .a (.int i) := by
  cases w with
  | a x => exact h
  | n k xs => cases h
theorem srcW_rng1 {x : W} {items : List W} (h : srcW .rng1 [x] = some items) : ∃ j, x = .a (.int j) ∧ okB j = true ∧ items = rngW 0 j.toNat := by
  cases x with
  | n k xs => cases h
  | a y =>
    cases y with
    | int j =>
      simp only [srcW] at h
      split at h
      · rename_i hj; cases h; exact ⟨j, rfl, hj, rfl⟩
      · cases h
    | _ => cases h
theorem srcW_rng2 {x y : W} {items : List W} (h : srcW .rng2 [x, y] = some items) : ∃ i j, x = .a (.int i) ∧ y = .a (.int j) ∧ (okB i = true ∧ okB j = true) ∧ items = rngW i (j - i).toNat := by
  cases x with
  | n k xs => cases h
  | a x =>
    cases x with
    | int i =>
      cases y with
      | n k xs => cases h
      | a y =>
        cases y with
        | int j =>
          simp only [srcW] at h
          split at h
          · rename_i hj; cases h; rw [Bool.and_eq_true] at hj; exact ⟨i, j, rfl, rfl, hj, rfl⟩
          · cases h
        | _ => cases h
    | _ => cases h
theorem okB_of {i : Int} (h : okB i = true) : -(2 ^ 62) ≤ i ∧ i < 2 ^ 62 := by
  simpa [okB] using h
theorem rng_walk {K : PySem.W.Frag} {F : Hp} {lo : Int} {n : Nat} : Walk (Itr lo n) (rngW lo n).length (fun H => Same F H) (YW K F (rngW lo n)) := by
  refine walk_len (Walk.mono walk_range (fun _ _ => trivial) fun i H2 x H3 hi hg hy => ?_) (by simp [rngW])
  obtain ⟨rfl, rfl⟩ := hy
  intro F2 L s2 wd2
  refine ⟨F2, .a (.int (lo + (i : Nat))), ?_, Same.refl _, wd2.add ⟨rfl, rfl⟩⟩
  simp [rngW, hi]
theorem src_rng1 {m : Ex} {a tg : Expr} {p pos : Pos} (hm : noStar m = true) (hg : Gl X "range") (hmg : X.mg "range" = none) (h : PA X [a] (TLs X cl [m])) (hs : starEach [a] X.env = [(false, eval a X.env)]) : PI X tg (.Call (.Name "range" p) [a] [] pos) (TSrc X cl .rng1 [m]) := by
  refine ⟨fun pins s σ H R I ⟨hl, F, ρ, T, ws, ρ', items, wd, ev, hsr, q⟩ => ?_⟩
  obtain ⟨w, e1, rfl⟩ := evL1 hm ev
  refine (pi_range1 hg hmg h hs).run pins s σ H R I ⟨hl, F, ρ, T, _, _, wd, ev, fun F1 H1 vs s1 l1 w1 => ?_⟩
  obtain ⟨v, rfl, e2⟩ := prs1 l1
  rw [e2] at w1
  obtain ⟨j, hq, hj, rfl⟩ := srcW_rng1 (x := w.frz) hsr
  cases frz_int hq
  obtain ⟨fp, r⟩ := w1.rep List.mem_cons_self
  cases (show v = .int j from r.1)
  obtain ⟨b1, b2⟩ := okB_of hj
  exact ⟨j, rfl, b1, b2, q F1 H1 _ s1 w1.tail rng_walk⟩
theorem evL2 {m m' : Ex} (hm : noStar m = true) (hm' : noStar m' = true) {ρ ρ' : Env} {ws : List W} (ev : evL cl [m, m'] ρ = some (ws, ρ')) : ∃ w w', ws = [w, w'] := by
  rw [evL_no hm] at ev
  split at ev <;> first | (cases ev; done) | skip
  split at ev <;> first | (cases ev; done) | skip
  rename_i ws1 ρ2 e2
  cases ev
  obtain ⟨w', _, rfl⟩ := evL1 hm' e2
  exact ⟨_, _, rfl⟩
theorem src_rng2 {m m' : Ex} {a b tg : Expr} {p pos : Pos} (hm : noStar m = true) (hm' : noStar m' = true) (hg : Gl X "range") (hmg : X.mg "range" = none) (h : PA X [a, b] (TLs X cl [m, m'])) (hs : starEach [a, b] X.env = [(false, eval a X.env), (false, eval b X.env)]) (hs2 : starEach [b] X.env = [(false, eval b X.env)]) : PI X tg (.Call (.Name "range" p) [a, b] [] pos) (TSrc X cl .rng2 [m, m']) := by
  refine ⟨fun pins s σ H R I ⟨hl, F, ρ, T, ws, ρ', items, wd, ev, hsr, q⟩ => ?_⟩
  obtain ⟨w, w', rfl⟩ := evL2 hm hm' ev
  refine (pi_range2 hg hmg h hs hs2).run pins s σ H R I ⟨hl, F, ρ, T, _, _, wd, ev, fun F1 H1 vs s1 l1 w1 => ?_⟩
  obtain ⟨v, v', rfl, e2⟩ := prs2 l1
  rw [e2] at w1
  obtain ⟨i, j, hq, hq2, hj, rfl⟩ := srcW_rng2 (x := w.frz) (y := w'.frz) hsr
  cases frz_int hq
  cases frz_int hq2
  obtain ⟨fp, r⟩ := w1.rep List.mem_cons_self
  cases (show v = .int i from r.1)
  obtain ⟨fp, r⟩ := w1.rep (List.mem_cons_of_mem _ List.mem_cons_self)
  cases (show v' = .int j from r.1)
  obtain ⟨b1, b2⟩ := okB_of hj.1
  obtain ⟨c1, c2⟩ := okB_of hj.2
  exact ⟨i, j, rfl, ⟨b1, b2, c1, c2⟩, q F1 H1 _ s1 w1.tail.tail rng_walk⟩
theorem src_enum {m : Ex} {e : Expr} {p pos tpos : Pos} {elts : List Expr} {kk : Nat} (hm : noStar m = true) (hg : Gl X "enumerate") (hmg : X.mg "enumerate" = none) (h : PA X [e] (TLs X cl [m])) (hs : starEach [e] X.env = [(false, eval e X.env)]) : PI X (.Tuple elts kk tpos) (.Call (.Name "enumerate" p) [e] [] pos) (TSrc X cl .enum [m]) := by
  refine ⟨fun pins s σ H R I ⟨hl, F, ρ, T, ws, ρ', items, wd, ev, hsr, q⟩ => ?_⟩
  obtain ⟨w, e1, rfl⟩ := evL1 hm ev
  refine (pi_enum hg hmg h hs).run pins s σ H R I ⟨hl, F, ρ, T, _, _, wd, ev, fun F1 H1 vs s1 l1 w1 => ?_⟩
  obtain ⟨v, rfl, e2⟩ := prs1 l1
  rw [e2] at w1
  obtain ⟨F2, s2, w2, r2⟩ := w1.frz
  have hsr : srcW .enum [w.frz] = some items := hsr
  cases w with
  | a x => cases x <;> cases hsr
  | n k ys =>
    cases k with
    | lst b =>
      cases hsr
      obtain ⟨a, vs, g, rfl, r1, rk, rg⟩ := (show Rep X.K F2 H1 (.n (.lst false) (frzL ys)) v [] from r2)
      subst rg
      have hlen := RepL.length _ r1
      refine ⟨a, vs, rfl, SqL.of (w2.same _ _ rk), q F2 H1 _ (s1.trans s2) w2.tail (walk_len (Walk.mono (walk_enum (K := X.K) (a := a) (xs := vs)) (fun H h => SqL.of (h _ _ rk)) fun i H2 x H3 hi hg hy => ?_) (by rw [List.length_map, List.length_zip, List.length_range, Nat.min_self]; exact hlen))⟩
      obtain ⟨T', x1, y1, rfl, hT, rfl, hx, hy⟩ := hy
      cases hx
      intro F3 L s3 wd3
      obtain ⟨w0, hw0, rw0⟩ := yw_rep (H1 := H2) r1 hy s3
      obtain ⟨F4, s4, w4⟩ := yw_pair wd3 hT (w := .a (.int (i : Nat))) ⟨rfl, rfl⟩ rw0
      refine ⟨F4, _, ?_, s4, w4⟩
      have hi2 : i < (frzL ys).length := by rw [← hlen]; exact hi
      rw [List.getElem?_map, List.getElem?_zip_eq_some (z := (i, w0)) |>.mpr ⟨?_, hw0⟩]
      · rfl
      · rw [List.getElem?_range hi2]
    | tup => cases hsr
    | ro => cases hsr
    | dct b ks => cases hsr
theorem walk_zipT {K : PySem.W.Frag} {a b : Addr} {xs ys : List V} {n : Nat} (hn : n = min xs.length ys.length) : Walk (RZ.ItzT K a b) n (fun H => SqT K H a xs ∧ SqT K H b ys) (YPair (fun i => xs[i]?) (fun i => ys[i]?)) where
  goes i H hi h := ⟨xs, ys, xs[i]'(by omega), ys[i]'(by omega), h.1, h.2, List.getElem?_eq_getElem _, List.getElem?_eq_getElem _⟩
  stops H h := ⟨xs, ys, h.1, h.2, by omega⟩
  yields i H v H' hi h hy := by
    obtain ⟨T, x, y, e1, e2, e3, hx, hy⟩ := hy
    exact ⟨T, x, y, e1, e2, e3, hx _ h.1, hy _ h.2⟩
theorem src_zip {m m' : Ex} {e e2 : Expr} {p pos tpos : Pos} {elts : List Expr} {kk : Nat} (hm : noStar m = true) (hm' : noStar m' = true) (hg : Gl X "zip") (hmg : X.mg "zip" = none) (h : PA X [e, e2] (TLs X cl [m, m']))
    (hs : starEach [e, e2] X.env = (false, eval e X.env) :: starEach [e2] X.env) (hpl : (backTo pos (starEach [e2] X.env)).any (·.1) = false) : PI X (.Tuple elts kk tpos) (.Call (.Name "zip" p) [e, e2] [] pos) (TSrc X cl .zip [m, m']) := by
  refine ⟨fun pins s σ H R I hh => ?_⟩
  obtain ⟨hl, F, ρ, T, ws, ρ', items, wd, ev, hsr, q⟩ := hh
  obtain ⟨w, w', rfl⟩ := evL2 hm hm' ev
  refine (RZ.pi_zipA hg hmg h hs hpl).run pins s σ H R I ⟨hl, F, ρ, T, _, _, wd, ev, fun F1 H1 vs s1 l1 w1 => ?_⟩
  obtain ⟨v, v', rfl, e2⟩ := prs2 l1
  rw [e2] at w1
  obtain ⟨F2, s2, w2, r2⟩ := w1.frz
  obtain ⟨F3, s3, w3, r3⟩ := (Wd.swap w2).frz
  have r2 : Rep X.K F3 H1 w.frz v [] := Rep.mono (F := F2) (H := H1) w.frz s3 (fun b hb => absurd hb (by simp)) r2
  have hsr : srcW .zip [w.frz, w'.frz] = some items := hsr
  have fin : ∀ {xs ys : List W} {us zs : List V}, RepL X.K F3 H1 xs us [] → RepL X.K F3 H1 ys zs [] → ∀ i H2 x H3, YPair (fun i => us[i]?) (fun i => zs[i]?) i H2 x H3 → YW X.K F3 ((xs.zip ys).map fun p => .n .tup [p.1, p.2]) i H2 x H3 := by
    intro xs ys us zs q1 q2 i H2 x H3 hy
    obtain ⟨T', x1, y1, rfl, hT, rfl, hx, hy⟩ := hy
    intro F4 L s4 wd4
    obtain ⟨wa, ha, ra⟩ := yw_rep (H1 := H2) q1 hx s4
    obtain ⟨wb, hb, rb⟩ := yw_rep (H1 := H2) q2 hy s4
    obtain ⟨F5, s5, w5⟩ := yw_pair wd4 hT ra rb
    refine ⟨F5, _, ?_, s5, w5⟩
    rw [List.getElem?_map, List.getElem?_zip_eq_some (z := (wa, wb)) |>.mpr ⟨ha, hb⟩]
    rfl
  cases w with
  | a x => cases x <;> (cases w' with | a y => cases hsr | n k' zs => cases k' <;> cases hsr)
  | n k xs =>
    cases w' with
    | a y => cases k <;> cases hsr
    | n k' ys =>
      cases k with
      | lst b =>
        cases k' with
        | lst b' =>
          cases hsr
          obtain ⟨a1, us, g, rfl, q1, rk, rg⟩ := (show Rep X.K F3 H1 (.n (.lst false) (frzL xs)) v [] from r2)
          subst rg
          obtain ⟨a2, zs, g, rfl, q2, rk2, rg⟩ := (show Rep X.K F3 H1 (.n (.lst false) (frzL ys)) v' [] from r3)
          subst rg
          have l1 := RepL.length _ q1
          have l2 := RepL.length _ q2
          refine ⟨a1, a2, us, zs, rfl, .inl ⟨SqL.of (w3.same _ _ rk), SqL.of (w3.same _ _ rk2), q F3 H1 _ ((s1.trans s2).trans s3) w3.tail.tail (walk_len (Walk.mono (walk_zip (K := X.K) (a := a1) (b := a2) (xs := us) (ys := zs) rfl) (fun H h => ⟨SqL.of (h _ _ rk), SqL.of (h _ _ rk2)⟩) fun i H2 x H3 hi hg hy => fin q1 q2 i H2 x H3 hy) (by rw [List.length_map, List.length_zip, l1, l2]))⟩⟩
        | tup => cases hsr
        | ro => cases hsr
        | dct b ks => cases hsr
      | tup =>
        cases k' with
        | tup =>
          cases hsr
          obtain ⟨a1, us, g, rfl, q1, rk, rg⟩ := (show Rep X.K F3 H1 (.n .tup (frzL xs)) v [] from r2)
          subst rg
          obtain ⟨a2, zs, g, rfl, q2, rk2, rg⟩ := (show Rep X.K F3 H1 (.n .tup (frzL ys)) v' [] from r3)
          subst rg
          have l1 := RepL.length _ q1
          have l2 := RepL.length _ q2
          refine ⟨a1, a2, us, zs, rfl, .inr ⟨Same.sqT w3.same rk, Same.sqT w3.same rk2, q F3 H1 _ ((s1.trans s2).trans s3) w3.tail.tail (walk_len (Walk.mono (walk_zipT (K := X.K) (a := a1) (b := a2) (xs := us) (ys := zs) rfl) (fun H h => ⟨Same.sqT h rk, Same.sqT h rk2⟩) fun i H2 x H3 hi hg hy => fin q1 q2 i H2 x H3 hy) (by rw [List.length_map, List.length_zip, l1, l2]))⟩⟩
        | lst b => cases hsr
        | ro => cases hsr
        | dct b ks => cases hsr
      | ro => cases k' <;> cases hsr
      | dct b ks => cases k' <;> cases hsr
end
end Lin

set_option Elab.async false
set_option linter.all false
set_option maxRecDepth 100000
set_option maxHeartbeats 4000000
/-! Lin, part S: targets; comprehensions. -/
namespace Lin
open PySem L2 PySem.SeqAt
def tgs : Tg → List Nat
  | .nm i => [i]
  | .tp is => is
section
variable {K : PySem.W.Frag} {F F' H H' : Hp} {σ : L2.St} {ρ : Env} {L L' T : List Pr} {a : Addr}
def tTg (K : PySem.W.Frag) (t : Tg) : TG := fun v σ H Q => ∃ (F : Hp) (L : List Pr) (ρ : Env) (w : W) (ρ' : Env), Wd K F H ((some v, w) :: (L ++ Sl σ ρ)) ∧ bindT t w ρ = some ρ' ∧ (∀ i ∈ tgs t, i < σ.length) ∧
  ∀ σ' : L2.St, σ'.length = σ.length → (∀ j, j ∉ tgs t → σ'[j]? = σ[j]?) → Wd K F H (L ++ Sl σ' ρ') → Q σ' H
def tTgs (K : PySem.W.Frag) (is : List Nat) : TGs := fun vs σ H Q => ∃ (F : Hp) (L : List Pr) (ρ : Env) (ws : List W) (ρ' : Env), Wd K F H (prs vs ws ++ (L ++ Sl σ ρ)) ∧ vs.length = ws.length ∧ setL is ws ρ = some ρ' ∧ (∀ i ∈ is, i < σ.length) ∧
  ∀ σ' : L2.St, σ'.length = σ.length → (∀ j, j ∉ is → σ'[j]? = σ[j]?) → Wd K F H (L ++ Sl σ' ρ') → Q σ' H
theorem Wd.opnT {v : V} {xs : List W} (wd : Wd K F H ((some v, .n .tup xs) :: L)) : ∃ a vs, v = .ref a ∧ SqT K F a vs ∧ vs.length = xs.length ∧ Wd K F H (prs vs xs ++ L) := by
  obtain ⟨⟨fp, ⟨g, g', e, r1, r2⟩, n, d⟩, s⟩ := wd
  subst e
  obtain ⟨a, vs, g0, rfl, q1, q2, q3⟩ := (show Rep K F H (.n .tup xs) v g from r1)
  subst q3
  exact ⟨a, vs, rfl, q2, RepL.length xs q1, ⟨⟨g ++ g', RepPs.append _ _ (RepL.prs q1) r2, n, d⟩, s⟩⟩
theorem setL_len : ∀ {is : List Nat} {ws : List W} {ρ ρ' : Env}, setL is ws ρ = some ρ' → is.length = ws.length
  | [], [], _, _, _ => rfl
  | [], _ :: _, _, _, h => by cases h
  | _ :: _, [], _, _, h => by cases h
  | i :: is, w :: ws, ρ, ρ', h => by rw [List.length_cons, List.length_cons, setL_len (is := is) (ws := ws) h]
end
section
variable {X : Cx} {cl : Nat → List W → Option (List W × W)}
theorem PG_imp {e : Expr} {t t' : TG} (h : PG X e t) (f : ∀ v σ H Q, t' v σ H Q → t v σ H Q) : PG X e t' := ⟨fun pins s σ H v u Q I r q => h.run pins s σ H v u Q I r (f _ _ _ _ q)⟩
theorem PGs_imp {e : List Expr} {t t' : TGs} (h : PGs X e t) (f : ∀ v σ H Q, t' v σ H Q → t v σ H Q) : PGs X e t' := ⟨fun pins s σ H v u Q I r q => h.run pins s σ H v u Q I r (f _ _ _ _ q)⟩
theorem PTs_imp {e : List Expr} {t t' : TT} (h : PTs X e t) (f : ∀ σ H Q, t' σ H Q → t σ H Q) : PTs X e t' := ⟨fun pins s σ H Q I q => h.run pins s σ H Q I (f _ _ _ q)⟩
theorem tg_nm {i : Nat} {x : Str} {pos : Pos} (h : PG X (.Name x pos) (gName i)) : PG X (.Name x pos) (tTg X.K (.nm i)) := by
  refine PG_imp h fun v σ H Q ⟨F, L, ρ, w, ρ', wd, e, hi, q⟩ => ?_
  cases e
  have hi := hi i List.mem_cons_self
  refine q _ (by rw [List.length_set]) (fun j hj => ?_) (Wd.store wd hi)
  rw [List.getElem?_set_ne]
  intro e; subst e; exact hj List.mem_cons_self
theorem tgs_nil : PGs X [] (tTgs X.K []) := by
  refine PGs_imp pgs_nil fun vs σ H Q ⟨F, L, ρ, ws, ρ', wd, hl, e, hi, q⟩ => ?_
  cases ws with
  | cons w ws => cases e
  | nil =>
    cases e
    have hv := List.eq_nil_of_length_eq_zero hl
    subst hv
    exact ⟨rfl, q σ rfl (fun _ _ => rfl) wd⟩
theorem tgs_cons {i : Nat} {is : List Nat} {e : Expr} {es : List Expr} (h : PG X e (gName i)) (h' : PGs X es (tTgs X.K is)) (hs : (assignEach (e :: es) X.env).map (·.2) = assign e X.env :: (assignEach es X.env).map (·.2)) : PGs X (e :: es) (tTgs X.K (i :: is)) := by
  refine PGs_imp (pgs_cons h h' hs) fun vs σ H Q ⟨F, L, ρ, ws, ρ', wd, hl, e, hi, q⟩ => ?_
  cases ws with
  | nil => cases e
  | cons w ws =>
    cases vs with
    | nil => simp at hl
    | cons v vs =>
      refine ⟨v, vs, rfl, F, L, ρ.set i w, ws, ρ', ?_, by simpa using hl, e, fun j hj => by rw [List.length_set]; exact hi j (List.mem_cons_of_mem _ hj), fun σ' hl' hk wd' => ?_⟩
      · rw [← List.append_assoc]
        refine Wd.store ?_ (hi i List.mem_cons_self)
        rw [List.append_assoc]; exact wd
      · refine q σ' (by rw [hl', List.length_set]) (fun j hj => ?_) wd'
        rw [hk j fun h => hj (List.mem_cons_of_mem _ h), List.getElem?_set_ne]
        intro e; subst e; exact hj List.mem_cons_self
theorem tg_tp {is : List Nat} {es : List Expr} {k : Nat} {pos : Pos} (hc : X.calm = true) (h : PGs X es (tTgs X.K is)) (hn : (assignEach es X.env).length = is.length) (hst : PG X (.Tuple es k pos) (gTup X.K is.length (tTgs X.K is))) : PG X (.Tuple es k pos) (tTg X.K (.tp is)) := by
  refine PG_imp hst fun v σ H Q ⟨F, L, ρ, w, ρ', wd, e, hi, q⟩ => ?_
  cases w with
  | a x => cases e
  | n kk ws =>
    cases kk with
    | tup =>
      obtain ⟨a, vs, rfl, h1, h2, w2⟩ := wd.opnT
      exact ⟨a, vs, rfl, Same.sqT wd.same h1, by rw [h2, setL_len e], F, L, ρ, ws, ρ', w2, h2, e, hi, q⟩
    | lst b => cases e
    | ro => cases e
    | dct b ks => cases e

/-! ### comprehensions -/
def tTst (K : PySem.W.Frag) (cl : Nat → List W → Option (List W × W)) (n : Nat) (m : Option Ex) : TT := fun σ H Q => σ.length = n ∧ ∃ (F : Hp) (ρ : Env) (T : List Pr) (b : Bool) (ρ' : Env), Wd K F H (T ++ Sl σ ρ) ∧ evT cl m ρ = some (b, ρ') ∧
  ∀ (F' H' : Hp), Same F F' → Wd K F' H' (T ++ Sl σ ρ') → Q b H'
theorem tst_none : PTs X [] (tTst X.K cl X.N.length none) := by
  refine PTs_imp pts_nil fun σ H Q ⟨hl, F, ρ, T, b, ρ', wd, ev, q⟩ => ?_
  simp only [evT] at ev
  cases ev
  exact q F H (Same.refl _) wd
theorem tst_some {c : Expr} {m : Ex} (h : PT X c (TTs X cl m)) : PTs X [c] (tTst X.K cl X.N.length (some m)) := by
  refine PTs_imp (pts_one h) fun σ H Q ⟨hl, F, ρ, T, b, ρ', wd, ev, q⟩ => ?_
  simp only [evT] at ev
  split at ev <;> first | (cases ev; done) | skip
  rename_i b' ρ1 e1
  cases ev
  exact ⟨hl, F, ρ, T, _, _, wd, e1, q⟩
def cF (cl : Nat → List W → Option (List W × W)) (elt : Ex) (t : Tg) (test : Option Ex) : W → Env → Option (Option W × Env) := fun w ρ => match bindT t w ρ with
  | none => none
  | some ρ2 => match evT cl test ρ2 with
    | none => none
    | some (false, ρ3) => some (none, ρ3)
    | some (true, ρ3) => match evm cl elt .val ρ3 with
      | some (.tm x, ρ4) => some (some x, ρ4)
      | _ => none
theorem comp_ev {elt : Ex} {t : Tg} {s : Sr} {src : List Ex} {test : Option Ex} {own : List Nat} {ρ ρ' : Env} {w : W} (ev : evm cl (.comp elt t s src test own) .val ρ = some (.tm w, ρ')) :
    ∃ ws ρ1 items acc ρ5, evL cl src ρ = some (ws, ρ1) ∧ srcW s (frzL ws) = some items ∧ loopC own (cF cl elt t test) items [] (wipeW ρ1 own) = some (acc, ρ5) ∧ w = .n (.lst true) acc ∧ ρ' = wipeW ρ5 own := by
  simp only [evm] at ev
  split at ev <;> first | (cases ev; done) | skip
  rename_i ws ρ1 e1
  split at ev <;> first | (cases ev; done) | skip
  rename_i items e2
  split at ev <;> first | (cases ev; done) | skip
  rename_i acc ρ5 e3
  cases ev
  exact ⟨ws, ρ1, items, acc, ρ5, e1, e2, e3, rfl, rfl⟩
theorem drop_at {α : Type} {xs : List α} {i : Nat} {x : α} (h : xs[i]? = some x) : xs.drop i = x :: xs.drop (i + 1) := by
  obtain ⟨hi, rfl⟩ := List.getElem?_eq_some_iff.mp h
  exact List.drop_eq_getElem_cons hi
theorem comp_imp {melt : Ex} {t : Tg} {s : Sr} {src : List Ex} {test : Option Ex} {ow : List Nat} (hb : ∀ i ∈ ow, i < X.N.length) (htg : ∀ i ∈ tgs t, i ∈ ow) {σ : L2.St} {H : Hp} {Q : VK} (h : TV X cl (.comp melt t s src test ow) σ H Q) :
    tLc (TSrc X cl s src) (tTg X.K t) (tTst X.K cl X.N.length test) (tV X.K cl X.N.length melt) ow σ H Q := by
  obtain ⟨hl, F, ρ, T, w, ρ', wd, ev, q⟩ := h
  obtain ⟨ws, ρ1, items, accF, ρ5, e1, e2, e3, rfl, rfl⟩ := comp_ev ev
  have hb' : ∀ i ∈ ow, i < σ.length := fun i hi => by rw [hl]; exact hb i hi
  refine ⟨hl, F, ρ, T, ws, ρ1, items, wd, e1, e2, fun F1 H1 J s1 wd1 wk D hD => ?_⟩
  have idem : L2.wipe (L2.wipe σ ow) ow = L2.wipe σ ow := wipe_eq (by rw [wipe_length]) fun i hi => by rw [wipe_get, if_neg fun h => hi h.1]
  refine lc_it wk (fun i H => ∃ (F2 : Hp) (ρ : Env) (acc : List W), Same F1 F2 ∧ Wd X.K F2 H ((some (.ref D), .n (.lst true) acc) :: (T ++ Sl (L2.wipe σ ow) ρ)) ∧ loopC ow (cF cl melt t test) (items.drop i) acc ρ = some (accF, ρ5))
    ⟨F1, wipeW ρ1 ow, [], Same.refl _, Wd.pkL (vs := []) (ws := []) (wd1.wipes ow hb') rfl hD, e3⟩ (fun i H _ ⟨F2, ρ, acc, s2, w2, _⟩ => s2.trans w2.same) (fun i x H2 H3 hi2 ⟨F2, ρ2, acc, s2, w2, e4⟩ hy => ?_) fun H2 ⟨F2, ρ2, acc, s2, w2, e4⟩ => ?_
  · obtain ⟨F3, wi, hw, s3, w3⟩ := hy F2 _ s2 w2
    rw [drop_at hw] at e4
    simp only [loopC] at e4
    split at e4 <;> first | (cases e4; done) | skip
    · rename_i ρn en
      unfold cF at en
      split at en <;> first | (cases en; done) | skip
      rename_i ρb eb
      split at en <;> first | (cases en; done) | skip
      · rename_i ρt et
        cases en
        refine ⟨F3, (some (.ref D), .n (.lst true) acc) :: T, ρ2, wi, ρb, w3, eb, fun i hi => by rw [wipe_length]; exact hb' i (htg i hi), fun σ' hl' hk wd' => ?_⟩
        have hw' : L2.wipe σ' ow = L2.wipe σ ow := by
          rw [← idem]
          exact wipe_eq hl' fun j hj => hk j fun h => hj (htg j h)
        rw [wipe_length] at hl'
        refine ⟨hw', hl'.trans hl, F3, ρb, _, false, _, wd', et, fun F4 H4 s4 w4 => iteF ?_⟩
        refine ⟨F4, wipeW ρn ow, acc, (s2.trans s3).trans s4, ?_, e4⟩
        rw [← hw']
        exact Wd.wipes (T := (some (.ref D), .n (.lst true) acc) :: T) w4 ow fun i hi => by rw [hl']; exact hb' i hi
      · rename_i ρt et
        split at en <;> cases en
    · rename_i y ρn en
      split at e4 <;> first | (cases e4; done) | skip
      rename_i hz
      unfold cF at en
      split at en <;> first | (cases en; done) | skip
      rename_i ρb eb
      split at en <;> first | (cases en; done) | skip
      rename_i ρt et
      split at en <;> first | (cases en; done) | skip
      rename_i xx ρe ee
      cases en
      refine ⟨F3, (some (.ref D), .n (.lst true) acc) :: T, ρ2, wi, ρb, w3, eb, fun i hi => by rw [wipe_length]; exact hb' i (htg i hi), fun σ' hl' hk wd' => ?_⟩
      have hw' : L2.wipe σ' ow = L2.wipe σ ow := by
        rw [← idem]
        exact wipe_eq hl' fun j hj => hk j fun h => hj (htg j h)
      rw [wipe_length] at hl'
      refine ⟨hw', hl'.trans hl, F3, ρb, _, true, ρt, wd', et, fun F4 H4 s4 w4 => iteT ?_⟩
      refine ⟨hl'.trans hl, F4, ρt, _, y, _, w4, ee, fun F5 H5 v s5 w5 => ?_⟩
      obtain ⟨a, us, ea, h1, h2, wo⟩ := (Wd.swap w5).opn
      cases ea
      refine ⟨us, h1, by rw [h2]; exact hz, F5, wipeW ρn ow, acc ++ [y], (s2.trans s3).trans (s4.trans s5), ?_, e4⟩
      rw [← hw']
      have w6 : Wd X.K F5 (upd H5 D (.lst (us ++ [v]))) ((some (.ref D), .n (.lst true) (acc ++ [y])) :: (T ++ Sl σ' ρn)) := by
        refine WdA.cls ?_ (by simp [h2])
        rw [prs_append h2, List.append_assoc]
        exact wo
      exact Wd.wipes (T := (some (.ref D), .n (.lst true) (acc ++ [y])) :: T) w6 ow fun i hi => by rw [hl']; exact hb' i hi
  · rw [List.drop_length] at e4
    simp only [loopC] at e4
    cases e4
    exact q F2 H2 (.ref D) (s1.trans s2) (Wd.unwipes (T := (some (.ref D), .n (.lst true) _) :: T) ow w2 hb')
section
variable {melt : Ex} {t : Tg} {s : Sr} {src : List Ex} {test : Option Ex} {own : List (Str × Nat)} {elt tg iter : Expr} {ifs : List Expr} {scope : Scope} {pos : Pos} (hc : X.calm = true) (hN : X.N.Nodup) (hi : PI X tg iter (TSrc X cl s src)) (ok : BlkOk X.N X.env.scope scope own)
  (hb : ∀ i ∈ own.map (·.2), i < X.N.length) (htg : ∀ i ∈ tgs t, i ∈ own.map (·.2))
  (hg : ∀ (s : Shared) (H : Hp) (C : Addr) (c : List (Str × Addr)) (fp : List Addr), PG (X.blk s H scope (compEnvC scope c C X.env) fp) tg (tTg X.K t))
  (ht : ∀ (s : Shared) (H : Hp) (C : Addr) (c : List (Str × Addr)) (fp : List Addr), PTs (X.blk s H scope (compEnvC scope c C X.env) fp) ifs (tTst X.K cl X.N.length test))
  (he : ∀ (s : Shared) (H : Hp) (C : Addr) (c : List (Str × Addr)) (fp : List Addr), PE (X.blk s H scope (compEnvC scope c C X.env) fp) elt (tV X.K cl X.N.length melt)) (hs : ∀ x, foldedSetIterable iter X.env x = pure x)
include hc hN hi ok hb htg hg ht he hs
theorem snd_comp : PE X (.ListComp elt [⟨tg, iter, ifs, 0⟩] scope pos) (TV X cl (.comp melt t s src test (own.map (·.2)))) :=
  PE_imp (pe_lc hc hN hi ok hg ht he hs) fun σ H Q h => comp_imp hb htg h
end
end
end Lin

set_option Elab.async false
set_option linter.all false
set_option maxRecDepth 100000
set_option maxHeartbeats 4000000
/-! Lin, part T: statements. -/
namespace Lin
open PySem L2 PySem.SeqAt
/-- slots that stay -/
def Kpt (kp : List Nat) (σ σ' : L2.St) : Prop := σ'.length = σ.length ∧ ∀ i ∈ kp, σ'[i]? = σ[i]?
theorem Kpt.refl {kp : List Nat} {σ : L2.St} : Kpt kp σ σ := ⟨rfl, fun _ _ => rfl⟩
theorem Kpt.trans {kp : List Nat} {σ σ' σ'' : L2.St} (a : Kpt kp σ σ') (b : Kpt kp σ' σ'') : Kpt kp σ σ'' := ⟨b.1.trans a.1, fun i h => (b.2 i h).trans (a.2 i h)⟩
section
variable {K : PySem.W.Frag} {F F' H H' : Hp} {σ : L2.St} {ρ : Env} {L L' T : List Pr} {a : Addr}
/-- how it ends -/
def Dn (K : PySem.W.Frag) (F : Hp) (kp : List Nat) (σ : L2.St) (T : List Pr) (D : Ends) (o : Out) (ρ' : Env) : Prop := match o with
  | .nx => ∀ (F' H' : Hp) (σ' : L2.St), Same F F' → Kpt kp σ σ' → Wd K F' H' (T ++ Sl σ' ρ') → D.nx σ' H'
  | .rt w => ∀ (F' H' : Hp) (σ' : L2.St) (v : V), Same F F' → Kpt kp σ σ' → Wd K F' H' ((some v, w) :: (T ++ Sl σ' ρ')) → D.rt v H'
  | .bk => ∀ (F' H' : Hp) (σ' : L2.St), Same F F' → Kpt kp σ σ' → Wd K F' H' (T ++ Sl σ' ρ') → D.bk σ' H'
  | .ct => ∀ (F' H' : Hp) (σ' : L2.St), Same F F' → Kpt kp σ σ' → Wd K F' H' (T ++ Sl σ' ρ') → D.ct σ' H'
def tSm (K : PySem.W.Frag) (cl : Nat → List W → Option (List W × W)) (n : Nat) (kp : List Nat) (s : Sm) : TS := fun D σ H => σ.length = n ∧ ∃ (F : Hp) (ρ : Env) (T : List Pr) (o : Out) (ρ' : Env), Wd K F H (T ++ Sl σ ρ) ∧ exm cl s ρ = some (o, ρ') ∧ Dn K F kp σ T D o ρ'
def tSms (K : PySem.W.Frag) (cl : Nat → List W → Option (List W × W)) (n : Nat) (kp : List Nat) (s : List Sm) : TS := fun D σ H => σ.length = n ∧ ∃ (F : Hp) (ρ : Env) (T : List Pr) (o : Out) (ρ' : Env), Wd K F H (T ++ Sl σ ρ) ∧ exs cl s ρ = some (o, ρ') ∧ Dn K F kp σ T D o ρ'
theorem Dn.mono {kp : List Nat} {σ σ' : L2.St} {D : Ends} {o : Out} {ρ' : Env} (d : Dn K F kp σ T D o ρ') (s : Same F F') (k : Kpt kp σ σ') : Dn K F' kp σ' T D o ρ' := by
  cases o with
  | nx => exact fun F2 H2 σ2 s2 k2 w => d F2 H2 σ2 (s.trans s2) (k.trans k2) w
  | rt w => exact fun F2 H2 σ2 v s2 k2 w => d F2 H2 σ2 v (s.trans s2) (k.trans k2) w
  | bk => exact fun F2 H2 σ2 s2 k2 w => d F2 H2 σ2 (s.trans s2) (k.trans k2) w
  | ct => exact fun F2 H2 σ2 s2 k2 w => d F2 H2 σ2 (s.trans s2) (k.trans k2) w
end
section
variable {X : Cx} {cl : Nat → List W → Option (List W × W)} {kp : List Nat}
abbrev TSm (X : Cx) (cl : Nat → List W → Option (List W × W)) (kp : List Nat) (s : Sm) : TS := tSm X.K cl X.N.length kp s
abbrev TSms (X : Cx) (cl : Nat → List W → Option (List W × W)) (kp : List Nat) (s : List Sm) : TS := tSms X.K cl X.N.length kp s
theorem PS_imp {st : Stmt} {t t' : TS} (h : PS X st t) (f : ∀ D σ H, t' D σ H → t D σ H) : PS X st t' := ⟨fun pins s σ H D I q => h.run pins s σ H D I (f _ _ _ q)⟩
theorem PSs_imp {st : List Stmt} {t t' : TS} (h : PSs X st t) (f : ∀ D σ H, t' D σ H → t D σ H) : PSs X st t' := ⟨fun pins s σ H D I q => h.run pins s σ H D I (f _ _ _ q)⟩
theorem snd_snil : PSs X [] (TSms X cl kp []) := by
  refine PSs_imp pss_nil fun D σ H ⟨hl, F, ρ, T, o, ρ', wd, ev, d⟩ => ?_
  simp only [exs] at ev
  cases ev
  exact d F H σ (Same.refl _) Kpt.refl wd
theorem snd_scons {st : Stmt} {sts : List Stmt} {m : Sm} {ms : List Sm} (h : PS X st (TSm X cl kp m)) (h' : PSs X sts (TSms X cl kp ms)) : PSs X (st :: sts) (TSms X cl kp (m :: ms)) := by
  refine PSs_imp (pss_cons h h') fun D σ H ⟨hl, F, ρ, T, o, ρ', wd, ev, d⟩ => ?_
  simp only [exs] at ev
  split at ev
  · cases ev
  · rename_i ρ1 e1
    refine ⟨hl, F, ρ, T, _, _, wd, e1, fun F2 H2 σ2 s2 k2 w2 => ⟨k2.1.trans hl, F2, ρ1, T, o, ρ', w2, ev, d.mono s2 k2⟩⟩
  · rename_i e1
    refine ⟨hl, F, ρ, T, o, ρ', wd, ev, ?_⟩
    cases o with
    | nx => exact absurd ev (e1 _)
    | rt w => exact d
    | bk => exact d
    | ct => exact d
theorem bindT_val {t : Tg} {e : Ex} {ρ ρ' : Env} {o : Out} (ev : exm cl (.set t e) ρ = some (o, ρ')) : ∃ w ρ1, evm cl e .val ρ = some (.tm w, ρ1) ∧ bindT t w ρ1 = some ρ' ∧ o = .nx := by
  simp only [exm] at ev
  split at ev <;> first | (cases ev; done) | skip
  rename_i w ρ1 e1
  split at ev <;> first | (cases ev; done) | skip
  rename_i ρ2 e2
  cases ev
  exact ⟨w, ρ1, e1, e2, rfl⟩
theorem kpt_of {t : List Nat} {σ σ' : L2.St} (hk : ∀ i ∈ t, i ∉ kp) (hl : σ'.length = σ.length) (h : ∀ j, j ∉ t → σ'[j]? = σ[j]?) : Kpt kp σ σ' := ⟨hl, fun i hi => h i fun q => hk i q hi⟩
theorem set_imp {te : TE} {t : Tg} {m : Ex} (hk : ∀ i ∈ tgs t, i ∉ kp) (hb : ∀ i ∈ tgs t, i < X.N.length) (hte : ∀ σ H Q, TV X cl m σ H Q → te σ H Q) : ∀ D σ H, TSm X cl kp (.set t m) D σ H → tAsg te (tTg X.K t) D σ H := fun D σ H ⟨hl, F, ρ, T, o, ρ', wd, ev, d⟩ => by
  obtain ⟨w, ρ1, e1, e2, rfl⟩ := bindT_val ev
  refine hte _ _ _ ⟨hl, F, ρ, T, w, ρ1, wd, e1, fun F1 H1 v s1 w1 => ?_⟩
  exact ⟨F1, T, ρ1, w, ρ', w1, e2, fun i hi => by rw [hl]; exact hb i hi, fun σ' hl' hk' w2 => d F1 H1 σ' s1 (kpt_of hk hl' hk') w2⟩
theorem snd_set {tg e : Expr} {t : Tg} {m : Ex} {pos : Pos} (he : PE X e (TV X cl m)) (hg : PG X tg (tTg X.K t)) (hk : ∀ i ∈ tgs t, i ∉ kp) (hb : ∀ i ∈ tgs t, i < X.N.length) (hs : swapsWithSole [tg] e pos.line X.env = pure false) (hw : swappedStores [tg] e X.env = pure none)
    (h1 : (assignEach [tg] X.env).map (·.2) = [assign tg X.env]) : PS X (.Assign [tg] e pos) (TSm X cl kp (.set t m)) :=
  PS_imp (ps_asg he hg hs hw h1) (set_imp hk hb fun _ _ _ h => h)
theorem nm_g {te : TE} {i : Nat} {D : Ends} {σ : L2.St} {H : Hp} (hm : ∀ Q Q' : VK, (∀ v H, Q v H → Q' v H) → te σ H Q → te σ H Q') (h : tAsg te (tTg X.K (.nm i)) D σ H) : tAsg te (gName i) D σ H := by
  refine hm _ _ (fun v H1 h => ?_) h
  obtain ⟨F, L, ρ, w, ρ', wd, e, hi, q⟩ := h
  cases e
  have hi := hi i List.mem_cons_self
  refine q _ (by rw [List.length_set]) (fun j hj => ?_) (Wd.store wd hi)
  rw [List.getElem?_set_ne]
  intro e; subst e; exact hj List.mem_cons_self
theorem snd_expr {e : Expr} {m : Ex} {pos : Pos} (he : PE X e (TV X cl m)) (hs : swapsWith e none pos.line X.env = pure false) : PS X (.Expr e pos) (TSm X cl kp (.ex m)) := by
  refine PS_imp (ps_expr he hs) fun D σ H ⟨hl, F, ρ, T, o, ρ', wd, ev, d⟩ => ?_
  simp only [exm] at ev
  split at ev <;> first | (cases ev; done) | skip
  rename_i od ρ1 e1
  cases ev
  obtain ⟨w, rfl⟩ := val_tm m e1
  exact ⟨hl, F, ρ, T, w, _, wd, e1, fun F1 H1 v s1 w1 => d F1 H1 σ s1 Kpt.refl w1.tail⟩
theorem snd_ret {e : Expr} {m : Ex} {pos : Pos} (he : PE X e (TV X cl m)) : PS X (.Return (some e) pos) (TSm X cl kp (.ret m)) := by
  refine PS_imp (ps_ret he) fun D σ H ⟨hl, F, ρ, T, o, ρ', wd, ev, d⟩ => ?_
  simp only [exm] at ev
  split at ev <;> first | (cases ev; done) | skip
  rename_i w ρ1 e1
  cases ev
  exact ⟨hl, F, ρ, T, w, _, wd, e1, fun F1 H1 v s1 w1 => d F1 H1 σ v s1 Kpt.refl w1⟩
theorem snd_retm {e : Expr} {i : Nat} {pos : Pos} (he : PE X e (tVar i)) : PS X (.Return (some e) pos) (TSm X cl kp (.retm i)) := by
  refine PS_imp (ps_ret he) fun D σ H ⟨hl, F, ρ, T, o, ρ', wd, ev, d⟩ => ?_
  simp only [exm] at ev
  split at ev <;> first | (cases ev; done) | skip
  rename_i w e1
  cases ev
  obtain ⟨h1, h2⟩ := at?_some e1
  obtain ⟨v, hv, _⟩ := wd.slot e1
  exact ⟨v, hv, d F H σ v (Same.refl _) Kpt.refl (wd.take h1 hv)⟩
theorem snd_if {c : Expr} {a b : List Stmt} {m : Ex} {ma mb : List Sm} {pos : Pos} (hc : PT X c (TTs X cl m)) (ha : PSs X a (TSms X cl kp ma)) (hb : PSs X b (TSms X cl kp mb)) : PS X (.If c a b pos) (TSm X cl kp (.ife m ma mb)) := by
  refine PS_imp (ps_if hc ha hb) fun D σ H ⟨hl, F, ρ, T, o, ρ', wd, ev, d⟩ => ?_
  simp only [exm] at ev
  split at ev <;> first | (cases ev; done) | skip
  · rename_i ρ1 e1
    exact ⟨hl, F, ρ, T, _, _, wd, e1, fun F1 H1 s1 w1 => iteT ⟨hl, F1, ρ1, T, o, ρ', w1, ev, d.mono s1 Kpt.refl⟩⟩
  · rename_i ρ1 e1
    exact ⟨hl, F, ρ, T, _, _, wd, e1, fun F1 H1 s1 w1 => iteF ⟨hl, F1, ρ1, T, o, ρ', w1, ev, d.mono s1 Kpt.refl⟩⟩
theorem snd_pass {pos : Pos} : PS X (.Pass pos) (TSm X cl kp .pass) := by
  refine PS_imp ps_pass fun D σ H ⟨hl, F, ρ, T, o, ρ', wd, ev, d⟩ => ?_
  simp only [exm] at ev
  cases ev
  exact d F H σ (Same.refl _) Kpt.refl wd
theorem snd_brk {pos : Pos} : PS X (.Break pos) (TSm X cl kp .brk) := by
  refine PS_imp ps_break fun D σ H ⟨hl, F, ρ, T, o, ρ', wd, ev, d⟩ => ?_
  simp only [exm] at ev
  cases ev
  exact d F H σ (Same.refl _) Kpt.refl wd
theorem snd_cnt {pos : Pos} : PS X (.Continue pos) (TSm X cl kp .cnt) := by
  refine PS_imp ps_continue fun D σ H ⟨hl, F, ρ, T, o, ρ', wd, ev, d⟩ => ?_
  simp only [exm] at ev
  cases ev
  exact d F H σ (Same.refl _) Kpt.refl wd

/-! ### loops -/
theorem for_ev {t : Tg} {s : Sr} {src : List Ex} {body : List Sm} {ρ ρ' : Env} {o : Out} (ev : exm cl (.for t s src body) ρ = some (o, ρ')) : ∃ ws ρ1 items, evL cl src ρ = some (ws, ρ1) ∧ srcW s (frzL ws) = some items ∧
    loopF (fun w ρ => match bindT t w ρ with
          | none => none
          | some ρ2 => exs cl body ρ2) items ρ1 = some (o, ρ') := by
  simp only [exm] at ev
  split at ev <;> first | (cases ev; done) | skip
  rename_i ws ρ1 e1
  split at ev <;> first | (cases ev; done) | skip
  rename_i items e2
  exact ⟨ws, ρ1, items, e1, e2, ev⟩
theorem snd_for {t : Tg} {s : Sr} {src : List Ex} {ms : List Sm} {tg iter : Expr} {body : List Stmt} {pos : Pos} (hp : PassesOwn (model X.prog X.w) X.A X.env X.xe) (hc : X.calm = true) (hi : PI X tg iter (TSrc X cl s src)) (hg : PG X tg (tTg X.K t)) (hb : PSs X body (TSms X cl kp ms))
    (hk : ∀ i ∈ tgs t, i ∉ kp) (hbd : ∀ i ∈ tgs t, i < X.N.length) (hs : ∀ x, foldedSetIterable iter X.env x = pure x) : PS X (.For tg iter body [] pos) (TSm X cl kp (.for t s src ms)) := by
  refine PS_imp (ps_for hp hc hi hg hb hs) fun D σ H ⟨hl, F, ρ, T, o, ρ', wd, ev, d⟩ => ?_
  obtain ⟨ws, ρ1, items, e1, e2, e3⟩ := for_ev ev
  refine ⟨hl, F, ρ, T, ws, ρ1, items, wd, e1, e2, fun F1 H1 J s1 wd1 wk => ?_⟩
  refine for_it wk (fun i σ2 H2 => ∃ (F2 : Hp) (ρ2 : Env), Same F1 F2 ∧ Kpt kp σ σ2 ∧ Wd X.K F2 H2 (T ++ Sl σ2 ρ2) ∧ loopF (fun w ρ => match bindT t w ρ with
          | none => none
          | some ρ2 => exs cl ms ρ2) (items.drop i) ρ2 = some (o, ρ')) ⟨F1, ρ1, Same.refl _, Kpt.refl, wd1, e3⟩ (fun i σ2 H2 _ ⟨F2, ρ2, s2, k2, w2, _⟩ => s2.trans w2.same) (fun i x σ2 H2 H3 hi2 ⟨F2, ρ2, s2, k2, w2, e4⟩ hy => ?_) fun σ2 H2 ⟨F2, ρ2, s2, k2, w2, e4⟩ => ?_
  · obtain ⟨F3, wi, hw, s3, w3⟩ := hy F2 _ s2 w2
    rw [drop_at hw] at e4
    simp only [loopF] at e4
    split at e4 <;> first | (cases e4; done) | skip
    all_goals
      rename_i ρn en
      split at en <;> first | (cases en; done) | skip
      rename_i ρb eb
    · refine ⟨F3, T, ρ2, wi, ρb, w3, eb, fun i hi => by rw [k2.1, hl]; exact hbd i hi, fun σ' hl' hk' wd' => ⟨by rw [hl', k2.1, hl], F3, ρb, T, _, _, wd', en, fun F4 H4 σ4 s4 k4 w4 => ?_⟩⟩
      exact ⟨F4, _, (s2.trans s3).trans s4, (k2.trans (kpt_of hk hl' hk')).trans k4, w4, e4⟩
    · refine ⟨F3, T, ρ2, wi, ρb, w3, eb, fun i hi => by rw [k2.1, hl]; exact hbd i hi, fun σ' hl' hk' wd' => ⟨by rw [hl', k2.1, hl], F3, ρb, T, _, _, wd', en, fun F4 H4 σ4 s4 k4 w4 => ?_⟩⟩
      exact ⟨F4, _, (s2.trans s3).trans s4, (k2.trans (kpt_of hk hl' hk')).trans k4, w4, e4⟩
    · cases e4
      refine ⟨F3, T, ρ2, wi, ρb, w3, eb, fun i hi => by rw [k2.1, hl]; exact hbd i hi, fun σ' hl' hk' wd' => ⟨by rw [hl', k2.1, hl], F3, ρb, T, _, _, wd', en, fun F4 H4 σ4 s4 k4 w4 => ?_⟩⟩
      exact d F4 H4 σ4 (s1.trans ((s2.trans s3).trans s4)) ((k2.trans (kpt_of hk hl' hk')).trans k4) w4
    · cases e4
      refine ⟨F3, T, ρ2, wi, ρb, w3, eb, fun i hi => by rw [k2.1, hl]; exact hbd i hi, fun σ' hl' hk' wd' => ⟨by rw [hl', k2.1, hl], F3, ρb, T, _, _, wd', en, fun F4 H4 σ4 v s4 k4 w4 => ?_⟩⟩
      exact d F4 H4 σ4 v (s1.trans ((s2.trans s3).trans s4)) ((k2.trans (kpt_of hk hl' hk')).trans k4) w4
  · rw [List.drop_length] at e4
    simp only [loopF] at e4
    cases e4
    exact d F2 H2 σ2 (s1.trans s2) k2 w2
theorem snd_whl {k : Nat} {m : Ex} {ms : List Sm} {c : Expr} {body : List Stmt} {pos : Pos} (hp : PassesOwn (model X.prog X.w) X.A X.env X.xe) (hc : PT X c (TTs X cl m)) (hb : PSs X body (TSms X cl kp ms)) : PS X (.While c body [] pos) (TSm X cl kp (.whl k m ms)) := by
  refine PS_imp (ps_while hp hc hb) fun D σ H ⟨hl, F, ρ, T, o, ρ', wd, ev, d⟩ => ?_
  simp only [exm] at ev
  refine ⟨fun n σ2 H2 => ∃ (F2 : Hp) (ρ2 : Env), Same F F2 ∧ Kpt kp σ σ2 ∧ Wd X.K F2 H2 (T ++ Sl σ2 ρ2) ∧ loopW (fun ρ => match evm cl m .tst ρ with
      | some (.bo b, ρ1) => some (b, ρ1)
      | _ => none) (fun ρ => exs cl ms ρ) n ρ2 = some (o, ρ'), ⟨k, F, ρ, Same.refl _, Kpt.refl, wd, ev⟩, fun n σ2 H2 ⟨F2, ρ2, s2, k2, w2, e4⟩ => ?_⟩
  cases n with
  | zero => simp only [loopW] at e4; cases e4
  | succ n =>
    simp only [loopW] at e4
    split at e4 <;> first | (cases e4; done) | skip
    · rename_i ρ1 ec
      cases e4
      split at ec <;> first | (cases ec; done) | skip
      rename_i b ρ1' hh
      cases ec
      exact ⟨k2.1.trans hl, F2, ρ2, T, _, _, w2, hh, fun F3 H3 s3 w3 => iteF (d F3 H3 σ2 (s2.trans s3) k2 w3)⟩
    · rename_i ρ1 ec
      split at ec <;> first | (cases ec; done) | skip
      rename_i b ρ1' hh
      cases ec
      refine ⟨k2.1.trans hl, F2, ρ2, T, _, _, w2, hh, fun F3 H3 s3 w3 => iteT ?_⟩
      split at e4 <;> first | (cases e4; done) | skip
      all_goals rename_i ρn en
      · refine ⟨fun σ4 H4 => ∃ (F4 : Hp), Same F F4 ∧ Kpt kp σ σ4 ∧ Wd X.K F4 H4 (T ++ Sl σ4 ρn), fun σ4 H4 ⟨F4, s4, k4, w4⟩ => ⟨n, Nat.lt_succ_self _, F4, ρn, s4, k4, w4, e4⟩, ?_⟩
        exact ⟨k2.1.trans hl, F3, _, T, _, _, w3, en, fun F4 H4 σ4 s4 k4 w4 => ⟨F4, (s2.trans s3).trans s4, k2.trans k4, w4⟩⟩
      · refine ⟨fun σ4 H4 => ∃ (F4 : Hp), Same F F4 ∧ Kpt kp σ σ4 ∧ Wd X.K F4 H4 (T ++ Sl σ4 ρn), fun σ4 H4 ⟨F4, s4, k4, w4⟩ => ⟨n, Nat.lt_succ_self _, F4, ρn, s4, k4, w4, e4⟩, ?_⟩
        exact ⟨k2.1.trans hl, F3, _, T, _, _, w3, en, fun F4 H4 σ4 s4 k4 w4 => ⟨F4, (s2.trans s3).trans s4, k2.trans k4, w4⟩⟩
      · cases e4
        refine ⟨fun σ4 H4 => False, fun σ4 H4 h => h.elim, ?_⟩
        exact ⟨k2.1.trans hl, F3, _, T, _, _, w3, en, fun F4 H4 σ4 s4 k4 w4 => d F4 H4 σ4 ((s2.trans s3).trans s4) (k2.trans k4) w4⟩
      · cases e4
        refine ⟨fun σ4 H4 => False, fun σ4 H4 h => h.elim, ?_⟩
        exact ⟨k2.1.trans hl, F3, _, T, _, _, w3, en, fun F4 H4 σ4 v s4 k4 w4 => d F4 H4 σ4 v ((s2.trans s3).trans s4) (k2.trans k4) w4⟩
end
end Lin

set_option Elab.async false
set_option linter.all false
set_option maxRecDepth 100000
set_option maxHeartbeats 4000000
/-! Lin, part U: stores into lists, augmented stores, parallel stores. -/
namespace Lin
open PySem L2 PySem.SeqAt
section
variable {K : PySem.W.Frag} {F F' H H' : Hp} {σ : L2.St} {ρ : Env} {L L' T : List Pr} {a : Addr}
theorem prs_set {vs : List V} {xs : List W} {j : Nat} {v : V} {y : W} (hl : vs.length = xs.length) (hj : j < xs.length) : (prs (vs.set j v) (xs.set j y)).Perm ((some v, y) :: prs (vs.eraseIdx j) (xs.eraseIdx j)) := by
  obtain ⟨u, h1, p⟩ := prs_get (vs := vs.set j v) (xs := xs.set j y) (i := j) (x := y) (by rw [List.length_set, List.length_set, hl]) (by rw [List.getElem?_set_self hj])
  rw [List.getElem?_set_self (by omega)] at h1
  cases h1
  rw [List.eraseIdx_set_eq, List.eraseIdx_set_eq] at p
  exact p
theorem ixN_lt {n : Nat} {k : Int} {j : Nat} (h : ixN n k = some j) : j < n := (ixN_seq h).2.1
/-- an item is put -/
theorem Wd.putAt {v : V} {xs : List W} {vy : V} {y : W} {j : Nat} (wd : Wd K F H ((some v, .n (.lst true) xs) :: (some vy, y) :: L)) (hj : j < xs.length) : ∃ a vs, v = .ref a ∧ H a = some (.lst vs) ∧ vs.length = xs.length ∧ Wd K F (upd H a (.lst (vs.set j vy))) ((some (.ref a), .n (.lst true) (xs.set j y)) :: L) := by
  obtain ⟨a, vs, rfl, h1, h2, wo⟩ := wd.opn
  refine ⟨a, vs, rfl, h1, h2, WdA.cls ?_ (by rw [List.length_set, List.length_set, h2])⟩
  obtain ⟨u, h3, p⟩ := prs_get h2 (List.getElem?_eq_getElem hj)
  have w1 : WdA K a F H ((some u, xs[j]) :: ((some vy, y) :: prs (vs.eraseIdx j) (xs.eraseIdx j) ++ L)) := by
    refine wo.perm ((p.append_right _).trans (List.Perm.cons _ ?_))
    exact List.perm_middle
  have w2 := WdA.right (L := [(some u, xs[j])]) w1
  exact w2.perm ((prs_set h2 hj).symm.append_right _)
end
section
variable {X : Cx} {cl : Nat → List W → Option (List W × W)} {kp : List Nat}
theorem setS_ev {i : Nat} {ix e : Ex} {ρ ρ' : Env} {o : Out} (ev : exm cl (.setS i ix e) ρ = some (o, ρ')) : ∃ y ρ1 w0 k ρ2 xs j, evm cl e .val ρ = some (.tm y, ρ1) ∧ at? ρ1 i = some w0 ∧ evm cl ix .val ρ1 = some (.tm (.a (.int k)), ρ2) ∧ at? ρ2 i = some (.n (.lst true) xs) ∧ ixN xs.length k = some j ∧
    o = .nx ∧ ρ' = ρ2.set i (.n (.lst true) (xs.set j y)) := by
  simp only [exm] at ev
  split at ev <;> first | (cases ev; done) | skip
  rename_i y ρ1 e1
  split at ev <;> first | (cases ev; done) | skip
  rename_i w0 e2
  split at ev <;> first | (cases ev; done) | skip
  rename_i k ρ2 e3
  split at ev <;> first | (cases ev; done) | skip
  rename_i w e4
  split at ev <;> first | (cases ev; done) | skip
  rename_i w' e5
  cases ev
  unfold setIx at e5
  split at e5 <;> first | (cases e5; done) | skip
  rename_i xs kk
  split at e5 <;> first | (cases e5; done) | skip
  rename_i j hj
  cases e5
  exact ⟨y, ρ1, w0, kk, ρ2, xs, j, e1, e2, e3, e4, hj, rfl, rfl⟩
/-- the end of a store -/
theorem store_fin {σ : L2.St} {i : Nat} {F H : Hp} {T : List Pr} {ρ2 : Env} {v vy : V} {y : W} {xs : List W} {k : Int} {j : Nat} {Q : Hp → Prop} (wd : Wd X.K F H ((some vy, y) :: (T ++ Sl σ ρ2))) (hv : σ[i]? = some (some v)) (e4 : at? ρ2 i = some (.n (.lst true) xs)) (hj : ixN xs.length k = some j)
    (q : ∀ H', Wd X.K F H' (T ++ Sl σ (ρ2.set i (.n (.lst true) (xs.set j y)))) → Q H') : rSetL v (.int k) vy H Q := by
  obtain ⟨h1, h2⟩ := at?_some e4
  have w1 := Wd.take (T := (some vy, y) :: T) wd h1 hv
  obtain ⟨a, vs, rfl, g1, g2, w2⟩ := Wd.putAt (L := T ++ Sl σ (ρ2.set i (.a .dead))) w1 (ixN_lt hj)
  refine ⟨a, vs, k, j, rfl, rfl, g1, by rw [g2]; exact hj, q _ ?_⟩
  have w3 := Wd.put w2 hv
  rw [List.set_set] at w3
  exact w3
theorem snd_setS {i : Nat} {mi me : Ex} {o ix e : Expr} {pos tpos : Pos} (he : PE X e (TV X cl me)) (ho : PE X o (TO X cl (.var i))) (hi : PE X ix (TV X cl mi)) (hg : PG X (.Subscript o ix tpos) (gSub (TO X cl (.var i)) (TV X cl mi) rSetL)) (hs : swapsWithSole [.Subscript o ix tpos] e pos.line X.env = pure false)
    (hw : swappedStores [.Subscript o ix tpos] e X.env = pure none) (h1 : (assignEach [.Subscript o ix tpos] X.env).map (·.2) = [assign (.Subscript o ix tpos) X.env]) : PS X (.Assign [.Subscript o ix tpos] e pos) (TSm X cl kp (.setS i mi me)) := by
  refine PS_imp (ps_asg he hg hs hw h1) fun D σ H ⟨hl, F, ρ, T, o, ρ', wd, ev, d⟩ => ?_
  obtain ⟨y, ρ1, w0, k, ρ2, xs, j, e1, e2, e3, e4, hj, rfl, rfl⟩ := setS_ev ev
  refine ⟨hl, F, ρ, T, y, ρ1, wd, e1, fun F1 H1 vy s1 w1 => ⟨hl, F1, ρ1, (some vy, y) :: T, .al i, ρ1, w1, by simp only [evm, e2], fun F2 H2 v s2 w2 al => ⟨hl, F2, ρ1, (some vy, y) :: T, _, ρ2, w2, e3, fun F3 H3 vk s3 w3 => ?_⟩⟩⟩
  obtain ⟨fp, rk⟩ := w3.rep List.mem_cons_self
  cases (show vk = .int k from rk.1)
  exact store_fin w3.tail (al i rfl) e4 hj fun H' w4 => d F3 H' σ ((s1.trans s2).trans s3) Kpt.refl w4

/-! ### augmented -/
def ipW : Bop → V → V → Hp → VK → Prop := fun op x y H Q => ∃ i j z, x = .int i ∧ y = .int j ∧ binI op i j = some z ∧ Q (.int z) H
theorem ipB : ∀ op : Bop, op ≠ .pow → PIp X (bopOf op) (ipW op)
  | .add, _ => fun pins s σ H x y v u Q I rx ry ⟨i, j, z, e1, e2, e3, q⟩ => iop_add pins s σ H x y v u Q I rx ry ⟨i, j, e1, e2, by cases e3; exact q⟩
  | .sub, _ => fun pins s σ H x y v u Q I rx ry ⟨i, j, z, e1, e2, e3, q⟩ => iop_sub pins s σ H x y v u Q I rx ry ⟨i, j, e1, e2, by cases e3; exact q⟩
  | .mul, _ => fun pins s σ H x y v u Q I rx ry ⟨i, j, z, e1, e2, e3, q⟩ => by
    simp only [binI] at e3
    split at e3
    · rename_i hz
      cases e3
      simp only [Bool.or_eq_true, Bool.and_eq_true, decide_eq_true_eq] at hz
      exact iop_mul pins s σ H x y v u Q I rx ry ⟨i, j, e1, e2, hz, q⟩
    · cases e3
  | .fdiv, _ => fun pins s σ H x y v u Q I rx ry ⟨i, j, z, e1, e2, e3, q⟩ => by
    simp only [binI] at e3
    split at e3
    · rename_i hz
      cases e3
      simp only [Bool.and_eq_true, decide_eq_true_eq] at hz
      exact iop_fdiv pins s σ H x y v u Q I rx ry ⟨i, j, e1, e2, hz, q⟩
    · cases e3
  | .mod, _ => fun pins s σ H x y v u Q I rx ry ⟨i, j, z, e1, e2, e3, q⟩ => by
    simp only [binI] at e3
    split at e3
    · rename_i hz
      cases e3
      exact iop_mod pins s σ H x y v u Q I rx ry ⟨i, j, e1, e2, of_decide_eq_true hz, q⟩
    · cases e3
  | .pow, h => absurd rfl h
def rGetL (K : PySem.W.Frag) : V → V → Hp → VK → Prop := fun o i H Q => ∃ p xs k j x, o = .ref p ∧ i = .int k ∧ SqL K H p xs ∧ 0 ≤ k ∧ ixN xs.length k = some j ∧ xs[j]? = some x ∧ Q x H
theorem get_list : PGet X (rGetL X.K) := by
  intro pins s σ H o i ov iv Q I ro ri ⟨p, xs, k, j, x, e1, e2, hq, h0, hj, hx, q⟩
  subst e1 e2
  cases ro
  obtain ⟨t, rfl⟩ := ri
  obtain ⟨its, r, pl, hz⟩ := I.list hq
  obtain ⟨h1, h2, h3, h4⟩ := ixN_seq hj
  obtain ⟨u, hu, ru⟩ := r.get hx
  have hn := line63
  have hkj : k.toNat = j := by
    rw [seqIndex_of h0 h4] at h1
    exact Option.some.inj h1
  exact wpAny_getItem_list pl.isList h0 (by omega) (by rw [hkj]; simpa using hu) ⟨x, H, I, ru, q⟩
theorem augS_ev {i : Nat} {op : Bop} {ix e : Ex} {ρ ρ' : Env} {o : Out} (ev : exm cl (.augS i op ix e) ρ = some (o, ρ')) : ∃ w0 k ρ1 xs j x y ρ2 z xs', at? ρ i = some w0 ∧ evm cl ix .val ρ = some (.tm (.a (.int k)), ρ1) ∧ at? ρ1 i = some (.n (.lst true) xs) ∧ 0 ≤ k ∧ ixN xs.length k = some j ∧ xs[j]? = some (.a (.int x)) ∧
    evm cl e .val ρ1 = some (.tm (.a (.int y)), ρ2) ∧ binI op x y = some z ∧ at? ρ2 i = some (.n (.lst true) xs') ∧ (∃ j', ixN xs'.length k = some j' ∧ ρ' = ρ2.set i (.n (.lst true) (xs'.set j' (.a (.int z))))) ∧ o = .nx := by
  simp only [exm] at ev
  split at ev <;> first | (cases ev; done) | skip
  rename_i w0 e1
  split at ev <;> first | (cases ev; done) | skip
  rename_i k ρ1 e2
  split at ev <;> first | (cases ev; done) | skip
  rename_i xs e3
  split at ev <;> first | (cases ev; done) | skip
  rename_i x e4
  split at e4
  case isFalse => cases e4
  rename_i h0
  split at ev <;> first | (cases ev; done) | skip
  rename_i y ρ2 e5
  split at ev <;> first | (cases ev; done) | skip
  rename_i z w e6 e7
  split at ev <;> first | (cases ev; done) | skip
  rename_i w' e8
  cases ev
  unfold setIx at e8
  split at e8 <;> first | (cases e8; done) | skip
  rename_i hq
  cases hq
  rename_i xs'
  split at e8 <;> first | (cases e8; done) | skip
  rename_i j' hj'
  cases e8
  unfold atI at e4
  obtain ⟨j, hj, hx⟩ := Option.bind_eq_some_iff.mp e4
  exact ⟨w0, k, ρ1, xs, j, x, y, ρ2, z, xs', e1, e2, e3, h0, hj, hx, e5, e6, e7, ⟨j', hj', rfl⟩, rfl⟩
theorem snd_augS {i : Nat} {op : Bop} {mi me : Ex} {o ix e : Expr} {pos tpos : Pos} (hop : op ≠ .pow) (ho : PE X o (TO X cl (.var i))) (hi : PE X ix (TV X cl mi)) (he : PE X e (TV X cl me))
    (ha : ∀ ov iv new, augStore ix ov iv new = (do holding [new, ov, iv] (setItem ov iv new); release [new, ov, iv] []; pure .next)) : PS X (.AugAssign (.Subscript o ix tpos) (bopOf op) e pos) (TSm X cl kp (.augS i op mi me)) := by
  refine PS_imp (ps_augS ho hi get_list he (ipB op hop) set_list ha) fun D σ H ⟨hl, F, ρ, T, o, ρ', wd, ev, d⟩ => ?_
  obtain ⟨w0, k, ρ1, xs, j, x, y, ρ2, z, xs', e1, e2, e3, h0, hj, hx, e5, e6, e7, ⟨j', hj', rfl⟩, rfl⟩ := augS_ev ev
  refine ⟨hl, F, ρ, T, .al i, ρ, wd, by simp only [evm, e1], fun F1 H1 v s1 w1 al => ⟨hl, F1, ρ, T, _, ρ1, w1, e2, fun F2 H2 vk s2 w2 => ?_⟩⟩
  obtain ⟨fp, rk⟩ := w2.rep List.mem_cons_self
  cases (show vk = .int k from rk.1)
  have w2 := w2.tail
  obtain ⟨v', hv', fp, rv⟩ := w2.slot e3
  rw [al i rfl] at hv'
  cases hv'
  obtain ⟨a, vs, g, rfl, hH, rl⟩ := rv.lstH w2.same
  obtain ⟨vx, g2, hvx, rx⟩ := rl.get hx
  cases (show vx = .int x from rx.1)
  refine ⟨a, vs, k, j, .int x, rfl, rfl, SqL.of hH, h0, by rw [RepL.length _ rl]; exact hj, hvx, hl, F2, ρ1, T, _, ρ2, w2, e5, fun F3 H3 vy s3 w3 => ?_⟩
  obtain ⟨fp, ry⟩ := w3.rep List.mem_cons_self
  cases (show vy = .int y from ry.1)
  refine ⟨x, y, z, rfl, rfl, e6, ?_⟩
  exact store_fin (y := .a (.int z)) (w3.tail.add ⟨rfl, rfl⟩) (al i rfl) e7 hj' fun H' w4 => d F3 H' σ ((s1.trans s2).trans s3) Kpt.refl w4
theorem snd_aug {i : Nat} {op : Bop} {me : Ex} {x : Str} {e : Expr} {pos p : Pos} (hop : op ≠ .pow) (hkp : i ∉ kp) (hN : X.N.Nodup) (hi : X.N[i]? = some x) (hx : Loc X.env.scope x) (he : PE X e (TV X cl me)) (hf : X.fn x = true ∨ X.env.scope.names.lookup x = some .local) :
    PS X (.AugAssign (.Name x p) (bopOf op) e pos) (TSm X cl kp (.aug i op me)) := by
  refine PS_imp (ps_aug hN hi hx he (ipB op hop) hf) fun D σ H ⟨hl, F, ρ, T, o, ρ', wd, ev, d⟩ => ?_
  simp only [exm] at ev
  split at ev <;> first | (cases ev; done) | skip
  rename_i a e1
  split at ev <;> first | (cases ev; done) | skip
  rename_i y ρ1 e2
  split at ev <;> first | (cases ev; done) | skip
  rename_i z e3
  cases ev
  obtain ⟨v, hv, fp, r⟩ := wd.slot e1
  cases (show v = .int a from r.1)
  refine ⟨.int a, hv, hl, F, ρ, T, _, ρ1, wd, e2, fun F1 H1 vy s1 w1 => ?_⟩
  obtain ⟨fp, ry⟩ := w1.rep List.mem_cons_self
  cases (show vy = .int y from ry.1)
  have hi2 : i < σ.length := by
    rw [hl]
    rcases Nat.lt_or_ge i X.N.length with h | h
    · exact h
    · rw [List.getElem?_eq_none h] at hi; cases hi
  refine ⟨a, y, z, rfl, rfl, e3, d F1 H1 _ s1 ⟨by rw [List.length_set], fun j hj => ?_⟩ (Wd.store (w := .a (.int z)) (w1.tail.add ⟨rfl, rfl⟩) hi2)⟩
  rw [List.getElem?_set_ne]
  intro e; subst e; exact hkp hj

/-! ### parallel stores, comprehensions stored -/
theorem tup_ev {es : List Ex} {ρ ρ' : Env} {w : W} (ev : evm cl (.tup es) .val ρ = some (.tm w, ρ')) : ∃ ws, evL cl es ρ = some (ws, ρ') ∧ w = .n .tup ws := by
  simp only [evm] at ev
  split at ev <;> first | (cases ev; done) | skip
  rename_i ws ρ1 e1
  split at ev
  · cases ev; exact ⟨ws, e1, rfl⟩
  · cases ev
theorem nset {i j : Nat} {v : Option V} {σ : L2.St} (h : j ≠ i) : (σ.set i v)[j]? = σ[j]? := List.getElem?_set_ne fun e => h e.symm
theorem snd_par {i j : Nat} {ms : List Ex} {st : Stmt} {ta : TA} (h : PS X st (tPar i j ta)) (hta : ∀ σ H Q, TLs X cl ms σ H Q → ta σ H Q) (hk : ∀ l ∈ [i, j], l ∉ kp) (hb : ∀ l ∈ [i, j], l < X.N.length) : PS X st (TSm X cl kp (.set (.tp [i, j]) (.tup ms))) := by
  refine PS_imp h fun D σ H ⟨hl, F, ρ, T, o, ρ', wd, ev, d⟩ => ?_
  obtain ⟨w, ρ1, e1, e2, rfl⟩ := bindT_val ev
  obtain ⟨ws, e3, rfl⟩ := tup_ev e1
  refine hta _ _ _ ⟨hl, F, ρ, T, ws, ρ1, wd, e3, fun F1 H1 vs s1 l1 w1 => ?_⟩
  have hlen := setL_len (show setL [i, j] ws ρ1 = some ρ' from e2)
  match ws, vs, hlen, l1 with
  | [x, y], [v, u], _, _ =>
    cases e2
    have w1 : Wd X.K F1 H1 ((some v, x) :: (some u, y) :: (T ++ Sl σ ρ1)) := w1
    have hi : i < σ.length := by rw [hl]; exact hb i (by simp)
    have hj : j < (σ.set i (some v)).length := by rw [List.length_set, hl]; exact hb j (by simp)
    have w2 := Wd.store (T := (some u, y) :: T) w1 hi
    have w3 := Wd.store (T := T) w2 hj
    refine ⟨v, u, rfl, d F1 H1 _ s1 ⟨by simp, fun l hl => ?_⟩ w3⟩
    rw [nset (show l ≠ j from fun e => hk j (by simp) (by rw [← e]; exact hl)), nset (show l ≠ i from fun e => hk i (by simp) (by rw [← e]; exact hl))]
end
end Lin

set_option Elab.async false
set_option linter.all false
set_option maxRecDepth 100000
set_option maxHeartbeats 4000000
/-! Lin, part V: calls; defs. -/
namespace Lin
open PySem L2 PySem.SeqAt
section
variable {K : PySem.W.Frag} {F F' H H' : Hp} {σ : L2.St} {ρ : Env} {L L' T : List Pr} {a : Addr}
/-- a def's promise -/
def rCl (K : PySem.W.Frag) (g : List W → Option (List W × W)) : List V → Hp → VK → Prop := fun vs H Q => ∃ (F : Hp) (T : List Pr) (ws ws' : List W) (w : W), vs.length = ws.length ∧ Wd K F H (prs vs ws ++ T) ∧ g ws = some (ws', w) ∧
  ∀ (F' H' : Hp) (v : V), Same F F' → Wd K F' H' ((some v, w) :: (prs vs ws' ++ T)) → Q v H'
theorem Wd.takes : ∀ {os : List Od} {vs : List V} {ws : List W} {ρ ρ2 : Env} {T : List Pr}, Wd K F H (tmps os vs ++ (T ++ Sl σ ρ)) → Als σ os vs → takeA os ρ = some (ws, ρ2) → vs.length = ws.length ∧ Wd K F H (prs vs ws ++ (T ++ Sl σ ρ2))
  | [], [], ws, ρ, ρ2, T, wd, al, e => by cases e; exact ⟨rfl, wd⟩
  | [], _ :: _, ws, ρ, ρ2, T, wd, al, e => al.elim
  | _ :: _, [], ws, ρ, ρ2, T, wd, al, e => al.elim
  | .bo b :: os, v :: vs, ws, ρ, ρ2, T, wd, al, e => by simp only [takeA] at e; cases e
  | .tm w :: os, v :: vs, ws, ρ, ρ2, T, wd, al, e => by
    simp only [takeA] at e
    split at e
    · cases e
    · rename_i ws' ρ' e1
      cases e
      have w1 : Wd K F H (tmps os vs ++ (((some v, w) :: T) ++ Sl σ ρ)) := Wd.perm List.perm_middle.symm wd
      obtain ⟨h1, w2⟩ := Wd.takes w1 al.2 e1
      exact ⟨by simp [h1], Wd.perm List.perm_middle w2⟩
  | .al i :: os, v :: vs, ws, ρ, ρ2, T, wd, al, e => by
    simp only [takeA] at e
    split at e
    · cases e
    · rename_i w hw
      split at e
      · cases e
      · rename_i ws' ρ' e1
        cases e
        have wd : Wd K F H (tmps os vs ++ (T ++ Sl σ ρ)) := wd
        have hv := al.1 i rfl
        have w1 : Wd K F H ((some v, w) :: ((tmps os vs ++ T) ++ Sl σ (if w.fz then ρ else ρ.set i .dead))) := by
          rw [← List.append_assoc] at wd
          by_cases hf : w.fz = true
          · rw [if_pos hf]
            obtain ⟨v', hv', fp, r⟩ := wd.slot hw
            rw [hv] at hv'; cases hv'
            have := Rep.fz w hf r
            subst this
            exact wd.add r
          · rw [if_neg hf]
            exact wd.take (at?_some hw).1 hv
        rw [List.append_assoc] at w1
        obtain ⟨h1, w2⟩ := Wd.takes (T := (some v, w) :: T) (Wd.perm List.perm_middle.symm w1) al.2 e1
        exact ⟨by simp [h1], Wd.perm List.perm_middle w2⟩
theorem Wd.puts : ∀ {os : List Od} {vs : List V} {ws : List W} {ρ : Env} {T : List Pr}, Wd K F H (prs vs ws ++ (T ++ Sl σ ρ)) → Als σ os vs → Wd K F H (T ++ Sl σ (putA os ws ρ))
  | [], [], ws, ρ, T, wd, al => by cases ws <;> exact wd
  | [], _ :: _, ws, ρ, T, wd, al => al.elim
  | _ :: _, [], ws, ρ, T, wd, al => al.elim
  | o :: os, v :: vs, [], ρ, T, wd, al => by cases o <;> exact wd
  | .bo b :: os, v :: vs, w :: ws, ρ, T, wd, al => Wd.puts (os := os) (vs := vs) (ws := ws) (Wd.tail (p := (some v, w)) wd) al.2
  | .tm _ :: os, v :: vs, w :: ws, ρ, T, wd, al => Wd.puts (os := os) (vs := vs) (ws := ws) (Wd.tail (p := (some v, w)) wd) al.2
  | .al i :: os, v :: vs, w :: ws, ρ, T, wd, al => by
    simp only [putA]
    refine Wd.puts (os := os) (vs := vs) (ws := ws) ?_ al.2
    by_cases h : (at? ρ i).isSome = true
    · rw [if_pos h]; exact Wd.tail (p := (some v, w)) wd
    · rw [if_neg h]
      have wd : Wd K F H ((some v, w) :: (prs vs ws ++ (T ++ Sl σ ρ))) := wd
      rw [← List.append_assoc] at wd ⊢
      exact wd.put (al.1 i rfl)
theorem Sl_nil_dead : ∀ k : Nat, Sl ([] : L2.St) (List.replicate k (.a .dead)) = List.replicate k (none, .a .dead)
  | 0 => rfl
  | k + 1 => by
    rw [List.replicate_succ, List.replicate_succ]
    show (none, W.a .dead) :: Sl [] (List.replicate k (.a .dead)) = _
    rw [Sl_nil_dead k]
theorem Sl_none_dead : ∀ k : Nat, Sl (List.replicate k none : L2.St) (List.replicate k (.a .dead)) = List.replicate k (none, .a .dead)
  | 0 => rfl
  | k + 1 => by
    rw [List.replicate_succ, List.replicate_succ, List.replicate_succ]
    show (none, W.a .dead) :: Sl (List.replicate k none) (List.replicate k (.a .dead)) = _
    rw [Sl_none_dead k]
theorem Sl_start (k : Nat) : ∀ {vs : List V} {ws : List W}, vs.length = ws.length → Sl (vs.map some ++ List.replicate k none) (ws ++ List.replicate k (.a .dead)) = prs vs ws ++ List.replicate k (none, .a .dead)
  | [], [], _ => Sl_none_dead k
  | [], _ :: _, h => by simp at h
  | _ :: _, [], h => by simp at h
  | v :: vs, w :: ws, h => by
    show (some v, w) :: Sl (vs.map some ++ List.replicate k none) (ws ++ List.replicate k (.a .dead)) = _
    rw [Sl_start k (by simpa using h)]
    rfl
theorem Wd.deads (k : Nat) (wd : Wd K F H L) : Wd K F H (List.replicate k (none, .a .dead) ++ L) := by
  induction k with
  | zero => exact wd
  | succ k ih => rw [List.replicate_succ]; exact ih.addDead
theorem Wd.bk : ∀ (vs : List V) {σ : L2.St} {ρ : Env} {P : Nat → Bool} {L : List Pr}, (∀ i v, vs[i]? = some v → P i = true → σ[i]? = some (some v)) → Wd K F H (L ++ Sl σ ρ) → Wd K F H (L ++ prs vs (bk P vs.length ρ))
  | [], σ, ρ, P, L, h, wd => by
    show Wd K F H (L ++ prs [] (Lin.bk P 0 ρ))
    rw [show prs [] (Lin.bk P 0 ρ) = [] from by cases ρ <;> rfl, List.append_nil]
    exact wd.left
  | v :: vs, σ, [], P, L, h, wd => by
    have w1 : Wd K F H ((L ++ [(some v, .a .dead)]) ++ Sl [] []) := by
      rw [List.append_assoc]
      exact Wd.perm List.perm_middle.symm (Wd.addDead (Wd.perm (by simp [Sl]) wd.left))
    have w2 := Wd.bk vs (σ := []) (ρ := []) (P := fun i => false) (fun _ _ _ q => by cases q) w1
    rw [List.append_assoc] at w2
    have e : ∀ (n : Nat) (P Q : Nat → Bool), Lin.bk P n [] = Lin.bk Q n [] := fun n => by
      induction n with
      | zero => intro P Q; rfl
      | succ n ih => intro P Q; simp only [Lin.bk]; rw [ih]
    show Wd K F H (L ++ ((some v, .a .dead) :: prs vs (Lin.bk (fun i => P (i + 1)) vs.length [])))
    rw [e _ (fun i => P (i + 1)) (fun i => false)]
    exact w2
  | v :: vs, σ, w :: ρ, P, L, h, wd => by
    have key : ∃ (o : Option V) (σ' : L2.St), Sl σ (w :: ρ) = (o, w) :: Sl σ' ρ ∧ (P 0 = true → o = some v) ∧ ∀ i u, vs[i]? = some u → P (i + 1) = true → σ'[i]? = some (some u) := by
      cases σ with
      | nil =>
        refine ⟨none, [], rfl, fun hp => ?_, fun i u hu hp => ?_⟩
        · have := h 0 v rfl hp; cases this
        · have := h (i + 1) u (by simpa using hu) hp; simp at this
      | cons o σ =>
        refine ⟨o, σ, rfl, fun hp => ?_, fun i u hu hp => ?_⟩
        · have := h 0 v rfl hp
          simpa using this
        · have := h (i + 1) u (by simpa using hu) hp
          simpa using this
    obtain ⟨o, σ', e1, e2, e3⟩ := key
    rw [e1] at wd
    have w1 : Wd K F H ((L ++ [(some v, if P 0 then w else .a .dead)]) ++ Sl σ' ρ) := by
      rw [List.append_assoc]
      by_cases hp : P 0 = true
      · rw [if_pos hp, ← e2 hp]; exact wd
      · rw [if_neg hp]
        exact Wd.perm List.perm_middle.symm (Wd.addDead (Wd.perm List.perm_middle wd).tail)
    have w2 := Wd.bk vs (σ := σ') (ρ := ρ) (P := fun i => P (i + 1)) e3 w1
    rw [List.append_assoc] at w2
    exact w2
end
section
variable {X : Cx} {cl : Nat → List W → Option (List W × W)}
theorem snd_call {i : Nat} {ms : List Ex} {e : Expr} (h : PE X e (tCB (rCl X.K (cl i)) (TOs X cl ms))) : PE X e (TV X cl (.call i ms)) := by
  refine PE_imp h fun σ H Q ⟨hl, F, ρ, T, w, ρ', wd, ev, q⟩ => ?_
  simp only [evm] at ev
  split at ev <;> first | (cases ev; done) | skip
  rename_i os ρ1 e1
  split at ev <;> first | (cases ev; done) | skip
  rename_i ws ρ2 e2
  split at ev <;> first | (cases ev; done) | skip
  rename_i ws' r e3
  cases ev
  refine ⟨hl, F, ρ, T, os, ρ1, wd, e1, fun F1 H1 vs s1 al w1 => ?_⟩
  obtain ⟨h1, w2⟩ := w1.takes al e2
  refine ⟨F1, T ++ Sl σ ρ2, ws, ws', w, h1, w2, e3, fun F2 H2 v s2 w3 => ?_⟩
  have w4 : Wd X.K F2 H2 (prs vs ws' ++ (((some v, w) :: T) ++ Sl σ ρ2)) := Wd.perm List.perm_middle.symm w3
  exact q F2 H2 v (s1.trans s2) (w4.puts al)
theorem snd_call0 {i : Nat} {e : Expr} (h : PE X e (tCB (rCl X.K (cl i)) tNil)) : PE X e (TV X cl (.call i [])) := by
  refine PE_imp h fun σ H Q ⟨hl, F, ρ, T, w, ρ', wd, ev, q⟩ => ?_
  simp only [evm, opL, takeA] at ev
  split at ev <;> first | (cases ev; done) | skip
  rename_i ws' r e3
  cases ev
  refine ⟨F, T ++ Sl σ ρ, [], ws', w, rfl, wd, e3, fun F2 H2 v s2 w3 => ?_⟩
  have e : prs ([] : List V) ws' = [] := by cases ws' <;> rfl
  rw [e] at w3
  have : putA [] ws' ρ = ρ := by cases ws' <;> rfl
  rw [this] at q
  exact q F2 H2 v s2 w3

/-! ### calls of defs -/
/-- a def that keeps its promise where nothing is under way -/
def FnG (P : Program) (w : World) (K : PySem.W.Frag) (mg : Str → Option Value) (base : Heap) (k : Nat) (f : Addr) (r : List V → Hp → VK → Prop) : Prop :=
  ∀ (A : Around) (outer : List PySem.Env) (s : Shared) (H : Hp) (us : List Value) (vs : List V) (Q : VK), Room k A → A.guards = some [] → Env0 P w K mg base A outer s H → Vals vs us → r vs H Q →
    codeAny (model P w) A (.call (.ref f) ⟨us, []⟩) (CR CX0 outer P w H s Q fun _ _ _ => False) s
theorem callG {k : Nat} {f : Addr} {r : List V → Hp → VK → Prop} (G : FnG X.prog X.w X.K X.mg X.base k f r) (hr : Room k X.A) (hg : X.A.guards = some []) : CallR X (.ref f) r := by
  intro pins s σ H xs us Q I rv h
  refine wpAny_call (codeAny_mono (G X.A X.stack s H us xs Q hr hg I.env0 rv h) fun res s' hq => ?_)
  match res, hq with
  | .ok (.ret u), hq => exact I.after hq
  | .ok .next, hq => exact hq.elim
  | .ok .brk, hq => exact hq.elim
  | .ok .cont, hq => exact hq.elim
  | .error e, hq => exact hq.elim
theorem pe_callG {f : Addr} {r : List V → Hp → VK → Prop} {x : Str} {p pos : Pos} {e : Expr} {es : List Expr} {t : TA} (hc : CallR X (.ref f) r) (hg : Gl X x) (hm : X.mg x = some (.ref f)) (hk : PySem.W.keepIn X.K (.ref f) = true) (ha : PA X (e :: es) t)
    (hdb : (x == ("__debug__" : Str)) = false) (he : starEach (e :: es) X.env = (false, eval e X.env) :: starEach es X.env) (hpl : (backTo pos (starEach es X.env)).any (·.1) = false) : PE X (.Call (.Name x p) (e :: es) [] pos) (tCB r t) :=
  ⟨fun pins s σ H Q I h => wpAny_Call_Name_kw (ld_glob I hg hm (PySem.W.callWith_K (h₀ := X.base) I.ok.mod.kin hk
    (thn (ha.run pos pins s σ H _ I h) fun us s1 ⟨vs, H1, I1, rv, q⟩ => ⟨I1.kIn, hc pins s1 σ H1 vs us Q I1 rv q⟩) he hpl) hdb)⟩
theorem pe_callG0 {f : Addr} {r : List V → Hp → VK → Prop} {x : Str} {p pos : Pos} (hc : CallR X (.ref f) r) (hg : Gl X x) (hm : X.mg x = some (.ref f)) (hk : PySem.W.keepIn X.K (.ref f) = true) (hdb : (x == ("__debug__" : Str)) = false) : PE X (.Call (.Name x p) [] [] pos) (tCB r tNil) :=
  ⟨fun pins s σ H Q I h => wpAny_Call_Name_kw (ld_glob I hg hm (PySem.W.callWith_K0 I.kIn hk (hc pins s σ H [] [] Q I .nil h)) hdb)⟩
end
end Lin

set_option Elab.async false
set_option linter.all false
set_option maxRecDepth 100000
set_option maxHeartbeats 4000000
/-! Lin, part Va: freezing, truths as numbers, is of truths. -/
namespace Lin
open PySem L2 PySem.SeqAt
section
variable {X : Cx} {cl : Nat → List W → Option (List W × W)}
theorem snd_frz {e : Expr} {m : Ex} (h : PE X e (TV X cl m)) : PE X e (TV X cl (.frz m)) := by
  refine PE_imp h fun σ H Q ⟨hl, F, ρ, T, w, ρ', wd, ev, q⟩ => ?_
  simp only [evm] at ev
  split at ev <;> first | (cases ev; done) | skip
  rename_i w1 ρ1 e1
  cases ev
  refine ⟨hl, F, ρ, T, w1, _, wd, e1, fun F1 H1 v s1 w2 => ?_⟩
  obtain ⟨F2, s2, w3, _⟩ := w2.frz
  exact q F2 H1 v (s1.trans s2) w3
theorem op_add_bi : OpR X (binaryOp .Add) (fun x y H Q => ∃ k j, x = .bl k ∧ y = .int j ∧ Q (.int (b2z k + j)) H) := by
  intro pins s σ H x y v u Q I rx ry ⟨k, j, e1, e2, q⟩
  subst e1 e2
  cases rx
  obtain ⟨t, rfl⟩ := ry
  exact IntBool.add_bool_int ⟨.int (b2z k + j), H, I.tok _, ⟨_, rfl⟩, q⟩
theorem gives_neg_bl (b : Bool) : Gives (Builtin.«int.__neg__» ⟨[.bool b], []⟩) (.int (-(b2z b))) := by
  cases b <;> exact .of_eq rfl
theorem un_neg_bl : UnR X (unaryOp .USub) (fun x H Q => ∃ k, x = .bl k ∧ Q (.int (-(b2z k))) H) := by
  intro pins s σ H x v Q I rx ⟨k, e, q⟩
  subst e
  cases rx
  exact unaryOp_gives (op := .USub) (typeIs_bool s k) rfl PySem.F.slot_bool_neg PySem.F.entry_int_neg (PySem.F.args_int_neg_1 _) (gives_neg_bl k) ⟨.int (-(b2z k)), H, I.tok _, ⟨_, rfl⟩, q⟩
theorem snd_addz {a b : Expr} {ma mb : Ex} {pos : Pos} (ha : PE X a (TV X cl ma)) (hb : PE X b (TV X cl mb)) : PE X (.BinOp a .Add b pos) (TV X cl (.addz ma mb)) := by
  refine PE_imp (pe_op (OpR.or op_add (OpR.or op_add_ib op_add_bi)) ha hb) fun σ H Q ⟨hl, F, ρ, T, w, ρ', wd, ev, q⟩ => ?_
  simp only [evm] at ev
  split at ev <;> first | (cases ev; done) | skip
  rename_i x ρ1 e1
  split at ev <;> first | (cases ev; done) | skip
  rename_i y ρ2 e2
  split at ev <;> first | (cases ev; done) | skip
  rename_i z e3
  cases ev
  refine ⟨hl, F, ρ, T, x, ρ1, wd, e1, fun F1 H1 vx s1 w1 => ⟨hl, F1, ρ1, (some vx, x) :: T, y, _, w1, e2, fun F2 H2 vy s2 w2 => ?_⟩⟩
  obtain ⟨fy, ry⟩ := w2.rep List.mem_cons_self
  obtain ⟨fx, rx⟩ := w2.rep (List.mem_cons_of_mem _ List.mem_cons_self)
  have fin : ∀ z : Int, some z = addzW x y → Q (.int z) H2 := fun z' hz => by
    rw [e3] at hz
    cases hz
    exact q F2 H2 _ (s1.trans s2) (w2.tail.tail.add ⟨rfl, rfl⟩)
  unfold addzW at e3
  split at e3 <;> first | (cases e3; done) | skip
  · rename_i i j
    exact .inl ⟨i, j, rx.1, ry.1, fin _ rfl⟩
  · rename_i i j
    exact .inr (.inl ⟨i, j, rx.1, ry.1, by cases j <;> exact fin _ rfl⟩)
  · rename_i i j
    exact .inr (.inr ⟨i, j, rx.1, ry.1, fin _ rfl⟩)
theorem UnR.or {f : Value → Sem Value} {r r' : V → Hp → VK → Prop} (h : UnR X f r) (h' : UnR X f r') : UnR X f (fun x H Q => r x H Q ∨ r' x H Q) := fun pins s σ H x v Q I rx q => q.elim (h pins s σ H x v Q I rx) (h' pins s σ H x v Q I rx)
theorem snd_negz {a : Expr} {m : Ex} {pos : Pos} (h : PE X a (TV X cl m)) : PE X (.UnaryOp .USub a pos) (TV X cl (.negz m)) := by
  refine PE_imp (pe_un (UnR.or un_neg un_neg_bl) h) fun σ H Q ⟨hl, F, ρ, T, w, ρ', wd, ev, q⟩ => ?_
  simp only [evm] at ev
  split at ev <;> first | (cases ev; done) | skip
  rename_i x ρ1 e1
  split at ev <;> first | (cases ev; done) | skip
  rename_i z e2
  cases ev
  refine ⟨hl, F, ρ, T, x, _, wd, e1, fun F1 H1 vx s1 w1 => ?_⟩
  obtain ⟨fx, rx⟩ := w1.rep List.mem_cons_self
  unfold zW at e2
  split at e2 <;> first | (cases e2; done) | skip
  · cases e2
    exact .inl ⟨_, rx.1, q F1 H1 _ s1 (w1.tail.add ⟨rfl, rfl⟩)⟩
  · cases e2
    exact .inr ⟨_, rx.1, q F1 H1 _ s1 (w1.tail.add ⟨rfl, rfl⟩)⟩
/-- an opaque thing is no text -/
def rOq (K : PySem.W.Frag) : R2 := fun x y H Q => ∃ (a C dx : Addr) (fs : List (Str × V)) (z : Str), x = .ref a ∧ H a = some (.ins C dx fs) ∧ OpqC K C ∧ y = .str z ∧ Q (.bl false) H
theorem eqs_imp {m : Ex} {s : Str} {σ : L2.St} {H : Hp} {Q : VK} (h : TV X cl (.eqs m s) σ H Q) : tOp (fun x y H Q => rC X.K (cmpW .Eq) x y H Q ∨ rOq X.K x y H Q) (TO X cl m) (tC (.str s)) σ H Q := by
  obtain ⟨hl, F, ρ, T, w, ρ', wd, ev, q⟩ := h
  simp only [evm] at ev
  split at ev <;> first | (cases ev; done) | skip
  rename_i o ρ1 e1
  split at ev <;> first | (cases ev; done) | skip
  rename_i x e2
  split at ev <;> first | (cases ev; done) | skip
  rename_i b e3
  cases ev
  refine ⟨hl, F, ρ, T, o, _, wd, e1, fun F1 H1 v s1 w1 al => ?_⟩
  rw [← List.append_assoc] at w1
  obtain ⟨fp, r⟩ := opRep w1 (fun w h => by subst h; exact mem_tmp) al e2
  have hs := w1.same
  have hq : Q (.bl b) H1 := by
    rw [List.append_assoc] at w1
    exact q F1 H1 _ s1 (w1.right.add ⟨rfl, rfl⟩)
  by_cases ho : x = .a .opq
  · subst ho
    cases e3
    obtain ⟨a, C, dx, fs, rfl, ha, oc⟩ := r.1
    exact .inr ⟨a, C, dx, fs, s, rfl, hs _ _ ha, oc, rfl, hq⟩
  · have e4 : eqD x (.a (.str s)) = some b := by
      unfold eqO at e3
      split at e3
      · exact absurd rfl ho
      · exact e3
    exact .inl ⟨F1, x, .a (.str s), fp, [], b, hs, r, ⟨rfl, rfl⟩, e4, hq⟩
theorem snd_eqs {a b : Expr} {m : Ex} {s : Str} {pos : Pos} (hu : X.A.units + 64 < cLine) (ho : OpR X (compareOp .Eq) (rOq X.K)) (ha : PE X a (TO X cl m)) (hb : PE X b (tC (.str s))) (hm : behindInMarks .Eq b = false) : PE X (.Compare a [.Eq] [b] pos) (TV X cl (.eqs m s)) :=
  PE_imp (pe_cmpR (OpR.or (cmpAll hu .Eq) ho) ha hb hm) fun σ H Q h => eqs_imp h
theorem snd_eqsT {a b : Expr} {m : Ex} {s : Str} {pos : Pos} (hu : X.A.units + 64 < cLine) (ho : OpR X (compareOp .Eq) (rOq X.K)) (ha : PE X a (TO X cl m)) (hb : PE X b (tC (.str s))) (hm : behindInMarks .Eq b = false) : PT X (.Compare a [.Eq] [b] pos) (TTs X cl (.eqs m s)) := by
  refine snd_tstB rfl (PT_imp (pt_cmpR (OpR.or (cmpAll hu .Eq) ho) ha hb hm) fun σ H Q h => eqs_imp h) fun ρ w ρ' ev => ?_
  simp only [evm] at ev
  repeat' split at ev
  all_goals first | (cases ev; done) | (cases ev; exact ⟨_, rfl⟩)
theorem blW_eq {w : W} {b : Bool} (h : blW w = some b) : w = .a (.bl b) := by
  unfold blW at h
  split at h
  · cases h; rfl
  · cases h
theorem isb_imp {no : Bool} {ma mb : Ex} {op : CmpOp} (hop : op = if no then .IsNot else .Is) {σ : L2.St} {H : Hp} {Q : VK} (h : TV X cl (.isb no ma mb) σ H Q) : tOp (if no then rNotB else rIsB) (TV X cl ma) (TV X cl mb) σ H Q := by
  obtain ⟨hl, F, ρ, T, w, ρ', wd, ev, q⟩ := h
  simp only [evm] at ev
  split at ev <;> first | (cases ev; done) | skip
  rename_i x ρ1 e1
  split at ev <;> first | (cases ev; done) | skip
  rename_i y ρ2 e2
  split at ev <;> first | (cases ev; done) | skip
  rename_i p p' h1 h2
  cases ev
  cases blW_eq h1
  cases blW_eq h2
  refine ⟨hl, F, ρ, T, _, ρ1, wd, e1, fun F1 H1 vx s1 w1 => ⟨hl, F1, ρ1, (some vx, _) :: T, _, _, w1, e2, fun F2 H2 vy s2 w2 => ?_⟩⟩
  obtain ⟨fy, ry⟩ := w2.rep List.mem_cons_self
  obtain ⟨fx, rx⟩ := w2.rep (List.mem_cons_of_mem _ List.mem_cons_self)
  have := q F2 H2 (.bl ((p == p') != no)) (s1.trans s2) (w2.tail.tail.add ⟨rfl, rfl⟩)
  cases no with
  | false => exact ⟨p, p', rx.1, ry.1, by cases p <;> cases p' <;> exact this⟩
  | true => exact ⟨p, p', rx.1, ry.1, by cases p <;> cases p' <;> exact this⟩
theorem op_isbR (no : Bool) : OpR X (compareOp (if no then .IsNot else .Is)) (if no then rNotB else rIsB) := by
  cases no
  · exact op_isBl
  · exact op_notBl
theorem snd_isb {no : Bool} {a b : Expr} {ma mb : Ex} {pos : Pos} (ha : PE X a (TV X cl ma)) (hb : PE X b (TV X cl mb)) (hm : behindInMarks (if no then .IsNot else .Is) b = false) : PE X (.Compare a [if no then .IsNot else .Is] [b] pos) (TV X cl (.isb no ma mb)) :=
  PE_imp (pe_cmpR (op_isbR no) ha hb hm) fun σ H Q h => isb_imp rfl h
theorem snd_isbT {no : Bool} {a b : Expr} {ma mb : Ex} {pos : Pos} (ha : PE X a (TV X cl ma)) (hb : PE X b (TV X cl mb)) (hm : behindInMarks (if no then .IsNot else .Is) b = false) : PT X (.Compare a [if no then .IsNot else .Is] [b] pos) (TTs X cl (.isb no ma mb)) := by
  refine snd_tstB rfl (PT_imp (pt_cmpR (op_isbR no) ha hb hm) fun σ H Q h => isb_imp rfl h) fun ρ w ρ' ev => ?_
  simp only [evm] at ev
  repeat' split at ev
  all_goals first | (cases ev; done) | (cases ev; exact ⟨_, rfl⟩)
end
end Lin

set_option Elab.async false
set_option linter.all false
set_option maxRecDepth 100000
set_option maxHeartbeats 4000000
/-! Lin, part Dl: a long dict display: seventeen pairs, then the rest, put in. -/
namespace Lin
open PySem L2
section
variable {P : Program} {w : World} {A : Around} {E : Value → Shared → Prop} {s : Shared}
abbrev kd (P : Program) (w : World) := mixKind P w
/-- an entry is put into a dict -/
theorem put_at {d : Addr} {xs : List (Key × Value)} {k : Key} {y v : Value} {Q : Unit → Shared → Prop} (hy : keyIs k y = true) (D : s.heap.DictOf (kd P w) d xs)
    (q : ∀ h', h'.DictOf (kd P w) d (stored xs k v) → Heap.SameBut d s.heap h' → Q () { s with heap := h' }) (few : xs.length ≤ sizeLine) : wpAny (model P w) A (dictPut d (keyH w k) y v) Q E s := by
  obtain ⟨ob, en, ep, d1, d2, d3, d4, d5, d6⟩ := D
  have z : en.size ≤ sizeLine := by
    have := d5.length
    simp at this
    omega
  have same : (en.findIdx? fun e => keyIs k e.key) = xs.findIdx? fun kv => decide (kv.1 = k) := by
    rw [← d5.findIdx k]
    obtain ⟨l⟩ := en
    simp; rfl
  unfold dictPut
  refine wpAny_bind (wpAny_dictFind_of (knd := kd P w) hy d1 d3 d4 ?_)
  show wpAny (model P w) A (match (en.findIdx? fun e => keyIs k e.key) with
    | some i => _
    | none => _) Q E s
  cases hi : en.findIdx? fun e => keyIs k e.key with
  | some i =>
    refine wpAny_updateDict d1 d3 (q _ ⟨_, _, ep, Heap.get?_update_self _ d1 (Obj.isFreed_of_dict (Obj.data_mapDict d3 _)), d2.mapDict _, Obj.data_mapDict d3 _, d4.modify _ _, ?_, ?_⟩ (.update ..))
    · rw [stored, if_pos (any_of_findIdx_some (same ▸ hi))]
      have hl : (en.toList.findIdx? fun e => keyIs k e.key) = some i := by
        rw [← hi]
        obtain ⟨l⟩ := en
        simp
      have := d5.modify d6 hl v
      obtain ⟨l⟩ := en
      simpa using this
    · rw [stored, if_pos (any_of_findIdx_some (same ▸ hi)), keys_map_store]
      exact d6
  | none =>
    have ni : k ∉ xs.map (·.1) := not_mem_of_findIdx_none (same ▸ hi)
    have na : ¬ (xs.any fun kv => decide (kv.1 = k)) = true := fun c => by
      obtain ⟨kv, h1, h2⟩ := List.any_eq_true.mp c
      exact ni (List.mem_map.mpr ⟨kv, h1, of_decide_eq_true h2⟩)
    refine wpAny_updateDictKeys (hz := z) d1 d3 (q _ ⟨_, _, ep + 1, Heap.get?_update_self _ d1 (Obj.isFreed_of_dict (Obj.data_mapDictKeys d3 _)), d2.mapDictKeys _, Obj.data_mapDictKeys d3 _, d4.push hy _, ?_, ?_⟩ (.update ..))
    · rw [stored, if_neg na]
      have := d5.append hy (keyH w k) v
      obtain ⟨l⟩ := en
      simpa using this
    · rw [stored, if_neg na, List.map_append, List.nodup_append]
      refine ⟨d6, by simp, fun a ha b hb => ?_⟩
      rw [List.map_cons, List.map_nil, List.mem_singleton] at hb
      subst hb
      exact fun c => ni (c ▸ ha)
/-- one dict's entries are put into another one -/
theorem merge_at {d a : Addr} {xs ys : List (Key × Value)} {Q : Unit → Shared → Prop} (ne : d ≠ a) (low : (a == sysModules) = false) (D : s.heap.DictOf (kd P w) d xs) (M : s.heap.DictOf (kd P w) a ys) (hx : xs ≠ [])
    (q : ∀ h', h'.DictOf (kd P w) d (merged xs ys) → Heap.SameBut d s.heap h' → Q () { s with heap := h' }) (few : xs.length + ys.length ≤ sizeLine) : wpAny (model P w) A (mergeMapping d (.ref a) false) Q E s := by
  obtain ⟨oa, ea, pa, m1, m2, m3, m4, m5, m6⟩ := id M
  obtain ⟨od, en, ep, d1, d2, d3, d4, d5, d6⟩ := id D
  have lenA : ys.length = ea.size := by
    have := m5.length
    simp at this
    omega
  have nz : en.isEmpty = false := by
    have := d5.length
    cases h : en.isEmpty with
    | false => rfl
    | true =>
      exfalso
      rw [Array.isEmpty_iff.mp h] at this
      exact hx (List.length_eq_zero_iff.mp (by simpa using this.symm))
  unfold mergeMapping
  refine wpAny_bind (wpAny_isInstance M.typeIs isSubtype_dict_dict ?_)
  rw [if_pos rfl]
  refine wpAny_bind (wpAny_specialOf M.typeIs F.slot_dict_iter.lookup ?_)
  refine wpAny_bind (wpAny_pure ?_)
  simp only [beq_self_eq_true]
  rw [if_neg (by rw [low]; exact Bool.false_ne_true)]
  refine wpAny_bind (wpAny_dictEntries d1 d3 ?_)
  rw [nz, if_neg Bool.false_ne_true]
  refine wpAny_bind (wpAny_dictEntries m1 m3 ?_)
  refine wpAny_bind (wpAny_dictEpoch m1 m3 ?_)
  simp only [Bool.false_eq_true, if_false]
  refine wpAny_bind ?_
  rw [List.range_eq_range']
  refine wpAny_forIn_list _ (fun rest _ s' => ∃ h' i, s' = { s with heap := h' } ∧ rest = List.range' i (ea.size - i) ∧ i ≤ ea.size ∧ h'.DictOf (kd P w) d (merged xs (ys.take i)) ∧ h'.get? a = some oa ∧ Heap.SameBut d s.heap h')
    _ ?_ ?_ _ _ ⟨s.heap, 0, rfl, by simp, Nat.zero_le _, by simpa [merged] using D, m1, Heap.SameBut.refl _ _⟩
  · rintro x rest b s' ⟨g, i, rfl, hr, hi, g1, g2, g3⟩
    have lt : i < ea.size := by
      rcases Nat.lt_or_ge i ea.size with c | c
      · exact c
      · rw [Nat.sub_eq_zero_of_le c] at hr
        cases hr
    have split : x = i ∧ rest = List.range' (i + 1) (ea.size - (i + 1)) := by
      rw [show ea.size - i = (ea.size - (i + 1)) + 1 by omega, List.range'_succ] at hr
      injection hr with c1 c2
      exact ⟨c1, c2⟩
    obtain ⟨rfl, hrest⟩ := split
    refine wpAny_bind (wpAny_dictEntries g2 m3 ?_)
    rw [Array.getElem?_eq_getElem lt]
    have there : x < ys.length := by omega
    have at' : ys[x]? = some ys[x] := List.getElem?_eq_getElem there
    obtain ⟨c1, c2⟩ := m5.get? (e := ea[x]) (by simp [lt]) at'
    obtain ⟨k, c3, c4⟩ := m4 ea[x] (Array.getElem_mem lt)
    have c5 : k = ys[x].1 := (kd P w).inj _ _ _ c3 c1
    have room : (merged xs (ys.take x)).length ≤ sizeLine := by
      have e1 := merged_length_le xs (ys.take x)
      rw [List.length_take] at e1
      omega
    show wpAny _ _ (holding [ea[x].key, ea[x].val] (dictPut d ea[x].hash ea[x].key ea[x].val) >>= _) _ _ _
    rw [c4, c2]
    refine wpAny_bind (wpAny_holding (put_at (k := k) c3 g1 (fun h'' e1 e2 => ?_) room))
    have e3 : h''.get? a = some oa := (e2.2 a (Ne.symm ne)).trans g2
    refine wpAny_bind (wpAny_dictEpoch e3 m3 ?_)
    rw [if_neg (by simp)]
    refine wpAny_pure ⟨h'', x + 1, rfl, hrest, lt, ?_, e3, g3.trans e2⟩
    rw [merged_take_succ xs ys x (k, ys[x].2) (by rw [at', c5])]
    exact e1
  · rintro b s' ⟨g, i, rfl, hr, hi, g1, g2, g3⟩
    have last : i = ea.size := by
      rcases Nat.lt_or_ge i ea.size with c | c
      · rw [show ea.size - i = (ea.size - (i + 1)) + 1 by omega, List.range'_succ] at hr
        cases hr
      · exact Nat.le_antisymm hi c
    refine wpAny_pure (q g ?_ g3)
    rw [last, ← lenA, List.take_length] at g1
    exact g1
/-- a tree that makes a text -/
def IsC (P : Program) (w : World) (m : Sem Value) (z : Str) : Prop := ∀ (A : Around) (E : Value → Shared → Prop) (s : Shared) (Q : Value → Shared → Prop), (∀ t k, Q (.str z t) { s with toks := k }) → wpAny (model P w) A m Q E s
def AllC (P : Program) (w : World) : List (Sem Value × Sem Value) → List (Str × Str) → Prop
  | [], [] => True
  | p :: ps, z :: zs => IsC P w p.1 z.1 ∧ IsC P w p.2 z.2 ∧ AllC P w ps zs
  | _, _ => False
/-- these texts, whatever their tokens -/
def Ku : List (Str × Str) → List (Key × Value) → Prop
  | [], [] => True
  | z :: zs, u :: us => u.1 = .inr z.1 ∧ (∃ t, u.2 = .str z.2 t) ∧ Ku zs us
  | _, _ => False
theorem AllC.len : ∀ {ps : List (Sem Value × Sem Value)} {zs : List (Str × Str)}, AllC P w ps zs → zs.length = ps.length
  | [], [], _ => rfl
  | _ :: _, _ :: _, h => by rw [List.length_cons, List.length_cons, AllC.len h.2.2]
  | [], _ :: _, h => h.elim
  | _ :: _, [], h => h.elim
theorem Ku.len : ∀ {zs : List (Str × Str)} {us : List (Key × Value)}, Ku zs us → us.length = zs.length
  | [], [], _ => rfl
  | _ :: _, _ :: _, h => by rw [List.length_cons, List.length_cons, Ku.len h.2.2]
  | [], _ :: _, h => h.elim
  | _ :: _, [], h => h.elim
theorem isStrOf_self (z : Str) (t : Tok) : keyIs (.inr z) (.str z t) = true := by
  show Value.isStrOf z (.str z t) = true
  simp [Value.isStrOf]
theorem one_by_one {d : Addr} (f : Sem Value × Sem Value → PUnit → Sem (ForInStep PUnit))
    (hf : ∀ p u, f p u = (do let kv ← p.1; let vv ← holding [kv] p.2; holding [kv, vv] (dictSet d kv vv); pure (ForInStep.yield PUnit.unit))) :
    ∀ (ps : List (Sem Value × Sem Value)) (zs : List (Str × Str)) (acc : List (Key × Value)) (s : Shared) (Q : PUnit → Shared → Prop), AllC P w ps zs → s.heap.DictOf (kd P w) d acc → acc.length + zs.length ≤ sizeLine →
    (∀ h' k us, Ku zs us → h'.DictOf (kd P w) d (merged acc us) → Heap.SameBut d s.heap h' → Q PUnit.unit { s with heap := h', toks := k }) → wpAny (model P w) A (forIn ps PUnit.unit f) Q E s
  | [], [], acc, s, Q, _, D, _, q => by
    rw [List.forIn_nil]
    exact wpAny_pure (q s.heap s.toks [] trivial (by simpa [merged] using D) (Heap.SameBut.refl _ _))
  | p :: ps, z :: zs, acc, s, Q, c, D, few, q => by
    rw [List.length_cons] at few
    rw [List.forIn_cons, hf]
    refine wpAny_bind (wpAny_bind (c.1 _ _ _ _ fun t1 k1 => ?_))
    refine wpAny_bind (wpAny_holding (c.2.1 _ _ _ _ fun t2 k2 => ?_))
    refine wpAny_bind (wpAny_holding (wpAny_dictSet_pairs (knd := kd P w) (k := .inr z.1) (kvs := acc) (hsz := by omega) (isStrOf_self z.1 t1) D fun h1 D1 s1 => ?_))
    refine wpAny_pure ?_
    refine one_by_one f hf ps zs (stored acc (.inr z.1) (.str z.2 t2)) _ Q c.2.2 D1 (by have e := stored_length_le acc (.inr z.1) (Value.str z.2 t2); omega) fun h' k us r D' s' => ?_
    exact q h' k ((.inr z.1, .str z.2 t2) :: us) ⟨rfl, ⟨t2, rfl⟩, r⟩ (by simpa [merged] using D') (s1.trans s')
  | [], _ :: _, _, _, _, c, _, _, _ => c.elim
  | _ :: _, [], _, _, _, c, _, _, _ => c.elim
theorem sub_long {ps : List (Sem Value × Sem Value)} {zs : List (Str × Str)} {Q : Addr → Shared → Prop} (hl : ¬ ps.length ≤ 15) (few : ps.length ≤ 64) (c : AllC P w ps zs)
    (q : ∀ h' k us, Ku zs us → h'.DictOf (kd P w) s.heap.objs.size (merged [] us) → Heap.SameBut s.heap.objs.size (s.heap.push { cls := .type "dict", data := .dict #[] }) h' → Q s.heap.objs.size { s with heap := h', toks := k }) : wpAny (model P w) A (subDict ps) Q E s := by
  have z := c.len
  unfold subDict
  refine wpAny_bind (wpAny_alloc ?_)
  refine wpAny_bind (wpAny_holding ?_)
  rw [if_neg hl]
  refine wpAny_bind (wpAny_rule ?_)
  refine wpAny_bind (one_by_one _ (fun p u => rfl) ps zs [] _ _ c (Heap.DictOf.new (knd := kd P w) s.heap) (by rw [sizeLine_eq, List.length_nil]; omega) fun h' k us r D' s' => ?_)
  exact wpAny_pure (wpAny_pure (q h' k us r D' s'))
theorem all_made : ∀ (ps : List (Sem Value × Sem Value)) (zs : List (Str × Str)) (s : Shared) (Q : List (Value × Value) → Shared → Prop), AllC P w ps zs →
    (∀ vs us k, Ku zs us → Carries (kd P w) vs us → Q vs { s with toks := k }) → wpAny (model P w) A (evalPairs ps) Q E s
  | [], [], s, Q, _, q => evalPairs_nil (q [] [] s.toks trivial trivial)
  | p :: ps, z :: zs, s, Q, c, q => evalPairs_cons (c.1 _ _ _ _ fun t1 k1 => c.2.1 _ _ _ _ fun t2 k2 => all_made ps zs _ _ c.2.2 fun vs us k r cr =>
      q ((.str z.1 t1, .str z.2 t2) :: vs) ((.inr z.1, .str z.2 t2) :: us) k ⟨rfl, ⟨t2, rfl⟩, r⟩ ⟨isStrOf_self z.1 t1, rfl, cr⟩)
  | [], _ :: _, _, _, c, _ => c.elim
  | _ :: _, [], _, _, c, _ => c.elim
theorem sub_short {ps : List (Sem Value × Sem Value)} {zs : List (Str × Str)} {Q : Addr → Shared → Prop} (hl : ps.length ≤ 15) (c : AllC P w ps zs)
    (q : ∀ h' k us, Ku zs us → h'.DictOf (kd P w) s.heap.objs.size (merged [] us) → Heap.SameBut s.heap.objs.size (s.heap.push { cls := .type "dict", data := .dict #[] }) h' → Q s.heap.objs.size { s with heap := h', toks := k }) : wpAny (model P w) A (subDict ps) Q E s :=
  wpAny_subDict (knd := kd P w) hl (all_made ps zs _ _ c fun vs us k r cr => ⟨us, cr, Heap.DictOf.new (knd := kd P w) s.heap, fun h' D' s' => q h' _ us r D' s'⟩)
/-- seventeen pairs and some more -/
theorem gather (f : (Option (Sem Value) × Sem Value) → (Option Addr × List (Sem Value × Sem Value)) → Sem (ForInStep (Option Addr × List (Sem Value × Sem Value)))) (m : Option Addr)
    (hf : ∀ (p : Sem Value × Sem Value) (run : List (Sem Value × Sem Value)), run.length + 1 < 17 → f (some p.1, p.2) (m, run) = pure (.yield (m, run ++ [p]))) :
    ∀ (items run : List (Sem Value × Sem Value)) (rest : List (Option (Sem Value) × Sem Value)), run.length + items.length < 17 → forIn ((items.map fun p => (some p.1, p.2)) ++ rest) (m, run) f = forIn rest (m, run ++ items) f
  | [], run, rest, _ => by simp
  | p :: items, run, rest, h => by
    rw [List.length_cons] at h
    rw [List.map_cons, List.cons_append, List.forIn_cons, hf p run (by omega), pure_bind]
    have := gather f m hf items (run ++ [p]) rest (by simp; omega)
    simpa using this
theorem two_lots (a : List (Sem Value × Sem Value)) (p : Sem Value × Sem Value) (b : List (Sem Value × Sem Value)) (ha : a.length = 16) (h0 : b ≠ []) (hb : b.length < 17) :
    dictDisplay ((a ++ p :: b).map fun p => (some p.1, p.2)) = (do
      let d ← subDict (a ++ [p])
      let sub ← holding [.ref d] (subDict b)
      (holding [.ref d, .ref sub] (mergeMapping d (.ref sub) false)).onRaise fun x => do let _ ← holding [.ref d, x] (runValue (.builtin "proto.let_go" {}))
      pure (.ref d)) := by
  unfold dictDisplay
  dsimp only
  rw [List.map_append]
  rw [gather _ none (fun p run h => by
    have hne : ((run ++ [(p.1, p.2)]).length == 17) = false := by simp; omega
    simp only [hne, Bool.false_eq_true, if_false]) a [] _ (by simp; omega)]
  simp only [List.nil_append]
  rw [List.map_cons, List.forIn_cons]
  have full : ((a ++ [(p.1, p.2)]).length == 17) = true := by simp [ha]
  simp only [full, if_true]
  have e1 : (a ++ [(p.1, p.2)]).isEmpty = false := by simp
  have e2 : b.isEmpty = false := by cases b <;> simp_all
  simp only [e1, Bool.false_eq_true, if_false, bind_assoc, pure_bind]
  refine congrArg (subDict (a ++ [p]) >>= ·) (funext fun d => ?_)
  rw [← List.append_nil (b.map fun p => (some p.1, p.2))]
  rw [gather _ (some d) (fun p run h => by
    have hne : ((run ++ [(p.1, p.2)]).length == 17) = false := by simp; omega
    simp only [hne, Bool.false_eq_true, if_false]) b [] [] (by simpa using hb)]
  simp only [List.nil_append, List.forIn_nil, pure_bind, e2, Bool.false_eq_true, if_false, bind_assoc]
theorem AllC.split : ∀ {a b : List (Sem Value × Sem Value)} {zs : List (Str × Str)}, AllC P w (a ++ b) zs → ∃ z1 z2, zs = z1 ++ z2 ∧ AllC P w a z1 ∧ AllC P w b z2
  | [], b, zs, h => ⟨[], zs, rfl, trivial, h⟩
  | p :: a, b, z :: zs, h => by
    obtain ⟨z1, z2, rfl, h1, h2⟩ := AllC.split (a := a) h.2.2
    exact ⟨z :: z1, z2, rfl, ⟨h.1, h.2.1, h1⟩, h2⟩
  | _ :: _, _, [], h => h.elim
theorem Ku.keys : ∀ {zs : List (Str × Str)} {us : List (Key × Value)}, Ku zs us → us.map (·.1) = zs.map fun z => Sum.inr z.1
  | [], [], _ => rfl
  | z :: zs, u :: us, h => by rw [List.map_cons, List.map_cons, h.1, Ku.keys h.2.2]
  | [], _ :: _, h => h.elim
  | _ :: _, [], h => h.elim
theorem Ku.app : ∀ {z1 z2 : List (Str × Str)} {u1 u2 : List (Key × Value)}, Ku z1 u1 → Ku z2 u2 → Ku (z1 ++ z2) (u1 ++ u2)
  | [], z2, [], u2, _, h => h
  | z :: z1, z2, u :: u1, u2, h, h' => ⟨h.1, h.2.1, Ku.app h.2.2 h'⟩
  | [], _, _ :: _, _, h, _ => h.elim
  | _ :: _, _, [], _, h, _ => h.elim
/-- a display of more than seventeen pairs of texts -/
theorem wp_long {env : PySem.Env} {keys : List (Option Expr)} {values : List Expr} {pos : Pos} {a b : List (Sem Value × Sem Value)} {p : Sem Value × Sem Value} {zs : List (Str × Str)} {Q : Value → Shared → Prop}
    (shape : (evalEachOpt keys env).zip ((evalEach values env).map fun v => do let x ← v; standAt pos; pure x) = (a ++ p :: b).map fun p => (some p.1, p.2)) (ha : a.length = 16) (h0 : b ≠ []) (hb : b.length ≤ 15)
    (c : AllC P w (a ++ p :: b) zs) (nd : (zs.map fun z => (Sum.inr z.1 : Key)).Nodup) (low : sysModules < s.heap.objs.size)
    (q : ∀ h' k us, Ku zs us → h'.DictOf (kd P w) s.heap.objs.size us → (∀ x o, s.heap.get? x = some o → h'.get? x = some o) → Q (.ref s.heap.objs.size) { s with heap := h', toks := k }) : wpAny (model P w) A (eval (.Dict keys values pos) env) Q E s := by
  rw [arm_eval_Dict, shape, two_lots a p b ha h0 (by omega)]
  refine wpAny_bind (wpAny_standAt ?_)
  have c' : AllC P w ((a ++ [p]) ++ b) zs := by simpa using c
  obtain ⟨z1, z2, rfl, c1, c2⟩ := c'.split
  have l1 := c1.len
  have l2 := c2.len
  have la : (a ++ [p]).length = 17 := by simp [ha]
  refine wpAny_bind (sub_long (by omega) (by omega) c1 fun h1 k1 u1 r1 D1 s1 => ?_)
  have keep1 : ∀ x o, s.heap.get? x = some o → h1.get? x = some o := fun x o e => by
    have e1 : (s.heap.push { cls := .type "dict", data := .dict #[] }).get? x = some o := Heap.get?_push_of_some _ e
    rw [s1.2 x (Nat.ne_of_lt (Heap.lt_size e))]
    exact e1
  have n1 : (u1.map (·.1)).Nodup := by
    rw [r1.keys]
    rw [List.map_append] at nd
    exact (List.nodup_append.mp nd).1
  have n2 : z2.map (fun z => (Sum.inr z.1 : Key)) |>.Nodup := by
    rw [List.map_append] at nd
    exact (List.nodup_append.mp nd).2.1
  rw [merged_nil_of_nodup u1 n1] at D1
  have len1 := r1.len
  refine wpAny_bind (wpAny_holding (sub_short hb c2 fun h2 k2 u2 r2 D2 s2 => ?_))
  have len2 := r2.len
  have m2 : (u2.map (·.1)).Nodup := by rw [r2.keys]; exact n2
  rw [merged_nil_of_nodup u2 m2] at D2
  have size1 : h1.objs.size = s.heap.objs.size + 1 := by
    rw [s1.1]
    exact Array.size_push _
  have keep2 : ∀ x o, h1.get? x = some o → h2.get? x = some o := fun x o e => by
    have e1 : (h1.push { cls := .type "dict", data := .dict #[] }).get? x = some o := Heap.get?_push_of_some _ e
    rw [s2.2 x (Nat.ne_of_lt (Heap.lt_size e))]
    exact e1
  have ne : s.heap.objs.size ≠ h1.objs.size := by omega
  have D3 : h2.DictOf (kd P w) s.heap.objs.size u1 := D1.keep keep2
  refine wpAny_bind (wpAny_onRaise (wpAny_holding (merge_at ne (beq_eq_false_iff_ne.mpr (Ne.symm (Nat.ne_of_lt (Nat.lt_trans low (show s.heap.objs.size < h1.objs.size by omega))))) D3 D2 (fun e => ?_) (fun h3 D4 s3 => ?_) (by rw [sizeLine_eq]; omega))))
  · rw [e] at len1
    simp at len1
    omega
  · rw [merged_append_of_fresh u1 u2 (by rw [List.map_append, r1.keys, r2.keys, ← List.map_append]; exact nd)] at D4
    refine wpAny_pure (q h3 _ (u1 ++ u2) (r1.app r2) D4 fun x o e => ?_)
    rw [s3.2 x (Nat.ne_of_lt (Heap.lt_size e))]
    exact keep2 x o (keep1 x o e)
end
end Lin

set_option Elab.async false
set_option linter.all false
set_option maxRecDepth 100000
set_option maxHeartbeats 4000000
/-! Lin, part Td: tuple(d), d a dict. -/
namespace Lin
open PySem L2 PySem.W
section
variable {prog : Program} {w : World} {A : Around} {E : Value → Shared → Prop} {s : Shared} {T : String} {r d : Addr} {n : Nat} {Pv : Nat → Value → Prop} {OK : Heap → Prop}
theorem collect_kdl {Q : List Value → Shared → Prop} (K : KdlSrc prog w T r d n Pv OK) (hh : A.handled = none) (ok : OK s.heap) (few : n ≤ sizeLine)
    (q : ∀ (h' : Heap) (k : Nat) (acc : Array Value), (∀ b o, s.heap.get? b = some o → h'.get? b = some o) → ItemsOf Pv acc n → Q acc.toList { s with heap := h', toks := k }) : wpAny (model prog w) A (collect (.ref r)) Q E s := by
  unfold collect; refine wpAny_bind (wpAny_runValue (codeAny_builtin F.entry_proto_collect ?_)); rw [Around.under_plainId F.plain_proto_collect _]
  show wpAny _ A.in1 (newList [] >>= fun l => again (.builtin "list.__iadd__" ⟨[l, Value.ref r], []⟩)) _ _ s
  refine wpAny_bind (wpAny_newObj_type ?_); refine wpAny_pure ⟨plainId_quiet F.plain_list_iadd _, codeAny_builtin F.entry_list_iadd ?_⟩; rw [Around.under_plainId F.plain_list_iadd _]
  show wpAny _ A.in1 (Builtin.List.listExtendWith (.ref s.heap.objs.size) (Value.ref r) (.ref s.heap.objs.size)) _ _ _
  have new : (s.heap.push { cls := .type "list", data := .seq ([] : List Value).toArray }).get? s.heap.objs.size = some { cls := .type "list", data := .seq #[] 0 } := Heap.get?_push_size _ rfl
  have there := K.there _ ok
  have ok2 : OK (s.heap.push { cls := .type "list", data := .seq ([] : List Value).toArray }) := K.keep _ _ ok fun b _ o e => Heap.get?_push_of_some _ e
  refine wpAny_mono (kdl_extend (A := A) (R := fun rr s' => rr = .ok (.ret (.ref s.heap.objs.size)) ∧ ∃ (h' : Heap) (k : Nat) (acc : Array Value) (c' : Nat), s' = { s with heap := h', toks := k } ∧
      (∀ b o, s.heap.get? b = some o → h'.get? b = some o) ∧ h'.get? s.heap.objs.size = some { cls := .type "list", dict := none, data := .seq acc c', slots := #[] } ∧ ItemsOf Pv acc n)
    (s := { s with heap := s.heap.push { cls := .type "list", data := .seq ([] : List Value).toArray } }) K hh ok2 s.heap.objs.size (Nat.ne_of_gt there.1) (Nat.ne_of_gt there.2) (.ref s.heap.objs.size) 0 new
    (fun h' k acc c' hk e hi => ⟨rfl, h', k, acc, c', rfl, fun b o z => hk b o (Nat.ne_of_lt (Heap.lt_size z)) (Heap.get?_push_of_some _ z), e, hi⟩) few) (fun fin s' h => ?_) (fun e s' h => absurd h.1 (by simp))
  cases fin with
  | done f =>
    obtain ⟨e, h', k, acc, c', rfl, hk, hS, hi⟩ := h
    cases e
    show wpAny _ A (load s.heap.objs.size >>= _) _ _ _; exact wpAny_bind (wpAny_load hS (wpAny_pure (q h' k acc hk hi)))
  | again c' =>
    refine ⟨h.1, codeAny_mono h.2 fun rr s'' z => ?_⟩
    obtain ⟨rfl, h', k, acc, c', rfl, hk, hS, hi⟩ := z
    show wpAny _ A (load s.heap.objs.size >>= _) _ _ _; exact wpAny_bind (wpAny_load hS (wpAny_pure (q h' k acc hk hi)))
/-- tuple(d) -/
theorem code_tuple_kdl {Q₁ : Value → Shared → Prop} (K : KdlSrc prog w "dict" r d n Pv OK) (hh : A.handled = none) (ok : OK s.heap) (few : n ≤ sizeLine)
    (h : ∀ (h' : Heap) (k : Nat) (acc : Array Value), (∀ b o, s.heap.get? b = some o → h'.get? b = some o) → ItemsOf Pv acc n → Q₁ (.ref h'.objs.size) { s with heap := h'.push { cls := .type "tuple", data := .seq acc }, toks := k }) :
    codeAny (model prog w) A (.call (.builtin "tuple.__new__") ⟨[.type "tuple", Value.ref r], []⟩) (wants Q₁ E) s := by
  refine codeAny_of_tree ?_
  show wpAny _ A.in1 (do checkBuiltinCall "tuple.__new__" ⟨[.type "tuple", Value.ref r], []⟩; again (.builtin "tuple.__new__" ⟨[.type "tuple", Value.ref r], []⟩)) _ _ s
  refine wpAny_bind (wpAny_of_eq (F.newCall_tuple_1 _) (wpAny_pure ⟨plainId_quiet F.plain_tuple_new _, codeAny_builtin F.entry_tuple_new ?_⟩)); rw [Around.under_plainId F.plain_tuple_new _]
  have s1 := sub_tuple_self; have s2 := init_tuple_lookup; have s3 := madeHere_tuple
  have ty : s.TypeIs (.ref r) "dict" := K.type _ ok
  have hh1 : A.in1.handled = none := hh
  wp_walk using wpAny_typeOf ty, collect_kdl (A := A.in1) K hh1 ok few
  intro h' k acc hk hi
  show wpAny _ _ (Builtin.Tuple.tupleExact acc.toList.toArray >>= fun v => ret v) _ _ _
  unfold Builtin.Tuple.tupleExact
  have e : acc.toList.toArray = acc := by simp
  rw [e]
  exact wpAny_bind (wpAny_newObj_type (wpAny_pure (h h' k acc hk hi)) (by show acc.size ≤ sizeLine; rw [hi.1]; exact few))
theorem call_tuple_kdl {Q : Value → Shared → Prop} (K : KdlSrc prog w "dict" r d n Pv OK) (hh : A.handled = none) (ok : OK s.heap) (few : n ≤ sizeLine)
    (q : ∀ (h' : Heap) (k : Nat) (acc : Array Value), (∀ b o, s.heap.get? b = some o → h'.get? b = some o) → ItemsOf Pv acc n → Q (.ref h'.objs.size) { s with heap := h'.push { cls := .type "tuple", data := .seq acc }, toks := k }) : wpAny (model prog w) A (call (.type "tuple") [.ref r]) Q E s := by
  refine callType_codes (Q₁ := fun x z => z.TypeIs x "tuple" ∧ Q x z) F.called_tuple (F.typeCall_tuple_1 _) F.entry_object_init
    (code_tuple_kdl (A := A.in1) K hh ok few fun h' k acc hk hi => ⟨⟨_, Heap.get?_push_size _ rfl, rfl⟩, q h' k acc hk hi⟩) fun x z g => ?_
  exact ⟨g.1, F.args_object_init_2 x _, object_init_meets F.called_tuple.init.lookup F.called_tuple.made (by decide) prog w A.in1 _ z ⟨g.1, rfl, g.2⟩⟩
end
end Lin

set_option Elab.async false
set_option linter.all false
set_option maxRecDepth 100000
set_option maxHeartbeats 4000000
/-! Lin, part Kt: a module's dict with texts as keys. -/
namespace Lin
open PySem L2 PySem.W PySem.Spec PyProof.Rows
/-- the entries, by their texts -/
def EntsAre : List DictEntry → List (Str × Value) → Prop
  | [], [] => True
  | e :: es, p :: ps => (∃ t, e.key = .str p.1 t) ∧ e.val = p.2 ∧ EntsAre es ps
  | _, _ => False
structure KTab (K : Frag) (w : World) (d : Addr) (ps : List (Str × Value)) : Prop where
  ex : ∃ es n, KDict K w d es n ∧ EntsAre es.toList ps
  nd : (ps.map (·.1)).Nodup
section
variable {K : Frag} {w : World} {d : Addr} {ps : List (Str × Value)}
theorem ents_find (z : Str) : ∀ {es : List DictEntry} {ps : List (Str × Value)}, EntsAre es ps → (es.find? (·.key.isStr z)).map (·.val) = ps.lookup z ∧ es.any (·.refKey) = false
  | [], [], _ => ⟨rfl, rfl⟩
  | e :: es, p :: ps, h => by
    obtain ⟨⟨t, h1⟩, h2, h3⟩ := h
    obtain ⟨a, b⟩ := ents_find z h3
    obtain ⟨k, v⟩ := p
    have hs : e.key.isStr z = (z == k) := by
      rw [h1]
      show (k == z) = (z == k)
      exact BEq.comm
    refine ⟨?_, ?_⟩
    · rw [List.find?_cons, hs, List.lookup_cons]
      cases z == k with
      | true => simp [h2]
      | false => exact a
    · rw [List.any_cons, b, Bool.or_false]
      unfold DictEntry.refKey
      rw [h1]
  | [], _ :: _, h => h.elim
  | _ :: _, [], h => h.elim
theorem KTab.ns (t : KTab K w d ps) (z : Str) : nsIn K d z = some (ps.lookup z) := by
  obtain ⟨es, n, D, e⟩ := t.ex
  obtain ⟨a, b⟩ := ents_find z e
  unfold nsIn
  rw [D.at_]
  simp only [b, Bool.false_eq_true, if_false]
  rw [← a]
  cases es.toList.find? (·.key.isStr z) <;> rfl
theorem ents_len : ∀ {es : List DictEntry} {ps : List (Str × Value)}, EntsAre es ps → es.length = ps.length
  | [], [], _ => rfl
  | _ :: _, _ :: _, h => by rw [List.length_cons, List.length_cons, ents_len h.2.2]
  | [], _ :: _, h => h.elim
  | _ :: _, [], h => h.elim
theorem ents_pairs {P : Program} : ∀ {es : List DictEntry} {ps : List (Str × Value)}, EntsAre es ps → Pairs (strKind P w) es ps
  | [], [], _ => .nil
  | e :: es, p :: ps, h => by
    obtain ⟨⟨t, h1⟩, h2, h3⟩ := h
    exact .cons (by rw [h1]; exact strKind_is P w p.1 t) h2 (ents_pairs h3)
  | [], _ :: _, h => h.elim
  | _ :: _, [], h => h.elim
theorem KTab.at' {P : Program} {h : Heap} (t : KTab K w d ps) (X : K.In h) : (d == sysModules) = false ∧ ∃ n, h.DictAt (strKind P w) d ps n := by
  obtain ⟨es, n, D, e⟩ := t.ex
  refine ⟨D.low, n, _, es, X _ _ D.at_, ⟨rfl, rfl, rfl⟩, rfl, fun e' he => ?_, ents_pairs e, t.nd⟩
  obtain ⟨x, tk, e1, e2⟩ := D.lit.all e' (Array.mem_toList_iff.mpr he)
  exact ⟨x, by rw [e1]; exact strKind_is P w x tk, e2⟩
end
section
variable {X : Cx}
/-- tuple(D) -/
def rTupD (K : Frag) (w : World) : List V → Hp → VK → Prop := fun xs H Q => ∃ (d : Addr) (ps : List (Str × Value)), xs = [.ref d] ∧ KTab K w d ps ∧ ps.length ≤ sizeLine ∧ ∀ p, H p = none → Q (.ref p) (upd H p (.tup (ps.map fun q => V.str q.1)))
theorem cr_tupD (hc : X.calm = true) : CallR X (.type "tuple") (rTupD X.K X.w) := by
  intro pins s σ H xs us Q I r ⟨d, ps, e, t, few, q⟩
  subst e
  obtain ⟨u, eu, rx⟩ := vals1 r
  subst eu
  obtain rfl : u = Value.ref d := rx
  obtain ⟨lo, n, D⟩ := t.at' (P := X.prog) (h := s.heap) I.kIn
  refine call_tuple_kdl (kdl_dict (knd := strKind X.prog X.w) (kvs := ps) (ep := n) lo) (I.ok.hd hc) D few fun h' k acc hk hi => ?_
  have I1 : Inv X pins σ H { s with heap := h', toks := k } := I.kept hk
  have el : acc.toList.length = acc.size := by simp
  have rv : Vals (ps.map fun q => V.str q.1) acc.toList := vals_of_at (by rw [List.length_map, el, hi.1]) fun j x v h1 h2 => by
    obtain ⟨z, y, hz, hv⟩ := hi.2 j v (by rw [← Array.getElem?_toList]; exact h2)
    rw [List.getElem?_map, hz] at h1
    cases h1
    obtain ⟨tk, e⟩ : ∃ tk, v = Value.str z tk := by
      cases v with
      | str z' tk =>
        have e : (z' == z) = true := hv
        exact ⟨tk, by rw [eq_of_beq e]⟩
      | _ => cases hv
    exact ⟨tk, e⟩
  have I2 := I1.laid (a := h'.objs.size) (o := .tup (ps.map fun q => V.str q.1)) (h' := h'.push { cls := .type "tuple", data := .seq acc }) (t' := k) (fun b o e => Heap.get?_push_of_some _ e) (Nat.le_refl _)
    (show ObjOk X.prog X.w _ _ _ (.tup (ps.map fun q => V.str q.1)) from ⟨by rw [List.length_map]; exact few, acc.toList, rv, by rw [Array.toArray_toList]; exact IsTup.new _ _⟩)
  exact ⟨.ref h'.objs.size, _, I2, rfl, q _ (I1.hok.fresh (Nat.le_refl _))⟩
end
end Lin

set_option Elab.async false
set_option linter.all false
set_option maxRecDepth 100000
set_option maxHeartbeats 4000000
/-! Lin, part Kw: a module's dict, asked. -/
namespace Lin
open PySem L2 PySem.W PySem.SeqAt
theorem lookup_some {α : Type} (z : Str) : ∀ ps : List (Str × α), (ps.lookup z).isSome = decide (z ∈ ps.map (·.1))
  | [] => rfl
  | (k, v) :: ps => by
    rw [List.lookup_cons, List.map_cons]
    by_cases h : z = k
    · subst h
      simp
    · have e : (z == k) = false := by simpa using h
      rw [e]
      simp only [lookup_some z ps, List.mem_cons, h, false_or]
section
variable {X : Cx} {cl : Nat → List W → Option (List W × W)}
theorem inK_imp {no : Bool} {m : Ex} {d : Addr} {ps : List (Str × Value)} (D : KTab X.K X.w d ps) {σ : L2.St} {H : Hp} {Q : VK} (h : TV X cl (.inK no m (ps.map (·.1))) σ H Q) :
    L2.tOp (fun x y H Q => ∃ (z : Str) (r : Option Value), x = .str z ∧ y = .ref d ∧ nsIn X.K d z = some r ∧ Q (.bl (r.isSome != no)) H) (TO X cl m) (tC (.ref d)) σ H Q := by
  obtain ⟨hl, F, ρ, T, w, ρ', wd, ev, q⟩ := h
  simp only [evm] at ev
  split at ev <;> first | (cases ev; done) | skip
  rename_i o ρ1 e1
  split at ev <;> first | (cases ev; done) | skip
  rename_i s e2
  cases ev
  refine ⟨hl, F, ρ, T, o, _, wd, e1, fun F1 H1 v s1 w1 al => ?_⟩
  rw [← List.append_assoc] at w1
  obtain ⟨fp, r⟩ := opRep w1 (fun w h => by subst h; exact mem_tmp) al e2
  rw [List.append_assoc] at w1
  have hv : v = .str s := r.1
  refine ⟨s, _, hv, rfl, D.ns s, ?_⟩
  rw [lookup_some]
  exact q F1 H1 _ s1 (w1.right.add ⟨rfl, rfl⟩)
theorem op_inK {no : Bool} {d : Addr} {ps : List (Str × Value)} (D : KTab X.K X.w d ps) : OpR X (compareOp (if no then .NotIn else .In)) (fun x y H Q => ∃ (z : Str) (r : Option Value), x = .str z ∧ y = .ref d ∧ nsIn X.K d z = some r ∧ Q (.bl (r.isSome != no)) H) := by
  obtain ⟨es, n, Dk, _⟩ := D.ex
  cases no with
  | false => exact OpR_imp (op_in_kd Dk) fun x y H Q ⟨z, r, h1, h2, h3, h4⟩ => ⟨z, r, h1, h2, h3, by simpa using h4⟩
  | true => exact OpR_imp (op_notIn_kd Dk) fun x y H Q ⟨z, r, h1, h2, h3, h4⟩ => ⟨z, r, h1, h2, h3, by simpa using h4⟩
theorem snd_inK {no : Bool} {a b : Expr} {m : Ex} {d : Addr} {ps : List (Str × Value)} {pos : Pos} (D : KTab X.K X.w d ps) (ha : PE X a (TO X cl m)) (hb : PE X b (tC (.ref d))) (hm : behindInMarks (if no then .NotIn else .In) b = false) : PE X (.Compare a [if no then .NotIn else .In] [b] pos) (TV X cl (.inK no m (ps.map (·.1)))) :=
  PE_imp (pe_cmpR (op_inK D) ha hb hm) fun σ H Q h => inK_imp D h
theorem snd_inKT {no : Bool} {a b : Expr} {m : Ex} {d : Addr} {ps : List (Str × Value)} {pos : Pos} (D : KTab X.K X.w d ps) (ha : PE X a (TO X cl m)) (hb : PE X b (tC (.ref d))) (hm : behindInMarks (if no then .NotIn else .In) b = false) : PT X (.Compare a [if no then .NotIn else .In] [b] pos) (TTs X cl (.inK no m (ps.map (·.1)))) := by
  refine snd_tstB rfl (PT_imp (pt_cmpR (op_inK D) ha hb hm) fun σ H Q h => inK_imp D h) fun ρ w ρ' ev => ?_
  simp only [evm] at ev
  repeat' split at ev
  all_goals first | (cases ev; done) | (cases ev; exact ⟨_, rfl⟩)
end
end Lin

set_option Elab.async false
set_option linter.all false
set_option maxRecDepth 100000
set_option maxHeartbeats 4000000
/-! Lin, part Kx: a module's dict, indexed, and its tuple of keys. -/
namespace Lin
open PySem L2 PySem.W PySem.SeqAt
/-- what a module's dict holds, as words -/
def KHas (K : Frag) (w : World) (d : Addr) (ks : List Str) (ws : List W) : Prop :=
  ∀ z x, lookK (.inr z) (ks.map .inr) ws = some x → ∃ v, KDct K w d z v ∧ ∀ F H, Rep K F H x v []
theorem keys_rep {K : Frag} {F H : Hp} : ∀ ks : List Str, RepL K F H (ks.map fun s => W.a (.str s)) (ks.map V.str) []
  | [] => ⟨rfl, rfl⟩
  | k :: ks => ⟨.str k, ks.map V.str, [], [], rfl, rfl, ⟨rfl, rfl⟩, keys_rep ks⟩
section
variable {X : Cx} {cl : Nat → List W → Option (List W × W)}
theorem snd_subK {a i : Expr} {m : Ex} {d : Addr} {ks : List Str} {ws : List W} {pos : Pos} (kv : KHas X.K X.w d ks ws) (ha : PE X a (tC (.ref d))) (hi : PE X i (TO X cl m)) (hs : PlainIx i) : PE X (.Subscript a i pos) (TV X cl (.subK m ks ws)) := by
  refine PE_imp (pe_ix ix_kdict ha hi hs) fun σ H Q ⟨hl, F, ρ, T, w, ρ', wd, ev, q⟩ => ?_
  simp only [evm] at ev
  split at ev <;> first | (cases ev; done) | skip
  rename_i o ρ1 e1
  split at ev <;> first | (cases ev; done) | skip
  rename_i s e2
  split at ev <;> first | (cases ev; done) | skip
  rename_i x e3
  cases ev
  refine ⟨hl, F, ρ, T, o, _, wd, e1, fun F1 H1 v s1 w1 al => ?_⟩
  rw [← List.append_assoc] at w1
  obtain ⟨fp, r⟩ := opRep w1 (fun w h => by subst h; exact mem_tmp) al e2
  rw [List.append_assoc] at w1
  have hv : v = .str s := r.1
  obtain ⟨u, kd, ru⟩ := kv s w e3
  exact ⟨d, s, u, rfl, hv, kd, q F1 H1 u s1 (w1.right.add (ru _ _))⟩
theorem snd_tupK {d : Addr} {ps : List (Str × Value)} {e : Expr} {x : Str} {p pos : Pos} (hc : X.calm = true) (D : KTab X.K X.w d ps) (few : ps.length ≤ sizeLine) (hg : Gl X x) (hm : X.mg x = none) (hv : bootBuiltins x = some (.type "tuple")) (hn : x ≠ "__name__" := by decide) (hdb : (x == ("__debug__" : Str)) = false := by decide) (he : PE X e (tC (.ref d)))
    (hs : starEach [e] X.env = (false, eval e X.env) :: starEach [] X.env) (hpl : (backTo pos (starEach ([] : List Expr) X.env)).any (·.1) = false := by rfl) : PE X (.Call (.Name x p) [e] [] pos) (TV X cl (.tupK (ps.map (·.1)))) := by
  refine PE_imp (pe_callTy (cr_tupD hc) hg hm hv (pa_cons he pa_nil hs) hn hdb (he := hs) (hpl := hpl)) fun σ H Q ⟨hl, F, ρ, T, w, ρ', wd, ev, q⟩ => ?_
  simp only [evm, fin] at ev
  cases ev
  refine ⟨d, ps, rfl, D, few, fun r hr => ?_⟩
  have w1 := Wd.adds wd (keys_rep (K := X.K) (F := F) (H := H) (ps.map (·.1)))
  obtain ⟨F2, s2, w2⟩ := w1.pkT (by simp) hr
  rw [List.map_map] at w2
  exact q F2 _ _ s2 w2
end
end Lin

set_option Elab.async false
set_option linter.all false
set_option maxRecDepth 100000
set_option maxHeartbeats 4000000
/-! Lin, part Ky: a long display of texts, as a word. -/
namespace Lin
open PySem L2 PySem.W PySem.SeqAt
/-- the pairs of a long display, ours -/
def kvZ (zs : List (Str × Str)) : List (Key × V) := ((zs.map (·.1)).map Sum.inr).zip ((zs.map (·.2)).map V.str)
theorem kvZ_KV : ∀ {zs : List (Str × Str)} {us : List (Key × Value)}, Ku zs us → KV (kvZ zs) us
  | [], [], _ => .nil
  | z :: zs, (k, v) :: us, h => by
    obtain ⟨h1, ⟨t, h2⟩, h3⟩ := h
    exact .cons ⟨h1.symm, t, h2⟩ (kvZ_KV h3)
  | [], _ :: _, h => h.elim
  | _ :: _, [], h => h.elim
theorem kvZ_len (zs : List (Str × Str)) : (kvZ zs).length = zs.length := by simp [kvZ]
section
variable {X : Cx} {cl : Nat → List W → Option (List W × W)}
theorem snd_dcs {keys : List (Option Expr)} {values : List Expr} {pos : Pos} {a b : List (Sem Value × Sem Value)} {p : Sem Value × Sem Value} {zs : List (Str × Str)}
    (shape : (evalEachOpt keys X.env).zip ((evalEach values X.env).map fun v => do let x ← v; standAt pos; pure x) = (a ++ p :: b).map fun p => (some p.1, p.2)) (ha : a.length = 16) (h0 : b ≠ []) (hb : b.length ≤ 15)
    (c : AllC X.prog X.w (a ++ p :: b) zs) : PE X (.Dict keys values pos) (TV X cl (.dcs (zs.map (·.1)) (zs.map (·.2)))) := by
  refine ⟨fun pins s σ H Q I ⟨hl, F, ρ, T, w, ρ', wd, ev, q⟩ => ?_⟩
  simp only [evm] at ev
  split at ev <;> first | (cases ev; done) | skip
  rename_i hk
  simp only [fin] at ev
  cases ev
  have hz : zs.length ≤ 32 := by rw [c.len, List.length_append, List.length_cons]; omega
  have nd : (zs.map fun z => (Sum.inr z.1 : Key)).Nodup := by
    have e : (zs.map fun z => (Sum.inr z.1 : Key)) = (zs.map (·.1)).map Sum.inr := by rw [List.map_map]; rfl
    rw [e]
    exact List.Pairwise.map _ (fun x y h e => h (Sum.inr.inj e)) hk.2
  refine wp_long shape ha h0 hb c nd I.big fun h' k us r D keep => ?_
  have I1 := I.laid (a := s.heap.objs.size) (o := .dK (kvZ zs)) (h' := h') (t' := k) keep (Nat.le_refl _)
    ⟨by rw [kvZ_len, sizeLine_eq]; omega, beq_eq_false_iff_ne.mpr (Ne.symm (Nat.ne_of_lt I.big)), us, kvZ_KV r, D⟩
  have hp := I.hok.fresh (Nat.le_refl s.heap.objs.size)
  have w1 : WdA X.K s.heap.objs.size F H (prs ((zs.map (·.2)).map V.str) ((zs.map (·.2)).map fun s => W.a (.str s)) ++ (T ++ Sl σ ρ)) := (Wd.adds wd (keys_rep (K := X.K) (F := F) (H := H) (zs.map (·.2)))).opnNew (o := .dK (kvZ zs)) hp
  exact ⟨.ref s.heap.objs.size, _, I1, rfl, q F _ _ (Same.refl _) (WdA.clsD w1 (by simp) (by simp))⟩
end
end Lin

set_option Elab.async false
set_option linter.all false
set_option maxRecDepth 100000
set_option maxHeartbeats 4000000
/-! Lin, part Kz: sorted of a dict with text keys. -/
namespace Lin
open PySem L2 PySem.W PySem.SeqAt PyProof.Rows
abbrev LtS (a b : Str) : Prop := a.cps.toList < b.cps.toList
theorem ltS_anti {a b : Str} (h1 : ¬ LtS a b) (h2 : ¬ LtS b a) : a = b := by
  have e : a.cps.toList = b.cps.toList := List.le_antisymm (List.not_lt.mp h2) (List.not_lt.mp h1)
  obtain ⟨x⟩ := a
  obtain ⟨y⟩ := b
  obtain ⟨x⟩ := x
  obtain ⟨y⟩ := y
  cases e
  rfl
theorem ltS_tr {a b c : Str} (h1 : ¬ LtS b a) (h2 : ¬ LtS c b) : ¬ LtS c a :=
  fun h => List.not_lt.mpr (List.le_trans (List.not_lt.mp h1) (List.not_lt.mp h2)) h
theorem rising_pw : ∀ (p : Str) (l : List Str), risingS p l = true → (p :: l).Pairwise fun a b => ¬ LtS b a
  | p, [], _ => List.pairwise_singleton _ _
  | p, x :: r, h => by
    unfold risingS at h
    rw [Bool.and_eq_true] at h
    have h1 : ¬ LtS x p := by
      have e := h.1
      rw [ltCps_eq] at e
      simpa using e
    have ih := rising_pw x r h.2
    refine List.pairwise_cons.mpr ⟨fun y hy => ?_, ih⟩
    rcases List.mem_cons.mp hy with rfl | hy
    · exact h1
    · exact ltS_tr h1 ((List.pairwise_cons.mp ih).1 y hy)
theorem sorted_pw : ∀ {l : List Str}, sortedS l = true → l.Pairwise fun a b => ¬ LtS b a
  | [], _ => .nil
  | x :: r, h => rising_pw x r h
theorem insS_perm (s : Str) : ∀ l : List Str, (insS s l).Perm (s :: l)
  | [] => List.Perm.refl _
  | t :: r => by
    unfold insS
    split
    · exact ((insS_perm s r).cons t).trans (List.Perm.swap s t r)
    · exact List.Perm.refl _
theorem insS_pw (s : Str) : ∀ {l : List Str}, (l.Pairwise fun a b => ¬ LtS b a) → (insS s l).Pairwise fun a b => ¬ LtS b a
  | [], _ => List.pairwise_singleton _ _
  | t :: r, h => by
    obtain ⟨h1, h2⟩ := List.pairwise_cons.mp h
    unfold insS
    split
    · rename_i c
      refine List.pairwise_cons.mpr ⟨fun y hy => ?_, insS_pw s h2⟩
      rcases List.mem_cons.mp ((insS_perm s r).mem_iff.mp hy) with rfl | hy
      · exact fun d => List.lt_asymm (of_decide_eq_true c) d
      · exact h1 y hy
    · rename_i c
      have c' : ¬ LtS t s := fun d => c (decide_eq_true d)
      refine List.pairwise_cons.mpr ⟨fun y hy => ?_, h⟩
      rcases List.mem_cons.mp hy with rfl | hy
      · exact c'
      · exact ltS_tr c' (h1 y hy)
theorem sortS_perm : ∀ l : List Str, (sortS l).Perm l
  | [] => List.Perm.refl _
  | s :: r => (insS_perm s _).trans ((sortS_perm r).cons s)
theorem sortS_pw : ∀ l : List Str, (sortS l).Pairwise fun a b => ¬ LtS b a
  | [] => .nil
  | s :: r => insS_pw s (sortS_pw r)
theorem pw_uniq : ∀ {a b : List Str}, a.Perm b → (a.Pairwise fun a b => ¬ LtS b a) → (b.Pairwise fun a b => ¬ LtS b a) → a = b
  | [], b, p, _, _ => p.nil_eq
  | x :: a, [], p, _, _ => p.eq_nil
  | x :: a, y :: b, p, ha, hb => by
    obtain ⟨a1, a2⟩ := List.pairwise_cons.mp ha
    obtain ⟨b1, b2⟩ := List.pairwise_cons.mp hb
    have e : x = y := by
      rcases List.mem_cons.mp (p.mem_iff.mp (List.mem_cons_self (a := x) (l := a))) with h | h
      · exact h
      · rcases List.mem_cons.mp (p.mem_iff.mpr (List.mem_cons_self (a := y) (l := b))) with g | g
        · exact g.symm
        · exact ltS_anti (b1 x h) (a1 y g)
    subst e
    rw [pw_uniq (List.Perm.cons_inv p) a2 b2]
theorem sort_uniq {ys ks : List Str} (p : ys.Perm ks) (h : sortedS ys = true) : ys = sortS ks :=
  pw_uniq (p.trans (sortS_perm ks).symm) (sorted_pw h) (sortS_pw ks)
theorem keysS_map : ∀ {ks : List Key} {ss : List Str}, keysS ks = some ss → ks = ss.map Sum.inr
  | [], ss, h => by cases h; rfl
  | .inr s :: r, ss, h => by
    unfold keysS at h
    rw [Option.map_eq_some_iff] at h
    obtain ⟨r', e, rfl⟩ := h
    rw [List.map_cons, ← keysS_map e]
  | .inl _ :: _, _, h => by cases h
section
variable {X : Cx}
theorem bi_sorted (hc : X.calm = true) : CallR X (.builtin "sorted") (rBi X.K .sorted) := by
  refine CallR.imp (call_sortedD hc) fun vs H Q ⟨F, ws, w, sF, rp, fz, hb, d⟩ => ?_
  unfold biW at hb
  split at hb <;> first | (cases hb; done) | skip
  all_goals (rename_i hbi; first | (cases hbi; done) | skip)
  rename_i m ks xs
  split at hb <;> first | (cases hb; done) | skip
  rename_i ss hk
  split at hb <;> first | (cases hb; done) | skip
  rename_i h64
  cases hb
  obtain ⟨v, fp, rfl, r⟩ := reps1 rp
  obtain ⟨a, us, g, rfl, h, hl, r1⟩ := r.dctH sF
  refine ⟨a, ks.zip us, ss, rfl, Rd.of h, ?_, h64, fun ys p hp hs hn => ?_⟩
  · rw [List.map_fst_zip (by omega)]
    exact keysS_map hk
  · rw [sort_uniq hp hs]
    exact d.lst sF (keys_rep (sortS ss)) rfl hn
end
end Lin

set_option Elab.async false
set_option linter.all false
set_option maxRecDepth 100000
set_option maxHeartbeats 4000000
/-! Lin, part Ks: a long display of texts, checked. -/
namespace Lin
open PySem L2 PySem.W PySem.SeqAt
def conS (e : Expr) (z : Str) : Bool := match e with
  | .Constant (.str y) _ _ => decide (y = z)
  | _ => false
def ckPz : List (Option Expr) → List Expr → List (Str × Str) → Bool
  | [], [], [] => true
  | some k :: ks, v :: vs, z :: zs => conS k z.1 && conS v z.2 && ckPz ks vs zs
  | _, _, _ => false
section
variable {P : Program} {w : World} {env : PySem.Env} {pos : Pos}
theorem conS_is {e : Expr} {z : Str} (h : conS e z = true) : IsC P w (eval e env) z := by
  unfold conS at h
  split at h
  · rename_i y k p
    cases of_decide_eq_true h
    intro A E s Q q
    exact wpAny_Constant_str (q _ _)
  · cases h
theorem ckPz_ok : ∀ {ks : List (Option Expr)} {vs : List Expr} {zs : List (Str × Str)}, ckPz ks vs zs = true →
    ∃ ps, (evalEachOpt ks env).zip ((evalEach vs env).map fun v => do let x ← v; standAt pos; pure x) = ps.map (fun p => (some p.1, p.2)) ∧ AllC P w ps zs
  | [], [], [], _ => ⟨[], rfl, trivial⟩
  | some k :: ks, v :: vs, z :: zs, h => by
    unfold ckPz at h
    rw [Bool.and_eq_true, Bool.and_eq_true] at h
    obtain ⟨ps, e, c⟩ := ckPz_ok h.2
    refine ⟨(eval k env, do let x ← eval v env; standAt pos; pure x) :: ps, ?_, conS_is h.1.1, fun A E s Q q => wpAny_bind (conS_is h.1.2 A E s _ fun t k => wpAny_bind (wpAny_standAt (wpAny_pure (q t k)))), c⟩
    rw [List.map_cons, ← e]
    rfl
  | [], [], _ :: _, h => by cases h
  | [], _ :: _, _, h => by cases h
  | none :: _, _, _, h => by cases h
  | some _ :: _, [], _, h => by cases h
  | some _ :: _, _ :: _, [], h => by cases h
end
section
variable {X : Cx} {cl : Nat → List W → Option (List W × W)}
def ckDcB (e : Expr) (ks vs : List Str) : Bool := match e with
  | .Dict keys values _ => decide (ks.length = vs.length) && decide (18 ≤ ks.length) && decide (ks.length ≤ 32) && ckPz keys values (ks.zip vs)
  | _ => false
theorem ckDcB_ok {e : Expr} {ks vs : List Str} (h : ckDcB e ks vs = true) : PE X e (TV X cl (.dcs ks vs)) ∧ ∃ keys values pos, e = .Dict keys values pos := by
  unfold ckDcB at h
  split at h
  · rename_i keys values pos
    simp only [Bool.and_eq_true, decide_eq_true_eq] at h
    obtain ⟨⟨⟨h1, h2⟩, h3⟩, h4⟩ := h
    refine ⟨?_, _, _, _, rfl⟩
    obtain ⟨ps, e1, c⟩ := ckPz_ok (P := X.prog) (w := X.w) (env := X.env) (pos := pos) h4
    have hl := c.len
    rw [List.length_zip, ← h1, Nat.min_self] at hl
    have hp : 16 < ps.length := by omega
    have split : ps = ps.take 16 ++ ps[16] :: ps.drop 17 := by
      rw [← List.drop_eq_getElem_cons hp, List.take_append_drop]
    rw [split] at e1 c
    have r := snd_dcs (X := X) (cl := cl) e1 (by rw [List.length_take]; omega) (fun q => by
      have := congrArg List.length q
      rw [List.length_drop, List.length_nil] at this
      omega) (by rw [List.length_drop]; omega) c
    rw [List.map_fst_zip (by omega), List.map_snd_zip (by omega)] at r
    exact r
  · cases h
end
end Lin

set_option Elab.async false
set_option linter.all false
set_option maxRecDepth 100000
set_option maxHeartbeats 4000000
/-! Lin, part Kh: what a module's dict holds, told thing by thing. -/
namespace Lin
open PySem L2 PySem.W
def RepsAre (K : Frag) : List (Str × Value) → List W → Prop
  | [], [] => True
  | p :: ps, x :: ws => (∃ v, RelV v p.2 ∧ ∀ F H : Hp, Rep K F H x v []) ∧ RepsAre K ps ws
  | _, _ => False
theorem reps_look {K : Frag} {z : Str} {x : W} : ∀ {ps : List (Str × Value)} {ws : List W}, RepsAre K ps ws → lookK (.inr z) ((ps.map (·.1)).map .inr) ws = some x → ∃ u v, ps.lookup z = some u ∧ RelV v u ∧ ∀ F H : Hp, Rep K F H x v []
  | [], [], _, e => by cases e
  | p :: ps, y :: ws, h, e => by
    obtain ⟨⟨v, h1, h2⟩, h3⟩ := h
    obtain ⟨k, u⟩ := p
    simp only [List.map_cons, lookK] at e
    rw [List.lookup_cons]
    by_cases hk : k = z
    · subst hk
      rw [if_pos rfl] at e
      cases e
      exact ⟨u, v, by simp, h1, h2⟩
    · rw [if_neg (fun q => hk (Sum.inr.inj q))] at e
      have e2 : (z == k) = false := by simpa using fun q : z = k => hk q.symm
      rw [e2]
      exact reps_look h3 e
  | [], _ :: _, h, _ => h.elim
  | _ :: _, [], h, _ => h.elim
theorem khas_of {K : Frag} {w : World} {d : Addr} {ps : List (Str × Value)} {ws : List W} (t : KTab K w d ps) (h : RepsAre K ps ws) : KHas K w d (ps.map (·.1)) ws := fun z x e => by
  obtain ⟨u, v, h1, h2, h3⟩ := reps_look h e
  obtain ⟨es, n, D, _⟩ := t.ex
  exact ⟨v, ⟨es, n, u, D.at_, D.lit, by rw [t.ns z, h1], h2⟩, h3⟩
end Lin

set_option Elab.async false
set_option linter.all false
set_option maxRecDepth 100000
set_option maxHeartbeats 4000000
/-! Lin, part Mg: methods of dicts. -/
namespace Lin
open PySem L2 PySem.SeqAt
section
variable {X : Cx}
/-- d.get(k) -/
theorem mt_dget1 (hu : X.A.units + 64 < cLine) : MtR X "dict.get" (fun x xs H Q => ∃ (a : Addr) (y : V) (o : Option V), x = .ref a ∧ xs = [y] ∧ DGet H a y o ∧ Q (o.getD .non) H) := by
  intro pins s σ H x xs v us Q I rx rxs ⟨a, y, o, e1, e2, g, q⟩
  subst e1 e2
  cases rx
  obtain ⟨u, eu, ru⟩ := vals1 rxs
  subst eu
  exact d_get1 (by omega) I g ru fun w' s3 I3 rw' => ⟨_, H, I3, rw', q⟩
/-- d.get(k, z) -/
theorem mt_dget2 (hu : X.A.units + 64 < cLine) : MtR X "dict.get" (fun x xs H Q => ∃ (a : Addr) (y z : V) (o : Option V), x = .ref a ∧ xs = [y, z] ∧ DGet H a y o ∧ Q (o.getD z) H) := by
  intro pins s σ H x xs v us Q I rx rxs ⟨a, y, z, o, e1, e2, g, q⟩
  subst e1 e2
  cases rx
  obtain ⟨u, u2, eu, ru, ru2⟩ := vals2 rxs
  subst eu
  exact d_get2 (by omega) I g ru ru2 fun w' s3 I3 rw' => ⟨_, H, I3, rw', q⟩
theorem lookup_no {k : Key} : ∀ {ks : List Key} {vs : List V} {xs : List W}, vs.length = xs.length → lookK k ks xs = none → valV (ks.zip vs) k = none
  | [], vs, xs, hl, e => rfl
  | k' :: ks, [], xs, hl, e => rfl
  | k' :: ks, v :: vs, [], hl, e => by simp at hl
  | k' :: ks, v :: vs, x :: xs, hl, e => by
    unfold lookK at e
    by_cases hk : k' = k
    · rw [if_pos hk] at e; cases e
    · rw [if_neg hk] at e
      rw [List.zip_cons_cons, valV_neg (p := (k', v)) hk]
      exact lookup_no (by simpa using hl) e
/-- what get tells -/
theorem get_rep {K : PySem.W.Frag} {F H : Hp} {ks : List Key} {vs : List V} {xs : List W} {g : List Addr} {k : Key} {z : V} {wz : W} (hk : ks.length = vs.length) (r : RepL K F H xs vs g) (hf : fzL xs = true) (rz : Rep K F H wz z []) :
    Rep K F H ((lookK k ks xs).getD wz) ((valV (ks.zip vs) k).getD z) [] := by
  cases e : lookK k ks xs with
  | none =>
    rw [lookup_no (RepL.length _ r) e]
    exact rz
  | some w =>
    obtain ⟨v, g2, e1, r3, hm⟩ := lookup_valV hk r e
    rw [e1]
    have := Rep.fz w (fzL_mem hf hm) r3
    subst this
    exact r3
theorem mtr_get (hu : X.A.units + 64 < cLine) : MtR X "dict.get" (rMt X.K .get) := by
  refine MtR.imp (MtR.or (mt_dget1 hu) (mt_dget2 hu)) fun x xs H Q ⟨F, L, w, ws, r, w', wd, hl, e, q⟩ => ?_
  unfold mtW at e
  split at e <;> first | (cases e; done) | skip
  all_goals (rename_i hm; first | (cases hm; done) | skip)
  · rename_i b ks ys y
    split at e
    · rename_i hf
      split at e
      · rename_i k hk
        cases e
        obtain ⟨v, rfl, e2⟩ := prs1 hl
        rw [e2] at wd
        obtain ⟨fp, r1⟩ := wd.rep List.mem_cons_self
        obtain ⟨fy, r2⟩ := wd.rep (List.mem_cons_of_mem _ List.mem_cons_self)
        obtain ⟨a, vs, g, rfl, h, hkv, rl⟩ := r1.dctH wd.same
        refine .inl ⟨a, v, valV (ks.zip vs) k, rfl, rfl, by rw [keyW_V r2 hk]; exact DGet.k h, ?_⟩
        exact q _ _ _ (Same.refl _) ((Wd.drop2 wd).add (get_rep hkv rl hf ⟨rfl, rfl⟩))
      · cases e
    · cases e
  · rename_i b ks ys y z
    split at e
    · rename_i hf
      rw [Bool.and_eq_true] at hf
      split at e
      · rename_i k hk
        cases e
        obtain ⟨v, v', rfl, e2⟩ := prs2 hl
        rw [e2] at wd
        obtain ⟨fp, r1⟩ := wd.rep List.mem_cons_self
        obtain ⟨fy, r2⟩ := wd.rep (List.mem_cons_of_mem _ List.mem_cons_self)
        obtain ⟨fz, r3⟩ := wd.rep (List.mem_cons_of_mem _ (List.mem_cons_of_mem _ List.mem_cons_self))
        have ez := Rep.fz z hf.2 r3
        subst ez
        obtain ⟨a, vs, g, rfl, h, hkv, rl⟩ := r1.dctH wd.same
        refine .inr ⟨a, v, v', valV (ks.zip vs) k, rfl, rfl, by rw [keyW_V r2 hk]; exact DGet.k h, ?_⟩
        exact q _ _ _ (Same.refl _) ((Wd.drop2 (Wd.drop2 wd)).add (get_rep hkv rl hf.1 r3))
      · cases e
    · cases e

/-! ### update -/
def putAll (kvs more : List (Key × V)) : List (Key × V) := more.foldl (fun t p => putK t p.1 p.2) kvs
theorem kv_merged : ∀ {more : List (Key × V)} {ms : List (Key × Value)} {kvs : List (Key × V)} {vs : List (Key × Value)}, KV kvs vs → KV more ms → KV (putAll kvs more) (merged vs ms)
  | _, _, kvs, vs, r, .nil => r
  | p :: more, q :: ms, kvs, vs, r, .cons h t => by
    show KV (putAll (putK kvs p.1 p.2) more) (merged (stored vs q.1 q.2) ms)
    refine kv_merged ?_ t
    rw [← h.1]
    exact r.put p.1 h.2
theorem valV_app {k : Key} : ∀ {a b : List (Key × V)}, valV a k = none → valV (a ++ b) k = valV b k
  | [], b, _ => rfl
  | p :: a, b, h => by
    have hk : ¬ p.1 = k := fun z => by rw [valV_pos z] at h; cases h
    rw [valV_neg hk] at h
    rw [List.cons_append, valV_neg hk]
    exact valV_app h
theorem valV_not {k : Key} {a : List (Key × V)} (h : k ∉ a.map (·.1)) : valV a k = none := by
  unfold valV
  rw [List.find?_eq_none.mpr fun p hp => by simpa using fun e : p.1 = k => h (List.mem_map.mpr ⟨p, hp, e⟩)]
  rfl
theorem putAll_app : ∀ {more kvs : List (Key × V)}, ((kvs ++ more).map (·.1)).Nodup → putAll kvs more = kvs ++ more
  | [], kvs, _ => by simp [putAll]
  | p :: more, kvs, h => by
    show putAll (putK kvs p.1 p.2) more = _
    have hn : valV kvs p.1 = none := valV_not fun hm => by
      rw [List.map_append, List.map_cons] at h
      exact (List.nodup_append.mp h).2.2 _ hm _ List.mem_cons_self rfl
    rw [putK_new p.2 hn]
    have e : kvs ++ [(p.1, p.2)] ++ more = kvs ++ p :: more := by simp
    rw [putAll_app (by rw [e]; exact h), e]
theorem mt_dupd : MtR X "dict.update" (fun x xs H Q => ∃ (a b : Addr) (kvs more : List (Key × V)), x = .ref a ∧ xs = [.ref b] ∧ a ≠ b ∧ H a = some (.dK kvs) ∧ H b = some (.dK more) ∧ kvs.length + more.length ≤ sizeLine ∧ ((kvs ++ more).map (·.1)).Nodup ∧ Q .non (upd H a (.dK (kvs ++ more)))) := by
  intro pins s σ H x xs v us Q I rx rxs ⟨a, b, kvs, more, e1, e2, hab, ha, hb, hz, hn, q⟩
  subst e1 e2
  cases rx
  obtain ⟨u, eu, ru⟩ := vals1 rxs
  subst eu
  obtain rfl : u = Value.ref b := ru
  obtain ⟨_, hd, vs, rel, dd⟩ := dk_of I.hok ha
  obtain ⟨_, hd2, ms, rel2, dd2⟩ := dk_of I.hok hb
  refine call_meetsIn PySem.F.slot_dict_update dd.typeIs PySem.F.entry_dict_update (PySem.F.args_dict_update_2 _ _) (meets_dict_update (mixKind X.prog X.w) a b hab hd2)
    ⟨vs, ms, dd, dd2, by rw [← rel.length, ← rel2.length]; exact hz, fun h' dd' _ hs => ?_⟩
  have he : ∃ q, h'.get? a = some q := let ⟨q, _, _, hq, _⟩ := dd'; ⟨q, hq⟩
  refine ⟨.non, _, d_write I (by rw [ha]; exact True.intro) hs he (dk_new (by rw [List.length_append]; exact hz) hd (kvs := kvs ++ more) ?_ dd'), rfl, q⟩
  rw [← putAll_app hn]
  exact kv_merged rel rel2
theorem zip_app {α β : Type} : ∀ {a : List α} {b : List β} {c : List α} {d : List β}, a.length = b.length → a.zip b ++ c.zip d = (a ++ c).zip (b ++ d)
  | [], [], c, d, _ => rfl
  | x :: a, y :: b, c, d, h => by
    show (x, y) :: (a.zip b ++ c.zip d) = (x, y) :: (a ++ c).zip (b ++ d)
    rw [zip_app (by simpa using h)]
theorem mtr_upd : MtR X "dict.update" (rMt X.K .upd) := by
  refine MtR.imp mt_dupd fun x xs H Q ⟨F, L, w, ws, r, w', wd, hl, e, q⟩ => ?_
  unfold mtW at e
  split at e <;> first | (cases e; done) | skip
  all_goals (rename_i hm; first | (cases hm; done) | skip)
  rename_i ks xs' b ks' ys
  split at e
  · rename_i hz
    obtain ⟨hn, hz, hy⟩ := hz
    cases e
    obtain ⟨v, rfl, e2⟩ := prs1 hl
    rw [e2] at wd
    obtain ⟨F1, s1, w1, r1⟩ := (Wd.swap wd).frz
    obtain ⟨b, zs, g, rfl, hb, hbk, rb⟩ := (show Rep X.K F1 H (.n (.dct false ks') (frzL ys)) v [] from r1).dctH w1.same
    have rb := rb.fz' (fzL_frzL ys)
    obtain ⟨a, vs, rfl, h, hl1, hl2, wo⟩ := (Wd.swap w1).opnD
    have hlz := RepL.length _ rb
    have hly : (frzL ys).length = ys.length := frzL_len ys
    have hab : a ≠ b := fun e => by
      subst e
      obtain ⟨⟨fp, _, n, d⟩, _⟩ := wo
      have d0 := d a List.mem_cons_self
      obtain ⟨a2, vs2, g2, e3, _, e4⟩ := (show Rep X.K F1 H (.n (.dct false ks') (frzL ys)) (.ref a) [] from r1)
      cases e3
      rw [e4.1] at d0
      cases d0
    have en : ((ks.zip vs ++ ks'.zip zs).map (·.1)) = ks ++ ks' := by
      rw [List.map_append, List.map_fst_zip (by omega), List.map_fst_zip (by omega)]
    refine ⟨a, b, ks.zip vs, ks'.zip zs, rfl, rfl, hab, h, hb, ?_, by rw [en]; exact hn, q _ _ _ s1 (Wd.noneAt ?_)⟩
    · rw [List.length_zip, List.length_zip]; omega
    · rw [zip_app hl1]
      refine WdA.clsD ?_ (by simp [hl2, hlz]) (by simp [hl1, hbk])
      rw [prs_append hl2, List.append_assoc]
      refine WdA.perm (L := prs zs (frzL ys) ++ (prs vs xs' ++ L)) ?_ (List.perm_append_comm_assoc _ _ _)
      refine WdA.adds ?_ rb
      exact WdA.right (L := [(some (V.ref b), W.n (.dct false ks') (frzL ys))]) (wo.perm List.perm_middle)
  · cases e
end
end Lin

set_option Elab.async false
set_option linter.all false
set_option maxRecDepth 100000
set_option maxHeartbeats 4000000
/-! Lin, part W: the checker of expressions against the language: its parts. -/
namespace Lin
open PySem L2 PySem.SeqAt
/-- what is known of where code stands -/
structure Sc where
  sc : Scope
  N : List Str
  st : List Str
  fns : List Str
  gls : List (Str × W)
  opq : Str
  oq : Bool
  kds : List (Str × List Str × List W) := []
def blts : List Str := ["len", "int", "str", "repr", "list", "tuple", "all", "any", "abs", "sum", "max", "min", "isinstance", "range", "enumerate", "zip", "sorted", "bool", "dict"]
structure OkX (X : Cx) (cl : Nat → List W → Option (List W × W)) (G : Sc) : Prop where
  sc : X.env.scope = G.sc
  N : X.N = G.N
  nd : X.N.Nodup
  calm : X.calm = true
  kind : G.sc.kind = .function
  xe : X.xe = fun _ _ => False
  gd : X.A.guards = some []
  hu : X.A.units + 64 < cLine
  sy : ∃ o, X.base.get? sysModules = some o
  bl : ∀ x ∈ blts, X.mg x = none
  fn : ∀ i x, G.fns[i]? = some x → ∃ f, X.mg x = some (.ref f) ∧ PySem.W.keepIn X.K (.ref f) = true ∧ ∀ Y : Cx, Y.prog = X.prog → Y.w = X.w → Y.K = X.K → Y.mg = X.mg → Y.base = X.base → Y.A = X.A → CallR Y (.ref f) (rCl X.K (cl i))
  gl : ∀ x w, (x, w) ∈ G.gls → ∃ v u, X.mg x = some u ∧ RelV v u ∧ ∀ F H : Hp, Rep X.K F H w v []
  kd : ∀ x ks ws, (x, ks, ws) ∈ G.kds → ∃ d ps, X.mg x = some (.ref d) ∧ KTab X.K X.w d ps ∧ ps.map (·.1) = ks ∧ ps.length ≤ sizeLine ∧ KHas X.K X.w d ks ws
  st : ∀ x ∈ G.st, Loc X.env.scope x ∧ (X.fn x = true ∨ X.env.scope.names.lookup x = some .local)
  oq : G.oq = true → ∀ Y : Cx, Y.prog = X.prog → Y.w = X.w → Y.K = X.K → Y.mg = X.mg → Y.base = X.base → Y.A = X.A → OpR Y (compareOp .Eq) (rOq Y.K)
  op : ∀ Y : Cx, Y.prog = X.prog → Y.w = X.w → Y.K = X.K → Y.mg = X.mg → Y.base = X.base → Y.A = X.A → ∀ p pos : Pos, Gl Y G.opq → PE Y (.Call (.Name G.opq p) [] [] pos) (tOpq Y.K)
/-- the three ways in which an expression is asked -/
structure Snd (X : Cx) (cl : Nat → List W → Option (List W × W)) (e : Expr) (m : Ex) : Prop where
  v : PE X e (TV X cl m)
  o : PE X e (TO X cl m)
  t : PT X e (TTs X cl m)
  w : ∀ op es p, e = .BoolOp op es p → PW X e (TTs X cl m)
def isVar : Ex → Bool
  | .var _ => true
  | _ => false
def nsE : Expr → Bool
  | .Starred .. => false
  | _ => true
/-- tests of these are their values' truth -/
def plainE : Expr → Bool
  | .UnaryOp op _ _ => match op with
    | .Not => false
    | _ => true
  | .BoolOp .. => false
  | .IfExp .. => false
  | .Compare .. => false
  | _ => true
section
variable {X : Cx} {cl : Nat → List W → Option (List W × W)} {G : Sc}
theorem plainE_eq {e : Expr} (h : plainE e = true) (whole : Sem Value) : isTrue e X.env whole = (do let v ← whole; standAt e.pos; holding [v] (truthy v)) := by
  cases e with
  | UnaryOp op a p => cases op <;> first | rfl | cases h
  | BoolOp op es p => cases h
  | IfExp c a b p => cases h
  | Compare a ops es p => cases h
  | _ => rfl
theorem starEach_ns {e : Expr} {es : List Expr} (h : nsE e = true) : starEach (e :: es) X.env = (false, eval e X.env) :: starEach es X.env := by
  cases e <;> first | rfl | cases h
theorem starEach_no : ∀ {es : List Expr}, es.all nsE = true → (starEach es X.env).all (fun x => !x.1) = true
  | [], _ => rfl
  | e :: es, h => by
    rw [List.all_cons, Bool.and_eq_true] at h
    rw [starEach_ns h.1, List.all_cons, starEach_no h.2]
    rfl
theorem backTo_no {es : List Expr} (h : es.all nsE = true) (pos : Pos) : (backTo pos (starEach es X.env)).all (fun x => !x.1) = true := by
  have := starEach_no (X := X) h
  unfold backTo
  rw [List.all_map]
  exact this
theorem backTo_any {es : List Expr} (h : es.all nsE = true) (pos : Pos) : (backTo pos (starEach es X.env)).any (·.1) = false := by
  have := backTo_no (X := X) h pos
  rw [List.any_eq_false]
  rw [List.all_eq_true] at this
  intro x hx
  have := this x hx
  simpa using this
/-- a plain expression, from its value -/
theorem Snd.mk' {e : Expr} {m : Ex} (h : PE X e (TV X cl m)) (hv : isVar m = false) (hm : m.plain = true) (he : plainE e = true) : Snd X cl e m where
  v := h
  o := snd_opr (fun i q => by subst q; cases hv) h
  t := snd_tst hm h fun whole => plainE_eq he whole
  w := fun op es p q => by subst q; cases he
/-! ### names and constants -/
def ckK (e : Expr) (x : At) : Bool := match e with
  | .Constant c _ _ => match c, x with
    | .none, .non => true
    | .bool a, .bl b => decide (a = b)
    | .int a, .int b => decide (a = b)
    | .str a, .str b => decide (a = b)
    | _, _ => false
  | _ => false
theorem ckK_ok {e : Expr} {x : At} (h : ckK e x = true) : Snd X cl e (.k x) := by
  unfold ckK at h
  split at h
  · split at h
    · exact .mk' (snd_k pe_non fun _ => rfl) rfl rfl rfl
    · cases of_decide_eq_true h; exact .mk' (snd_k pe_bl fun _ => rfl) rfl rfl rfl
    · cases of_decide_eq_true h; exact .mk' (snd_k pe_int fun _ => rfl) rfl rfl rfl
    · cases of_decide_eq_true h; exact .mk' (snd_k pe_str fun _ => rfl) rfl rfl rfl
    · cases h
  · cases h
def visB (G : Sc) (x : Str) : Bool := match G.sc.names.lookup x with
  | some .local => true
  | some .cell => true
  | some .free => true
  | _ => false
theorem vis_of (ok : OkX X cl G) {x : Str} (h : visB G x = true) : Vis X.env.scope x := by
  unfold visB at h
  rw [ok.sc]
  split at h
  · exact .inl (by assumption)
  · exact .inr (.inl (by assumption))
  · exact .inr (.inr (by assumption))
  · cases h
def glB (G : Sc) (x : Str) : Bool := decide (G.sc.names.lookup x = some .globalImplicit) && !(x == ("__debug__" : Str))
theorem gl_of (ok : OkX X cl G) {x : Str} (h : glB G x = true) : Gl X x ∧ (x == ("__debug__" : Str)) = false := by
  unfold glB at h
  rw [Bool.and_eq_true, decide_eq_true_eq, Bool.not_eq_true'] at h
  refine ⟨?_, h.2⟩
  show X.env.scope.names.lookup x = _
  rw [ok.sc]; exact h.1
def ckVar (G : Sc) (e : Expr) (i : Nat) : Bool := match e with
  | .Name x _ => visB G x && decide (G.N[i]? = some x) && !(x == ("__debug__" : Str)) && !(x == ("__classdict__" : Str))
  | _ => false
theorem ckVar_pe (ok : OkX X cl G) {e : Expr} {i : Nat} (h : ckVar G e i = true) : PE X e (tVar i) ∧ plainE e = true ∧ i < X.N.length := by
  unfold ckVar at h
  split at h
  · simp only [Bool.and_eq_true, decide_eq_true_eq, Bool.not_eq_true'] at h
    obtain ⟨⟨⟨h1, h2⟩, h3⟩, h4⟩ := h
    rename_i x p
    have hi : X.N[i]? = some x := by rw [ok.N]; exact h2
    exact ⟨pe_var hi (vis_of ok h1) h3 h4, rfl, (List.getElem?_eq_some_iff.mp hi).1⟩
  · cases h
theorem ckVar_ok (ok : OkX X cl G) {e : Expr} {i : Nat} (h : ckVar G e i = true) : Snd X cl e (.var i) := by
  obtain ⟨h1, h2, _⟩ := ckVar_pe ok h
  refine ⟨snd_var h1, snd_varO h1, snd_tstVar h1 fun whole => plainE_eq h2 whole, fun op es p q => ?_⟩
  subst q; cases h2
mutual
def beqW : W → W → Bool
  | .a x, .a y => decide (x = y)
  | .n k xs, .n l ys => decide (k = l) && beqL xs ys
  | _, _ => false
def beqL : List W → List W → Bool
  | [], [] => true
  | x :: xs, y :: ys => beqW x y && beqL xs ys
  | _, _ => false
end
mutual
theorem beqW_eq : ∀ {x y : W}, beqW x y = true → x = y
  | .a x, .a y, h => by rw [of_decide_eq_true h]
  | .n k xs, .n l ys, h => by
    simp only [beqW, Bool.and_eq_true, decide_eq_true_eq] at h
    rw [h.1, beqL_eq h.2]
  | .a x, .n l ys, h => by cases h
  | .n k xs, .a y, h => by cases h
theorem beqL_eq : ∀ {x y : List W}, beqL x y = true → x = y
  | [], [], _ => rfl
  | x :: xs, y :: ys, h => by
    simp only [beqL, Bool.and_eq_true] at h
    rw [beqW_eq h.1, beqL_eq h.2]
  | [], y :: ys, h => by cases h
  | x :: xs, [], h => by cases h
end
def ckGl (G : Sc) (e : Expr) (w : W) : Bool := match e with
  | .Name x _ => glB G x && G.gls.any fun p => decide (p.1 = x) && beqW p.2 w
  | _ => false
theorem ckGl_ok (ok : OkX X cl G) {e : Expr} {w : W} (h : ckGl G e w = true) : Snd X cl e (.glob w) := by
  unfold ckGl at h
  split at h
  · rw [Bool.and_eq_true, List.any_eq_true] at h
    obtain ⟨h1, ⟨x', w'⟩, h2, h3⟩ := h
    rw [Bool.and_eq_true, decide_eq_true_eq] at h3
    obtain ⟨h3, h4⟩ := h3
    cases h3
    cases beqW_eq h4
    obtain ⟨v, u, m1, m2, m3⟩ := ok.gl _ _ h2
    obtain ⟨g1, g2⟩ := gl_of ok h1
    exact .mk' (snd_glob (pe_glob g1 m1 m2 g2) m3) rfl rfl rfl
  · cases h
/-- a module's dict, by its name -/
def kdB (G : Sc) (e : Expr) (ks : List Str) (ws : Option (List W)) : Bool := match e with
  | .Name x _ => glB G x && G.kds.any fun p => decide (p.1 = x) && decide (p.2.1 = ks) && (match ws with
    | some v => beqL p.2.2 v
    | none => true)
  | _ => false
theorem kdB_ok (ok : OkX X cl G) {e : Expr} {ks : List Str} {ws : Option (List W)} (h : kdB G e ks ws = true) :
    ∃ d ps, PE X e (tC (.ref d)) ∧ nsE e = true ∧ KTab X.K X.w d ps ∧ ps.map (·.1) = ks ∧ ps.length ≤ sizeLine ∧ ∀ v, ws = some v → KHas X.K X.w d ks v := by
  unfold kdB at h
  split at h
  · rw [Bool.and_eq_true, List.any_eq_true] at h
    obtain ⟨h1, ⟨x', k', w'⟩, h2, h3⟩ := h
    simp only [Bool.and_eq_true, decide_eq_true_eq] at h3
    obtain ⟨⟨h3, h4⟩, h5⟩ := h3
    subst h3 h4
    obtain ⟨d, ps, m1, m2, m3, m4, m5⟩ := ok.kd _ _ _ h2
    obtain ⟨g1, g2⟩ := gl_of ok h1
    refine ⟨d, ps, pe_glob g1 m1 rfl g2, rfl, m2, m3, m4, fun v e => ?_⟩
    subst e
    cases beqL_eq h5
    exact m5
  · cases h

theorem bool_one {e : Expr} {op : BoolOp} {p : Pos} {m : Ex} (h : Snd X cl e m) : Snd X cl (.BoolOp op [e] p) m :=
  ⟨pe_one h.v, pe_one h.o, (snd_and1T h.t).pt, fun _ _ _ _ => snd_and1T h.t⟩
def nsl : Expr → Bool
  | .Slice .. => false
  | _ => true
theorem nsl_ix {e : Expr} (h : nsl e = true) : PlainIx e := fun o i => by
  cases e <;> first | rfl | cases h
/-- a dict's keys -/
def ckKey (e : Option Expr) (k : Key) : Bool := match e with
  | some (.Constant (.int i) _ _) => decide (k = .inl i)
  | some (.Constant (.str x) _ _) => decide (k = .inr x)
  | _ => false
theorem ckKey_ok {e : Option Expr} {k : Key} (h : ckKey e k = true) : ∃ x, e = some x ∧ PE X x (tC (kV k)) := by
  unfold ckKey at h
  split at h
  · cases of_decide_eq_true h; exact ⟨_, rfl, pe_int⟩
  · cases of_decide_eq_true h; exact ⟨_, rfl, pe_str⟩
  · cases h
/-! ### operators -/
section
variable {f : Expr → Ex → Bool} (ih : ∀ e m, f e m = true → Snd X cl e m)
include ih
def ckBin (f : Expr → Ex → Bool) (e : Expr) (op : Bop) (a b : Ex) : Bool := match e with
  | .BinOp x o y _ => decide (o = bopOf op) && f x a && f y b
  | _ => false
theorem ckBin_ok {e : Expr} {op : Bop} {a b : Ex} (h : ckBin f e op a b = true) : Snd X cl e (.bin op a b) := by
  unfold ckBin at h
  split at h
  · simp only [Bool.and_eq_true, decide_eq_true_eq] at h
    obtain ⟨⟨h1, h2⟩, h3⟩ := h
    subst h1
    exact .mk' (snd_bin (ih _ _ h2).v (ih _ _ h3).v) rfl rfl rfl
  · cases h
def ckNeg (f : Expr → Ex → Bool) (e : Expr) (a : Ex) : Bool := match e with
  | .UnaryOp .USub x _ => f x a
  | _ => false
theorem ckNeg_ok {e : Expr} {a : Ex} (h : ckNeg f e a = true) : Snd X cl e (.neg a) := by
  unfold ckNeg at h
  split at h
  · exact .mk' (snd_neg (ih _ _ h).v) rfl rfl rfl
  · cases h
def ckNot (f : Expr → Ex → Bool) (e : Expr) (a : Ex) : Bool := match e with
  | .UnaryOp .Not x _ => f x a
  | _ => false
theorem ckNot_ok {e : Expr} {a : Ex} (h : ckNot f e a = true) : Snd X cl e (.not a) := by
  unfold ckNot at h
  split at h
  · rename_i x p
    have hv := snd_notV (pos := p) (ih _ _ h).o
    exact ⟨hv, snd_opr (fun i q => by cases q) hv, snd_notT (ih _ _ h).t, fun op es p q => by cases q⟩
  · cases h
def ckAnd (f : Expr → Ex → Bool) (e : Expr) (a b : Ex) : Bool := match e with
  | .BoolOp .And (x :: y :: r) p => f x a && f (.BoolOp .And (y :: r) p) b
  | _ => false
theorem ckAnd_ok {e : Expr} {a b : Ex} (h : ckAnd f e a b = true) : Snd X cl e (.and a b) := by
  unfold ckAnd at h
  split at h
  · rw [Bool.and_eq_true] at h
    rename_i x y r p
    have h1 := ih _ _ h.1
    have h2 := ih _ _ h.2
    have hv := snd_andV h1.v h2.v
    have hw := snd_andT (pos := p) h1.t (h2.w _ _ _ rfl)
    exact ⟨hv, snd_opr (fun i q => by cases q) hv, hw.pt, fun _ _ _ _ => hw⟩
  · cases h
def ckOr (f : Expr → Ex → Bool) (e : Expr) (a b : Ex) : Bool := match e with
  | .BoolOp .Or (x :: y :: r) p => f x a && f (.BoolOp .Or (y :: r) p) b
  | _ => false
theorem ckOr_ok {e : Expr} {a b : Ex} (h : ckOr f e a b = true) : Snd X cl e (.or a b) := by
  unfold ckOr at h
  split at h
  · rw [Bool.and_eq_true] at h
    rename_i x y r p
    have h1 := ih _ _ h.1
    have h2 := ih _ _ h.2
    have hv := snd_orV h1.v h2.v
    have hw := snd_orT (pos := p) h1.t (h2.w _ _ _ rfl)
    exact ⟨hv, snd_opr (fun i q => by cases q) hv, hw.pt, fun _ _ _ _ => hw⟩
  · cases h
def ckCmp (f : Expr → Ex → Bool) (e : Expr) (op : CmpOp) (a b : Ex) : Bool := match e with
  | .Compare x [o] [y] _ => decide (o = op) && !behindInMarks op y && f x a && f y b
  | _ => false
theorem ckCmp_ok (ok : OkX X cl G) {e : Expr} {op : CmpOp} {a b : Ex} (h : ckCmp f e op a b = true) : Snd X cl e (.cmp op a b) := by
  unfold ckCmp at h
  split at h
  · simp only [Bool.and_eq_true, decide_eq_true_eq, Bool.not_eq_true'] at h
    obtain ⟨⟨⟨h1, h2⟩, h3⟩, h4⟩ := h
    subst h1
    rename_i x o y p
    have hv := snd_cmp (pos := p) ok.hu (ih _ _ h3).o (ih _ _ h4).o h2
    exact ⟨hv, snd_opr (fun i q => by cases q) hv, snd_cmpT ok.hu (ih _ _ h3).o (ih _ _ h4).o h2, fun op es p q => by cases q⟩
  · cases h
def ckChain (f : Expr → Ex → Bool) (e : Expr) (op op' : CmpOp) (a b c : Ex) : Bool := match e with
  | .Compare x [o, o'] [y, z] _ => decide (o = op) && decide (o' = op') && !lastMarks [op, op'] [y, z] && f x a && f y b && f z c
  | _ => false
theorem ckChain_ok (ok : OkX X cl G) {e : Expr} {op op' : CmpOp} {a b c : Ex} (h : ckChain f e op op' a b c = true) : Snd X cl e (.chain op op' a b c) := by
  unfold ckChain at h
  split at h
  · simp only [Bool.and_eq_true, decide_eq_true_eq, Bool.not_eq_true'] at h
    obtain ⟨⟨⟨⟨⟨h1, h2⟩, h3⟩, h4⟩, h5⟩, h6⟩ := h
    subst h1 h2
    rename_i x o o' y z p
    have hv := snd_chain (pos := p) ok.hu (ih _ _ h4).v (ih _ _ h5).v (ih _ _ h6).v h3
    exact ⟨hv, snd_opr (fun i q => by cases q) hv, snd_chainT ok.hu (ih _ _ h4).v (ih _ _ h5).v (ih _ _ h6).v h3, fun op es p q => by cases q⟩
  · cases h
def ckIte (f : Expr → Ex → Bool) (e : Expr) (c a b : Ex) : Bool := match e with
  | .IfExp x y z _ => f x c && f y a && f z b
  | _ => false
theorem ckIte_ok {e : Expr} {a b c : Ex} (h : ckIte f e c a b = true) : Snd X cl e (.ite c a b) := by
  unfold ckIte at h
  split at h
  · simp only [Bool.and_eq_true] at h
    obtain ⟨⟨h1, h2⟩, h3⟩ := h
    rename_i x y z p
    have hv := snd_ite (pos := p) (ih _ _ h1).t (ih _ _ h2).v (ih _ _ h3).v
    refine ⟨hv, snd_opr (fun i q => by cases q) hv, ⟨fun pins s σ H Q I ⟨_, F, ρ, T, b, ρ', _, ev, _⟩ => ?_⟩, fun op es p q => by cases q⟩
    simp only [evm] at ev
    cases ev
  · cases h
def ckSub (f : Expr → Ex → Bool) (e : Expr) (a i : Ex) : Bool := match e with
  | .Subscript x y _ => nsl y && f x a && f y i
  | _ => false
theorem ckSub_ok (ok : OkX X cl G) {e : Expr} {a i : Ex} (h : ckSub f e a i = true) : Snd X cl e (.sub a i) := by
  unfold ckSub at h
  split at h
  · simp only [Bool.and_eq_true] at h
    obtain ⟨⟨h1, h2⟩, h3⟩ := h
    exact .mk' (snd_sub ok.hu (ih _ _ h2).o (ih _ _ h3).o (nsl_ix h1)) rfl rfl rfl
  · cases h
def ckO (f : Expr → Ex → Bool) : Option Expr → Option Ex → Bool
  | none, none => true
  | some e, some m => f e m
  | _, _ => false
theorem ckO_ok : ∀ {e : Option Expr} {m : Option Ex}, ckO f e m = true → PO X e (tPt (cl := cl) X.K X.N.length m)
  | none, none, _ => snd_ptN
  | some e, some m, h => snd_ptS (ih _ _ h).v
  | none, some _, h => by cases h
  | some _, none, h => by cases h
def ckSlice (f : Expr → Ex → Bool) (e : Expr) (a : Ex) (lo hi : Option Ex) : Bool := match e with
  | .Subscript x (.Slice l u none _) _ => f x a && ckO f l lo && ckO f u hi
  | _ => false
theorem ckSlice_ok {e : Expr} {a : Ex} {lo hi : Option Ex} (h : ckSlice f e a lo hi = true) : Snd X cl e (.slice a lo hi) := by
  unfold ckSlice at h
  split at h
  · simp only [Bool.and_eq_true] at h
    obtain ⟨⟨h1, h2⟩, h3⟩ := h
    exact .mk' (snd_slice (ih _ _ h1).o (ckO_ok ih h2) (ckO_ok ih h3)) rfl rfl rfl
  · cases h
/-! ### lists of expressions -/
def ckL (f : Expr → Ex → Bool) : List Expr → List Ex → Bool
  | [], [] => true
  | e :: es, m :: ms => (match e, m with
    | .Starred x _, .star y => f x y
    | e, m => nsE e && noStar m && f e m) && ckL f es ms
  | _, _ => false
theorem ckL_ok : ∀ {es : List Expr} {ms : List Ex}, ckL f es ms = true → PA X es (TLs X cl ms)
  | [], [], _ => snd_nil
  | [], _ :: _, h => by cases h
  | _ :: _, [], h => by cases h
  | e :: es, m :: ms, h => by
    simp only [ckL, Bool.and_eq_true] at h
    obtain ⟨h1, h2⟩ := h
    split at h1
    · exact snd_star (ih _ _ h1).v (ckL_ok h2) rfl
    · simp only [Bool.and_eq_true] at h1
      obtain ⟨⟨g1, g2⟩, g3⟩ := h1
      exact snd_cons (fun e q => by subst q; cases g2) (ih _ _ g3).v (ckL_ok h2) (starEach_ns g1)
/-- .. none starred -/
def ckN (f : Expr → Ex → Bool) : List Expr → List Ex → Bool
  | [], [] => true
  | e :: es, m :: ms => nsE e && noStar m && f e m && ckN f es ms
  | _, _ => false
theorem ckN_ns : ∀ {es : List Expr} {ms : List Ex}, ckN f es ms = true → es.all nsE = true ∧ ms.all noStar = true ∧ es.length = ms.length
  | [], [], _ => ⟨rfl, rfl, rfl⟩
  | [], _ :: _, h => by cases h
  | _ :: _, [], h => by cases h
  | e :: es, m :: ms, h => by
    simp only [ckN, Bool.and_eq_true] at h
    obtain ⟨⟨⟨h1, h2⟩, h3⟩, h4⟩ := h
    obtain ⟨a, b, c⟩ := ckN_ns h4
    exact ⟨by rw [List.all_cons, h1, a]; rfl, by rw [List.all_cons, h2, b]; rfl, by rw [List.length_cons, List.length_cons, c]⟩
theorem ckN_o : ∀ {es : List Expr} {ms : List Ex}, ckN f es ms = true → PA X es (TOs X cl ms)
  | [], [], _ => snd_onil
  | [], _ :: _, h => by cases h
  | _ :: _, [], h => by cases h
  | e :: es, m :: ms, h => by
    simp only [ckN, Bool.and_eq_true] at h
    obtain ⟨⟨⟨h1, h2⟩, h3⟩, h4⟩ := h
    exact snd_ocons (ih _ _ h3).o (ckN_o h4) (starEach_ns h1)
theorem ckN_v : ∀ {es : List Expr} {ms : List Ex}, ckN f es ms = true → PA X es (TLs X cl ms)
  | [], [], _ => snd_nil
  | [], _ :: _, h => by cases h
  | _ :: _, [], h => by cases h
  | e :: es, m :: ms, h => by
    simp only [ckN, Bool.and_eq_true] at h
    obtain ⟨⟨⟨h1, h2⟩, h3⟩, h4⟩ := h
    exact snd_cons (fun e q => by subst q; cases h2) (ih _ _ h3).v (ckN_v h4) (starEach_ns h1)
def ckTup (f : Expr → Ex → Bool) (e : Expr) (ms : List Ex) : Bool := match e with
  | .Tuple es _ _ => ckL f es ms
  | _ => false
theorem ckTup_ok {e : Expr} {ms : List Ex} (h : ckTup f e ms = true) : Snd X cl e (.tup ms) := by
  unfold ckTup at h
  split at h
  · exact .mk' (snd_tup (ckL_ok ih h)) rfl rfl rfl
  · cases h
def ckLst (f : Expr → Ex → Bool) (e : Expr) (ms : List Ex) : Bool := match e with
  | .List es _ => ckL f es ms
  | _ => false
theorem ckLst_ok {e : Expr} {ms : List Ex} (h : ckLst f e ms = true) : Snd X cl e (.lst ms) := by
  unfold ckLst at h
  split at h
  · exact .mk' (snd_lst (ckL_ok ih h)) rfl rfl rfl
  · cases h
def ckPs (f : Expr → Ex → Bool) : List (Option Expr) → List Expr → List Key → List Ex → Bool
  | [], [], [], [] => true
  | e :: es, v :: vs, k :: ks, m :: ms => ckKey e k && noStar m && f v m && ckPs f es vs ks ms
  | _, _, _, _ => false
theorem ckPs_ok {pos : Pos} : ∀ {es : List (Option Expr)} {vs : List Expr} {ks : List Key} {ms : List Ex}, ckPs f es vs ks ms = true →
    PPs X pos es vs ((ks.zip ms).map fun p => (tC (kV p.1), TV X cl p.2)) ∧ ms.all noStar = true ∧ ks.length = ms.length ∧ es.all (·.isSome) = true ∧ es.length = vs.length ∧ es.length = ks.length
  | [], [], [], [], _ => ⟨pps_nil, rfl, rfl, rfl, rfl, rfl⟩
  | e :: es, v :: vs, k :: ks, m :: ms, h => by
    simp only [ckPs, Bool.and_eq_true] at h
    obtain ⟨⟨⟨h1, h2⟩, h3⟩, h4⟩ := h
    obtain ⟨x, rfl, hx⟩ := ckKey_ok (X := X) h1
    obtain ⟨a, b, c, d, g, i⟩ := ckPs_ok (pos := pos) h4
    exact ⟨pps_cons hx (ih _ _ h3).v a, by rw [List.all_cons, h2, b]; rfl, by simp [c], by rw [List.all_cons, d]; rfl, by simp [g], by simp [i]⟩
  | [], _ :: _, _, _, h => by simp [ckPs] at h
  | [], [], _ :: _, _, h => by simp [ckPs] at h
  | [], [], [], _ :: _, h => by simp [ckPs] at h
  | _ :: _, [], _, _, h => by simp [ckPs] at h
  | _ :: _, _ :: _, [], _, h => by simp [ckPs] at h
  | _ :: _, _ :: _, _ :: _, [], h => by simp [ckPs] at h
def ckDct (f : Expr → Ex → Bool) (e : Expr) (ks : List Key) (ms : List Ex) : Bool := match e with
  | .Dict keys vs _ => ckPs f keys vs ks ms && decide (ks.length ≤ 15)
  | _ => false
theorem ckDct_ok {e : Expr} {ks : List Key} {ms : List Ex} (h : ckDct f e ks ms = true) : Snd X cl e (.dct ks ms) := by
  unfold ckDct at h
  split at h
  · rename_i keys vs p
    rw [Bool.and_eq_true, decide_eq_true_eq] at h
    obtain ⟨a, b, c, d, g, i⟩ := ckPs_ok (pos := p) ih h.1
    by_cases h0 : keys = []
    · subst h0
      have h1 : vs = [] := List.eq_nil_of_length_eq_zero (by rw [← g]; rfl)
      have h2 : ks = [] := List.eq_nil_of_length_eq_zero (by rw [← i]; rfl)
      subst h1 h2
      have h3 : ms = [] := List.eq_nil_of_length_eq_zero (by rw [← c]; rfl)
      subst h3
      exact .mk' snd_dct0 rfl rfl rfl
    · exact .mk' (snd_dct a b c d g h0 (by rw [i]; exact h.2)) rfl rfl rfl
  · cases h
end
end
end Lin

set_option Elab.async false
set_option linter.all false
set_option maxRecDepth 100000
set_option maxHeartbeats 4000000
/-! Lin, part X: the checker of expressions: calls, comprehensions; the whole. -/
namespace Lin
open PySem L2 PySem.SeqAt
def bltName : Bi → Str
  | .len => "len"
  | .int => "int"
  | .str => "str"
  | .repr => "repr"
  | .list => "list"
  | .tuple => "tuple"
  | .all => "all"
  | .any => "any"
  | .abs => "abs"
  | .sorted => "sorted"
  | .lenset => "len"
  | .sum => "sum"
  | .min => "min"
  | .max => "max"
def biOk : Bi → Bool
  | .lenset => false
  | _ => true
def mtName : Mt → Str
  | .append => "append"
  | .extend => "extend"
  | .insert => "insert"
  | .pop => "pop"
  | .popAt => "pop"
  | .clear => "clear"
  | .split => "split"
  | .upper => "upper"
  | .join => "join"
  | .reverse => "reverse"
  | .get => "get"
  | .upd => "update"
section
variable {X : Cx} {cl : Nat → List W → Option (List W × W)} {G : Sc}
theorem ok_blt (ok : OkX X cl G) {x : Str} (h : decide (x ∈ blts) = true) : X.mg x = none := ok.bl x (of_decide_eq_true h)
theorem bi_pe (ok : OkX X cl G) {b : Bi} (hb : biOk b = true) {e : Expr} {es : List Expr} {ms : List Ex} {p pos : Pos} (hg : Gl X (bltName b)) (ha : PA X (e :: es) (TOs X cl ms)) (he : starEach (e :: es) X.env = (false, eval e X.env) :: starEach es X.env)
    (hpl : (backTo pos (starEach es X.env)).any (·.1) = false) : PE X (.Call (.Name (bltName b) p) (e :: es) [] pos) (TV X cl (.bi b ms)) := by
  cases b with
  | len => exact bi_run (es := []) (pe_callB bi_len hg (ok_blt ok (by decide)) (by decide +kernel) ha (he := he) (hpl := hpl))
  | int => exact bi_run (es := []) (pe_callTy bi_int hg (ok_blt ok (by decide)) (by decide +kernel) ha (he := he) (hpl := hpl))
  | str => exact bi_run (es := []) (pe_callTy bi_str hg (ok_blt ok (by decide)) (by decide +kernel) ha (he := he) (hpl := hpl))
  | repr => exact bi_run (es := []) (pe_callB (bi_repr ok.gd ok.hu ok.sy) hg (ok_blt ok (by decide)) (by decide +kernel) ha (he := he) (hpl := hpl))
  | list => exact bi_run (es := []) (pe_callTy bi_list hg (ok_blt ok (by decide)) (by decide +kernel) ha (he := he) (hpl := hpl))
  | tuple => exact bi_run (es := []) (pe_callTy bi_tuple hg (ok_blt ok (by decide)) (by decide +kernel) ha (he := he) (hpl := hpl))
  | all => exact bi_run (es := []) (pe_callB (bi_all ok.calm) hg (ok_blt ok (by decide)) (by decide +kernel) ha (he := he) (hpl := hpl))
  | any => exact bi_run (es := []) (pe_callB (bi_any ok.calm) hg (ok_blt ok (by decide)) (by decide +kernel) ha (he := he) (hpl := hpl))
  | abs => exact bi_run (es := []) (pe_callB bi_abs hg (ok_blt ok (by decide)) (by decide +kernel) ha (he := he) (hpl := hpl))
  | sum => exact bi_run (es := []) (pe_callB (bi_sum ok.calm) hg (ok_blt ok (by decide)) (by decide +kernel) ha (he := he) (hpl := hpl))
  | min => exact bi_run (es := []) (pe_callB (bi_min ok.calm) hg (ok_blt ok (by decide)) (by decide +kernel) ha (he := he) (hpl := hpl))
  | max => exact bi_run (es := []) (pe_callB (bi_max ok.calm) hg (ok_blt ok (by decide)) (by decide +kernel) ha (he := he) (hpl := hpl))
  | sorted => exact bi_run (es := []) (pe_callB (bi_sorted ok.calm) hg (ok_blt ok (by decide)) (by decide +kernel) ha (he := he) (hpl := hpl))
  | lenset => cases hb
/-! ### types -/
def ckTy (G : Sc) (e : Expr) (t : Ty) : Bool := match e with
  | .Name x _ => decide (x = Str.ofString t.name) && glB G x
  | _ => false
theorem ty_mg (ok : OkX X cl G) (t : Ty) : X.mg (Str.ofString t.name) = none := by cases t <;> exact ok_blt ok (by decide)
theorem ckTy_ok (ok : OkX X cl G) {e : Expr} {t : Ty} (h : ckTy G e t = true) : PE X e (tC (.ty t.name)) ∧ nsE e = true := by
  unfold ckTy at h
  split at h
  · rw [Bool.and_eq_true, decide_eq_true_eq] at h
    obtain ⟨h1, h2⟩ := h
    subst h1
    exact ⟨ty_name (gl_of ok h2).1 (ty_mg ok t), rfl⟩
  · cases h
def ckTys (G : Sc) : List Expr → List Ty → Bool
  | [], [] => true
  | e :: es, t :: ts => ckTy G e t && ckTys G es ts
  | _, _ => false
theorem ckTys_ok (ok : OkX X cl G) : ∀ {es : List Expr} {ts : List Ty}, ckTys G es ts = true → PA X es (tTys ts)
  | [], [], _ => tys_nil
  | [], _ :: _, h => by cases h
  | _ :: _, [], h => by cases h
  | e :: es, t :: ts, h => by
    simp only [ckTys, Bool.and_eq_true] at h
    obtain ⟨h1, h2⟩ := ckTy_ok ok h.1
    exact tys_cons h1 (ckTys_ok ok h.2) (starEach_ns h2)
/-! ### targets -/
def ckTgN (G : Sc) (e : Expr) (i : Nat) : Bool := match e with
  | .Name x _ => decide (G.N[i]? = some x) && decide (x ∈ G.st)
  | _ => false
theorem ckTgN_ok (ok : OkX X cl G) {e : Expr} {i : Nat} (h : ckTgN G e i = true) : PG X e (gName i) ∧ i < X.N.length ∧ (∃ x p, e = .Name x p) := by
  unfold ckTgN at h
  split at h
  · rename_i x p
    rw [Bool.and_eq_true, decide_eq_true_eq, decide_eq_true_eq] at h
    obtain ⟨h1, h2⟩ := h
    have hi : X.N[i]? = some x := by rw [ok.N]; exact h1
    obtain ⟨s1, s2⟩ := ok.st x h2
    exact ⟨pg_name ok.nd hi s1 s2, (List.getElem?_eq_some_iff.mp hi).1, x, p, rfl⟩
  · cases h
def ckTgs (G : Sc) : List Expr → List Nat → Bool
  | [], [] => true
  | e :: es, i :: is => ckTgN G e i && ckTgs G es is
  | _, _ => false
theorem ckTgs_ok (ok : OkX X cl G) : ∀ {es : List Expr} {is : List Nat}, ckTgs G es is = true → PGs X es (tTgs X.K is) ∧ (∀ i ∈ is, i < X.N.length) ∧ (assignEach es X.env).length = is.length ∧ (assignEach es X.env).findIdx? (·.1) = none
  | [], [], _ => ⟨tgs_nil, fun i h => (nomatch h), rfl, rfl⟩
  | [], _ :: _, h => by cases h
  | _ :: _, [], h => by cases h
  | e :: es, i :: is, h => by
    simp only [ckTgs, Bool.and_eq_true] at h
    obtain ⟨h1, h2⟩ := h
    obtain ⟨a, b, x, p, rfl⟩ := ckTgN_ok ok h1
    obtain ⟨c, d, g, k⟩ := ckTgs_ok ok h2
    refine ⟨tgs_cons a c rfl, fun j hj => ?_, ?_, ?_⟩
    · rcases List.mem_cons.mp hj with rfl | hj
      · exact b
      · exact d j hj
    · show (_ :: assignEach es X.env).length = _
      rw [List.length_cons, g, List.length_cons]
    · show List.findIdx? _ ((false, _) :: assignEach es X.env) = none
      rw [List.findIdx?_cons, if_neg (by simp), k]
      rfl
def ckTg (G : Sc) (e : Expr) (t : Tg) : Bool := match t with
  | .nm i => ckTgN G e i
  | .tp is => match e with
    | .Tuple es _ _ => ckTgs G es is
    | _ => false
theorem ckTg_ok (ok : OkX X cl G) {e : Expr} {t : Tg} (h : ckTg G e t = true) : PG X e (tTg X.K t) ∧ (∀ i ∈ tgs t, i < X.N.length) ∧ (assignEach [e] X.env).map (·.2) = [assign e X.env] := by
  unfold ckTg at h
  split at h
  · obtain ⟨a, b, x, p, rfl⟩ := ckTgN_ok ok h
    exact ⟨tg_nm a, fun i hi => by rw [List.mem_singleton.mp hi]; exact b, rfl⟩
  · split at h
    · obtain ⟨c, d, g, k⟩ := ckTgs_ok ok h
      exact ⟨tg_tp ok.calm c g (pg_tup ok.calm c g k), d, rfl⟩
    · cases h
/-! ### blocks -/
def blkSc (G : Sc) (scope : Scope) (own : List (Str × Nat)) : Sc := { G with sc := relS scope G.sc, st := own.map (·.1) }
def ownB (scope : Scope) (own : List (Str × Nat)) : Bool := own.all fun p => decide (scope.names.lookup p.1 = some .local) || decide (scope.names.lookup p.1 = some .cell)
theorem ok_blk (ok : OkX X cl G) {scope : Scope} {own : List (Str × Nat)} (hk : scope.kind = .function) (ho : ownB scope own = true) (s : Shared) (H : Hp) (C : Addr) (c : List (Str × Addr)) (fp : List Addr) :
    OkX (X.blk s H scope (compEnvC scope c C X.env) fp) cl (blkSc G scope own) where
  sc := by
    show relS scope X.env.scope = relS scope G.sc
    rw [ok.sc]
  N := ok.N
  nd := ok.nd
  calm := ok.calm
  kind := hk
  xe := rfl
  gd := ok.gd
  hu := ok.hu
  sy := ok.sy
  bl := ok.bl
  fn := ok.fn
  gl := ok.gl
  kd := ok.kd
  st := fun x hx => by
    obtain ⟨p, hp, rfl⟩ := List.mem_map.mp hx
    have h := List.all_eq_true.mp ho p hp
    rw [Bool.or_eq_true, decide_eq_true_eq, decide_eq_true_eq] at h
    have keep : ∀ k : NameKind, k ≠ .free → scope.names.lookup p.1 = some k → (relS scope X.env.scope).names.lookup p.1 = some k := fun k hk h => lookup_relS_keep hk h
    rcases h with h | h
    · have h2 := keep _ (by decide) h
      exact ⟨.inl h2, .inr h2⟩
    · have h2 := keep _ (by decide) h
      refine ⟨.inr h2, .inl ?_⟩
      show (scope.names.lookup p.1 == some .cell) = true
      rw [h]; rfl
  oq := ok.oq
  op := ok.op
def notSet : Expr → Bool
  | .Set .. => false
  | _ => true
theorem notSet_ok {e : Expr} (h : notSet e = true) (x : Value) : foldedSetIterable e X.env x = pure x := by
  cases e <;> first | rfl | cases h
section
variable {f : Expr → Ex → Bool} (ih : ∀ e m, f e m = true → Snd X cl e m)
include ih
def ckCall (G : Sc) (f : Expr → Ex → Bool) (e : Expr) (i : Nat) (ms : List Ex) : Bool := match e with
  | .Call (.Name x _) args [] _ => decide (G.fns[i]? = some x) && glB G x && ckN f args ms
  | _ => false
theorem ckCall_ok (ok : OkX X cl G) {e : Expr} {i : Nat} {ms : List Ex} (h : ckCall G f e i ms = true) : Snd X cl e (.call i ms) := by
  unfold ckCall at h
  split at h
  · rename_i x p args pos
    simp only [Bool.and_eq_true, decide_eq_true_eq] at h
    obtain ⟨⟨h1, h2⟩, h3⟩ := h
    obtain ⟨a, m1, m2, m3⟩ := ok.fn i x h1
    have hc := m3 X rfl rfl rfl rfl rfl rfl
    obtain ⟨g1, g2⟩ := gl_of ok h2
    cases args with
    | nil =>
      cases ms with
      | nil => exact .mk' (snd_call0 (pe_callG0 hc g1 m1 m2 g2)) rfl rfl rfl
      | cons _ _ => cases h3
    | cons b bs =>
      obtain ⟨n1, n2, n3⟩ := ckN_ns ih h3
      rw [List.all_cons, Bool.and_eq_true] at n1
      exact .mk' (snd_call (pe_callG hc g1 m1 m2 (ckN_o ih h3) g2 (starEach_ns n1.1) (backTo_any n1.2 pos))) rfl rfl rfl
  · cases h
def ckBi (G : Sc) (f : Expr → Ex → Bool) (e : Expr) (b : Bi) (ms : List Ex) : Bool := match e with
  | .Call (.Name x _) (a :: args) [] _ => decide (x = bltName b) && biOk b && glB G x && ckN f (a :: args) ms
  | _ => false
theorem ckBi_ok (ok : OkX X cl G) {e : Expr} {b : Bi} {ms : List Ex} (h : ckBi G f e b ms = true) : Snd X cl e (.bi b ms) := by
  unfold ckBi at h
  split at h
  · rename_i x p a args pos
    simp only [Bool.and_eq_true, decide_eq_true_eq] at h
    obtain ⟨⟨⟨h1, h2⟩, h3⟩, h4⟩ := h
    subst h1
    obtain ⟨n1, n2, n3⟩ := ckN_ns ih h4
    rw [List.all_cons, Bool.and_eq_true] at n1
    exact .mk' (bi_pe ok h2 (gl_of ok h3).1 (ckN_o ih h4) (starEach_ns n1.1) (backTo_any n1.2 pos)) rfl rfl rfl
  · cases h
def ckIsi (G : Sc) (f : Expr → Ex → Bool) (e : Expr) (a : Ex) (ts : List Ty) : Bool := match e with
  | .Call (.Name x _) [y, z] [] _ => decide (x = ("isinstance" : Str)) && glB G x && nsE y && f y a && (match z with
    | .Name .. => (match ts with
      | [t] => ckTy G z t
      | _ => false)
    | .Tuple es _ _ => ckTys G es ts && !ts.isEmpty && decide (ts.length ≤ 10)
    | _ => false)
  | _ => false
theorem ckIsi_ok (ok : OkX X cl G) {e : Expr} {a : Ex} {ts : List Ty} (h : ckIsi G f e a ts = true) : Snd X cl e (.isi a ts) := by
  unfold ckIsi at h
  split at h
  · rename_i x p y z pos
    simp only [Bool.and_eq_true, decide_eq_true_eq] at h
    obtain ⟨⟨⟨⟨h1, h2⟩, h3⟩, h4⟩, h5⟩ := h
    subst h1
    have hg := (gl_of ok h2).1
    have hm : X.mg "isinstance" = none := ok_blt ok (by decide)
    split at h5
    · split at h5
      · obtain ⟨t1, t2⟩ := ckTy_ok ok h5
        exact .mk' (snd_isi1 hg hm (ih _ _ h4).o t1 (starEach_ns h3) (starEach_ns t2) (backTo_any (by simp [t2]) pos)) rfl rfl rfl
      · cases h5
    · simp only [Bool.and_eq_true, decide_eq_true_eq, Bool.not_eq_true'] at h5
      obtain ⟨⟨t1, t2⟩, t3⟩ := h5
      refine .mk' (snd_isiN hg hm (ih _ _ h4).o (ckTys_ok ok t1) (fun q => by subst q; cases t2) (Nat.le_trans t3 (by decide)) (starEach_ns h3) rfl rfl) rfl rfl rfl
    · cases h5
  · cases h
def baseOk : Expr → Bool
  | .Call (.Name x _) _ _ _ => x != "super"
  | .Call .. => false
  | _ => true
omit ih in
theorem base_ok {e : Expr} (h : baseOk e = true) (name : Str) : attributeBase e name X.env (eval e X.env) = eval e X.env := by
  cases e with
  | Call f args kw pos =>
    cases f with
    | Name x p =>
      have h0 : (x != Str.ofString "super") = true := h
      cases args with
      | nil =>
        cases kw with
        | nil =>
          unfold attributeBase
          simp only
          rw [if_pos (by rw [h0]; rfl)]
          all_goals exact _root_.bind_pure _
        | cons _ _ => rfl
      | cons _ _ => rfl
    | _ => cases h
  | _ => first | rfl | cases h
def ckMeth (f : Expr → Ex → Bool) (e : Expr) (m : Mt) (o : Ex) (ms : List Ex) : Bool := match e with
  | .Call (.Attribute eo name apos) args [] cpos => decide (name = mtName m) && (apos.endLine == cpos.line) && baseOk eo && f eo o && ckN f args ms && decide (args.length < 30) && (match m with
    | .pop => args.isEmpty
    | .clear => args.isEmpty
    | .upper => args.isEmpty
    | .reverse => false
    | _ => !args.isEmpty)
  | _ => false
omit ih in
theorem few_ok {e : Expr} {es : List Expr} {cpos : Pos} (h : (e :: es).all nsE = true) (hl : (e :: es).length < 30) : ((backTo cpos (starEach (e :: es) X.env)).all (fun x => !x.1) && (backToKw cpos (keywordEach [] X.env)).all (fun x => x.1.isSome)
      && decide ((e :: es).length + ([] : List Keyword).length + (if ([] : List Keyword).isEmpty then 0 else 1) < 30)) = true := by
  rw [backTo_no h]
  show (true && true && decide ((e :: es).length + 0 + 0 < 30)) = true
  simpa using hl
theorem ckMeth_ok (ok : OkX X cl G) {e : Expr} {m : Mt} {o : Ex} {ms : List Ex} (h : ckMeth f e m o ms = true) : Snd X cl e (.meth m o ms) := by
  unfold ckMeth at h
  split at h
  · rename_i eo name apos args cpos
    simp only [Bool.and_eq_true, decide_eq_true_eq] at h
    obtain ⟨⟨⟨⟨⟨⟨h1, h2⟩, h3⟩, h4⟩, h5⟩, h6⟩, h7⟩ := h
    subst h1
    have ho := (ih _ _ h4).o
    obtain ⟨n1, n2, n3⟩ := ckN_ns ih h5
    have hb := base_ok (X := X) h3
    cases args with
    | nil =>
      cases ms with
      | cons _ _ => cases h5
      | nil =>
        cases m with
        | pop => exact .mk' (snd_meth0 (pe_bm0 PySem.F.plainAttrs_list PySem.F.slot_list_pop PySem.F.type_list_pop mtr_pop ho (hb _) h2)) rfl rfl rfl
        | clear => exact .mk' (snd_meth0 (pe_bm0 PySem.F.plainAttrs_list PySem.F.slot_list_clear PySem.F.type_list_clear mtr_clear ho (hb _) h2)) rfl rfl rfl
        | upper => exact .mk' (snd_meth0 (pe_bm0 PySem.F.plainAttrs_str PySem.F.slot_str_upper PySem.F.type_str_upper mtr_upper ho (hb _) h2)) rfl rfl rfl
        | _ => cases h7
    | cons b bs =>
      have hw := few_ok (X := X) (cpos := cpos) n1 h6
      have ha := ckN_v ih h5
      rw [List.all_cons, Bool.and_eq_true] at n1
      have hs := starEach_ns (X := X) (es := bs) n1.1
      have hp := backTo_any (X := X) n1.2 cpos
      cases m with
      | append => exact .mk' (snd_meth (pe_bm PySem.F.plainAttrs_list PySem.F.slot_list_append PySem.F.type_list_append mtr_append ho ha (hb _) hw h2 hs hp)) rfl rfl rfl
      | extend => exact .mk' (snd_meth (pe_bm PySem.F.plainAttrs_list PySem.F.slot_list_extend PySem.F.type_list_extend mtr_extend ho ha (hb _) hw h2 hs hp)) rfl rfl rfl
      | insert => exact .mk' (snd_meth (pe_bm PySem.F.plainAttrs_list PySem.F.slot_list_insert PySem.F.type_list_insert mtr_insert ho ha (hb _) hw h2 hs hp)) rfl rfl rfl
      | popAt => exact .mk' (snd_meth (pe_bm PySem.F.plainAttrs_list PySem.F.slot_list_pop PySem.F.type_list_pop mtr_popAt ho ha (hb _) hw h2 hs hp)) rfl rfl rfl
      | split => exact .mk' (snd_meth (pe_bm PySem.F.plainAttrs_str PySem.F.slot_str_split PySem.F.type_str_split mtr_split ho ha (hb _) hw h2 hs hp)) rfl rfl rfl
      | join => exact .mk' (snd_meth (pe_bm PySem.F.plainAttrs_str PySem.F.slot_str_join PySem.F.type_str_join mtr_join ho ha (hb _) hw h2 hs hp)) rfl rfl rfl
      | get => exact .mk' (snd_meth (pe_bm PySem.F.plainAttrs_dict PySem.F.slot_dict_get PySem.F.type_dict_get (mtr_get ok.hu) ho ha (hb _) hw h2 hs hp)) rfl rfl rfl
      | upd => exact .mk' (snd_meth (pe_bm PySem.F.plainAttrs_dict PySem.F.slot_dict_update PySem.F.type_dict_update mtr_upd ho ha (hb _) hw h2 hs hp)) rfl rfl rfl
      | _ => cases h7
  · cases h
def ckOpq (G : Sc) (e : Expr) : Bool := match e with
  | .Call (.Name x _) [] [] _ => decide (x = G.opq) && glB G x
  | _ => false
omit ih in
theorem ckOpq_ok (ok : OkX X cl G) {e : Expr} (h : ckOpq G e = true) : Snd X cl e .opq := by
  unfold ckOpq at h
  split at h
  · rw [Bool.and_eq_true, decide_eq_true_eq] at h
    obtain ⟨h1, h2⟩ := h
    subst h1
    exact .mk' (snd_opqV (ok.op X rfl rfl rfl rfl rfl rfl _ _ (gl_of ok h2).1)) rfl rfl rfl
  · cases h
def ckAddz (f : Expr → Ex → Bool) (e : Expr) (a b : Ex) : Bool := match e with
  | .BinOp x .Add y _ => f x a && f y b
  | _ => false
theorem ckAddz_ok {e : Expr} {a b : Ex} (h : ckAddz f e a b = true) : Snd X cl e (.addz a b) := by
  unfold ckAddz at h
  split at h
  · rw [Bool.and_eq_true] at h
    exact .mk' (snd_addz (ih _ _ h.1).v (ih _ _ h.2).v) rfl rfl rfl
  · cases h
def ckNegz (f : Expr → Ex → Bool) (e : Expr) (a : Ex) : Bool := match e with
  | .UnaryOp .USub x _ => f x a
  | _ => false
theorem ckNegz_ok {e : Expr} {a : Ex} (h : ckNegz f e a = true) : Snd X cl e (.negz a) := by
  unfold ckNegz at h
  split at h
  · exact .mk' (snd_negz (ih _ _ h).v) rfl rfl rfl
  · cases h
def ckIsb (f : Expr → Ex → Bool) (e : Expr) (no : Bool) (a b : Ex) : Bool := match e with
  | .Compare x [o] [y] _ => decide (o = if no then .IsNot else .Is) && !behindInMarks (if no then .IsNot else .Is) y && f x a && f y b
  | _ => false
theorem ckIsb_ok {e : Expr} {no : Bool} {a b : Ex} (h : ckIsb f e no a b = true) : Snd X cl e (.isb no a b) := by
  unfold ckIsb at h
  split at h
  · rename_i x o y p
    simp only [Bool.and_eq_true, decide_eq_true_eq, Bool.not_eq_true'] at h
    obtain ⟨⟨⟨h1, h2⟩, h3⟩, h4⟩ := h
    subst h1
    have hv := snd_isb (pos := p) (ih _ _ h3).v (ih _ _ h4).v h2
    exact ⟨hv, snd_opr (fun i q => by cases q) hv, snd_isbT (ih _ _ h3).v (ih _ _ h4).v h2, fun op es p q => by cases q⟩
  · cases h
def ckEqs (G : Sc) (f : Expr → Ex → Bool) (e : Expr) (a : Ex) (s : Str) : Bool := match e with
  | .Compare x [.Eq] [.Constant (.str z) _ _] _ => decide (z = s) && G.oq && f x a
  | _ => false
theorem ckEqs_ok (ok : OkX X cl G) {e : Expr} {a : Ex} {s : Str} (h : ckEqs G f e a s = true) : Snd X cl e (.eqs a s) := by
  unfold ckEqs at h
  split at h
  · rename_i x z k p2 p
    simp only [Bool.and_eq_true, decide_eq_true_eq] at h
    obtain ⟨⟨h1, h2⟩, h3⟩ := h
    subst h1
    have ho := ok.oq h2 X rfl rfl rfl rfl rfl rfl
    have hv := snd_eqs (pos := p) (b := .Constant (.str z) k p2) ok.hu ho (ih _ _ h3).o pe_str rfl
    exact ⟨hv, snd_opr (fun i q => by cases q) hv, snd_eqsT ok.hu ho (ih _ _ h3).o pe_str rfl, fun op es p q => by cases q⟩
  · cases h
def ckFrz (f : Expr → Ex → Bool) (e : Expr) (a : Ex) : Bool := plainE e && f e a
theorem ckFrz_ok {e : Expr} {a : Ex} (h : ckFrz f e a = true) : Snd X cl e (.frz a) := by
  unfold ckFrz at h
  rw [Bool.and_eq_true] at h
  exact .mk' (snd_frz (ih _ _ h.2).v) rfl rfl h.1
def ckInK (G : Sc) (f : Expr → Ex → Bool) (e : Expr) (no : Bool) (a : Ex) (ks : List Str) : Bool := match e with
  | .Compare x [o] [y] _ => decide (o = if no then CmpOp.NotIn else CmpOp.In) && !behindInMarks o y && f x a && kdB G y ks none
  | _ => false
theorem ckInK_ok (ok : OkX X cl G) {e : Expr} {no : Bool} {a : Ex} {ks : List Str} (h : ckInK G f e no a ks = true) : Snd X cl e (.inK no a ks) := by
  unfold ckInK at h
  split at h
  · rename_i x o y p
    simp only [Bool.and_eq_true, decide_eq_true_eq, Bool.not_eq_true'] at h
    obtain ⟨⟨⟨h1, h2⟩, h3⟩, h4⟩ := h
    subst h1
    obtain ⟨d, ps, hn, _, hD, rfl, _⟩ := kdB_ok ok h4
    have hv := snd_inK (pos := p) hD (ih _ _ h3).o hn h2
    exact ⟨hv, snd_opr (fun i q => by cases q) hv, snd_inKT hD (ih _ _ h3).o hn h2, fun op es p q => by cases q⟩
  · cases h
def ckSubK (G : Sc) (f : Expr → Ex → Bool) (e : Expr) (a : Ex) (ks : List Str) (ws : List W) : Bool := match e with
  | .Subscript x y _ => nsl y && f y a && kdB G x ks (some ws)
  | _ => false
theorem ckSubK_ok (ok : OkX X cl G) {e : Expr} {a : Ex} {ks : List Str} {ws : List W} (h : ckSubK G f e a ks ws = true) : Snd X cl e (.subK a ks ws) := by
  unfold ckSubK at h
  split at h
  · simp only [Bool.and_eq_true] at h
    obtain ⟨⟨h1, h2⟩, h3⟩ := h
    obtain ⟨d, ps, hn, _, _, _, _, hK⟩ := kdB_ok ok h3
    exact .mk' (snd_subK (hK _ rfl) hn (ih _ _ h2).o (nsl_ix h1)) rfl rfl rfl
  · cases h
def ckTupK (G : Sc) (e : Expr) (ks : List Str) : Bool := match e with
  | .Call (.Name x _) [y] [] _ => decide (x = ("tuple" : Str)) && glB G x && kdB G y ks none
  | _ => false
theorem ckTupK_ok (ok : OkX X cl G) {e : Expr} {ks : List Str} (h : ckTupK G e ks = true) : Snd X cl e (.tupK ks) := by
  unfold ckTupK at h
  split at h
  · simp only [Bool.and_eq_true, decide_eq_true_eq] at h
    obtain ⟨⟨h1, h2⟩, h3⟩ := h
    subst h1
    obtain ⟨d, ps, hn, hs, hD, rfl, few, _⟩ := kdB_ok ok h3
    exact .mk' (snd_tupK ok.calm hD few (gl_of ok h2).1 (ok_blt ok (by decide)) (by decide +kernel) (he := hn) (hs := starEach_ns hs)) rfl rfl rfl
  · cases h
theorem ckDcs_ok {e : Expr} {ks vs : List Str} (h : ckDcB e ks vs = true) : Snd X cl e (.dcs ks vs) := by
  obtain ⟨hv, keys, values, pos, rfl⟩ := ckDcB_ok (X := X) (cl := cl) h
  exact .mk' hv rfl rfl rfl
/-! ### what is gone through -/
def ckSrc (G : Sc) (f : Expr → Ex → Bool) (tg iter : Expr) (s : Sr) (ms : List Ex) : Bool := match s with
  | .seq => (match ms with
    | [m] => noStar m && f iter m && notSet iter
    | _ => false)
  | .rng1 => (match iter with
    | .Call (.Name x _) [a] [] _ => decide (x = ("range" : Str)) && glB G x && ckN f [a] ms
    | _ => false)
  | .rng2 => (match iter with
    | .Call (.Name x _) [a, b] [] _ => decide (x = ("range" : Str)) && glB G x && ckN f [a, b] ms
    | _ => false)
  | .enum => (match iter, tg with
    | .Call (.Name x _) [a] [] _, .Tuple .. => decide (x = ("enumerate" : Str)) && glB G x && ckN f [a] ms
    | _, _ => false)
  | .zip => (match iter, tg with
    | .Call (.Name x _) [a, b] [] _, .Tuple .. => decide (x = ("zip" : Str)) && glB G x && ckN f [a, b] ms
    | _, _ => false)
theorem ckN1 {a : Expr} {ms : List Ex} (h : ckN f [a] ms = true) : ∃ m, ms = [m] ∧ noStar m = true ∧ nsE a = true := by
  obtain ⟨n1, n2, n3⟩ := ckN_ns ih h
  match ms, n3 with
  | [m], _ => exact ⟨m, rfl, by simpa using n2, by simpa using n1⟩
theorem ckN2 {a b : Expr} {ms : List Ex} (h : ckN f [a, b] ms = true) : ∃ m m', ms = [m, m'] ∧ noStar m = true ∧ noStar m' = true ∧ nsE a = true ∧ nsE b = true := by
  obtain ⟨n1, n2, n3⟩ := ckN_ns ih h
  match ms, n3 with
  | [m, m'], _ =>
    simp only [List.all_cons, List.all_nil, Bool.and_true, Bool.and_eq_true] at n1 n2
    exact ⟨m, m', rfl, n2.1, n2.2, n1.1, n1.2⟩
theorem ckSrc_ok (ok : OkX X cl G) {tg iter : Expr} {s : Sr} {ms : List Ex} (h : ckSrc G f tg iter s ms = true) : PI X tg iter (TSrc X cl s ms) ∧ ∀ x, foldedSetIterable iter X.env x = pure x := by
  unfold ckSrc at h
  split at h
  · split at h
    · simp only [Bool.and_eq_true] at h
      exact ⟨src_seq h.1.1 (ih _ _ h.1.2).v, notSet_ok h.2⟩
    · cases h
  · split at h
    · simp only [Bool.and_eq_true, decide_eq_true_eq] at h
      obtain ⟨⟨h1, h2⟩, h3⟩ := h
      subst h1
      obtain ⟨m, rfl, n1, n2⟩ := ckN1 ih h3
      exact ⟨src_rng1 n1 (gl_of ok h2).1 (ok_blt ok (by decide)) (ckN_v ih h3) (starEach_ns n2), fun _ => rfl⟩
    · cases h
  · split at h
    · simp only [Bool.and_eq_true, decide_eq_true_eq] at h
      obtain ⟨⟨h1, h2⟩, h3⟩ := h
      subst h1
      obtain ⟨m, m', rfl, n1, n2, n3, n4⟩ := ckN2 ih h3
      refine ⟨src_rng2 n1 n2 (gl_of ok h2).1 (ok_blt ok (by decide)) (ckN_v ih h3) ?_ (starEach_ns n4), fun _ => rfl⟩
      rw [starEach_ns n3, starEach_ns n4]; rfl
    · cases h
  · split at h
    · simp only [Bool.and_eq_true, decide_eq_true_eq] at h
      obtain ⟨⟨h1, h2⟩, h3⟩ := h
      subst h1
      obtain ⟨m, rfl, n1, n2⟩ := ckN1 ih h3
      exact ⟨src_enum n1 (gl_of ok h2).1 (ok_blt ok (by decide)) (ckN_v ih h3) (starEach_ns n2), fun _ => rfl⟩
    · cases h
  · split at h
    · simp only [Bool.and_eq_true, decide_eq_true_eq] at h
      obtain ⟨⟨h1, h2⟩, h3⟩ := h
      subst h1
      obtain ⟨m, m', rfl, n1, n2, n3, n4⟩ := ckN2 ih h3
      exact ⟨src_zip n1 n2 (gl_of ok h2).1 (ok_blt ok (by decide)) (ckN_v ih h3) (starEach_ns n3) (backTo_any (by simp [n4]) _), fun _ => rfl⟩
    · cases h
end
def ownOf (G : Sc) (own : List Nat) : List (Str × Nat) := own.map fun i => (G.N.getD i Str.empty, i)
theorem ownOf_snd (own : List Nat) : (ownOf G own).map (·.2) = own := by
  unfold ownOf
  rw [List.map_map]
  exact List.map_id' own
/-- a comprehension: g checks in the block -/
def ckComp (G : Sc) (f : Expr → Ex → Bool) (g : Sc → Expr → Ex → Bool) (e : Expr) (elt : Ex) (t : Tg) (s : Sr) (src : List Ex) (test : Option Ex) (own : List Nat) : Bool := match e with
  | .ListComp x [⟨tg, iter, ifs, as⟩] scope _ => decide (as = 0) && ckSrc G f tg iter s src && blkC G.N G.sc scope (ownOf G own) && ownB scope (ownOf G own) && own.all (fun i => decide (i < G.N.length)) && (tgs t).all (fun i => decide (i ∈ own)) &&
    ckTg (blkSc G scope (ownOf G own)) tg t && (match ifs, test with
      | [], none => true
      | [c], some m => g (blkSc G scope (ownOf G own)) c m
      | _, _ => false) && g (blkSc G scope (ownOf G own)) x elt
  | _ => false
theorem ckComp_parts {f : Expr → Ex → Bool} {g : Sc → Expr → Ex → Bool} (ih : ∀ e m, f e m = true → Snd X cl e m) (ihg : ∀ (Y : Cx) (G : Sc), OkX Y cl G → ∀ e m, g G e m = true → Snd Y cl e m) (ok : OkX X cl G) {e : Expr} {elt : Ex} {t : Tg} {s : Sr} {src : List Ex} {test : Option Ex} {own : List Nat} (h : ckComp G f g e elt t s src test own = true) :
    ∃ x tg iter ifs scope pos, e = .ListComp x [⟨tg, iter, ifs, 0⟩] scope pos ∧ PI X tg iter (TSrc X cl s src) ∧ (∀ x, foldedSetIterable iter X.env x = pure x) ∧ BlkOk X.N X.env.scope scope (ownOf G own) ∧ (∀ i ∈ own, i < X.N.length) ∧ (∀ i ∈ tgs t, i ∈ own) ∧
    (∀ (s : Shared) (H : Hp) (C : Addr) (c : List (Str × Addr)) (fp : List Addr), PG (X.blk s H scope (compEnvC scope c C X.env) fp) tg (tTg X.K t)) ∧
    (∀ (s : Shared) (H : Hp) (C : Addr) (c : List (Str × Addr)) (fp : List Addr), PTs (X.blk s H scope (compEnvC scope c C X.env) fp) ifs (tTst X.K cl X.N.length test)) ∧
    (∀ (s : Shared) (H : Hp) (C : Addr) (c : List (Str × Addr)) (fp : List Addr), PE (X.blk s H scope (compEnvC scope c C X.env) fp) x (tV X.K cl X.N.length elt)) := by
  unfold ckComp at h
  split at h
  · rename_i x tg iter ifs as scope pos
    simp only [Bool.and_eq_true, decide_eq_true_eq] at h
    obtain ⟨⟨⟨⟨⟨⟨⟨⟨h1, h2⟩, h3⟩, h4⟩, h5⟩, h6⟩, h7⟩, h8⟩, h9⟩ := h
    subst h1
    obtain ⟨p1, p2⟩ := ckSrc_ok ih ok h2
    have hB : BlkOk X.N X.env.scope scope (ownOf G own) := by rw [ok.N, ok.sc]; exact blkOk_by h3
    have okb := fun s H C c fp => ok_blk ok (scope := scope) (own := ownOf G own) hB.kind h4 s H C c fp
    refine ⟨x, tg, iter, ifs, scope, pos, rfl, p1, p2, hB, fun i hi => ?_, fun i hi => of_decide_eq_true (List.all_eq_true.mp h6 i hi), fun s H C c fp => (ckTg_ok (okb s H C c fp) h7).1, fun s H C c fp => ?_, fun s H C c fp => (ihg _ _ (okb s H C c fp) _ _ h9).v⟩
    · rw [ok.N]; exact of_decide_eq_true (List.all_eq_true.mp h5 i hi)
    · split at h8
      · exact tst_none
      · exact tst_some (ihg _ _ (okb s H C c fp) _ _ h8).t
      · cases h8
  · cases h
theorem ckComp_ok {f : Expr → Ex → Bool} {g : Sc → Expr → Ex → Bool} (ih : ∀ e m, f e m = true → Snd X cl e m) (ihg : ∀ (Y : Cx) (G : Sc), OkX Y cl G → ∀ e m, g G e m = true → Snd Y cl e m) (ok : OkX X cl G) {e : Expr} {elt : Ex} {t : Tg} {s : Sr} {src : List Ex} {test : Option Ex} {own : List Nat} (h : ckComp G f g e elt t s src test own = true) : Snd X cl e (.comp elt t s src test own) := by
  obtain ⟨x, tg, iter, ifs, scope, pos, rfl, p1, p2, p3, p4, p5, p6, p7, p8⟩ := ckComp_parts ih ihg ok h
  have hv := snd_comp (own := ownOf G own) (pos := pos) ok.calm ok.nd p1 p3 (by rw [ownOf_snd]; exact p4) (by rw [ownOf_snd]; exact p5) p6 p7 p8 p2
  rw [ownOf_snd] at hv
  exact .mk' hv rfl rfl rfl
/-! ### the whole -/
def one? : Expr → Option Expr
  | .BoolOp _ [e] _ => some e
  | _ => none
def ckE : Nat → Sc → Expr → Ex → Bool
  | 0, _, _, _ => false
  | n + 1, G, e, m => match one? e with
    | some e1 => ckE n G e1 m
    | none => match m with
      | .k x => ckK e x
      | .var i => ckVar G e i
      | .glob w => ckGl G e w
      | .bin op a b => ckBin (ckE n G) e op a b
      | .neg a => ckNeg (ckE n G) e a
      | .not a => ckNot (ckE n G) e a
      | .and a b => ckAnd (ckE n G) e a b
      | .or a b => ckOr (ckE n G) e a b
      | .cmp op a b => ckCmp (ckE n G) e op a b
      | .chain op op' a b c => ckChain (ckE n G) e op op' a b c
      | .ite c a b => ckIte (ckE n G) e c a b
      | .sub a i => ckSub (ckE n G) e a i
      | .slice a lo hi => ckSlice (ckE n G) e a lo hi
      | .tup es => ckTup (ckE n G) e es
      | .lst es => ckLst (ckE n G) e es
      | .star _ => false
      | .dct ks es => ckDct (ckE n G) e ks es
      | .comp elt t s src test own => ckComp G (ckE n G) (ckE n) e elt t s src test own
      | .call i es => ckCall G (ckE n G) e i es
      | .bi b es => ckBi G (ckE n G) e b es
      | .isi a ts => ckIsi G (ckE n G) e a ts
      | .meth mt o es => ckMeth (ckE n G) e mt o es
      | .opq => ckOpq G e
      | .frz a => ckFrz (ckE n G) e a
      | .addz a b => ckAddz (ckE n G) e a b
      | .negz a => ckNegz (ckE n G) e a
      | .isb no a b => ckIsb (ckE n G) e no a b
      | .eqs a s => ckEqs G (ckE n G) e a s
      | .inK no a ks => ckInK G (ckE n G) e no a ks
      | .subK a ks ws => ckSubK G (ckE n G) e a ks ws
      | .tupK ks => ckTupK G e ks
      | .dcs ks vs => ckDcB e ks vs
end
theorem ckE_ok {cl : Nat → List W → Option (List W × W)} : ∀ (n : Nat) (X : Cx) (G : Sc), OkX X cl G → ∀ (e : Expr) (m : Ex), ckE n G e m = true → Snd X cl e m
  | 0, X, G, ok, e, m, h => by cases h
  | n + 1, X, G, ok, e, m, h => by
    have ih := ckE_ok n X G ok
    simp only [ckE] at h
    split at h
    · rename_i e1 he
      cases e with
      | BoolOp op es p =>
        match es, he with
        | [x], he => cases he; exact bool_one (ih _ _ h)
      | _ => cases he
    · split at h
      · exact ckK_ok h
      · exact ckVar_ok ok h
      · exact ckGl_ok ok h
      · exact ckBin_ok ih h
      · exact ckNeg_ok ih h
      · exact ckNot_ok ih h
      · exact ckAnd_ok ih h
      · exact ckOr_ok ih h
      · exact ckCmp_ok ih ok h
      · exact ckChain_ok ih ok h
      · exact ckIte_ok ih h
      · exact ckSub_ok ih ok h
      · exact ckSlice_ok ih h
      · exact ckTup_ok ih h
      · exact ckLst_ok ih h
      · cases h
      · exact ckDct_ok ih h
      · exact ckComp_ok ih (fun Y G' okY => ckE_ok n Y G' okY) ok h
      · exact ckCall_ok ih ok h
      · exact ckBi_ok ih ok h
      · exact ckIsi_ok ih ok h
      · exact ckMeth_ok ih ok h
      · exact ckOpq_ok ok h
      · exact ckFrz_ok ih h
      · exact ckAddz_ok ih h
      · exact ckNegz_ok ih h
      · exact ckIsb_ok ih h
      · exact ckEqs_ok ih ok h
      · exact ckInK_ok ih ok h
      · exact ckSubK_ok ih ok h
      · exact ckTupK_ok ih ok h
      · exact ckDcs_ok ih h
end Lin

set_option Elab.async false
set_option linter.all false
set_option maxRecDepth 100000
set_option maxHeartbeats 4000000
/-! Lin, part Y: the checker of statements. -/
namespace Lin
open PySem L2 PySem.SeqAt
section
variable {X : Cx} {cl : Nat → List W → Option (List W × W)} {G : Sc} {kp : List Nat}
theorem set_impN {te : TE} {i : Nat} {m : Ex} (hk : i ∉ kp) (hb : i < X.N.length) (hte : ∀ σ H Q, TV X cl m σ H Q → te σ H Q) : ∀ D σ H, TSm X cl kp (.set (.nm i) m) D σ H → tAsg te (gName i) D σ H := fun D σ H ⟨hl, F, ρ, T, o, ρ', wd, ev, d⟩ => by
  obtain ⟨w, ρ1, e1, e2, rfl⟩ := bindT_val ev
  cases e2
  refine hte _ _ _ ⟨hl, F, ρ, T, w, ρ1, wd, e1, fun F1 H1 v s1 w1 => ?_⟩
  refine d F1 H1 _ s1 ⟨by rw [List.length_set], fun j hj => ?_⟩ (Wd.store w1 (by rw [hl]; exact hb))
  exact nset (show j ≠ i from fun e => hk (by rw [← e]; exact hj))
theorem snd_par3 {i j k : Nat} {ms : List Ex} {st : Stmt} {ta : TA} (h : PS X st (tPar3 i j k ta)) (hta : ∀ σ H Q, TLs X cl ms σ H Q → ta σ H Q) (hk : ∀ l ∈ [i, j, k], l ∉ kp) (hb : ∀ l ∈ [i, j, k], l < X.N.length) : PS X st (TSm X cl kp (.set (.tp [i, j, k]) (.tup ms))) := by
  refine PS_imp h fun D σ H ⟨hl, F, ρ, T, o, ρ', wd, ev, d⟩ => ?_
  obtain ⟨w, ρ1, e1, e2, rfl⟩ := bindT_val ev
  obtain ⟨ws, e3, rfl⟩ := tup_ev e1
  refine hta _ _ _ ⟨hl, F, ρ, T, ws, ρ1, wd, e3, fun F1 H1 vs s1 l1 w1 => ?_⟩
  have hlen := setL_len (show setL [i, j, k] ws ρ1 = some ρ' from e2)
  match ws, vs, hlen, l1 with
  | [x, y, z], [v, u, t], _, _ =>
    cases e2
    have w1 : Wd X.K F1 H1 ((some v, x) :: (some u, y) :: (some t, z) :: (T ++ Sl σ ρ1)) := w1
    have hi : i < σ.length := by rw [hl]; exact hb i (by simp)
    have hj : j < (σ.set i (some v)).length := by rw [List.length_set, hl]; exact hb j (by simp)
    have hk' : k < ((σ.set i (some v)).set j (some u)).length := by rw [List.length_set, List.length_set, hl]; exact hb k (by simp)
    have w2 := Wd.store (T := (some u, y) :: (some t, z) :: T) w1 hi
    have w3 := Wd.store (T := (some t, z) :: T) w2 hj
    have w4 := Wd.store (T := T) w3 hk'
    refine ⟨v, u, t, rfl, d F1 H1 _ s1 ⟨by simp, fun l hl => ?_⟩ w4⟩
    rw [nset (show l ≠ k from fun e => hk k (by simp) (by rw [← e]; exact hl)), nset (show l ≠ j from fun e => hk j (by simp) (by rw [← e]; exact hl)), nset (show l ≠ i from fun e => hk i (by simp) (by rw [← e]; exact hl))]
/-! ### when stores are swapped -/
def noComp : Expr → Bool
  | .ListComp .. => false
  | .SetComp .. => false
  | .DictComp .. => false
  | _ => true
theorem noComp_sw {e : Expr} (h : noComp e = true) (t : Option Expr) (l : Nat) : swapsWith e t l X.env = pure false := by
  cases e <;> first | rfl | cases h
def isStar : Expr → Bool
  | .Starred .. => true
  | _ => false
def nmLoc (k : Str → Option NameKind) (line : Nat) : Expr → Option Str
  | .Name id pos => if k id == some .local && pos.line == line then some id else none
  | _ => none
/-- which names are stored swapped; none: not told -/
def swN (k : Str → Option NameKind) (ts vs : List Expr) : Option (Option (List Str)) :=
  if (!(ts.length == 2 || ts.length == 3) || vs.length != ts.length) = true then some none else
  if vs.any isStar = true then some none else
  let names := ts.filterMap (nmLoc k ((ts.head?.map (·.pos.line)).getD 0))
  if (names.length != ts.length || names.eraseDups.length != names.length) = true then some none else
  if vs.all (foldedForSure 8) = true then some none else
  if vs.all (constantsAlone 8) = true then none else some (some names)
theorem sw_eq {ts vs : List Expr} {k k2 : Nat} {p p2 : Pos} {r : Option (List Str)} (hb : X.env.blockKind = .function) (h : swN X.env.kindOf ts vs = some r) : swappedStores [.Tuple ts k p] (.Tuple vs k2 p2) X.env = pure r := by
  have e1 : (X.env.blockKind != .function) = false := by rw [hb]; rfl
  have key : swappedStores [.Tuple ts k p] (.Tuple vs k2 p2) X.env = (if (!(ts.length == 2 || ts.length == 3) || vs.length != ts.length || X.env.blockKind != .function) = true then pure none else
    if vs.any isStar = true then pure none else
    if ((ts.filterMap (nmLoc X.env.kindOf ((ts.head?.map (·.pos.line)).getD 0))).length != ts.length || (ts.filterMap (nmLoc X.env.kindOf ((ts.head?.map (·.pos.line)).getD 0))).eraseDups.length != (ts.filterMap (nmLoc X.env.kindOf ((ts.head?.map (·.pos.line)).getD 0))).length) = true then pure none else
    if vs.all (foldedForSure 8) = true then pure none else
    if vs.all (constantsAlone 8) = true then (do
      let _ ← (unsupported "assign.tuple-of-constant-expressions:order-of-the-stores" : Sem PUnit)
      pure (some (ts.filterMap (nmLoc X.env.kindOf ((ts.head?.map (·.pos.line)).getD 0))))) else pure (some (ts.filterMap (nmLoc X.env.kindOf ((ts.head?.map (·.pos.line)).getD 0))))) := rfl
  rw [key, e1, Bool.or_false]
  unfold swN at h
  split at h
  · rename_i c; cases h; rw [if_pos c]
  rename_i c; rw [if_neg c]
  split at h
  · rename_i c2; cases h; rw [if_pos c2]
  rename_i c2; rw [if_neg c2]
  simp only at h
  split at h
  · rename_i c3; cases h; rw [if_pos c3]
  rename_i c3; rw [if_neg c3]
  split at h
  · rename_i c4; cases h; rw [if_pos c4]
  rename_i c4; rw [if_neg c4]
  split at h
  · cases h
  rename_i c5; cases h; rw [if_neg c5]
end
end Lin

set_option Elab.async false
set_option linter.all false
set_option maxRecDepth 100000
set_option maxHeartbeats 4000000
/-! Lin, part Z: the checker of statements. -/
namespace Lin
open PySem L2 PySem.SeqAt
section
variable {X : Cx} {cl : Nat → List W → Option (List W × W)} {G : Sc} {kp : List Nat}
def isTupE : Expr → Bool
  | .Tuple .. => true
  | _ => false
def isTL : Expr → Bool
  | .Tuple .. => true
  | .List .. => true
  | _ => false
theorem sw_none1 {tg e : Expr} (h : isTL tg = false) : swappedStores [tg] e X.env = pure none := by
  cases tg <;> first | (cases h; done) | (cases e <;> rfl)
theorem sw_none2 {tg e : Expr} (h : isTupE e = false) : swappedStores [tg] e X.env = pure none := by
  cases tg <;> first | (cases e <;> first | rfl | (cases h; done))
def offKp (kp : List Nat) (is : List Nat) : Bool := is.all fun i => decide (i ∉ kp)
theorem off_of {is : List Nat} (h : offKp kp is = true) : ∀ i ∈ is, i ∉ kp := fun i hi => of_decide_eq_true (List.all_eq_true.mp h i hi)
theorem blockKind_fn (ok : OkX X cl G) : X.env.blockKind = .function := by
  unfold Env.blockKind
  rw [ok.sc, ok.kind]
  rfl
def locB (G : Sc) (x : Str) : Bool := decide (G.sc.names.lookup x = some .local)
/-- a store of the plain form: e no comprehension, or the target no local name -/
def plainSet (G : Sc) (tg e : Expr) : Bool := (noComp e || (match e, tg with
    | .ListComp .., .Name x _ => !locB G x
    | .ListComp .., .Tuple .. => true
    | _, _ => false)) && (match tg, e with
    | .Tuple ts _ _, .Tuple vs _ _ => decide (swN (fun x => G.sc.names.lookup x) ts vs = some none)
    | .List .., _ => false
    | _, _ => true)
theorem kindOf_eq (ok : OkX X cl G) : X.env.kindOf = fun x => G.sc.names.lookup x := by
  funext x
  show X.env.scope.names.lookup x = _
  rw [ok.sc]
theorem plainSet_ok (ok : OkX X cl G) {tg e : Expr} (h : plainSet G tg e = true) (l : Nat) : swapsWithSole [tg] e l X.env = pure false ∧ swappedStores [tg] e X.env = pure none := by
  unfold plainSet at h
  rw [Bool.and_eq_true, Bool.or_eq_true] at h
  obtain ⟨h1, h2⟩ := h
  refine ⟨?_, ?_⟩
  · rcases h1 with h1 | h1
    · exact noComp_sw h1 _ _
    · split at h1
      · rename_i elt gs sc p x q
        rw [Bool.not_eq_true'] at h1
        unfold locB at h1
        have hk : (X.env.kindOf x == some .local) = false := by
          rw [kindOf_eq ok]
          rw [decide_eq_false_iff_not] at h1
          exact beq_eq_false_iff_ne.mpr h1
        show (pure (X.env.blockKind == .function && X.env.kindOf x == some .local && q.line == p.line && !(sc.names.any fun (n, k) => n == x && (k == .local || k == .cell))) : Sem Bool) = pure false
        rw [hk]
        simp
      · rfl
      · cases h1
  · split at h2
    · rw [decide_eq_true_eq] at h2
      exact sw_eq (blockKind_fn ok) (by rw [kindOf_eq ok]; exact h2)
    · cases h2
    · rename_i n1 n2
      cases tg with
      | Tuple ts k p =>
        cases e with
        | Tuple vs k2 p2 =>
          exfalso
          first
            | exact n1 _ _ _ _ _ _ rfl rfl
            | exact n2 _ _ _ _ _ _ rfl rfl
            | exact (by simp at n2)
            | (simp at n2; exact n2 _ _ _ _ _ _ rfl rfl rfl rfl rfl rfl)
        | _ => rfl
      | List ts p => exfalso; simp_all
      | _ => cases e <;> rfl
section
variable {f : Expr → Ex → Bool} (ih : ∀ e m, f e m = true → Snd X cl e m)
include ih
def ckSetP (G : Sc) (f : Expr → Ex → Bool) (kp : List Nat) (st : Stmt) (t : Tg) (m : Ex) : Bool := match st with
  | .Assign [tg] e _ => plainSet G tg e && ckTg G tg t && f e m && offKp kp (tgs t)
  | _ => false
theorem ckSetP_ok (ok : OkX X cl G) {st : Stmt} {t : Tg} {m : Ex} (h : ckSetP G f kp st t m = true) : PS X st (TSm X cl kp (.set t m)) := by
  unfold ckSetP at h
  split at h
  · rename_i tg e p
    simp only [Bool.and_eq_true] at h
    obtain ⟨⟨⟨h1, h2⟩, h3⟩, h4⟩ := h
    obtain ⟨a, b⟩ := plainSet_ok ok h1 p.line
    obtain ⟨c, d, g⟩ := ckTg_ok ok h2
    exact snd_set (ih _ _ h3).v c (off_of h4) d a b g
  · cases h
def ckPar (G : Sc) (f : Expr → Ex → Bool) (kp : List Nat) (st : Stmt) (t : Tg) (m : Ex) : Bool := match st, t, m with
  | .Assign [.Tuple [.Name x p1, .Name y p2] k3 p3] (.Tuple [a, b] k4 p4) _, .tp [i, j], .tup ms => decide (swN (fun x => G.sc.names.lookup x) [.Name x p1, .Name y p2] [a, b] = some (some [x, y])) && decide (G.N[i]? = some x) && decide (G.N[j]? = some y) && decide (i ≠ j) &&
    locB G x && locB G y && ckL f [a, b] ms && offKp kp [i, j]
  | _, _, _ => false
theorem ckPar_ok (ok : OkX X cl G) {st : Stmt} {t : Tg} {m : Ex} (h : ckPar G f kp st t m = true) : PS X st (TSm X cl kp (.set t m)) := by
  unfold ckPar at h
  split at h
  · rename_i x p1 y p2 k3 p3 a b k4 p4 p5 i j ms
    simp only [Bool.and_eq_true, decide_eq_true_eq] at h
    obtain ⟨⟨⟨⟨⟨⟨⟨h1, h2⟩, h3⟩, h4⟩, h5⟩, h6⟩, h7⟩, h8⟩ := h
    have hi : X.N[i]? = some x := by rw [ok.N]; exact h2
    have hj : X.N[j]? = some y := by rw [ok.N]; exact h3
    have hx : X.env.scope.names.lookup x = some .local := by rw [ok.sc]; exact of_decide_eq_true h5
    have hy : X.env.scope.names.lookup y = some .local := by rw [ok.sc]; exact of_decide_eq_true h6
    have hw := sw_eq (X := X) (k := k3) (p := p3) (k2 := k4) (p2 := p4) (blockKind_fn ok) (by rw [kindOf_eq ok]; exact h1)
    refine snd_par (ps_par ok.calm ok.nd hi hj h4 hx hy (ckL_ok ih h7) hw rfl) (fun _ _ _ h => h) (off_of h8) fun l hl => ?_
    rcases List.mem_cons.mp hl with rfl | hl
    · exact (List.getElem?_eq_some_iff.mp hi).1
    · rw [List.mem_singleton.mp hl]; exact (List.getElem?_eq_some_iff.mp hj).1
  · cases h
def ckPar3 (G : Sc) (f : Expr → Ex → Bool) (kp : List Nat) (st : Stmt) (t : Tg) (m : Ex) : Bool := match st, t, m with
  | .Assign [.Tuple [.Name x p1, .Name y p2, .Name z p6] k3 p3] (.Tuple [a, b, c] k4 p4) _, .tp [i, j, l], .tup ms => decide (swN (fun x => G.sc.names.lookup x) [.Name x p1, .Name y p2, .Name z p6] [a, b, c] = some (some [x, y, z])) && decide (G.N[i]? = some x) && decide (G.N[j]? = some y) && decide (G.N[l]? = some z) &&
    decide (i ≠ j) && decide (i ≠ l) && decide (j ≠ l) && locB G x && locB G y && locB G z && ckL f [a, b, c] ms && offKp kp [i, j, l]
  | _, _, _ => false
theorem ckPar3_ok (ok : OkX X cl G) {st : Stmt} {t : Tg} {m : Ex} (h : ckPar3 G f kp st t m = true) : PS X st (TSm X cl kp (.set t m)) := by
  unfold ckPar3 at h
  split at h
  · rename_i x p1 y p2 z p6 k3 p3 a b c k4 p4 p5 i j l ms
    simp only [Bool.and_eq_true, decide_eq_true_eq] at h
    obtain ⟨⟨⟨⟨⟨⟨⟨⟨⟨⟨⟨h1, h2⟩, h3⟩, h4⟩, h5⟩, h6⟩, h7⟩, h8⟩, h9⟩, h10⟩, h11⟩, h12⟩ := h
    have hi : X.N[i]? = some x := by rw [ok.N]; exact h2
    have hj : X.N[j]? = some y := by rw [ok.N]; exact h3
    have hl : X.N[l]? = some z := by rw [ok.N]; exact h4
    have hx : X.env.scope.names.lookup x = some .local := by rw [ok.sc]; exact of_decide_eq_true h8
    have hy : X.env.scope.names.lookup y = some .local := by rw [ok.sc]; exact of_decide_eq_true h9
    have hz : X.env.scope.names.lookup z = some .local := by rw [ok.sc]; exact of_decide_eq_true h10
    have hw := sw_eq (X := X) (k := k3) (p := p3) (k2 := k4) (p2 := p4) (blockKind_fn ok) (by rw [kindOf_eq ok]; exact h1)
    refine snd_par3 (ps_par3 ok.calm ok.nd hi hj hl h5 h6 h7 hx hy hz (ckL_ok ih h11) hw rfl) (fun _ _ _ h => h) (off_of h12) fun q hq => ?_
    rcases List.mem_cons.mp hq with rfl | hq
    · exact (List.getElem?_eq_some_iff.mp hi).1
    · rcases List.mem_cons.mp hq with rfl | hq
      · exact (List.getElem?_eq_some_iff.mp hj).1
      · rw [List.mem_singleton.mp hq]; exact (List.getElem?_eq_some_iff.mp hl).1
  · cases h
/-- a comprehension that is stored on its own line -/
def ckLc (G : Sc) (f : Expr → Ex → Bool) (g : Sc → Expr → Ex → Bool) (kp : List Nat) (st : Stmt) (t : Tg) (m : Ex) : Bool := match st, t, m with
  | .Assign [.Name y py] (.ListComp x gs scope pos) _, .nm i, .comp elt t' s src test own => locB G y && decide (G.N[i]? = some y) && (py.line == pos.line) && !(scope.names.any fun (n, k) => n == y && (k == .local || k == .cell)) && decide (i ∉ kp) &&
    ckComp G f g (.ListComp x gs scope pos) elt t' s src test own
  | _, _, _ => false
theorem ckLc_ok {g : Sc → Expr → Ex → Bool} (ihg : ∀ (Y : Cx) (G : Sc), OkX Y cl G → ∀ e m, g G e m = true → Snd Y cl e m) (ok : OkX X cl G) {st : Stmt} {t : Tg} {m : Ex} (h : ckLc G f g kp st t m = true) : PS X st (TSm X cl kp (.set t m)) := by
  unfold ckLc at h
  split at h
  · rename_i y py x gs scope pos spos i elt t' s src test own
    simp only [Bool.and_eq_true, decide_eq_true_eq, Bool.not_eq_true'] at h
    obtain ⟨⟨⟨⟨⟨h1, h2⟩, h3⟩, h4⟩, h5⟩, h6⟩ := h
    obtain ⟨x', tg, iter, ifs, scope', pos', he, p1, p2, p3, p4, p5, p6, p7, p8⟩ := ckComp_parts ih ihg ok h6
    cases he
    have hy : X.env.scope.names.lookup y = some .local := by rw [ok.sc]; exact of_decide_eq_true h1
    have hi : X.N[i]? = some y := by rw [ok.N]; exact h2
    have hlt := (List.getElem?_eq_some_iff.mp hi).1
    refine PS_imp (ps_setLc (i := i) (own := ownOf G own) ok.calm ok.nd hi hy (sw_true (by rw [ok.sc]; exact ok.kind) hy h3 h4) p1 p3 p6 p7 p8 p2) (set_impN h5 hlt fun σ H Q h => ?_)
    have := comp_imp (X := X) (cl := cl) (ow := own) p4 p5 h
    rw [ownOf_snd]
    exact this
  · cases h
def ckSetS (G : Sc) (f : Expr → Ex → Bool) (st : Stmt) (i : Nat) (mi me : Ex) : Bool := match st with
  | .Assign [.Subscript o ix _] e _ => noComp e && nsl ix && ckVar G o i && f ix mi && f e me
  | _ => false
theorem ckSetS_ok (ok : OkX X cl G) {st : Stmt} {i : Nat} {mi me : Ex} (h : ckSetS G f st i mi me = true) : PS X st (TSm X cl kp (.setS i mi me)) := by
  unfold ckSetS at h
  split at h
  · rename_i o ix tp e p
    simp only [Bool.and_eq_true] at h
    obtain ⟨⟨⟨⟨h1, h5⟩, h2⟩, h3⟩, h4⟩ := h
    have ho := (ckVar_ok (cl := cl) ok h2).o
    refine snd_setS (ih _ _ h4).v ho (ih _ _ h3).v (pg_sub ho (ih _ _ h3).v set_list (fun _ => ?_)) (show swapsWith e (some (.Subscript o ix tp)) p.line X.env = pure false from noComp_sw h1 _ _) (sw_none1 rfl) rfl
    cases ix <;> first | rfl | cases h5
  · cases h
def ckAugS (G : Sc) (f : Expr → Ex → Bool) (st : Stmt) (i : Nat) (op : Bop) (mi me : Ex) : Bool := match st with
  | .AugAssign (.Subscript o ix _) o' e _ => decide (o' = bopOf op) && decide (op ≠ .pow) && nsl ix && ckVar G o i && f ix mi && f e me
  | _ => false
theorem ckAugS_ok (ok : OkX X cl G) {st : Stmt} {i : Nat} {op : Bop} {mi me : Ex} (h : ckAugS G f st i op mi me = true) : PS X st (TSm X cl kp (.augS i op mi me)) := by
  unfold ckAugS at h
  split at h
  · rename_i o ix tp o' e p
    simp only [Bool.and_eq_true, decide_eq_true_eq] at h
    obtain ⟨⟨⟨⟨⟨h1, h2⟩, h3⟩, h4⟩, h5⟩, h6⟩ := h
    subst h1
    refine snd_augS h2 (ckVar_ok (cl := cl) ok h4).o (ih _ _ h5).v (ih _ _ h6).v fun ov iv new => ?_
    cases ix <;> first | rfl | cases h3
  · cases h
def ckAug (G : Sc) (f : Expr → Ex → Bool) (kp : List Nat) (st : Stmt) (i : Nat) (op : Bop) (me : Ex) : Bool := match st with
  | .AugAssign (.Name x _) o' e _ => decide (o' = bopOf op) && decide (op ≠ .pow) && decide (G.N[i]? = some x) && decide (x ∈ G.st) && decide (i ∉ kp) && f e me
  | _ => false
theorem ckAug_ok (ok : OkX X cl G) {st : Stmt} {i : Nat} {op : Bop} {me : Ex} (h : ckAug G f kp st i op me = true) : PS X st (TSm X cl kp (.aug i op me)) := by
  unfold ckAug at h
  split at h
  · rename_i x q o' e p
    simp only [Bool.and_eq_true, decide_eq_true_eq] at h
    obtain ⟨⟨⟨⟨⟨h1, h2⟩, h3⟩, h4⟩, h5⟩, h6⟩ := h
    subst h1
    obtain ⟨s1, s2⟩ := ok.st x h4
    exact snd_aug h2 h5 ok.nd (by rw [ok.N]; exact h3) s1 (ih _ _ h6).v s2
  · cases h
end
def ckSs (f : Stmt → Sm → Bool) : List Stmt → List Sm → Bool
  | [], [] => true
  | s :: ss, m :: ms => f s m && ckSs f ss ms
  | _, _ => false
theorem ckSs_ok {f : Stmt → Sm → Bool} (ih : ∀ s m, f s m = true → PS X s (TSm X cl kp m)) : ∀ {ss : List Stmt} {ms : List Sm}, ckSs f ss ms = true → PSs X ss (TSms X cl kp ms)
  | [], [], _ => snd_snil
  | [], _ :: _, h => by cases h
  | _ :: _, [], h => by cases h
  | s :: ss, m :: ms, h => by
    simp only [ckSs, Bool.and_eq_true] at h
    exact snd_scons (ih _ _ h.1) (ckSs_ok ih h.2)
def ckS (k : Nat) (G : Sc) (kp : List Nat) : Nat → Stmt → Sm → Bool
  | 0, _, _ => false
  | n + 1, st, m => match m with
    | .set t e => ckSetP G (ckE k G) kp st t e || ckPar G (ckE k G) kp st t e || ckPar3 G (ckE k G) kp st t e || ckLc G (ckE k G) (ckE k) kp st t e
    | .setS i mi me => ckSetS G (ckE k G) st i mi me
    | .augS i op mi me => ckAugS G (ckE k G) st i op mi me
    | .aug i op me => ckAug G (ckE k G) kp st i op me
    | .ex e => (match st with
      | .Expr x _ => noComp x && ckE k G x e
      | _ => false)
    | .ret e => (match st with
      | .Return (some x) _ => ckE k G x e
      | _ => false)
    | .retm i => (match st with
      | .Return (some x) _ => ckVar G x i
      | _ => false)
    | .ife c a b => (match st with
      | .If x p q _ => ckE k G x c && ckSs (ckS k G kp n) p a && ckSs (ckS k G kp n) q b
      | _ => false)
    | .for t s src body => (match st with
      | .For tg iter b [] _ => ckSrc G (ckE k G) tg iter s src && ckTg G tg t && offKp kp (tgs t) && ckSs (ckS k G kp n) b body
      | _ => false)
    | .whl _ c body => (match st with
      | .While x b [] _ => ckE k G x c && ckSs (ckS k G kp n) b body
      | _ => false)
    | .brk => (match st with
      | .Break _ => true
      | _ => false)
    | .cnt => (match st with
      | .Continue _ => true
      | _ => false)
    | .pass => (match st with
      | .Pass _ => true
      | _ => false)
theorem ckS_ok (ok : OkX X cl G) (k : Nat) : ∀ (n : Nat) (st : Stmt) (m : Sm), ckS k G kp n st m = true → PS X st (TSm X cl kp m)
  | 0, st, m, h => by cases h
  | n + 1, st, m, h => by
    have ihE := ckE_ok (cl := cl) k X G ok
    have ihS := ckS_ok ok k n
    have hp : PassesOwn (model X.prog X.w) X.A X.env X.xe := by rw [ok.xe]; exact PassesOwn.never
    simp only [ckS] at h
    split at h
    · simp only [Bool.or_eq_true] at h
      rcases h with ((h | h) | h) | h
      · exact ckSetP_ok ihE ok h
      · exact ckPar_ok ihE ok h
      · exact ckPar3_ok ihE ok h
      · exact ckLc_ok ihE (fun Y G' okY => ckE_ok k Y G' okY) ok h
    · exact ckSetS_ok ihE ok h
    · exact ckAugS_ok ihE ok h
    · exact ckAug_ok ihE ok h
    · split at h
      · rw [Bool.and_eq_true] at h
        exact snd_expr (ihE _ _ h.2).v (noComp_sw h.1 _ _)
      · cases h
    · split at h
      · exact snd_ret (ihE _ _ h).v
      · cases h
    · split at h
      · exact snd_retm (ckVar_pe ok h).1
      · cases h
    · split at h
      · simp only [Bool.and_eq_true] at h
        exact snd_if (ihE _ _ h.1.1).t (ckSs_ok ihS h.1.2) (ckSs_ok ihS h.2)
      · cases h
    · split at h
      · simp only [Bool.and_eq_true] at h
        obtain ⟨⟨⟨h1, h2⟩, h3⟩, h4⟩ := h
        obtain ⟨p1, p2⟩ := ckSrc_ok ihE ok h1
        obtain ⟨c, d, g⟩ := ckTg_ok ok h2
        exact snd_for hp ok.calm p1 c (ckSs_ok ihS h4) (off_of h3) d p2
      · cases h
    · split at h
      · simp only [Bool.and_eq_true] at h
        exact snd_whl hp (ihE _ _ h.1).t (ckSs_ok ihS h.2)
      · cases h
    · split at h
      · exact snd_brk
      · cases h
    · split at h
      · exact snd_cnt
      · cases h
    · split at h
      · exact snd_pass
      · cases h
end
end Lin

set_option Elab.async false
set_option linter.all false
set_option maxRecDepth 100000
set_option maxHeartbeats 4000000
/-! Lin, part Za: a def keeps its promise. -/
namespace Lin
open PySem L2 PySem.SeqAt
section
variable {P : Program} {w : World} {K : PySem.W.Frag} {mg : Str → Option Value} {base : Heap}
theorem start_len {N : List Str} {vs : List V} (h : vs.length ≤ N.length) : (L2.start N vs).length = N.length := by
  unfold L2.start
  rw [List.length_append, List.length_map, List.length_replicate]
  omega
theorem start_at {N : List Str} {vs : List V} {i : Nat} {v : V} (h : vs[i]? = some v) : (L2.start N vs)[i]? = some (some v) := by
  have hi : i < vs.length := (List.getElem?_eq_some_iff.mp h).1
  unfold L2.start
  rw [List.getElem?_append_left (by rw [List.length_map]; exact hi), List.getElem?_map, h]
  rfl
theorem run_ev {tab : List Fn} {n i : Nat} {ws ws' : List W} {r : W} (h : run tab (n + 1) i ws = some (ws', r)) : ∃ F, tab[i]? = some F ∧ ws.length = F.np ∧ F.np ≤ F.ns ∧ ∃ o ρ, exs (run tab n) F.body (ws ++ List.replicate (F.ns - F.np) (.a .dead)) = some (o, ρ) ∧ ws' = backs F.np F.keep ρ ∧ ((o = .nx ∧ r = .a .non) ∨ o = .rt r) := by
  simp only [run] at h
  split at h <;> first | (cases h; done) | skip
  rename_i F hF
  split at h <;> first | (cases h; done) | skip
  rename_i hc
  split at h <;> first | (cases h; done) | skip
  · rename_i ρ e
    cases h
    exact ⟨F, hF, hc.1, hc.2, _, ρ, e, rfl, .inl ⟨rfl, rfl⟩⟩
  · rename_i w ρ e
    cases h
    exact ⟨F, hF, hc.1, hc.2, _, ρ, e, rfl, .inr rfl⟩
theorem fnG {tab : List Fn} {n i k : Nat} {Fi : Fn} {x qual : Str} {st : Stmt} {f : Addr} {fd : FuncData} {N ps : List Str} {G : Sc} (F : Fun K x qual st f fd) (S : FnScope N ps (defScope st)) (hi : tab[i]? = some Fi) (hbind : ∀ us : List Value, us.length = ps.length → bindArgs fd ⟨us, []⟩ = pure (ps.zip us))
    (hnp : ps.length = Fi.np) (hns : N.length = Fi.ns) (hck : ∀ (X : Cx), OkX X (run tab n) G → PSs X (defBody st) (TSms X (run tab n) Fi.keep Fi.body))
    (hok : ∀ (A : Around) (outer : List PySem.Env) (s : Shared) (H : Hp) (cdv : Value), Room k (A.deeper (PyProof.Rows.envOfC qual (defScope st) s.heap.objs.size f cdv)) → A.guards = some [] →
      OkX (cxOf CX0 P w K mg base N qual (defScope st) f cdv A outer s H fun _ _ _ => False).nox (run tab n) G) :
    FnG P w K mg base (k + 1) f (rCl K (run tab (n + 1) i)) := by
  intro A outer s H us vs Q hr hg e0 rv ⟨F0, T, ws, ws', r, hl, wd, hrun, q⟩
  obtain ⟨F1, hF1, h1, h2, o, ρ, ev, rfl, ho⟩ := run_ev hrun
  rw [hi] at hF1
  cases hF1
  obtain ⟨oc, od, kV, doc, pm, an, cdv, ct, osl, rfl, lk, hcd⟩ := F.ex
  have hlu : us.length = ps.length := by rw [← rv.length, hl, h1, hnp]
  have hlv : vs.length = ps.length := by rw [hl, h1, hnp]
  refine StX.run_bnd lk hcd S hr e0 (G := fun vs' H' => vs' = vs ∧ H' = H) (fun A' Ex Q' h => ?_) fun s2 H2 vs2 ⟨e1, e2⟩ hr' => ?_
  · rw [hbind us hlu]
    exact wpAny_pure (h s H vs us e0 .refl rfl (fun _ _ z => z) rv hlv ⟨rfl, rfl⟩)
  · subst e1 e2
    refine ⟨_, (hck _ (hok A outer s2 H2 cdv hr' hg)).nox, ?_⟩
    have hvN : vs2.length ≤ N.length := by rw [hlv, hnp, hns]; exact h2
    have back : ∀ {F' H' : Hp} {σ' : L2.St} {L : List Pr}, Kpt Fi.keep (L2.start N vs2) σ' → Wd K F' H' (L ++ (T ++ Sl σ' ρ)) → Wd K F' H' (L ++ (prs vs2 (backs Fi.np Fi.keep ρ) ++ T)) := by
      intro F' H' σ' L kk w2
      rw [← List.append_assoc] at w2
      have w3 := Wd.bk vs2 (P := fun i => decide (i ∈ Fi.keep)) (fun j v hj hp => by rw [kk.2 j (of_decide_eq_true hp)]; exact start_at hj) w2
      have e : vs2.length = Fi.np := by rw [hlv, hnp]
      rw [e, List.append_assoc] at w3
      exact Wd.perm (List.perm_append_comm.append_left L) w3
    refine ⟨start_len hvN, F0, ws ++ List.replicate (Fi.ns - Fi.np) (.a .dead), T, o, ρ, ?_, ev, ?_⟩
    · unfold L2.start
      rw [show N.length - vs2.length = Fi.ns - Fi.np from by rw [hlv, hnp, hns], Sl_start _ hl]
      refine Wd.perm ?_ (Wd.deads (Fi.ns - Fi.np) wd)
      rw [← List.append_assoc]
      refine (List.perm_append_comm).trans ?_
      refine (List.Perm.append_left T ?_)
      exact List.perm_append_comm
    · rcases ho with ⟨rfl, rfl⟩ | rfl
      · intro F' H' σ' s' k w2
        exact q F' H' .non s' (Wd.add (back (L := []) k w2) ⟨rfl, rfl⟩)
      · intro F' H' σ' v s' k w2
        exact q F' H' v s' (back (L := [(some v, r)]) k w2)
end
end Lin

set_option Elab.async false
set_option linter.all false
set_option maxRecDepth 100000
set_option maxHeartbeats 4000000
/-! Lin, part Zb: the defs of a module. -/
namespace Lin
open PySem L2 PySem.SeqAt
/-- a def: its text, its slots, its parameters, its form in the language -/
structure Df where
  st : Stmt
  N : List Str
  ps : List Str
  fn : Fn
def scOf (G : Sc) (d : Df) : Sc := { G with sc := defScope d.st, N := d.N, st := d.N.filter fun x => decide ((defScope d.st).names.lookup x = some .local) || decide ((defScope d.st).names.lookup x = some .cell) }
def ckScope (N ps : List Str) (sc : Scope) : Bool := decide (sc.kind = .function) && !sc.isCoroutine && !sc.isGenerator && decide N.Nodup && decide (N.take ps.length = ps) && ps.all (fun x => decide (sc.names.lookup x = some .local) || decide (sc.names.lookup x = some .cell)) && sc.names.all fun y => decide (y.2 ≠ .free)
theorem ckScope_ok {N ps : List Str} {sc : Scope} (h : ckScope N ps sc = true) : FnScope N ps sc := by
  unfold ckScope at h
  simp only [Bool.and_eq_true, Bool.not_eq_true', decide_eq_true_eq] at h
  obtain ⟨⟨⟨⟨⟨⟨a, b⟩, c⟩, d⟩, e⟩, f⟩, g⟩ := h
  refine ⟨a, b, c, d, e, fun x hx => ?_, fun y hy => ?_⟩
  · have := List.all_eq_true.mp f x hx
    simpa using this
  · have := List.all_eq_true.mp g y hy
    simpa using this
def ckDef (G : Sc) (k : Nat) (d : Df) : Bool := ckScope d.N d.ps (defScope d.st) && decide (d.ps.length = d.fn.np) && decide (d.N.length = d.fn.ns) && ckSs (ckS k (scOf G d) d.fn.keep k) (defBody d.st) d.fn.body
structure Mods (P : Program) (w : World) (K : PySem.W.Frag) (mg : Str → Option Value) (base : Heap) (G : Sc) (ds : List Df) : Prop where
  len : G.fns.length = ds.length
  df : ∀ (i : Nat) (x : Str) (d : Df), G.fns[i]? = some x → ds[i]? = some d → ∃ f fd, Fun K x x d.st f fd ∧ mg x = some (.ref f) ∧ ∀ us : List Value, us.length = d.ps.length → bindArgs fd ⟨us, []⟩ = pure (d.ps.zip us)
  bl : ∀ x ∈ blts, mg x = none
  gl : ∀ x t, (x, t) ∈ G.gls → ∃ v u, mg x = some u ∧ RelV v u ∧ ∀ F H : Hp, Rep K F H t v []
  kd : ∀ x ks ws, (x, ks, ws) ∈ G.kds → ∃ d ps, mg x = some (.ref d) ∧ KTab K w d ps ∧ ps.map (·.1) = ks ∧ ps.length ≤ sizeLine ∧ KHas K w d ks ws
  sy : ∃ o, base.get? sysModules = some o
  oq : G.oq = true → ∀ Y : Cx, Y.prog = P → Y.w = w → Y.K = K → Y.mg = mg → Y.base = base → Room 2 Y.A → OpR Y (compareOp .Eq) (rOq Y.K)
  op : ∀ Y : Cx, Y.prog = P → Y.w = w → Y.K = K → Y.mg = mg → Y.base = base → Room 2 Y.A → ∀ p pos : Pos, Gl Y G.opq → PE Y (.Call (.Name G.opq p) [] [] pos) (tOpq Y.K)
section
variable {P : Program} {w : World} {K : PySem.W.Frag} {mg : Str → Option Value} {base : Heap} {G : Sc} {ds : List Df} {k : Nat}
theorem rCl_none {vs : List V} {H : Hp} {Q : VK} : ¬ rCl K (fun _ => none) vs H Q := fun ⟨F, T, ws, ws', w, h1, h2, h3, h4⟩ => by cases h3
theorem ok_def (M : Mods P w K mg base G ds) {n : Nat} (ih : ∀ i x f, G.fns[i]? = some x → mg x = some (.ref f) → PySem.W.keepIn K (.ref f) = true ∧ (n = 0 ∨ FnG P w K mg base (n + 2) f (rCl K (run (ds.map Df.fn) n i)))) {i : Nat} {x : Str} {d : Df}
    (hS : FnScope d.N d.ps (defScope d.st)) {f : Addr} (A : Around) (outer : List PySem.Env) (s : Shared) (H : Hp) (cdv : Value) (hr : Room (n + 2) (A.deeper (PyProof.Rows.envOfC x (defScope d.st) s.heap.objs.size f cdv))) (hg : A.guards = some []) :
    OkX (cxOf CX0 P w K mg base d.N x (defScope d.st) f cdv A outer s H fun _ _ _ => False).nox (run (ds.map Df.fn) n) (scOf G d) where
  sc := rfl
  N := rfl
  nd := hS.nd
  calm := rfl
  kind := hS.kind
  xe := rfl
  gd := hg
  hu := hr.units
  sy := M.sy
  bl := M.bl
  fn := fun j y hy => by
    obtain ⟨dj, hdj⟩ : ∃ dj, ds[j]? = some dj := ⟨ds[j]'(by rw [← M.len]; exact (List.getElem?_eq_some_iff.mp hy).1), List.getElem?_eq_getElem _⟩
    obtain ⟨fj, fdj, F, m, _⟩ := M.df j y dj hy hdj
    refine ⟨fj, m, F.kp, fun Y e1 e2 e3 e4 e5 e6 => ?_⟩
    obtain ⟨_, q⟩ := ih j y fj hy m
    rcases q with rfl | q
    · intro pins s σ H xs us Q I rv h
      exact absurd h rCl_none
    · have hA : Y.A = A.deeper (PyProof.Rows.envOfC x (defScope d.st) s.heap.objs.size f cdv) := e6
      have e1 : Y.prog = P := e1
      have e2 : Y.w = w := e2
      have e3 : Y.K = K := e3
      have e4 : Y.mg = mg := e4
      have e5 : Y.base = base := e5
      show CallR Y (.ref fj) (rCl K (run (ds.map Df.fn) n j))
      subst e1 e2 e3 e4 e5
      exact callG q (by rw [hA]; exact hr) (by rw [hA]; exact hg)
  gl := M.gl
  kd := M.kd
  st := fun y hy => by
    have h := (List.mem_filter.mp hy).2
    rw [Bool.or_eq_true, decide_eq_true_eq, decide_eq_true_eq] at h
    exact ⟨h, .inl rfl⟩
  oq := fun hoq Y e1 e2 e3 e4 e5 e6 => M.oq hoq Y e1 e2 e3 e4 e5 (by
    have hA : Y.A = A.deeper (PyProof.Rows.envOfC x (defScope d.st) s.heap.objs.size f cdv) := e6
    rw [hA]
    exact hr.mono (by omega))
  op := fun Y e1 e2 e3 e4 e5 e6 p pos hgl => M.op Y e1 e2 e3 e4 e5 (by
    have hA : Y.A = A.deeper (PyProof.Rows.envOfC x (defScope d.st) s.heap.objs.size f cdv) := e6
    rw [hA]
    exact hr.mono (by omega)) p pos hgl
theorem tabG (M : Mods P w K mg base G ds) (hck : ds.all (ckDef G k) = true) : ∀ (n i : Nat) (x : Str) (f : Addr), G.fns[i]? = some x → mg x = some (.ref f) → FnG P w K mg base (n + 3) f (rCl K (run (ds.map Df.fn) (n + 1) i))
  | n, i, x, f, hx, hm => by
    obtain ⟨d, hd⟩ : ∃ d, ds[i]? = some d := ⟨ds[i]'(by rw [← M.len]; exact (List.getElem?_eq_some_iff.mp hx).1), List.getElem?_eq_getElem _⟩
    obtain ⟨f', fd, F, m, hb⟩ := M.df i x d hx hd
    rw [hm] at m
    cases m
    have hc := List.all_eq_true.mp hck d (List.mem_of_getElem? hd)
    unfold ckDef at hc
    simp only [Bool.and_eq_true, decide_eq_true_eq] at hc
    obtain ⟨⟨⟨c1, c2⟩, c3⟩, c4⟩ := hc
    have S := ckScope_ok c1
    refine fnG (k := n + 2) F S (Fi := d.fn) (G := scOf G d) (by rw [List.getElem?_map, hd]; rfl) hb c2 c3 (fun X ok => ckSs_ok (fun s m h => ckS_ok ok k k s m h) c4) fun A outer s H cdv hr hg => ?_
    refine ok_def (i := i) M (fun j y fj hy mj => ?_) S A outer s H cdv hr hg
    obtain ⟨dj, hdj⟩ : ∃ dj, ds[j]? = some dj := ⟨ds[j]'(by rw [← M.len]; exact (List.getElem?_eq_some_iff.mp hy).1), List.getElem?_eq_getElem _⟩
    obtain ⟨fj', fdj, Fj, mj', _⟩ := M.df j y dj hy hdj
    rw [mj] at mj'
    cases mj'
    refine ⟨Fj.kp, ?_⟩
    cases n with
    | zero => exact .inl rfl
    | succ n => exact .inr (tabG M hck n j y fj hy mj)
end
end Lin

set_option Elab.async false
set_option linter.all false
set_option maxRecDepth 100000
set_option maxHeartbeats 4000000
/-! Lin, part Zc: the end of a law row. -/
namespace Lin
open PySem L2 PySem.SeqAt PySem.Spec PyProof.Rows
def scriptW (ns : List Int) : W := .n .ro (ns.map fun n => .a (.int n))
theorem script_rep {K : PySem.W.Frag} {F H : Hp} : ∀ ns : List Int, RepL K F H (ns.map fun n => W.a (.int n)) (ns.map V.int) []
  | [] => ⟨rfl, rfl⟩
  | n :: ns => ⟨.int n, ns.map V.int, [], [], rfl, rfl, ⟨rfl, rfl⟩, script_rep ns⟩
/-- the script alone is told, where the module does not hold it -/
def Hs (K : PySem.W.Frag) (a : Addr) (ob : Obj) (ns : List Int) : Hp := fun b => if b = a ∧ K.lookup a = none then some (.frz ob (.lst (ns.map V.int))) else none
theorem Hs_some {K : PySem.W.Frag} {a : Addr} {ob : Obj} {ns : List Int} {b : Addr} {u : HO} (h : Hs K a ob ns b = some u) : b = a ∧ K.lookup a = none ∧ u = .frz ob (.lst (ns.map V.int)) := by
  unfold Hs at h
  split at h
  · rename_i c; cases h; exact ⟨c.1, c.2, rfl⟩
  · cases h
theorem lin_end {P : Program} {w : World} {K : PySem.W.Frag} {mg mb : Str → Option Value} {k : Nat} {fa a : Addr} {g : List W → Option (List W × W)} {s₁ : Shared} {vs : List Value} {ns : List Int}
    (KX : K.In s₁.heap) (hns : s₁.heap.Ns mainGlobals mg) (hb : s₁.heap.Ns builtinsNs mb) (hbb : ∀ x : Str, x ≠ "__name__" → mb x = bootBuiltins x) (hlim : s₁.heap.NoLimit) (hgens : s₁.gens = #[]) (hsys : ∃ o es ep, s₁.heap.get? sysModules = some o ∧ o.data = .dict es ep)
    (ha : s₁.heap.get? a = some { cls := .type "list", data := .seq vs.toArray }) (hi : IntsAre vs ns) (hl : ns.length ≤ sizeLine) (hr : Room k callerA)
    (hF : ∀ base : Heap, K.In base → base.Ns mainGlobals mg → (∃ o, base.get? sysModules = some o) → FnG P w K mg base k fa (rCl K g)) (hg : ∃ ws', g [scriptW ns] = some (ws', .a (.bl true))) :
    codeAny (model P w) callerA (.call (.ref fa) ⟨[.ref a], []⟩) (fun r s' => r = .ok (.ret (.bool true)) ∧ OldK s₁.heap s'.heap ∧ s'.os = s₁.os ∧ AllBare s'.gens) s₁ := by
  have rv : Vals (ns.map V.int) vs := vals_ints hi
  generalize hob : ({ cls := .type "list", data := .seq vs.toArray } : Obj) = ob at ha
  have hdict : ∀ {b : Addr} {o : Obj} {es : Array DictEntry} {ep : Nat}, s₁.heap.get? b = some o → o.data = .dict es ep → Hs K a ob ns b = none := fun {b o es ep} e d => by
    cases q : Hs K a ob ns b with
    | none => rfl
    | some u =>
      obtain ⟨rfl, _, _⟩ := Hs_some q
      rw [ha] at e
      cases e
      subst hob
      cases d
  have inB : ∀ {b : Addr} {o : Obj}, s₁.heap.get? b = some o → Hs K a ob ns b = none → (hidT s₁.heap (Hs K a ob ns)).get? b = some o := fun e n => hidT_get e n
  have nsB : ∀ {b : Addr} {m : Str → Option Value}, s₁.heap.Ns b m → (hidT s₁.heap (Hs K a ob ns)).Ns b m := fun h => by
    obtain ⟨o, es, ep, e, d, r⟩ := h
    exact ⟨o, es, ep, inB e (hdict e d), d, r⟩
  have kB : K.In (hidT s₁.heap (Hs K a ob ns)) := fun b o e => inB (KX b o e) (by
    cases q : Hs K a ob ns b with
    | none => rfl
    | some u =>
      obtain ⟨rfl, hk, _⟩ := Hs_some q
      rw [hk] at e
      cases e)
  have sB : ∃ o, (hidT s₁.heap (Hs K a ob ns)).get? sysModules = some o := by
    obtain ⟨o, es, ep, e, d⟩ := hsys
    exact ⟨o, inB e (hdict e d)⟩
  have hM : Mod K mg (hidT s₁.heap (Hs K a ob ns)) := by
    refine ⟨kB, nsB hns, ⟨mb, nsB hb, hbb⟩, ?_⟩
    obtain ⟨mc, h1, h2⟩ := hlim
    exact ⟨mc, nsB h1, h2⟩
  have hok : HOk P w (Hs K a ob ns) s₁.heap := fun b u q => by
    obtain ⟨rfl, _, rfl⟩ := Hs_some q
    refine ⟨ha, by rw [List.length_map]; exact hl, vs, 0, rv, ?_⟩
    rw [ha, ← hob]
  have e0 : Env0 P w K mg (hidT s₁.heap (Hs K a ob ns)) callerA [] s₁ (Hs K a ob ns) := by
    refine ⟨rfl, hM, fun b o e => of_hidT e, Nat.le_of_eq (hidT_size _ _), trivial, fun b hb => ?_, hok, .of_eq hgens⟩
    exact absurd (show b ∈ ([] : List Addr) from hb) (by simp)
  have sq : SqL K (Hs K a ob ns) a (ns.map V.int) := by
    cases hk : K.lookup a with
    | none => exact .inl (.inr ⟨ob, if_pos ⟨rfl, hk⟩⟩)
    | some o =>
      have e := KX a o hk
      rw [ha] at e
      cases e
      subst hob
      refine .inr ⟨_, vs.toArray, _, hk, rfl, rfl, rfl, ?_, by simpa using rv⟩
      rw [List.size_toArray, hi.length]
      exact hl
  obtain ⟨ws', hgw⟩ := hg
  have wd : Wd K (Hs K a ob ns) (Hs K a ob ns) (prs [.ref a] [scriptW ns] ++ []) := by
    refine ⟨⟨[], ⟨[], [], rfl, ?_, rfl⟩, .nil, fun b h => nomatch h⟩, Same.refl _⟩
    exact ⟨a, ns.map V.int, [], rfl, script_rep ns, sq, rfl⟩
  refine codeAny_mono (hF _ kB (nsB hns) sB callerA [] s₁ _ [.ref a] [.ref a] (fun v _ => v = .bl true) hr rfl e0 (.cons rfl .nil) ⟨_, [], [scriptW ns], ws', .a (.bl true), rfl, wd, hgw, fun F' H' v _ w2 => ?_⟩) fun r s' h => ?_
  · obtain ⟨fp, q⟩ := w2.rep List.mem_cons_self
    exact q.1
  · match r, h with
    | .error e, h => exact h.elim
    | .ok .next, h => exact h.elim
    | .ok .brk, h => exact h.elim
    | .ok .cont, h => exact h.elim
    | .ok (.ret u), h =>
      obtain ⟨v, H', os, bare, un, hok', r', q⟩ := h
      have q' : v = .bl true := q
      subst q'
      cases (show u = Value.bool true from r')
      refine ⟨rfl, OldK.of_keep fun b o e => ?_, os, bare⟩
      cases z : Hs K a ob ns b with
      | none => exact un.keep b o e z (fun hb => absurd (show b ∈ ([] : List Addr) from hb) (by simp)) (by simp)
      | some u =>
        obtain ⟨rfl, _, rfl⟩ := Hs_some z
        obtain ⟨e2, _⟩ := hok' b _ (un.frzs b ob _ z)
        rw [ha] at e
        cases e
        exact e2
theorem lin_walk {l : PySem.W.OpenLaw} {n k : Nat} {q : Program} {loose : List Str} {XP : (Str → Option Value) → Heap → Prop} {YP : World → Heap → Prop} {d : DefRec} {Kf : Params → PySem.W.Frag} {g : List W → Option (List W × W)}
    (hn : l.most = some n) (hn2 : n ≤ sizeLine) (hdf : d.params.defaults = []) (hq : importsNone q = true) (hr : Room k callerA) (hY : ∀ (w : World) (h : Heap), YP w h → (Kf w.params).In h)
    (F : ∀ (w : World) (mg : Str → Option Value) (fa : Addr) (h : Heap), (Kf w.params).In h → h.Ns mainGlobals mg → mg d.name = some (.ref fa) →
      ∀ base : Heap, (Kf w.params).In base → base.Ns mainGlobals mg → (∃ o, base.get? sysModules = some o) → FnG l.prog w (Kf w.params) mg base k fa (rCl (Kf w.params) g))
    (hg : ∀ ns : List Int, ns.length ≤ n → ∃ ws', g [scriptW ns] = some (ws', .a (.bl true))) : PySem.W.WalkO q loose XP YP l.row.toRowW d [] (fun f vs => PySem.call f vs) :=
  Att.attach_call hn hdf fun w s₀ s₁ mg mb fa o pm cd doc a vs ns G Y ho hd hcd hmg hobj hints hlen hgens => by
    have KX := hY w _ Y
    obtain ⟨mm, hs, _⟩ := (G.T.seer hq).mods
    obtain ⟨so, es, ep, se, sd, _⟩ := hs
    exact lin_end KX G.T.g G.T.b G.T.builtins G.T.nolimit hgens ⟨so, es, ep, se, sd⟩ hobj hints (Nat.le_trans hlen hn2) hr (F w mg fa _ KX G.T.g hmg) (hg ns hlen)
end Lin

set_option Elab.async false
set_option linter.all false
set_option maxRecDepth 100000
set_option maxHeartbeats 4000000
/-! Lin, part Zd: the instance that nobody looks into: Heap() with two fields. -/
namespace Lin
open PySem L2 PySem.SeqAt
section
variable {X : Cx}
def gFld (K : PySem.W.Frag) (ta : TE) (f : Str) : TG := fun v σ H Q => ta σ H fun x H1 => ∃ a C dx fs, x = .ref a ∧ H1 a = some (.ins C dx fs) ∧ Cls K C ∧ NoAttr K C f ∧ fs.length < 1000 ∧ Q σ (L2.upd H1 a (.ins C dx (putF f v fs)))
theorem pg_fld {o : Expr} {ta : TE} {f : Str} {pos : Pos} (ho : PE X o ta) : PG X (.Attribute o f pos) (gFld X.K ta f) := by
  refine ⟨fun pins s σ H v u Q I r h => ?_⟩
  show wpAny _ _ (do
    let ov ← holding [u] (eval o X.env)
    standAt pos.atName
    holding [u, ov] (setAttr ov f u)
    release [u, ov] []) _ _ s
  refine wpAny_bind (wpAny_holding (thn (ho.run pins s σ H _ I h) fun ov s1 ⟨x, H1, I1, r1, q1⟩ => ?_))
  obtain ⟨a, C, dx, fs, ex, ea, c, n, hz, q⟩ := q1
  subst ex
  obtain rfl : ov = Value.ref a := r1
  refine wpAny_bind (wpAny_standAt (wpAny_bind (wpAny_holding (setattr_ok I1 ea c n hz r fun s2 I2 => ?_))))
  exact wpAny_release ⟨σ, _, I2, q⟩
def iniE (p1 p2 p3 p4 p5 p6 p7 p8 p9 : Pos) (k5 k7 k8 : Nat) : List Stmt :=
  [.Assign [.Tuple [.Attribute (.Name "self" p1) "its_cells" p2, .Attribute (.Name "self" p3) "its_next" p4] k5 p5] (.Tuple [.Dict [] [] p6, .Constant (.int 0) k7 p7] k8 p8) p9]
def spIni (K : PySem.W.Frag) : Sp := fun vs H Q _ => ∃ (x C dx : Addr), vs = [.ref x] ∧ H x = some (.ins C dx []) ∧ Cls K C ∧ NoAttr K C "its_cells" ∧ NoAttr K C "its_next" ∧ ∀ (H' : Hp) (fs : List (Str × V)), (∀ b o, b ≠ x → H b = some o → H' b = some o) → H' x = some (.ins C dx fs) → Q .non H'
theorem ini_ok {P : Program} {w : World} {K : PySem.W.Frag} {mg : Str → Option Value} {base : Heap} {qual : Str} {st : Stmt} {f : Addr} {fd : FuncData} (F : Fun K "__init__" qual st f fd) (S : FnScope ["self"] ["self"] (defScope st))
    {p1 p2 p3 p4 p5 p6 p7 p8 p9 : Pos} {k5 k7 k8 : Nat} (hb : defBody st = iniE p1 p2 p3 p4 p5 p6 p7 p8 p9 k5 k7 k8) : FnOk P w K mg base CX0 1 f fd ["self"] (spIni K) := by
  refine F.ok S (fun vs H Q E h => ?_) fun cdv A outer s H vs Q E hr h => ?_
  · obtain ⟨x, C, dx, rfl, _⟩ := h
    rfl
  · obtain ⟨x, C, dx, rfl, hx, c, n1, n2, q⟩ := h
    rw [hb]
    have hv : Vis (defScope st) "self" := (S.par "self" (by simp)).elim .inl fun h => .inr (.inl h)
    refine ⟨_, pss_one (ps_asg (pe_tup (pa_cons pe_dnewK (pa_cons pe_int pa_nil))) (pg_tup rfl (pgs_cons (pg_fld (pe_var (i := 0) rfl hv)) (pgs_cons (pg_fld (pe_var (i := 0) rfl hv)) pgs_nil))) rfl ?_ rfl), ?_⟩
    · exact sw_eq (by
        show Env.blockKind _ = _
        unfold Env.blockKind
        show (if (defScope st).kind.isAnnotationScope = true then ScopeKind.function else (defScope st).kind) = _
        rw [S.kind]; rfl) rfl
    · intro d hd
      refine ⟨(by show 2 ≤ sizeLine; decide), fun t ht => ?_⟩
      have hxd : x ≠ d := fun e => by subst e; rw [hx] at hd; cases hd
      have hxt : x ≠ t := fun e => by subst e; rw [upd_ne hxd, hx] at ht; cases ht
      refine ⟨t, [.ref d, .int 0], rfl, SqT.of upd_same, rfl, .ref d, [.int 0], rfl, .ref x, rfl, x, C, dx, [], rfl, by rw [upd_ne hxt, upd_ne hxd]; exact hx, c, n1, by decide, .int 0, [], rfl, .ref x, rfl, x, C, dx, _, rfl, upd_same, c, n2, ?_, rfl, ?_⟩
      · exact Nat.lt_of_le_of_lt (length_putF _ _ _) (by decide)
      · refine q _ _ (fun b o hb h => ?_) upd_same
        rw [upd_ne hb, upd_ne hb]
        have h2 : (L2.upd H d (.dK [])) b = some o := by
          by_cases e : b = d
          · subst e; rw [hd] at h; cases h
          · rw [upd_ne e]; exact h
        by_cases e : b = t
        · subst e; rw [ht] at h2; cases h2
        · rw [upd_ne e]; exact h2
theorem opq_make {C fI : Addr} {fd : FuncData} {x : Str} {p pos : Pos} (M : Mk X.K C fI) (F : FnOk X.prog X.w X.K X.mg X.base CX0 1 fI fd ["self"] (spIni X.K)) (hr : Room 2 X.A) (hg : Gl X x) (hm : X.mg x = some (.ref C)) (hb : Binds X.K fd ["self"] []) (hdb : (x == ("__debug__" : Str)) = false)
    (oc : OpqC X.K C) (n1 : NoAttr X.K C "its_cells") (n2 : NoAttr X.K C "its_next") : PE X (.Call (.Name x p) [] [] pos) (tOpq X.K) := by
  refine PE_imp (pe_make0 M F hr hg hm hb .nil (pass0 (X := X)) hdb) fun σ H Q q => ?_
  intro a dx na ndx nex
  refine ⟨a, C, dx, rfl, upd_same, oc.cl, n1, n2, fun H' fs hs ha => ⟨rfl, q H' a C dx fs (fun b o h => ?_) na ha oc⟩⟩
  have hba : b ≠ a := fun e => by subst e; rw [na] at h; cases h
  refine hs b o hba ?_
  rw [upd_ne hba, upd_ne (fun e => by subst e; rw [ndx] at h; cases h)]
  exact h
end
end Lin

set_option Elab.async false
set_option linter.all false
set_option maxRecDepth 100000
set_option maxHeartbeats 4000000
/-! Lin, part Ze: an opaque instance with an own __eq__ beside a text. -/
namespace Lin
open PySem L2 PySem.SeqAt
section
variable {X : Cx}
/-- the own __eq__, asked with a text -/
def spOq (K : PySem.W.Frag) : Sp := fun vs H Q _ => ∃ (a C dx : Addr) (fs : List (Str × V)) (z : Str), vs = [.ref a, .str z] ∧ H a = some (.ins C dx fs) ∧ Q (.bl false) H
theorem op_oq {f C₀ : Addr} {fd : FuncData} {k : Nat} (hone : ∀ C, OpqC X.K C → C = C₀) (F1 : FnOk X.prog X.w X.K X.mg X.base CX0 k f fd ["self", "other"] (spOq X.K)) (hs : PySem.W.findIn X.K (.ref C₀) "__eq__" = some (some (.ref f))) (hf : PySem.W.isFn X.K (.ref f) = true)
    (hn : PySem.W.notFirst X.K C₀ (.type "str") = true) (hb : Binds X.K fd ["self", "other"] [])
    (hr : Room k X.A) : OpR X (compareOp .Eq) (rOq X.K) := by
  intro pins s σ H x y v u Q I rx ry h
  obtain ⟨a, C, dx, fs, z, e1, ha, oc, e2, q⟩ := h
  subst e1 e2
  cases rx
  obtain ⟨t, rfl⟩ := ry
  cases hone C oc
  obtain ⟨mA, J, _⟩ := ins_get I.hok ha
  obtain ⟨od, J, _⟩ := J.look
  obtain ⟨m, hF⟩ := I.fr
  refine PySem.W.cmp_K (op := .Eq) (tb := .type "str") hr.units0 hF I.ok.mod.kin J (fun _ _ _ _ _ q => wpAny_pure q) hn hs hf ?_
  · refine thn (run_fn (us := [.ref a, .str z t]) (vs := [.ref a, .str z]) F1 hr hb .nil (pass0 (X := X)) I (.cons rfl (.cons ⟨t, rfl⟩ .nil)) (Q := fun v H' => v = .bl false ∧ H' = H) ⟨a, _, dx, fs, z, rfl, ha, rfl, rfl⟩) fun w s' h => ?_
    obtain ⟨v, H', I', r, e1, e2⟩ := h
    subst e1 e2
    cases r
    exact ⟨.bl false, H', I', rfl, q⟩
/-- the text of such an __eq__ -/
def eqE (C : Str) (c : Expr) (p1 p2 p3 p4 p5 p6 : Pos) : List Stmt :=
  [.Return (some (.BoolOp .And [.Call (.Name "isinstance" p1) [.Name "other" p2, .Name C p3] [] p4, c] p5)) p6]
theorem eq_ok {P : Program} {w : World} {K : PySem.W.Frag} {mg : Str → Option Value} {base : Heap} {qual : Str} {st : Stmt} {f C : Addr} {fd : FuncData} {x : Str} (F : Fun K "__eq__" qual st f fd) (S : FnScope ["self", "other"] ["self", "other"] (defScope st))
    {c : Expr} {p1 p2 p3 p4 p5 p6 : Pos} (hb : defBody st = eqE x c p1 p2 p3 p4 p5 p6) (hC : mg x = some (.ref C)) (hi : mg "isinstance" = none) (hx : (defScope st).names.lookup x = some .globalImplicit) (hxi : (defScope st).names.lookup ("isinstance" : Str) = some .globalImplicit)
    (hdb : (x == ("__debug__" : Str)) = false) (hk : PySem.W.kitOne K (.type "str") (.ref C) = some false) : FnOk P w K mg base CX0 1 f fd ["self", "other"] (spOq K) := by
  refine F.ok S (fun vs H Q E h => ?_) fun cdv A outer s H vs Q E hr h => ?_
  · obtain ⟨a, C, dx, fs, z, rfl, _⟩ := h
    rfl
  · obtain ⟨a, C', dx, fs, z, rfl, ha, q⟩ := h
    rw [hb]
    have hv : Vis (defScope st) "other" := (S.par "other" (by simp)).elim .inl fun h => .inr (.inl h)
    refine ⟨_, pss_one (ps_ret (pe_andT (pe_callB call_isi hxi hi (by decide +kernel) (pa_cons (pe_var (i := 1) rfl hv) (pa_cons (pe_glob hx hC (v := .ref C) rfl hdb) pa_nil))) (pe_one ⟨fun _ _ _ _ _ _ (h : False) => h.elim⟩))), ?_⟩
    exact ⟨.str z, rfl, .str z, .ref C, .type "str", .ref C, false, rfl, .own C, .base (.str z), hk, false, rfl, iteF q⟩
end
end Lin

set_option Elab.async false
set_option linter.all false
set_option maxRecDepth 100000
set_option maxHeartbeats 4000000
/-! Lin, part Zg: the facts of a module in rows. -/
namespace Lin
open PySem L2 PySem.SeqAt
section
variable {K : PySem.W.Frag} {mg : Str → Option Value} {h : Heap}
structure DefFact (K : PySem.W.Frag) (mg : Str → Option Value) (x : Str) (d : Df) : Prop where
  ex : ∃ f fd, Fun K x x d.st f fd ∧ mg x = some (.ref f) ∧ ∀ us : List Value, us.length = d.ps.length → bindArgs fd ⟨us, []⟩ = pure (d.ps.zip us)
def Dfs (K : PySem.W.Frag) (mg : Str → Option Value) : List Str → List Df → Prop
  | [], [] => True
  | x :: xs, d :: ds => DefFact K mg x d ∧ Dfs K mg xs ds
  | _, _ => False
theorem Dfs.len : ∀ {xs : List Str} {ds : List Df}, Dfs K mg xs ds → xs.length = ds.length
  | [], [], _ => rfl
  | [], _ :: _, h => h.elim
  | _ :: _, [], h => h.elim
  | x :: xs, d :: ds, h => by rw [List.length_cons, List.length_cons, Dfs.len h.2]
theorem Dfs.at : ∀ {xs : List Str} {ds : List Df}, Dfs K mg xs ds → ∀ (i : Nat) (x : Str) (d : Df), xs[i]? = some x → ds[i]? = some d → DefFact K mg x d
  | [], [], _, i, x, d, hx, _ => by simp at hx
  | [], _ :: _, h, _, _, _, _, _ => h.elim
  | _ :: _, [], h, _, _, _, _, _ => h.elim
  | y :: xs, e :: ds, h, 0, x, d, hx, hd => by
    simp at hx hd
    subst hx hd
    exact h.1
  | y :: xs, e :: ds, h, i + 1, x, d, hx, hd => Dfs.at h.2 i x d (by simpa using hx) (by simpa using hd)
theorem def_mk {x : Str} {d : Df} {f : Addr} {oc kV doc pm cdv ct : Value} {od an : Option Addr} {osl : Array (Option Value)} (X : K.In h) (G : h.Ns mainGlobals mg) (a : PySem.W.nsIn K mainGlobals x = some (some (.ref f)))
    (l : K.lookup f = some ⟨oc, od, .func (PySem.W.fnOf x x (defArgs d.st) (defBody d.st) (defScope d.st) .none kV doc pm an cdv ct), osl⟩) (c : PySem.W.codeIn K cdv x = true) (k : PySem.W.keepIn K (.ref f) = true)
    (hb : ∀ us : List Value, us.length = d.ps.length → bindArgs (PySem.W.fnOf x x (defArgs d.st) (defBody d.st) (defScope d.st) .none kV doc pm an cdv ct) ⟨us, []⟩ = pure (d.ps.zip us)) : DefFact K mg x d :=
  ⟨⟨f, _, fun_mk l c k, PySem.W.mg_of X G a, hb⟩⟩
/-- a tuple of texts that the top has written -/
theorem tup_strs {a : Addr} {od : Option Addr} {its : Array Value} {n : Nat} {sl : Array (Option Value)} (l : K.lookup a = some ⟨.type "tuple", od, .seq its n, sl⟩) {ss : List Str} (hv : Vals (ss.map V.str) its.toList) (hz : its.size ≤ sizeLine) (F H : Hp) : Rep K F H (.n .tup (ss.map fun s => .a (.str s))) (.ref a) [] := by
  have go : ∀ ss : List Str, RepL K F H (ss.map fun s => W.a (.str s)) (ss.map V.str) [] := fun ss => by
    induction ss with
    | nil => exact ⟨rfl, rfl⟩
    | cons y ys ih => exact ⟨.str y, ys.map V.str, [], [], rfl, rfl, ⟨rfl, rfl⟩, ih⟩
  exact ⟨a, ss.map V.str, [], rfl, go ss, .inr ⟨_, its, n, l, rfl, rfl, hz, hv⟩, rfl⟩
theorem kitOwn {C : Addr} {T : String} (h : PySem.W.subIn K (.ref C) (.type T) = some false) (hm : PySem.W.kitMeta T = true) : PySem.W.kitOne K (.ref C) (.type T) = some false := by
  unfold PySem.W.kitOne
  rw [if_neg (by simp)]
  show (if PySem.W.kitMeta T = true then PySem.W.subIn K (.ref C) (.type T) else none) = some false
  rw [if_pos hm]
  exact h
theorem kitTo {C : Addr} {T : String} (h1 : PySem.W.isClsIn K C = true) (h2 : PySem.W.typeIn K (.ref C) = some (.type "type")) (h3 : PySem.W.subIn K (.type T) (.ref C) = some false) : PySem.W.kitOne K (.type T) (.ref C) = some false := by
  unfold PySem.W.kitOne
  rw [if_neg (by simp)]
  show (if ((PySem.W.clsIn K C).isSome && PySem.W.typeIn K (.ref C) == some (.type "type")) = true then PySem.W.subIn K (.type T) (.ref C) else none) = some false
  rw [if_pos]
  · exact h3
  · rw [h2, show (PySem.W.clsIn K C).isSome = true from h1]
    rfl
end
end Lin

set_option Elab.async false
set_option linter.all false
set_option maxRecDepth 100000
/-! Ab, part A: abstract values; what they tell. -/
namespace Lin.Ab
open PySem L2

/-! ### how much a value shows -/
def kyWt : Key → Nat
  | .inl i => i.natAbs.log2 + 3
  | .inr s => 10 * s.length + 2
def ksWt : List Key → Nat
  | [] => 0
  | k :: ks => kyWt k + 2 + ksWt ks
def kdWt : Kd → Nat
  | .dct _ ks => ksWt ks
  | _ => 0
mutual
def wt : W → Nat
  | .a .non => 4
  | .a (.bl _) => 5
  | .a (.int i) => i.natAbs.log2 + 3
  | .a (.str s) => 10 * s.length + 2
  | .a _ => 0
  | .n k xs => 3 + kdWt k + wtL xs
def wtL : List W → Nat
  | [] => 0
  | x :: xs => wt x + 2 + wtL xs
end
/-- plain signs alone -/
def okS (s : Str) : Bool := s.cps.toList.all fun c => decide (c < 128)
def okKy (b : Nat) : Key → Bool
  | .inl i => decide (i.natAbs.log2 ≤ b)
  | .inr s => okS s
def okKd (b n : Nat) : Kd → Bool
  | .tup => true
  | .lst m => !m
  | .dct m ks => !m && decide (ks.length = n) && ks.all (okKy b)
  | .ro => false
mutual
def okW (b : Nat) : W → Bool
  | .a .non => true
  | .a (.bl _) => true
  | .a (.int i) => decide (i.natAbs.log2 ≤ b)
  | .a (.str s) => okS s
  | .a _ => false
  | .n k xs => okKd b xs.length k && okL b xs
def okL (b : Nat) : List W → Bool
  | [] => true
  | x :: xs => okW b x && okL b xs
end
structure Good (d s b : Nat) (w : W) : Prop where
  ok : okW b w = true
  dep : w.dep ≤ d
  wt : wt w ≤ s
theorem okKy_mono {b b' : Nat} (h : b ≤ b') : ∀ {k : Key}, okKy b k = true → okKy b' k = true
  | .inl i, q => by
    have q : i.natAbs.log2 ≤ b := of_decide_eq_true q
    exact decide_eq_true (Nat.le_trans q h)
  | .inr _, q => q
theorem okKd_mono {b b' n : Nat} (h : b ≤ b') : ∀ {k : Kd}, okKd b n k = true → okKd b' n k = true
  | .tup, _ => rfl
  | .lst m, q => q
  | .ro, q => q
  | .dct m ks, q => by
    simp only [okKd, Bool.and_eq_true, List.all_eq_true] at q ⊢
    exact ⟨q.1, fun k hk => okKy_mono h (q.2 k hk)⟩
mutual
theorem okW_mono {b b' : Nat} (h : b ≤ b') : ∀ w : W, okW b w = true → okW b' w = true
  | .a .non, _ => rfl
  | .a (.bl _), _ => rfl
  | .a (.str _), q => q
  | .a (.int i), q => by
    have q : i.natAbs.log2 ≤ b := of_decide_eq_true q
    exact decide_eq_true (Nat.le_trans q h)
  | .a .opq, q => q
  | .a .dead, q => q
  | .n k xs, q => by
    simp only [okW, Bool.and_eq_true] at q ⊢
    exact ⟨okKd_mono h q.1, okL_mono h xs q.2⟩
theorem okL_mono {b b' : Nat} (h : b ≤ b') : ∀ ws : List W, okL b ws = true → okL b' ws = true
  | [], _ => rfl
  | x :: xs, q => by
    simp only [okL, Bool.and_eq_true] at q ⊢
    exact ⟨okW_mono h x q.1, okL_mono h xs q.2⟩
end
theorem okKd_fz {b n : Nat} : ∀ {k : Kd}, okKd b n k = true → k.fz = true
  | .tup, _ => rfl
  | .lst m, q => q
  | .ro, q => rfl
  | .dct m ks, q => by
    simp only [okKd, Bool.and_eq_true] at q
    exact q.1.1
mutual
theorem okW_fz {b : Nat} : ∀ w : W, okW b w = true → w.fz = true
  | .a _, _ => rfl
  | .n k xs, q => by
    simp only [okW, W.fz, Bool.and_eq_true] at q ⊢
    exact ⟨okKd_fz q.1, okL_fz xs q.2⟩
theorem okL_fz {b : Nat} : ∀ ws : List W, okL b ws = true → fzL ws = true
  | [], _ => rfl
  | x :: xs, q => by
    simp only [okL, fzL, Bool.and_eq_true] at q ⊢
    exact ⟨okW_fz x q.1, okL_fz xs q.2⟩
end
theorem okW_alive {b : Nat} : ∀ w : W, okW b w = true → w.alive = true
  | .a .non, _ => rfl
  | .a (.bl _), _ => rfl
  | .a (.str _), _ => rfl
  | .a (.int i), q => rfl
  | .a .opq, q => rfl
  | .n _ _, _ => rfl
theorem okL_mem {b : Nat} : ∀ {ws : List W}, okL b ws = true ↔ ∀ w ∈ ws, okW b w = true
  | [] => by simp [okL]
  | x :: xs => by
    simp only [okL, Bool.and_eq_true, List.mem_cons, forall_eq_or_imp, okL_mem (ws := xs)]
theorem depL_mem {d : Nat} : ∀ {ws : List W}, depL ws ≤ d ↔ ∀ w ∈ ws, w.dep ≤ d
  | [] => by simp [depL]
  | x :: xs => by
    simp only [depL, Nat.max_le, List.mem_cons, forall_eq_or_imp, depL_mem (ws := xs)]
theorem wtL_mem : ∀ {ws : List W} {w : W}, w ∈ ws → wt w + 2 ≤ wtL ws
  | x :: xs, w, h => by
    simp only [wtL]
    rcases List.mem_cons.mp h with rfl | h
    · omega
    · have := wtL_mem h; omega
theorem wtL_le {s : Nat} : ∀ {ws : List W}, (∀ w ∈ ws, wt w ≤ s) → wtL ws ≤ ws.length * (s + 2)
  | [], _ => by simp [wtL]
  | x :: xs, h => by
    have h1 := h x List.mem_cons_self
    have h2 := wtL_le (ws := xs) fun w hw => h w (List.mem_cons_of_mem _ hw)
    simp only [wtL, List.length_cons, Nat.succ_mul]
    omega
theorem wtL_append : ∀ xs ys : List W, wtL (xs ++ ys) = wtL xs + wtL ys
  | [], ys => by simp [wtL]
  | x :: xs, ys => by simp only [List.cons_append, wtL, wtL_append xs ys]; omega
theorem fzL_mem : ∀ {ws : List W}, fzL ws = true ↔ ∀ w ∈ ws, w.fz = true
  | [] => by simp [fzL]
  | x :: xs => by
    simp only [fzL, Bool.and_eq_true, List.mem_cons, forall_eq_or_imp, fzL_mem (ws := xs)]
theorem Good.mono {d s b d' s' b' : Nat} {w : W} (h : Good d s b w) (h1 : d ≤ d') (h2 : s ≤ s') (h3 : b ≤ b') : Good d' s' b' w := ⟨okW_mono h3 w h.ok, Nat.le_trans h.dep h1, Nat.le_trans h.wt h2⟩
theorem Good.fz {d s b : Nat} {w : W} (h : Good d s b w) : w.fz = true := okW_fz w h.ok
theorem Good.alive {d s b : Nat} {w : W} (h : Good d s b w) : w.alive = true := okW_alive w h.ok
/-- what lies in a good thing -/
theorem Good.sub {d s b : Nat} {k : Kd} {xs : List W} (h : Good d s b (.n k xs)) {x : W} (hx : x ∈ xs) : Good (d - 1) s b x ∧ 1 ≤ d := by
  have h1 := h.ok
  have h2 := h.dep
  have h3 := h.wt
  simp only [okW, Bool.and_eq_true] at h1
  simp only [W.dep] at h2
  simp only [Lin.Ab.wt] at h3
  have h4 : x.dep ≤ d - 1 := (depL_mem (d := d - 1)).mp (by omega) x hx
  have h5 := wtL_mem hx
  exact ⟨⟨okL_mem.mp h1.2 x hx, h4, by omega⟩, by omega⟩

/-! ### sameness -/
mutual
def eqb : W → W → Bool
  | .a x, .a y => decide (x = y)
  | .n k xs, .n l ys => decide (k = l) && eqbL xs ys
  | _, _ => false
def eqbL : List W → List W → Bool
  | [], [] => true
  | x :: xs, y :: ys => eqb x y && eqbL xs ys
  | _, _ => false
end
mutual
theorem eqb_eq : ∀ {x y : W}, eqb x y = true → x = y
  | .a x, .a y, h => by rw [of_decide_eq_true h]
  | .n k xs, .n l ys, h => by
    simp only [eqb, Bool.and_eq_true, decide_eq_true_eq] at h
    rw [h.1, eqbL_eq h.2]
  | .a _, .n _ _, h => by cases h
  | .n _ _, .a _, h => by cases h
theorem eqbL_eq : ∀ {xs ys : List W}, eqbL xs ys = true → xs = ys
  | [], [], _ => rfl
  | x :: xs, y :: ys, h => by
    simp only [eqbL, Bool.and_eq_true] at h
    rw [eqb_eq h.1, eqbL_eq h.2]
  | [], _ :: _, h => by cases h
  | _ :: _, [], h => by cases h
end

/-! ### abstract values -/
inductive AV where
  | top | dead | bg
  | fin (ws : List W)
  | int (lo hi : Int)
  | num (lo hi : Int)
  | str (lo hi : Nat)
  | good (d s b : Nat)
  | seq (k : Kd) (lo hi : Nat) (e : AV)
  | tree (k : Kd) (xs : List AV)
  | pr (p d s b : Nat)
  deriving Inhabited
abbrev AEnv := List AV
section
variable (π : Nat → W → Prop) (bag : W → Prop)
mutual
def gm : AV → W → Prop
  | .top, _ => True
  | .dead, w => w = .a .dead
  | .bg, w => bag w
  | .fin ws, w => w ∈ ws ∧ w.fz = true ∧ w.alive = true
  | .int lo hi, w => ∃ i, w = .a (.int i) ∧ lo ≤ i ∧ i ≤ hi
  | .num lo hi, w => ∃ i, (w = .a (.int i) ∨ ∃ b, w = .a (.bl b) ∧ i = b2z b) ∧ lo ≤ i ∧ i ≤ hi
  | .str lo hi, w => ∃ s : Str, w = .a (.str s) ∧ lo ≤ s.length ∧ s.length ≤ hi ∧ okS s = true
  | .good d s b, w => Good d s b w
  | .seq k lo hi e, w => ∃ xs, w = .n k xs ∧ lo ≤ xs.length ∧ xs.length ≤ hi ∧ ∀ x ∈ xs, gm e x
  | .tree k as, w => ∃ xs, w = .n k xs ∧ gmL as xs
  | .pr p d s b, w => π p w ∧ Good d s b w
def gmL : List AV → List W → Prop
  | [], ws => ws = []
  | a :: as, ws => ∃ w ws', ws = w :: ws' ∧ gm a w ∧ gmL as ws'
end
end
/-- what stands for a bag -/
structure BagOk (bag : W → Prop) : Prop where
  al : ∀ w, bag w → w.alive = true
  nf : ∀ w, bag w → w.fz = false
section
variable {π : Nat → W → Prop} {bag : W → Prop}
theorem gmL_len : ∀ {as : List AV} {ws : List W}, gmL π bag as ws → ws.length = as.length
  | [], ws, h => by rw [show ws = [] from h]; rfl
  | a :: as, ws, h => by
    obtain ⟨w, ws', rfl, _, h2⟩ := h
    rw [List.length_cons, List.length_cons, gmL_len h2]
theorem gmL_get : ∀ {as : List AV} {ws : List W} {i : Nat} {a : AV}, gmL π bag as ws → as[i]? = some a → ∃ w, ws[i]? = some w ∧ gm π bag a w
  | a :: as, ws, i, b, h, q => by
    obtain ⟨w, ws', rfl, h1, h2⟩ := h
    cases i with
    | zero => cases q; exact ⟨w, rfl, h1⟩
    | succ i => exact gmL_get (i := i) h2 q
  | [], ws, i, b, h, q => by cases q
theorem gmL_set : ∀ {as : List AV} {ws : List W} {i : Nat} {a : AV} {w : W}, gmL π bag as ws → gm π bag a w → gmL π bag (as.set i a) (ws.set i w)
  | [], ws, i, b, w, h, q => by rw [show ws = [] from h]; exact rfl
  | a :: as, ws, i, b, w, h, q => by
    obtain ⟨v, ws', rfl, h1, h2⟩ := h
    cases i with
    | zero => exact ⟨w, ws', rfl, q, h2⟩
    | succ i => exact ⟨v, ws'.set i w, rfl, h1, gmL_set h2 q⟩
theorem gmL_append : ∀ {as : List AV} {ws : List W} {bs : List AV} {vs : List W}, gmL π bag as ws → gmL π bag bs vs → gmL π bag (as ++ bs) (ws ++ vs)
  | [], ws, bs, vs, h, q => by rw [show ws = [] from h]; exact q
  | a :: as, ws, bs, vs, h, q => by
    obtain ⟨v, ws', rfl, h1, h2⟩ := h
    exact ⟨v, ws' ++ vs, rfl, h1, gmL_append h2 q⟩
theorem gmL_mem : ∀ {as : List AV} {ws : List W} {w : W}, gmL π bag as ws → w ∈ ws → ∃ a ∈ as, gm π bag a w
  | [], ws, w, h, q => by rw [show ws = [] from h] at q; cases q
  | a :: as, ws, w, h, q => by
    obtain ⟨v, ws', rfl, h1, h2⟩ := h
    rcases List.mem_cons.mp q with rfl | q
    · exact ⟨a, List.mem_cons_self, h1⟩
    · obtain ⟨b, hb, h3⟩ := gmL_mem h2 q
      exact ⟨b, List.mem_cons_of_mem _ hb, h3⟩
theorem gmL_map {f : AV → AV} {g : W → W} (hf : ∀ a w, gm π bag a w → gm π bag (f a) (g w)) : ∀ {as : List AV} {ws : List W}, gmL π bag as ws → gmL π bag (as.map f) (ws.map g)
  | [], ws, h => by rw [show ws = [] from h]; exact rfl
  | a :: as, ws, h => by
    obtain ⟨v, ws', rfl, h1, h2⟩ := h
    exact ⟨g v, ws'.map g, rfl, hf _ _ h1, gmL_map hf h2⟩
theorem frzL_map : ∀ ws : List W, frzL ws = ws.map W.frz
  | [] => rfl
  | x :: xs => by simp only [frzL, List.map_cons, frzL_map xs]

/-! ### frozen -/
mutual
def frzA : AV → AV
  | .bg => .top
  | .seq k lo hi e => .seq k.frz lo hi (frzA e)
  | .tree k xs => .tree k.frz (frzAs xs)
  | a => a
def frzAs : List AV → List AV
  | [] => []
  | x :: xs => frzA x :: frzAs xs
end
mutual
/-- surely not owned -/
def isFz : AV → Bool
  | .fin _ | .int _ _ | .num _ _ | .str _ _ | .good _ _ _ | .pr _ _ _ _ => true
  | .seq k _ _ e => k.fz && isFz e
  | .tree k xs => k.fz && isFzs xs
  | _ => false
def isFzs : List AV → Bool
  | [] => true
  | x :: xs => isFz x && isFzs xs
end
theorem num_fz {w : W} {i : Int} (h : w = .a (.int i) ∨ ∃ b, w = .a (.bl b) ∧ i = b2z b) : (∃ x, w = .a x) ∧ w.alive = true := by
  rcases h with rfl | ⟨b, rfl, _⟩
  · exact ⟨⟨_, rfl⟩, rfl⟩
  · exact ⟨⟨_, rfl⟩, rfl⟩
mutual
theorem frz_fzW : ∀ {w : W}, w.fz = true → w.frz = w
  | .a x, _ => rfl
  | .n k xs, h => by
    simp only [W.fz, Bool.and_eq_true] at h
    simp only [W.frz, frzL_fzW h.2]
    cases k with
    | tup => rfl
    | ro => rfl
    | lst m => cases m with
      | false => rfl
      | true => exact absurd h.1 (by decide)
    | dct m ks => cases m with
      | false => rfl
      | true => exact absurd h.1 (by simp [Kd.fz])
theorem frzL_fzW : ∀ {ws : List W}, fzL ws = true → frzL ws = ws
  | [], _ => rfl
  | x :: xs, h => by
    simp only [fzL, Bool.and_eq_true] at h
    simp only [frzL, frz_fzW h.1, frzL_fzW h.2]
end
mutual
theorem frzA_ok : ∀ (a : AV) {w : W}, gm π bag a w → gm π bag (frzA a) w.frz
  | .top, w, h => trivial
  | .dead, w, h => by rw [show w = .a .dead from h]; exact rfl
  | .bg, w, h => trivial
  | .fin ws, w, h => by rw [frz_fzW h.2.1]; exact h
  | .int lo hi, w, h => by obtain ⟨i, rfl, h1⟩ := h; exact ⟨i, rfl, h1⟩
  | .num lo hi, w, h => by
    have hh := h
    obtain ⟨i, h0, h1⟩ := h
    obtain ⟨⟨x, rfl⟩, _⟩ := num_fz h0
    exact hh
  | .str lo hi, w, h => by obtain ⟨i, rfl, h1⟩ := h; exact ⟨i, rfl, h1⟩
  | .good d s b, w, h => by rw [frz_fzW (Good.fz h)]; exact h
  | .pr p d s b, w, h => by rw [frz_fzW (Good.fz h.2)]; exact h
  | .seq k lo hi e, w, h => by
    obtain ⟨xs, rfl, h1, h2, h3⟩ := h
    refine ⟨frzL xs, rfl, ?_, ?_, ?_⟩
    · rw [frzL_map, List.length_map]; exact h1
    · rw [frzL_map, List.length_map]; exact h2
    · intro x hx
      rw [frzL_map] at hx
      obtain ⟨y, hy, rfl⟩ := List.mem_map.mp hx
      exact frzA_ok e (h3 y hy)
  | .tree k xs, w, h => by
    obtain ⟨ys, rfl, h1⟩ := h
    exact ⟨frzL ys, rfl, frzAs_ok xs h1⟩
theorem frzAs_ok : ∀ (as : List AV) {ws : List W}, gmL π bag as ws → gmL π bag (frzAs as) (frzL ws)
  | [], ws, h => by rw [show ws = [] from h]; exact rfl
  | a :: as, ws, h => by
    obtain ⟨v, ws', rfl, h1, h2⟩ := h
    exact ⟨v.frz, frzL ws', rfl, frzA_ok a h1, frzAs_ok as h2⟩
end
mutual
theorem isFz_ok : ∀ (a : AV) {w : W}, isFz a = true → gm π bag a w → w.fz = true
  | .top, w, q, h => by cases q
  | .dead, w, q, h => by cases q
  | .bg, w, q, h => by cases q
  | .fin ws, w, q, h => h.2.1
  | .int lo hi, w, q, h => by obtain ⟨i, rfl, h1⟩ := h; rfl
  | .num lo hi, w, q, h => by obtain ⟨i, h0, h1⟩ := h; obtain ⟨⟨x, rfl⟩, _⟩ := num_fz h0; rfl
  | .str lo hi, w, q, h => by obtain ⟨i, rfl, h1⟩ := h; rfl
  | .good d s b, w, q, h => Good.fz h
  | .pr p d s b, w, q, h => Good.fz h.2
  | .seq k lo hi e, w, q, h => by
    obtain ⟨xs, rfl, h1, h2, h3⟩ := h
    simp only [isFz, Bool.and_eq_true] at q
    simp only [W.fz, Bool.and_eq_true]
    exact ⟨q.1, fzL_mem.mpr fun x hx => isFz_ok e q.2 (h3 x hx)⟩
  | .tree k xs, w, q, h => by
    obtain ⟨ys, rfl, h1⟩ := h
    simp only [isFz, Bool.and_eq_true] at q
    simp only [W.fz, Bool.and_eq_true]
    exact ⟨q.1, isFzs_ok xs q.2 h1⟩
theorem isFzs_ok : ∀ (as : List AV) {ws : List W}, isFzs as = true → gmL π bag as ws → fzL ws = true
  | [], ws, q, h => by rw [show ws = [] from h]; rfl
  | a :: as, ws, q, h => by
    obtain ⟨v, ws', rfl, h1, h2⟩ := h
    simp only [isFzs, Bool.and_eq_true] at q
    simp only [fzL, Bool.and_eq_true]
    exact ⟨isFz_ok a q.1 h1, isFzs_ok as q.2 h2⟩
end
/-- surely owned -/
def isOw : AV → Bool
  | .bg => true
  | .seq k _ _ _ => !k.fz
  | .tree k _ => !k.fz
  | _ => false
theorem isOw_ok (B : BagOk bag) {a : AV} {w : W} (q : isOw a = true) (h : gm π bag a w) : w.fz = false := by
  cases a with
  | bg => exact B.nf w h
  | seq k lo hi e =>
    obtain ⟨xs, rfl, _⟩ := h
    simp only [isOw, Bool.not_eq_true'] at q
    simp only [W.fz, q, Bool.false_and]
  | tree k xs =>
    obtain ⟨xs, rfl, _⟩ := h
    simp only [isOw, Bool.not_eq_true'] at q
    simp only [W.fz, q, Bool.false_and]
  | _ => cases q
/-- surely alive -/
def isAl : AV → Bool
  | .top | .dead => false
  | _ => true
theorem isAl_ok (B : BagOk bag) {a : AV} {w : W} (q : isAl a = true) (h : gm π bag a w) : w.alive = true := by
  cases a with
  | top => cases q
  | dead => cases q
  | bg => exact B.al w h
  | fin ws => exact h.2.2
  | int lo hi => obtain ⟨i, rfl, h1⟩ := h; rfl
  | num lo hi => obtain ⟨i, h0, h1⟩ := h; exact (num_fz h0).2
  | str lo hi => obtain ⟨i, rfl, h1⟩ := h; rfl
  | good d s b => exact Good.alive h
  | pr p d s b => exact Good.alive h.2
  | seq k lo hi e => obtain ⟨xs, rfl, _⟩ := h; rfl
  | tree k xs => obtain ⟨xs, rfl, _⟩ := h; rfl
/-- what is within is frozen -/
def frzInA : AV → AV
  | .bg => .top
  | .seq k lo hi e => .seq k lo hi (frzA e)
  | .tree k xs => .tree k (frzAs xs)
  | a => a
theorem frzIn_fz {w : W} (h : w.fz = true) : w.frzIn = w := by
  cases w with
  | a x => rfl
  | n k xs =>
    simp only [W.fz, Bool.and_eq_true] at h
    simp only [W.frzIn, frzL_fzW h.2]
theorem frzInA_ok {a : AV} {w : W} (h : gm π bag a w) : gm π bag (frzInA a) w.frzIn := by
  cases a with
  | top => trivial
  | dead => rw [show w = .a .dead from h]; exact rfl
  | bg => trivial
  | seq k lo hi e =>
    obtain ⟨xs, rfl, h1, h2, h3⟩ := h
    refine ⟨frzL xs, rfl, ?_, ?_, ?_⟩
    · rw [frzL_map, List.length_map]; exact h1
    · rw [frzL_map, List.length_map]; exact h2
    · intro x hx
      rw [frzL_map] at hx
      obtain ⟨y, hy, rfl⟩ := List.mem_map.mp hx
      exact frzA_ok e (h3 y hy)
  | tree k xs =>
    obtain ⟨ys, rfl, h1⟩ := h
    exact ⟨frzL ys, rfl, frzAs_ok xs h1⟩
  | fin ws => rw [frzIn_fz h.2.1]; exact h
  | int lo hi => rw [frzIn_fz (isFz_ok (π := π) (bag := bag) (.int lo hi) rfl h)]; exact h
  | num lo hi => rw [frzIn_fz (isFz_ok (π := π) (bag := bag) (.num lo hi) rfl h)]; exact h
  | str lo hi => rw [frzIn_fz (isFz_ok (π := π) (bag := bag) (.str lo hi) rfl h)]; exact h
  | good d s b => rw [frzIn_fz (Good.fz h)]; exact h
  | pr p d s b => rw [frzIn_fz (Good.fz h.2)]; exact h
end
end Lin.Ab

set_option Elab.async false
set_option linter.all false
set_option maxRecDepth 100000
/-! Ab, part B: order, join; what operations make of abstract values. -/
namespace Lin.Ab
open PySem L2
section
variable {π : Nat → W → Prop} {bag : W → Prop}
/-! ### membership -/
mutual
def mem : AV → W → Bool
  | .top, _ => true
  | .fin ws, w => ws.any (eqb w) && w.fz && w.alive
  | .int lo hi, w => match w with
    | .a (.int i) => decide (lo ≤ i) && decide (i ≤ hi)
    | _ => false
  | .num lo hi, w => match zW w with
    | some i => decide (lo ≤ i) && decide (i ≤ hi)
    | none => false
  | .str lo hi, w => match w with
    | .a (.str s) => decide (lo ≤ s.length) && (decide (s.length ≤ hi) && okS s)
    | _ => false
  | .good d s b, w => okW b w && decide (w.dep ≤ d) && decide (wt w ≤ s)
  | .seq k lo hi e, w => match w with
    | .n k' xs => decide (k = k') && decide (lo ≤ xs.length) && decide (xs.length ≤ hi) && xs.all (mem e)
    | _ => false
  | .tree k as, w => match w with
    | .n k' xs => decide (k = k') && memL as xs
    | _ => false
  | _, _ => false
def memL : List AV → List W → Bool
  | [], [] => true
  | a :: as, w :: ws => mem a w && memL as ws
  | _, _ => false
end
theorem zW_num {w : W} {i : Int} (h : zW w = some i) : w = .a (.int i) ∨ ∃ b, w = .a (.bl b) ∧ i = b2z b := by
  match w, h with
  | .a (.int j), h => cases h; exact .inl rfl
  | .a (.bl b), h => cases h; exact .inr ⟨b, rfl, rfl⟩
mutual
theorem mem_ok : ∀ (a : AV) {w : W}, mem a w = true → gm π bag a w
  | .top, w, h => trivial
  | .dead, w, h => by cases h
  | .bg, w, h => by cases h
  | .pr _ _ _ _, w, h => by cases h
  | .fin ws, w, h => by
    simp only [mem, Bool.and_eq_true, List.any_eq_true] at h
    obtain ⟨⟨⟨v, hv, e⟩, h2⟩, h3⟩ := h
    have e := eqb_eq e
    subst e
    exact ⟨hv, h2, h3⟩
  | .int lo hi, w, h => by
    match w, h with
    | .a (.int i), h =>
      simp only [mem, Bool.and_eq_true, decide_eq_true_eq] at h
      exact ⟨i, rfl, h⟩
  | .num lo hi, w, h => by
    simp only [mem] at h
    split at h
    · rename_i i e
      simp only [Bool.and_eq_true, decide_eq_true_eq] at h
      exact ⟨i, zW_num e, h⟩
    · cases h
  | .str lo hi, w, h => by
    match w, h with
    | .a (.str i), h =>
      simp only [mem, Bool.and_eq_true, decide_eq_true_eq] at h
      exact ⟨i, rfl, h⟩
  | .good d s b, w, h => by
    simp only [mem, Bool.and_eq_true, decide_eq_true_eq] at h
    exact ⟨h.1.1, h.1.2, h.2⟩
  | .seq k lo hi e, w, h => by
    match w, h with
    | .n k' xs, h =>
      simp only [mem, Bool.and_eq_true, decide_eq_true_eq, List.all_eq_true] at h
      obtain ⟨⟨⟨rfl, h1⟩, h2⟩, h3⟩ := h
      exact ⟨xs, rfl, h1, h2, fun x hx => mem_ok e (h3 x hx)⟩
  | .tree k as, w, h => by
    match w, h with
    | .n k' xs, h =>
      simp only [mem, Bool.and_eq_true, decide_eq_true_eq] at h
      obtain ⟨rfl, h1⟩ := h
      exact ⟨xs, rfl, memL_ok as h1⟩
theorem memL_ok : ∀ (as : List AV) {ws : List W}, memL as ws = true → gmL π bag as ws
  | [], [], h => rfl
  | a :: as, w :: ws, h => by
    simp only [memL, Bool.and_eq_true] at h
    exact ⟨w, ws, rfl, mem_ok a h.1, memL_ok as h.2⟩
  | [], _ :: _, h => by cases h
  | _ :: _, [], h => by cases h
end
/-! ### ints, texts, good things -/
def hullI : List W → Int × Int
  | [] => (0, 0)
  | [.a (.int i)] => (i, i)
  | .a (.int i) :: r => let p := hullI r; (if i < p.1 then i else p.1, if p.2 < i then i else p.2)
  | _ :: r => hullI r
def asInt : AV → Option (Int × Int)
  | .int lo hi => some (lo, hi)
  | .fin ws => if ws.all (mem (.int (hullI ws).1 (hullI ws).2)) then some (hullI ws) else none
  | _ => none
theorem asInt_ok {a : AV} {w : W} {lo hi : Int} (h : gm π bag a w) (e : asInt a = some (lo, hi)) : ∃ i, w = .a (.int i) ∧ lo ≤ i ∧ i ≤ hi := by
  cases a with
  | int l u => cases e; exact h
  | fin ws =>
    simp only [asInt] at e
    split at e
    · rename_i q
      have e := Option.some.inj e
      have q := List.all_eq_true.mp q w h.1
      rw [e] at q
      exact mem_ok (π := π) (bag := bag) _ q
    · cases e
  | _ => cases e
def hullN : List W → Int × Int
  | [] => (0, 0)
  | [x] => ((zW x).getD 0, (zW x).getD 0)
  | x :: r => let p := hullN r; let i := (zW x).getD 0; (if i < p.1 then i else p.1, if p.2 < i then i else p.2)
def asNum : AV → Option (Int × Int)
  | .int lo hi => some (lo, hi)
  | .num lo hi => some (lo, hi)
  | .fin ws => if ws.all (mem (.num (hullN ws).1 (hullN ws).2)) then some (hullN ws) else none
  | _ => none
theorem asNum_ok {a : AV} {w : W} {lo hi : Int} (h : gm π bag a w) (e : asNum a = some (lo, hi)) : gm π bag (.num lo hi) w := by
  cases a with
  | int l u => cases e; obtain ⟨i, rfl, h1⟩ := h; exact ⟨i, .inl rfl, h1⟩
  | num l u => cases e; exact h
  | fin ws =>
    simp only [asNum] at e
    split at e
    · rename_i q
      have e := Option.some.inj e
      have q := List.all_eq_true.mp q w h.1
      rw [e] at q
      exact mem_ok (π := π) (bag := bag) _ q
    · cases e
  | _ => cases e
def hullS : List W → Nat × Nat
  | [] => (0, 0)
  | [.a (.str i)] => (i.length, i.length)
  | .a (.str i) :: r => let p := hullS r; (min i.length p.1, max i.length p.2)
  | _ :: r => hullS r
def asStr : AV → Option (Nat × Nat)
  | .str lo hi => some (lo, hi)
  | .fin ws => if ws.all (mem (.str (hullS ws).1 (hullS ws).2)) then some (hullS ws) else none
  | _ => none
theorem asStr_ok {a : AV} {w : W} {lo hi : Nat} (h : gm π bag a w) (e : asStr a = some (lo, hi)) : ∃ i : Str, w = .a (.str i) ∧ lo ≤ i.length ∧ i.length ≤ hi ∧ okS i = true := by
  cases a with
  | str l u => cases e; exact h
  | fin ws =>
    simp only [asStr] at e
    split at e
    · rename_i q
      have e := Option.some.inj e
      have q := List.all_eq_true.mp q w h.1
      rw [e] at q
      exact mem_ok (π := π) (bag := bag) _ q
    · cases e
  | _ => cases e
structure G3 where
  d : Nat
  s : Nat
  b : Nat
def G3.max (x y : G3) : G3 := ⟨Nat.max x.d y.d, Nat.max x.s y.s, Nat.max x.b y.b⟩
mutual
def bitsW : W → Nat
  | .a (.int i) => i.natAbs.log2
  | .a _ => 0
  | .n k xs => Nat.max (match k with
    | .dct _ ks => ks.foldl (fun m q => match q with
      | .inl i => Nat.max m i.natAbs.log2
      | .inr _ => m) 0
    | _ => 0) (bitsL xs)
def bitsL : List W → Nat
  | [] => 0
  | x :: xs => Nat.max (bitsW x) (bitsL xs)
end
def hullG : List W → G3
  | [] => ⟨0, 0, 0⟩
  | w :: r => (G3.mk w.dep (wt w) (bitsW w)).max (hullG r)
def okG (g : G3) (k : Kd) (n : Nat) : Bool := okKd g.b n k
mutual
def toGood : AV → Option G3
  | .good d s b => some ⟨d, s, b⟩
  | .pr _ d s b => some ⟨d, s, b⟩
  | .fin ws => let g := hullG ws
    if ws.all (mem (.good g.d g.s g.b)) then some g else none
  | .int lo hi => let b := Nat.max lo.natAbs.log2 hi.natAbs.log2; some ⟨0, b + 3, b⟩
  | .num lo hi => let b := Nat.max lo.natAbs.log2 hi.natAbs.log2; some ⟨0, b + 5, b⟩
  | .str _ hi => some ⟨0, 10 * hi + 2, 0⟩
  | .seq k _ hi e => match k with
    | .tup | .lst false => (match toGood e with
      | some g => some ⟨g.d + 1, 3 + hi * (g.s + 2), g.b⟩
      | none => none)
    | _ => none
  | .tree k as => match toGoods as with
    | some g => let b := Nat.max g.b (bitsW (.n k []))
      if okKd b as.length k then some ⟨g.d + 1, 3 + kdWt k + g.s, b⟩ else none
    | none => none
  | _ => none
/-- depth: the most, weight: the sum -/
def toGoods : List AV → Option G3
  | [] => some ⟨0, 0, 0⟩
  | a :: as => match toGood a, toGoods as with
    | some g, some h => some ⟨Nat.max g.d h.d, g.s + 2 + h.s, Nat.max g.b h.b⟩
    | _, _ => none
end
theorem log2_le {i lo hi : Int} (h1 : lo ≤ i) (h2 : i ≤ hi) : i.natAbs.log2 ≤ Nat.max lo.natAbs.log2 hi.natAbs.log2 := by
  have key : ∀ n m : Nat, n ≤ m → n.log2 ≤ m.log2 := fun n m h => by
    by_cases hn : n = 0
    · subst hn; exact Nat.zero_le _
    · rw [Nat.le_log2 (by omega)]
      exact Nat.le_trans (Nat.log2_self_le hn) h
  rcases Int.le_total 0 i with h | h
  · exact Nat.le_trans (key _ hi.natAbs (by omega)) (Nat.le_max_right _ _)
  · exact Nat.le_trans (key _ lo.natAbs (by omega)) (Nat.le_max_left _ _)
mutual
theorem toGood_ok : ∀ (a : AV) {w : W} {g : G3}, toGood a = some g → gm π bag a w → Good g.d g.s g.b w
  | .top, w, g, e, h => by cases e
  | .dead, w, g, e, h => by cases e
  | .bg, w, g, e, h => by cases e
  | .good d s b, w, g, e, h => by cases e; exact h
  | .pr p d s b, w, g, e, h => by cases e; exact h.2
  | .fin ws, w, g, e, h => by
    simp only [toGood] at e
    split at e
    · rename_i q
      cases e
      exact mem_ok (π := π) (bag := bag) (.good _ _ _) (List.all_eq_true.mp q w h.1)
    · cases e
  | .int lo hi, w, g, e, h => by
    cases e
    obtain ⟨i, rfl, h1, h2⟩ := h
    have := log2_le h1 h2
    exact ⟨decide_eq_true this, Nat.le_refl _, by simp only [wt]; omega⟩
  | .num lo hi, w, g, e, h => by
    cases e
    obtain ⟨i, h0, h1, h2⟩ := h
    have := log2_le h1 h2
    rcases h0 with rfl | ⟨b, rfl, rfl⟩
    · exact ⟨decide_eq_true this, Nat.le_refl _, by simp only [wt]; omega⟩
    · exact ⟨rfl, Nat.le_refl _, by simp only [wt]; omega⟩
  | .str lo hi, w, g, e, h => by
    cases e
    obtain ⟨i, rfl, h1, h2, h3⟩ := h
    exact ⟨h3, Nat.le_refl _, by simp only [wt]; omega⟩
  | .seq k lo hi e, w, g, q, h => by
    obtain ⟨xs, rfl, h1, h2, h3⟩ := h
    have go : ∀ (g0 : G3), toGood e = some g0 → okKd g0.b xs.length k = true → kdWt k = 0 → Good (g0.d + 1) (3 + hi * (g0.s + 2)) g0.b (.n k xs) := fun g0 e0 ok kw => by
      have hx : ∀ x ∈ xs, Good g0.d g0.s g0.b x := fun x hx => toGood_ok e e0 (h3 x hx)
      refine ⟨?_, ?_, ?_⟩
      · simp only [okW, Bool.and_eq_true]
        exact ⟨ok, okL_mem.mpr fun x m => (hx x m).ok⟩
      · have := (depL_mem (d := g0.d)).mpr fun x m => (hx x m).dep
        simp only [W.dep]; omega
      · have a1 := wtL_le (s := g0.s) fun x m => (hx x m).wt
        have a2 := Nat.mul_le_mul_right (g0.s + 2) h2
        simp only [wt, kw]; omega
    simp only [toGood] at q
    split at q
    · split at q
      · rename_i g0 e0; cases q; exact go g0 e0 rfl rfl
      · cases q
    · split at q
      · rename_i g0 e0; cases q; exact go g0 e0 rfl rfl
      · cases q
    · cases q
  | .tree k as, w, g, e, h => by
    obtain ⟨xs, rfl, h1⟩ := h
    simp only [toGood] at e
    split at e
    · rename_i g0 e0
      split at e
      · rename_i ok
        cases e
        obtain ⟨a1, a2, a3⟩ := toGoods_ok as e0 h1
        refine ⟨?_, ?_, ?_⟩
        · simp only [okW, Bool.and_eq_true]
          rw [gmL_len h1]
          exact ⟨ok, okL_mono (Nat.le_max_left _ _) _ a1⟩
        · simp only [W.dep]; omega
        · simp only [wt]; omega
      · cases e
    · cases e
theorem toGoods_ok : ∀ (as : List AV) {ws : List W} {g : G3}, toGoods as = some g → gmL π bag as ws → okL g.b ws = true ∧ depL ws ≤ g.d ∧ wtL ws ≤ g.s
  | [], ws, g, e, h => by
    cases e
    rw [show ws = [] from h]
    exact ⟨rfl, Nat.le_refl _, Nat.le_refl _⟩
  | a :: as, ws, g, e, h => by
    obtain ⟨w, ws', rfl, h1, h2⟩ := h
    simp only [toGoods] at e
    split at e
    · rename_i g0 g1 e0 e1
      cases e
      have G := toGood_ok a e0 h1
      obtain ⟨a1, a2, a3⟩ := toGoods_ok as e1 h2
      refine ⟨?_, ?_, ?_⟩
      · simp only [okL, Bool.and_eq_true]
        exact ⟨okW_mono (Nat.le_max_left _ _) _ G.ok, okL_mono (Nat.le_max_right _ _) _ a1⟩
      · have := G.dep
        simp only [depL]
        exact Nat.max_le.mpr ⟨Nat.le_trans this (Nat.le_max_left _ _), Nat.le_trans a2 (Nat.le_max_right _ _)⟩
      · have := G.wt
        simp only [wtL]; omega
    · cases e
end
/-! ### order -/
def all2 (f : AV → AV → Bool) : List AV → List AV → Bool
  | [], [] => true
  | x :: xs, y :: ys => f x y && all2 f xs ys
  | _, _ => false
theorem all2_ok {f : AV → AV → Bool} (hf : ∀ a b w, f a b = true → gm π bag a w → gm π bag b w) : ∀ {as bs : List AV} {ws : List W}, all2 f as bs = true → gmL π bag as ws → gmL π bag bs ws
  | [], [], ws, e, h => h
  | a :: as, b :: bs, ws, e, h => by
    simp only [all2, Bool.and_eq_true] at e
    obtain ⟨w, ws', rfl, h1, h2⟩ := h
    exact ⟨w, ws', rfl, hf _ _ _ e.1 h1, all2_ok hf e.2 h2⟩
  | [], _ :: _, _, e, _ => by cases e
  | _ :: _, [], _, e, _ => by cases e
def le : Nat → AV → AV → Bool
  | 0, _, _ => false
  | n + 1, a, b => match a with
    | .fin vs => vs.all (mem b)
    | a => match b with
      | .top => true
      | .good d s c => (match toGood a with
        | some g => decide (g.d ≤ d) && decide (g.s ≤ s) && decide (g.b ≤ c)
        | none => false)
      | .int lo hi => (match asInt a with
        | some p => decide (lo ≤ p.1) && decide (p.2 ≤ hi)
        | none => false)
      | .num lo hi => (match asNum a with
        | some p => decide (lo ≤ p.1) && decide (p.2 ≤ hi)
        | none => false)
      | .str lo hi => (match asStr a with
        | some p => decide (lo ≤ p.1) && decide (p.2 ≤ hi)
        | none => false)
      | .seq k lo hi e => (match a with
        | .seq k' lo' hi' e' => decide (k = k') && decide (lo ≤ lo') && decide (hi' ≤ hi) && (decide (hi' = 0) || le n e' e)
        | .tree k' xs => decide (k = k') && decide (lo ≤ xs.length) && decide (xs.length ≤ hi) && xs.all (fun x => le n x e)
        | _ => false)
      | .tree k xs => (match a with
        | .tree k' ys => decide (k = k') && all2 (le n) ys xs
        | _ => false)
      | .dead => (match a with
        | .dead => true
        | _ => false)
      | .bg => (match a with
        | .bg => true
        | _ => false)
      | .pr p d s c => (match a with
        | .pr p' d' s' c' => decide (p = p') && decide (d' ≤ d) && decide (s' ≤ s) && decide (c' ≤ c)
        | _ => false)
      | .fin _ => false
theorem le_ok : ∀ (n : Nat) (a b : AV) (w : W), le n a b = true → gm π bag a w → gm π bag b w
  | 0, a, b, w, e, h => by cases e
  | n + 1, a, b, w, e, h => by
    have ih := le_ok n
    unfold le at e
    split at e
    · exact mem_ok b (List.all_eq_true.mp e w h.1)
    · split at e
      · trivial
      · split at e
        · rename_i g eg
          simp only [Bool.and_eq_true, decide_eq_true_eq] at e
          exact (toGood_ok _ eg h).mono e.1.1 e.1.2 e.2
        · cases e
      · split at e
        · rename_i p ep
          simp only [Bool.and_eq_true, decide_eq_true_eq] at e
          obtain ⟨i, rfl, h1, h2⟩ := asInt_ok h (show asInt _ = some (p.1, p.2) from ep)
          exact ⟨i, rfl, by omega, by omega⟩
        · cases e
      · split at e
        · rename_i p ep
          simp only [Bool.and_eq_true, decide_eq_true_eq] at e
          obtain ⟨i, h0, h1, h2⟩ := asNum_ok h (show asNum _ = some (p.1, p.2) from ep)
          exact ⟨i, h0, by omega, by omega⟩
        · cases e
      · split at e
        · rename_i p ep
          simp only [Bool.and_eq_true, decide_eq_true_eq] at e
          obtain ⟨i, rfl, h1, h2, h3⟩ := asStr_ok h (show asStr _ = some (p.1, p.2) from ep)
          exact ⟨i, rfl, by omega, by omega, h3⟩
        · cases e
      · split at e
        · simp only [Bool.and_eq_true, Bool.or_eq_true, decide_eq_true_eq] at e
          obtain ⟨⟨⟨rfl, h1⟩, h2⟩, h3⟩ := e
          obtain ⟨xs, rfl, g1, g2, g3⟩ := h
          refine ⟨xs, rfl, by omega, by omega, fun x hx => ?_⟩
          rcases h3 with h3 | h3
          · have : xs.length ≠ 0 := by cases xs with
              | nil => cases hx
              | cons _ _ => simp
            omega
          · exact ih _ _ _ h3 (g3 x hx)
        · simp only [Bool.and_eq_true, decide_eq_true_eq, List.all_eq_true] at e
          obtain ⟨⟨⟨rfl, h1⟩, h2⟩, h3⟩ := e
          obtain ⟨ys, rfl, g1⟩ := h
          have gl := gmL_len g1
          refine ⟨ys, rfl, by omega, by omega, fun x hx => ?_⟩
          obtain ⟨a, ha, h4⟩ := gmL_mem g1 hx
          exact ih _ _ _ (h3 a ha) h4
        · cases e
      · split at e
        · simp only [Bool.and_eq_true, decide_eq_true_eq] at e
          obtain ⟨rfl, h1⟩ := e
          obtain ⟨ys, rfl, g1⟩ := h
          exact ⟨ys, rfl, all2_ok (fun a b w => ih a b w) h1 g1⟩
        · cases e
      · split at e
        · exact h
        · cases e
      · split at e
        · exact h
        · cases e
      · split at e
        · simp only [Bool.and_eq_true, decide_eq_true_eq] at e
          obtain ⟨⟨⟨rfl, h1⟩, h2⟩, h3⟩ := e
          exact ⟨h.1, h.2.mono h1 h2 h3⟩
        · cases e
      · cases e
def leN : Nat := 40
abbrev leA (a b : AV) : Bool := le leN a b
theorem leA_ok {a b : AV} {w : W} (e : leA a b = true) (h : gm π bag a w) : gm π bag b w := le_ok leN a b w e h
/-! ### join -/
def nubW : List W → List W
  | [] => []
  | x :: xs => if xs.any (eqb x) then nubW xs else x :: nubW xs
theorem nubW_mem : ∀ {ws : List W} {w : W}, w ∈ ws → w ∈ nubW ws
  | x :: xs, w, h => by
    unfold nubW
    split
    · rename_i q
      rcases List.mem_cons.mp h with rfl | h
      · obtain ⟨v, hv, e⟩ := List.any_eq_true.mp q
        rw [eqb_eq e]
        exact nubW_mem hv
      · exact nubW_mem h
    · rcases List.mem_cons.mp h with rfl | h
      · exact List.mem_cons_self
      · exact List.mem_cons_of_mem _ (nubW_mem h)
def zipA (f : AV → AV → AV) : List AV → List AV → List AV
  | x :: xs, y :: ys => f x y :: zipA f xs ys
  | _, _ => []
def finMost : Nat := 48
/-- a guess; it is looked at behind -/
def joinG : Nat → AV → AV → AV
  | 0, _, _ => .top
  | n + 1, a, b => if leA a b then b else if leA b a then a else
    let gen : AV := match asInt a, asInt b with
      | some p, some q => .int (if p.1 < q.1 then p.1 else q.1) (if p.2 < q.2 then q.2 else p.2)
      | _, _ => match asStr a, asStr b with
        | some p, some q => .str (min p.1 q.1) (max p.2 q.2)
        | _, _ => match asNum a, asNum b with
          | some p, some q => .num (if p.1 < q.1 then p.1 else q.1) (if p.2 < q.2 then q.2 else p.2)
          | _, _ => match toGood a, toGood b with
            | some g, some h => let m := g.max h; .good m.d m.s m.b
            | _, _ => .top
    match a, b with
    | .fin xs, .fin ys => let zs := nubW (xs ++ ys)
      if zs.length ≤ finMost then .fin zs else gen
    | .seq k lo hi e, .seq k' lo' hi' e' => if k = k' then .seq k (min lo lo') (max hi hi') (if hi = 0 then e' else if hi' = 0 then e else joinG n e e') else gen
    | .tree k xs, .tree k' ys => if k = k' then
        if xs.length = ys.length then .tree k (zipA (joinG n) xs ys)
        else match k with
          | .dct _ _ => gen
          | _ => .seq k (min xs.length ys.length) (max xs.length ys.length) ((xs ++ ys).foldl (joinG n) (.fin []))
      else gen
    | .seq k lo hi e, .tree k' ys => if k = k' then .seq k (min lo ys.length) (max hi ys.length) (ys.foldl (joinG n) (if hi = 0 then .fin [] else e)) else gen
    | .tree k' ys, .seq k lo hi e => if k = k' then .seq k (min lo ys.length) (max hi ys.length) (ys.foldl (joinG n) (if hi = 0 then .fin [] else e)) else gen
    | .pr p d s b, .pr p' d' s' b' => if p = p' then .pr p (max d d') (max s s') (max b b') else gen
    | _, _ => gen
def join (a b : AV) : AV := let c := joinG 20 a b
  if leA a c && leA b c then c else .top
theorem join_l {a b : AV} {w : W} (h : gm π bag a w) : gm π bag (join a b) w := by
  simp only [join]
  split
  · rename_i q
    rw [Bool.and_eq_true] at q
    exact leA_ok q.1 h
  · trivial
theorem join_r {a b : AV} {w : W} (h : gm π bag b w) : gm π bag (join a b) w := by
  simp only [join]
  split
  · rename_i q
    rw [Bool.and_eq_true] at q
    exact leA_ok q.2 h
  · trivial
def joinL : List AV → AV
  | [] => .fin []
  | [a] => a
  | a :: as => join a (joinL as)
theorem joinL_ok : ∀ {as : List AV} {a : AV} {w : W}, a ∈ as → gm π bag a w → gm π bag (joinL as) w
  | [b], a, w, m, h => by
    rcases List.mem_cons.mp m with rfl | m
    · exact h
    · cases m
  | b :: c :: as, a, w, m, h => by
    unfold joinL
    rcases List.mem_cons.mp m with rfl | m
    · exact join_l h
    · exact join_r (joinL_ok m h)
def joinE (A B : AEnv) : AEnv := zipA join A B
theorem joinE_l : ∀ {A B : AEnv} {ρ : List W}, A.length = B.length → gmL π bag A ρ → gmL π bag (joinE A B) ρ
  | [], [], ρ, e, h => h
  | a :: A, b :: B, ρ, e, h => by
    obtain ⟨w, ws, rfl, h1, h2⟩ := h
    exact ⟨w, ws, rfl, join_l h1, joinE_l (by simpa using e) h2⟩
theorem joinE_r : ∀ {A B : AEnv} {ρ : List W}, A.length = B.length → gmL π bag B ρ → gmL π bag (joinE A B) ρ
  | [], [], ρ, e, h => h
  | a :: A, b :: B, ρ, e, h => by
    obtain ⟨w, ws, rfl, h1, h2⟩ := h
    exact ⟨w, ws, rfl, join_r h1, joinE_r (by simpa using e) h2⟩
/-! ### a value as it is -/
mutual
def ofW : W → AV
  | .a .dead => .dead
  | .a x => .fin [.a x]
  | .n k xs => .tree k (ofWL xs)
def ofWL : List W → List AV
  | [] => []
  | x :: xs => ofW x :: ofWL xs
end
mutual
theorem ofW_ok : ∀ w : W, gm π bag (ofW w) w
  | .a .dead => rfl
  | .a .opq => ⟨List.mem_cons_self, rfl, rfl⟩
  | .a .non => ⟨List.mem_cons_self, rfl, rfl⟩
  | .a (.bl _) => ⟨List.mem_cons_self, rfl, rfl⟩
  | .a (.int _) => ⟨List.mem_cons_self, rfl, rfl⟩
  | .a (.str _) => ⟨List.mem_cons_self, rfl, rfl⟩
  | .n k xs => ⟨xs, rfl, ofWL_ok xs⟩
theorem ofWL_ok : ∀ ws : List W, gmL π bag (ofWL ws) ws
  | [] => rfl
  | x :: xs => ⟨x, xs, rfl, ofW_ok x, ofWL_ok xs⟩
end
def isAtomW : W → Bool
  | .a _ => true
  | _ => false
def ofWs (vs : List W) : AV := match vs with
  | [w] => if isAtomW w && w.alive && w.fz then .fin [w] else ofW w
  | vs => if vs.all (fun w => w.fz && w.alive) then .fin (nubW vs) else .top
theorem ofWs_ok {vs : List W} {w : W} (h : w ∈ vs) : gm π bag (ofWs vs) w := by
  unfold ofWs
  split
  · rcases List.mem_cons.mp h with rfl | h
    · split
      · rename_i q
        simp only [Bool.and_eq_true] at q
        exact ⟨List.mem_cons_self, q.2, q.1.2⟩
      · exact ofW_ok _
    · cases h
  · split
    · rename_i q
      have := List.all_eq_true.mp q w h
      rw [Bool.and_eq_true] at this
      exact ⟨nubW_mem h, this⟩
    · trivial
def mapO (f : W → Option W) : List W → Option (List W)
  | [] => some []
  | x :: xs => match f x, mapO f xs with
    | some y, some ys => some (y :: ys)
    | _, _ => none
theorem mapO_ok {f : W → Option W} : ∀ {xs ys : List W} {x : W}, mapO f xs = some ys → x ∈ xs → ∃ y, f x = some y ∧ y ∈ ys
  | x :: xs, ys, z, e, h => by
    simp only [mapO] at e
    split at e
    · rename_i y ys' e1 e2
      cases e
      rcases List.mem_cons.mp h with rfl | h
      · exact ⟨y, e1, List.mem_cons_self⟩
      · obtain ⟨q, a, b⟩ := mapO_ok e2 h
        exact ⟨q, a, List.mem_cons_of_mem _ b⟩
    · cases e
def mapO2 (f : W → W → Option W) (ys : List W) : List W → Option (List W)
  | [] => some []
  | x :: xs => match mapO (f x) ys, mapO2 f ys xs with
    | some a, some b => some (a ++ b)
    | _, _ => none
theorem mapO2_ok {f : W → W → Option W} {ys : List W} : ∀ {xs zs : List W} {x y : W}, mapO2 f ys xs = some zs → x ∈ xs → y ∈ ys → ∃ z, f x y = some z ∧ z ∈ zs
  | x :: xs, zs, u, v, e, h, hv => by
    simp only [mapO2] at e
    split at e
    · rename_i a b e1 e2
      cases e
      rcases List.mem_cons.mp h with rfl | h
      · obtain ⟨q, c, d⟩ := mapO_ok e1 hv
        exact ⟨q, c, List.mem_append_left _ d⟩
      · obtain ⟨q, c, d⟩ := mapO2_ok e2 h hv
        exact ⟨q, c, List.mem_append_right _ d⟩
    · cases e
def intL (lo : Int) : Nat → List W
  | 0 => []
  | n + 1 => .a (.int lo) :: intL (lo + 1) n
theorem intL_mem : ∀ {n : Nat} {lo i : Int}, lo ≤ i → i < lo + n → (W.a (.int i)) ∈ intL lo n
  | 0, lo, i, h1, h2 => by omega
  | n + 1, lo, i, h1, h2 => by
    unfold intL
    by_cases e : i = lo
    · subst e; exact List.mem_cons_self
    · exact List.mem_cons_of_mem _ (intL_mem (by omega) (by omega))
mutual
/-- the one value that it tells -/
def exW : AV → Option W
  | .fin ws => (match ws with
    | [w] => some w
    | _ => none)
  | .tree k xs => (match exWs xs with
    | some ws => some (.n k ws)
    | none => none)
  | _ => none
def exWs : List AV → Option (List W)
  | [] => some []
  | x :: xs => match exW x, exWs xs with
    | some w, some ws => some (w :: ws)
    | _, _ => none
end
mutual
theorem exW_ok : ∀ (a : AV) {w v : W}, exW a = some v → gm π bag a w → w = v
  | .fin ws, w, v, e, h => by
    simp only [exW] at e
    split at e
    · cases e
      rcases List.mem_cons.mp h.1 with h | h
      · exact h
      · cases h
    · cases e
  | .tree k xs, w, v, e, h => by
    simp only [exW] at e
    split at e
    · rename_i ws e1
      cases e
      obtain ⟨ys, rfl, g⟩ := h
      rw [exWs_ok xs e1 g]
    · cases e
  | .top, _, _, e, _ => by cases e
  | .dead, _, _, e, _ => by cases e
  | .bg, _, _, e, _ => by cases e
  | .int _ _, _, _, e, _ => by cases e
  | .num _ _, _, _, e, _ => by cases e
  | .str _ _, _, _, e, _ => by cases e
  | .good _ _ _, _, _, e, _ => by cases e
  | .seq _ _ _ _, _, _, e, _ => by cases e
  | .pr _ _ _ _, _, _, e, _ => by cases e
theorem exWs_ok : ∀ (as : List AV) {ws vs : List W}, exWs as = some vs → gmL π bag as ws → ws = vs
  | [], ws, vs, e, h => by cases e; exact h
  | a :: as, ws, vs, e, h => by
    obtain ⟨w, ws', rfl, h1, h2⟩ := h
    simp only [exWs] at e
    split at e
    · rename_i v vs' e1 e2
      cases e
      rw [exW_ok a e1 h1, exWs_ok as e2 h2]
    · cases e
end
def finOf (a : AV) : Option (List W) := match a with
  | .fin ws => some ws
  | .int lo hi => if hi - lo < 64 then some (intL lo (hi - lo + 1).toNat) else none
  | .tree k xs => (match exW (.tree k xs) with
    | some w => some [w]
    | none => none)
  | _ => none
theorem finOf_ok {a : AV} {ws : List W} {w : W} (h : gm π bag a w) (e : finOf a = some ws) : w ∈ ws := by
  unfold finOf at e
  split at e
  · cases e; exact h.1
  · split at e
    · cases e
      obtain ⟨i, rfl, h1, h2⟩ := h
      exact intL_mem h1 (by omega)
    · cases e
  · split at e
    · rename_i v e1
      cases e
      rw [exW_ok _ e1 h]
      exact List.mem_cons_self
    · cases e
  · cases e
def exact1 (f : W → Option W) (a : AV) : Option AV := match finOf a with
  | some ws => (mapO f ws).map ofWs
  | none => none
theorem exact1_ok {f : W → Option W} {a r : AV} {w : W} (e : exact1 f a = some r) (h : gm π bag a w) : ∃ v, f w = some v ∧ gm π bag r v := by
  unfold exact1 at e
  split at e
  · rename_i ws e1
    obtain ⟨vs, e2, rfl⟩ := Option.map_eq_some_iff.mp e
    obtain ⟨v, a, b⟩ := mapO_ok e2 (finOf_ok h e1)
    exact ⟨v, a, ofWs_ok b⟩
  · cases e
def exact2 (f : W → W → Option W) (a b : AV) : Option AV := match finOf a, finOf b with
  | some xs, some ys => if xs.length * ys.length ≤ 256 then (mapO2 f ys xs).map ofWs else none
  | _, _ => none
theorem exact2_ok {f : W → W → Option W} {a b r : AV} {x y : W} (e : exact2 f a b = some r) (h : gm π bag a x) (h' : gm π bag b y) : ∃ v, f x y = some v ∧ gm π bag r v := by
  unfold exact2 at e
  split at e
  · rename_i xs ys e1 e2
    split at e
    · obtain ⟨vs, e3, rfl⟩ := Option.map_eq_some_iff.mp e
      obtain ⟨v, c, d⟩ := mapO2_ok e3 (finOf_ok h e1) (finOf_ok h' e2)
      exact ⟨v, c, ofWs_ok d⟩
    · cases e
  · cases e
theorem or_ok {α : Type} {a b : Option α} {r : α} (e : (a <|> b) = some r) : a = some r ∨ b = some r := by
  cases a with
  | none => exact .inr e
  | some x => exact .inl e
end
end Lin.Ab

set_option Elab.async false
set_option linter.all false
set_option maxRecDepth 100000
/-! Ab, part C: what operations make of abstract values. -/
namespace Lin.Ab
open PySem L2
section
variable {π : Nat → W → Prop} {bag : W → Prop}
/-- a list or a tuple of like items -/
def asSeq : AV → Option (Kd × Nat × Nat × AV)
  | .seq k lo hi e => some (k, lo, hi, e)
  | .tree k xs => match k with
    | .dct _ _ => none
    | k => let e := joinL xs
      some (k, xs.length, xs.length, e)
  | .fin [.n k xs] => let e := joinL (ofWL xs)
    if mem (.seq k xs.length xs.length e) (.n k xs) then some (k, xs.length, xs.length, e) else none
  | _ => none
theorem asSeq_ok {a e : AV} {k : Kd} {lo hi : Nat} {w : W} (q : asSeq a = some (k, lo, hi, e)) (h : gm π bag a w) : ∃ xs, w = .n k xs ∧ lo ≤ xs.length ∧ xs.length ≤ hi ∧ ∀ x ∈ xs, gm π bag e x := by
  unfold asSeq at q
  split at q
  · cases q; exact h
  · rename_i k' xs
    have go : ∀ k'', some (k'', xs.length, xs.length, joinL xs) = some (k, lo, hi, e) → k' = k'' → ∃ xs, w = .n k xs ∧ lo ≤ xs.length ∧ xs.length ≤ hi ∧ ∀ x ∈ xs, gm π bag e x := fun k'' q e1 => by
      cases q; subst e1
      obtain ⟨ys, rfl, h1⟩ := h
      refine ⟨ys, rfl, Nat.le_of_eq (gmL_len h1).symm, Nat.le_of_eq (gmL_len h1), fun x hx => ?_⟩
      obtain ⟨a, ha, h2⟩ := gmL_mem h1 hx
      exact joinL_ok ha h2
    split at q
    · cases q
    · exact go _ q rfl
  · rename_i k' xs
    simp only at q
    split at q
    · rename_i m
      cases q
      obtain ⟨ys, e, g1, g2, g3⟩ := mem_ok (π := π) (bag := bag) (.seq _ _ _ _) m
      have := h.1
      rcases List.mem_cons.mp this with rfl | c
      · cases e; exact ⟨_, rfl, g1, g2, g3⟩
      · cases c
    · cases q
  · cases q
def isSq : Kd → Bool
  | .tup | .lst _ => true
  | _ => false
def asTree : AV → Option (Kd × List AV)
  | .tree k xs => some (k, xs)
  | .fin [.n k xs] => some (k, ofWL xs)
  | _ => none
theorem asTree_ok {a : AV} {k : Kd} {as : List AV} {w : W} (q : asTree a = some (k, as)) (h : gm π bag a w) : ∃ xs, w = .n k xs ∧ gmL π bag as xs := by
  unfold asTree at q
  split at q
  · cases q; exact h
  · cases q
    rcases List.mem_cons.mp h.1 with rfl | c
    · exact ⟨_, rfl, ofWL_ok _⟩
    · cases c
  · cases q

theorem okS_mem {s : Str} : okS s = true ↔ ∀ c ∈ s.cps.toList, c < 128 := by
  unfold okS
  rw [List.all_eq_true]
  exact ⟨fun h c hc => of_decide_eq_true (h c hc), fun h c hc => decide_eq_true (h c hc)⟩
theorem okS_append {s t : Str} (h : okS s = true) (h' : okS t = true) : okS (s ++ t) = true := by
  rw [okS_mem] at *
  intro c hc
  have hc : c ∈ (s.cps ++ t.cps).toList := hc
  rw [Array.toList_append] at hc
  rcases List.mem_append.mp hc with hc | hc
  · exact h c hc
  · exact h' c hc
theorem foldl_mem (x : Array Nat) (c : Nat) : ∀ (n : Nat) (acc : Array Nat), c ∈ ((List.replicate n x).foldl (· ++ ·) acc).toList → c ∈ acc.toList ∨ c ∈ x.toList
  | 0, acc, h => .inl h
  | n + 1, acc, h => by
    rw [List.replicate_succ, List.foldl_cons] at h
    rcases foldl_mem x c n _ h with h | h
    · rw [Array.toList_append] at h
      exact List.mem_append.mp h
    · exact .inr h
theorem okS_mul {s : Str} {k : Int} (h : okS s = true) : okS (Txt.mul s k) = true := by
  unfold Txt.mul
  split
  · rfl
  · split
    · exact h
    · rw [okS_mem] at *
      intro c hc
      rcases foldl_mem _ c _ _ hc with q | q
      · simp at q
      · exact h c q
theorem up1_lt {c : Nat} (h : c < 128) : PyProof.Rows.up1 c < 128 := by
  unfold PyProof.Rows.up1
  split <;> omega
theorem okS_upper {s : Str} (h : okS s = true) : okS (Txt.upper s) = true ∧ (Txt.upper s).length = s.length := by
  rw [okS_mem] at h
  rw [PyProof.Rows.upper_ascii h]
  constructor
  · rw [okS_mem]
    intro c hc
    have hc : c ∈ (s.cps.map PyProof.Rows.up1).toList := hc
    rw [Array.toList_map] at hc
    obtain ⟨d, hd, rfl⟩ := List.mem_map.mp hc
    exact up1_lt (h d hd)
  · show (s.cps.map PyProof.Rows.up1).size = s.cps.size
    rw [Array.size_map]
theorem okS_of {l : List Nat} (h : ∀ c ∈ l, c < 128) : okS ⟨l.toArray⟩ = true := by
  rw [okS_mem]
  intro c hc
  exact h c (by simpa using hc)
/-! ### truth -/
abbrev TF := Bool × Bool
def TF.has (p : TF) (b : Bool) : Prop := (if b then p.1 else p.2) = true
def tfI (lo hi : Int) : TF := (!(decide (lo = 0) && decide (hi = 0)), decide (lo ≤ 0) && decide (0 ≤ hi))
def tfL : List W → Option TF
  | [] => some (false, false)
  | w :: ws => match tru w, tfL ws with
    | some b, some p => some (p.1 || b, p.2 || !b)
    | _, _ => none
theorem tfL_ok : ∀ {ws : List W} {p : TF} {w : W}, tfL ws = some p → w ∈ ws → ∃ b, tru w = some b ∧ p.has b
  | v :: ws, p, w, e, h => by
    simp only [tfL] at e
    split at e
    · rename_i b q e1 e2
      cases e
      rcases List.mem_cons.mp h with rfl | h
      · refine ⟨b, e1, ?_⟩
        cases b <;> simp [TF.has]
      · obtain ⟨c, g1, g2⟩ := tfL_ok e2 h
        refine ⟨c, g1, ?_⟩
        cases c <;> simp_all [TF.has]
    · cases e
def tfN (lo hi : Nat) : TF := (decide (hi ≠ 0), decide (lo = 0))
def truA (a : AV) : Option TF := match a with
  | .fin ws => tfL ws
  | .int lo hi => some (tfI lo hi)
  | .num lo hi => some (tfI lo hi)
  | .str lo hi => if hi ≤ sizeLine then some (tfN lo hi) else none
  | .seq _ lo hi _ => some (tfN lo hi)
  | .tree _ xs => some (tfN xs.length xs.length)
  | .good _ s _ => if s ≤ sizeLine then some (true, true) else none
  | .pr _ _ s _ => if s ≤ sizeLine then some (true, true) else none
  | _ => none
theorem tfI_ok {lo hi i : Int} (h1 : lo ≤ i) (h2 : i ≤ hi) : TF.has (tfI lo hi) (i != 0) := by
  by_cases h : i = 0
  · subst h; simp [tfI, TF.has]; omega
  · have : (i != 0) = true := by simpa using h
    rw [this]; simp [tfI, TF.has]; omega
theorem tfN_ok {lo hi i : Nat} (h1 : lo ≤ i) (h2 : i ≤ hi) : TF.has (tfN lo hi) (i != 0) := by
  by_cases h : i = 0
  · subst h; simp [tfN, TF.has]; omega
  · have : (i != 0) = true := by simpa using h
    rw [this]; simp [tfN, TF.has]; omega
theorem good_tru {d s b : Nat} {w : W} (h : Good d s b w) (hs : s ≤ sizeLine) : ∃ c, tru w = some c := by
  match w, h with
  | .a .non, h => exact ⟨_, rfl⟩
  | .a (.bl c), h => exact ⟨_, rfl⟩
  | .a (.int i), h => exact ⟨_, rfl⟩
  | .a (.str t), h =>
    have := h.wt
    simp only [wt] at this
    exact ⟨_, if_pos (by omega)⟩
  | .a .opq, h => exact absurd h.ok (by simp [okW])
  | .a .dead, h => exact absurd h.ok (by simp [okW])
  | .n k xs, h => exact ⟨_, rfl⟩
theorem isEmpty_ne {α : Type} (xs : List α) : (!xs.isEmpty) = (xs.length != 0) := by cases xs <;> rfl
theorem truA_ok {a : AV} {p : TF} {w : W} (e : truA a = some p) (h : gm π bag a w) : ∃ b, tru w = some b ∧ p.has b := by
  cases a with
  | fin ws => exact tfL_ok e h.1
  | int lo hi =>
    cases e
    obtain ⟨i, rfl, h1, h2⟩ := h
    exact ⟨_, rfl, tfI_ok h1 h2⟩
  | num lo hi =>
    cases e
    obtain ⟨i, h0, h1, h2⟩ := h
    rcases h0 with rfl | ⟨b, rfl, rfl⟩
    · exact ⟨_, rfl, tfI_ok h1 h2⟩
    · refine ⟨b, rfl, ?_⟩
      have := tfI_ok h1 h2
      cases b <;> exact this
  | str lo hi =>
    simp only [truA] at e
    split at e
    · cases e
      obtain ⟨i, rfl, h1, h2, _⟩ := h
      exact ⟨_, if_pos (by omega), tfN_ok h1 h2⟩
    · cases e
  | seq k lo hi x =>
    cases e
    obtain ⟨xs, rfl, h1, h2, _⟩ := h
    exact ⟨_, rfl, by rw [isEmpty_ne]; exact tfN_ok h1 h2⟩
  | tree k as =>
    cases e
    obtain ⟨xs, rfl, h1⟩ := h
    exact ⟨_, rfl, by rw [isEmpty_ne, gmL_len h1]; exact tfN_ok (Nat.le_refl _) (Nat.le_refl _)⟩
  | good d s b =>
    simp only [truA] at e
    split at e
    · rename_i hs
      cases e
      obtain ⟨c, hc⟩ := good_tru h hs
      exact ⟨c, hc, by cases c <;> rfl⟩
    · cases e
  | pr _ d s b =>
    simp only [truA] at e
    split at e
    · rename_i hs
      cases e
      obtain ⟨c, hc⟩ := good_tru h.2 hs
      exact ⟨c, hc, by cases c <;> rfl⟩
    · cases e
  | _ => cases e

/-! ### arithmetic, joining -/
def two64 : Int := 18446744073709551616
def intBin (op : Bop) (p q : Int × Int) : Option AV := match op with
  | .add => some (.int (p.1 + q.1) (p.2 + q.2))
  | .sub => some (.int (p.1 - q.2) (p.2 - q.1))
  | .mul => if 0 ≤ p.1 ∧ 0 ≤ q.1 ∧ (p.2 < two64 ∨ q.2 < two64) then some (.int (p.1 * q.1) (p.2 * q.2)) else none
  | .fdiv => if 0 ≤ p.1 ∧ 0 < q.1 ∧ q.2 < 1073741824 then some (.int 0 (if p.2 < 0 then 0 else p.2)) else none
  | .mod => if 0 < q.1 then some (.int 0 (q.2 - 1)) else none
  | .pow => none
theorem intBin_ok {op : Bop} {p q : Int × Int} {r : AV} {i j : Int} (e : intBin op p q = some r) (h1 : p.1 ≤ i) (h2 : i ≤ p.2) (h3 : q.1 ≤ j) (h4 : j ≤ q.2) : ∃ w, binW op (.a (.int i)) (.a (.int j)) = some w ∧ gm π bag r w := by
  cases op with
  | add => cases e; exact ⟨_, rfl, _, rfl, by omega, by omega⟩
  | sub => cases e; exact ⟨_, rfl, _, rfl, by omega, by omega⟩
  | mul =>
    simp only [intBin] at e
    split at e
    · rename_i c
      obtain ⟨c1, c2, c3⟩ := c
      cases e
      refine ⟨.a (.int (i * j)), ?_, _, rfl, ?_, ?_⟩
      · show (binI .mul i j).map _ = _
        have : ((decide (-(2 ^ 64) < i) && decide (i < 2 ^ 64)) || (decide (-(2 ^ 64) < j) && decide (j < 2 ^ 64))) = true := by
          unfold two64 at c3
          rcases c3 with c3 | c3
          · have a1 : -(2 ^ 64) < i := by omega
            have a2 : i < 2 ^ 64 := by omega
            simp only [decide_eq_true a1, decide_eq_true a2, Bool.and_self, Bool.true_or]
          · have a1 : -(2 ^ 64) < j := by omega
            have a2 : j < 2 ^ 64 := by omega
            simp only [decide_eq_true a1, decide_eq_true a2, Bool.and_self, Bool.or_true]
        simp only [binI, this, if_true, Option.map_some]
      · exact Int.mul_le_mul h1 h3 c2 (by omega)
      · exact Int.mul_le_mul h2 h4 (by omega) (by omega)
    · cases e
  | fdiv =>
    simp only [intBin] at e
    split at e
    · rename_i c
      obtain ⟨c1, c2, c3⟩ := c
      cases e
      refine ⟨.a (.int (i / j)), ?_, _, rfl, ?_, ?_⟩
      · show (binI .fdiv i j).map _ = _
        have a1 : 0 < j := by omega
        have a2 : j < 1073741824 := by omega
        simp only [binI, decide_eq_true a1, decide_eq_true a2, Bool.and_self, if_true, Option.map_some]
      · exact Int.ediv_nonneg (by omega) (by omega)
      · have := Int.ediv_le_self (a := i) j (by omega)
        split <;> omega
    · cases e
  | mod =>
    simp only [intBin] at e
    split at e
    · rename_i c
      cases e
      refine ⟨.a (.int (i % j)), ?_, _, rfl, ?_, ?_⟩
      · show (binI .mod i j).map _ = _
        have a1 : 0 < j := by omega
        simp only [binI, decide_eq_true a1, if_true, Option.map_some]
      · exact Int.emod_nonneg _ (by omega)
      · have := Int.emod_lt_of_pos i (show 0 < j by omega)
        omega
    · cases e
  | pow => cases e
def ints2 (op : Bop) (a b : AV) : Option AV := match asInt a, asInt b with
  | some p, some q => intBin op p q
  | _, _ => none
def strs2 (op : Bop) (a b : AV) : Option AV := match op, asStr a, asStr b with
  | .add, some p, some q => if p.2 + q.2 ≤ sizeLine then some (.str (p.1 + q.1) (p.2 + q.2)) else none
  | _, _, _ => none
def isLst : Kd → Bool
  | .lst _ => true
  | _ => false
def addK (k k' : Kd) : Option Kd := match k, k' with
  | .lst _, .lst _ => some (.lst true)
  | .tup, .tup => some .tup
  | _, _ => none
def trees2 (op : Bop) (a b : AV) : Option AV := match op, asTree a, asTree b with
  | .add, some (k, xs), some (k', ys) => if isFzs xs && isFzs ys && decide (xs.length + ys.length ≤ sizeLine) then (addK k k').map fun l => .tree l (xs ++ ys) else none
  | _, _, _ => none
def seqs2 (op : Bop) (a b : AV) : Option AV := match op, asSeq a, asSeq b with
  | .add, some (k, lo, hi, e), some (k', lo', hi', e') => if (decide (hi = 0) || isFz e) && (decide (hi' = 0) || isFz e') && decide (hi + hi' ≤ sizeLine) then (addK k k').map fun l => .seq l (lo + lo') (hi + hi') (if hi = 0 then e' else if hi' = 0 then e else join e e') else none
  | _, _, _ => none
def mulS (op : Bop) (a b : AV) : Option AV := match op, asStr a, asInt b with
  | .mul, some p, some q => if 2 ≤ q.1 ∧ q.2 < 2 ^ 62 ∧ 1 ≤ p.1 ∧ q.2.toNat * p.2 ≤ sizeLine then some (.str 1 (q.2.toNat * p.2)) else none
  | _, _, _ => none
def mulL (op : Bop) (a b : AV) : Option AV := match op, asSeq a, asInt b with
  | .mul, some (k, lo, hi, e), some q => if (decide (hi = 0) || isFz e) && decide (0 ≤ q.1) && decide (q.2 ≤ 1000) && decide (hi ≤ 1000) then
      match k with
      | .lst _ => some (.seq (.lst true) (lo * q.1.toNat) (hi * q.2.toNat) e)
      | .tup => if 2 ≤ q.1 ∧ 1 ≤ lo then some (.seq .tup (lo * q.1.toNat) (hi * q.2.toNat) e) else none
      | _ => none
    else none
  | _, _, _ => none
theorem addK_bin {k k' l : Kd} {xs ys : List W} (e : addK k k' = some l) (h1 : fzL xs = true) (h2 : fzL ys = true) (h3 : xs.length + ys.length ≤ sizeLine) : binW .add (.n k xs) (.n k' ys) = some (.n l (xs ++ ys)) := by
  match k, k', e with
  | .lst _, .lst _, e => cases e; simp only [binW, h1, h2, decide_eq_true h3, Bool.and_self, if_true]
  | .tup, .tup, e => cases e; simp only [binW, h1, h2, decide_eq_true h3, Bool.and_self, if_true]
theorem fzL_seq {e : AV} {xs : List W} {hi : Nat} (q : (decide (hi = 0) || isFz e) = true) (h1 : xs.length ≤ hi) (h : ∀ x ∈ xs, gm π bag e x) : fzL xs = true := by
  rw [Bool.or_eq_true, decide_eq_true_eq] at q
  rcases q with q | q
  · have : xs = [] := by cases xs with
      | nil => rfl
      | cons _ _ => simp at h1; omega
    subst this; rfl
  · exact fzL_mem.mpr fun x hx => isFz_ok e q (h x hx)
theorem mem_repL {xs : List W} {k : Int} {x : W} (h : x ∈ repL xs k) : x ∈ xs := by
  unfold repL at h
  rw [List.mem_flatten] at h
  obtain ⟨l, h1, h2⟩ := h
  rw [(List.mem_replicate.mp h1).2] at h2
  exact h2
theorem len_repL {xs : List W} {k : Int} : (repL xs k).length = xs.length * k.toNat := by
  unfold repL
  rw [List.length_flatten, List.map_replicate]
  generalize k.toNat = n
  induction n with
  | zero => rfl
  | succ n ih => rw [List.replicate_succ, List.sum_cons, ih, Nat.mul_succ]; omega
theorem foldl_rep (x : Array Nat) : ∀ (n : Nat) (acc : Array Nat), ((List.replicate n x).foldl (· ++ ·) acc).size = acc.size + n * x.size
  | 0, acc => by simp
  | n + 1, acc => by
    rw [List.replicate_succ, List.foldl_cons, foldl_rep x n, Array.size_append, Nat.succ_mul]
    omega
theorem mul_len {i : Str} {j : Int} (h1 : 2 ≤ j) (h2 : i.length ≠ 0) : (Txt.mul i j).length = j.toNat * i.length := by
  unfold Txt.mul
  rw [if_neg (by omega)]
  have : (j == 1 || i.length == 0) = false := by
    rw [Bool.or_eq_false_iff]
    exact ⟨by simpa using (show j ≠ 1 by omega), by simpa using h2⟩
  rw [this, if_neg (by decide)]
  show ((List.replicate j.toNat i.cps).foldl (· ++ ·) #[]).size = _
  rw [foldl_rep]
  show 0 + _ = _
  rw [Nat.zero_add]; rfl
def binA (op : Bop) (a b : AV) : Option AV := exact2 (binW op) a b <|> (ints2 op a b <|> (strs2 op a b <|> (trees2 op a b <|> (seqs2 op a b <|> (mulS op a b <|> mulL op a b)))))
theorem ints2_ok {op : Bop} {a b r : AV} {x y : W} (e : ints2 op a b = some r) (h : gm π bag a x) (h' : gm π bag b y) : ∃ w, binW op x y = some w ∧ gm π bag r w := by
  unfold ints2 at e
  split at e
  · rename_i p q e1 e2
    obtain ⟨i, rfl, g1, g2⟩ := asInt_ok h (show asInt a = some (p.1, p.2) from e1)
    obtain ⟨j, rfl, g3, g4⟩ := asInt_ok h' (show asInt b = some (q.1, q.2) from e2)
    exact intBin_ok e g1 g2 g3 g4
  · cases e
theorem strs2_ok {op : Bop} {a b r : AV} {x y : W} (e : strs2 op a b = some r) (h : gm π bag a x) (h' : gm π bag b y) : ∃ w, binW op x y = some w ∧ gm π bag r w := by
  unfold strs2 at e
  split at e
  · rename_i p q e1 e2
    split at e
    · rename_i c
      cases e
      obtain ⟨i, rfl, g1, g2, k1⟩ := asStr_ok h (show asStr a = some (p.1, p.2) from e1)
      obtain ⟨j, rfl, g3, g4, k2⟩ := asStr_ok h' (show asStr b = some (q.1, q.2) from e2)
      have hl : (i ++ j : Str).length = i.length + j.length := strLen_append i j
      exact ⟨.a (.str (i ++ j)), if_pos (by omega), i ++ j, rfl, by omega, by omega, okS_append k1 k2⟩
    · cases e
  · cases e
theorem trees2_ok {op : Bop} {a b r : AV} {x y : W} (e : trees2 op a b = some r) (h : gm π bag a x) (h' : gm π bag b y) : ∃ w, binW op x y = some w ∧ gm π bag r w := by
  unfold trees2 at e
  split at e
  · rename_i k xs k' ys e1 e2
    split at e
    · rename_i c
      simp only [Bool.and_eq_true, decide_eq_true_eq] at c
      obtain ⟨l, e3, rfl⟩ := Option.map_eq_some_iff.mp e
      obtain ⟨us, rfl, g1⟩ := asTree_ok e1 h
      obtain ⟨vs, rfl, g2⟩ := asTree_ok e2 h'
      refine ⟨_, addK_bin e3 (isFzs_ok _ c.1.1 g1) (isFzs_ok _ c.1.2 g2) (by rw [gmL_len g1, gmL_len g2]; exact c.2), us ++ vs, rfl, gmL_append g1 g2⟩
    · cases e
  · cases e
theorem seqs2_ok {op : Bop} {a b r : AV} {x y : W} (e : seqs2 op a b = some r) (h : gm π bag a x) (h' : gm π bag b y) : ∃ w, binW op x y = some w ∧ gm π bag r w := by
  unfold seqs2 at e
  split at e
  · rename_i k lo hi e0 k' lo' hi' e0' e1 e2
    split at e
    · rename_i c
      simp only [Bool.and_eq_true] at c
      obtain ⟨⟨c1, c2⟩, c3⟩ := c
      have c3 := of_decide_eq_true c3
      obtain ⟨l, e3, rfl⟩ := Option.map_eq_some_iff.mp e
      obtain ⟨us, rfl, g1, g2, g3⟩ := asSeq_ok e1 h
      obtain ⟨vs, rfl, f1, f2, f3⟩ := asSeq_ok e2 h'
      refine ⟨_, addK_bin e3 (fzL_seq c1 g2 g3) (fzL_seq c2 f2 f3) (by omega), us ++ vs, rfl, by rw [List.length_append]; omega, by rw [List.length_append]; omega, fun x hx => ?_⟩
      have u0 : hi = 0 → us = [] := fun z => by cases us with
        | nil => rfl
        | cons _ _ => simp at g2; omega
      have v0 : hi' = 0 → vs = [] := fun z => by cases vs with
        | nil => rfl
        | cons _ _ => simp at f2; omega
      split
      · rename_i z
        rw [u0 z] at hx
        exact f3 x hx
      · split
        · rename_i z
          rw [v0 z, List.append_nil] at hx
          exact g3 x hx
        · rcases List.mem_append.mp hx with hx | hx
          · exact join_l (g3 x hx)
          · exact join_r (f3 x hx)
    · cases e
  · cases e
theorem mulS_ok {op : Bop} {a b r : AV} {x y : W} (e : mulS op a b = some r) (h : gm π bag a x) (h' : gm π bag b y) : ∃ w, binW op x y = some w ∧ gm π bag r w := by
  unfold mulS at e
  split at e
  · rename_i p q e1 e2
    split at e
    · rename_i c
      obtain ⟨c1, c2, c3, c4⟩ := c
      cases e
      obtain ⟨i, rfl, g1, g2, k1⟩ := asStr_ok h (show asStr a = some (p.1, p.2) from e1)
      obtain ⟨j, rfl, g3, g4⟩ := asInt_ok h' (show asInt b = some (q.1, q.2) from e2)
      have b1 : 2 ≤ j := by omega
      have b2 : j < 2 ^ 62 := by omega
      have b3 : i.length ≠ 0 := by omega
      have b5 : j.toNat * i.length ≤ q.2.toNat * p.2 := Nat.mul_le_mul (by omega) g2
      have b4 : j.toNat * i.length ≤ sizeLine := by omega
      have hl : (Txt.mul i j).length = j.toNat * i.length := mul_len b1 b3
      refine ⟨.a (.str (Txt.mul i j)), ?_, _, rfl, ?_, ?_, okS_mul k1⟩
      · simp only [binW, decide_eq_true b1, decide_eq_true b2, decide_eq_true b3, decide_eq_true b4, Bool.and_self, if_true]
      · rw [hl]
        have : 1 * 1 ≤ j.toNat * i.length := Nat.mul_le_mul (by omega) (by omega)
        omega
      · rw [hl]; exact b5
    · cases e
  · cases e
theorem mulL_ok {op : Bop} {a b r : AV} {x y : W} (e : mulL op a b = some r) (h : gm π bag a x) (h' : gm π bag b y) : ∃ w, binW op x y = some w ∧ gm π bag r w := by
  unfold mulL at e
  split at e
  · rename_i k lo hi e0 q e1 e2
    split at e
    · rename_i c
      simp only [Bool.and_eq_true] at c
      obtain ⟨⟨⟨c1, c2⟩, c3⟩, c4⟩ := c
      have c2 := of_decide_eq_true c2
      have c3 := of_decide_eq_true c3
      have c4 := of_decide_eq_true c4
      obtain ⟨us, rfl, g1, g2, g3⟩ := asSeq_ok e1 h
      obtain ⟨j, rfl, g4, g5⟩ := asInt_ok h' (show asInt b = some (q.1, q.2) from e2)
      have hz : fzL us = true := fzL_seq c1 g2 g3
      have l1 : lo * q.1.toNat ≤ us.length * j.toNat := Nat.mul_le_mul g1 (by omega)
      have l2 : us.length * j.toNat ≤ hi * q.2.toNat := Nat.mul_le_mul g2 (by omega)
      have l3 : us.length * j.toNat ≤ sizeLine := by
        have : hi * q.2.toNat ≤ 1000 * 1000 := Nat.mul_le_mul c4 (by omega)
        have z : (1000 * 1000 : Nat) ≤ sizeLine := by decide
        omega
      have sm : small63 j = true := by
        unfold small63
        rw [Bool.and_eq_true]
        exact ⟨decide_eq_true (by omega), decide_eq_true (by omega)⟩
      split at e
      · cases e
        refine ⟨.n (.lst true) (repL us j), ?_, repL us j, rfl, by rw [len_repL]; exact l1, by rw [len_repL]; exact l2, fun x hx => g3 x (mem_repL hx)⟩
        simp only [binW, hz, sm, decide_eq_true l3, Bool.and_self, if_true]
      · split at e
        · rename_i d
          cases e
          have d1 : 2 ≤ j := by omega
          have d2 : j ≤ 1000 := by omega
          have d3 : us.length ≤ 1000 := by omega
          have d4 : us.isEmpty = false := by cases us with
            | nil => simp at g1; omega
            | cons _ _ => rfl
          refine ⟨.n .tup (repL us j), ?_, repL us j, rfl, by rw [len_repL]; exact l1, by rw [len_repL]; exact l2, fun x hx => g3 x (mem_repL hx)⟩
          simp only [binW, hz, d4, decide_eq_true d1, decide_eq_true d2, decide_eq_true d3, Bool.not_false, Bool.and_self, if_true]
        · cases e
      · cases e
    · cases e
  · cases e
theorem binA_ok {op : Bop} {a b r : AV} {x y : W} (e : binA op a b = some r) (h : gm π bag a x) (h' : gm π bag b y) : ∃ w, binW op x y = some w ∧ gm π bag r w := by
  unfold binA at e
  rcases or_ok e with e | e
  · exact exact2_ok e h h'
  rcases or_ok e with e | e
  · exact ints2_ok e h h'
  rcases or_ok e with e | e
  · exact strs2_ok e h h'
  rcases or_ok e with e | e
  · exact trees2_ok e h h'
  rcases or_ok e with e | e
  · exact seqs2_ok e h h'
  rcases or_ok e with e | e
  · exact mulS_ok e h h'
  · exact mulL_ok e h h'
end
end Lin.Ab

set_option Elab.async false
set_option linter.all false
set_option maxRecDepth 100000
/-! Ab, part D: items, slices, comparisons, kinds, built-ins, methods. -/
namespace Lin.Ab
open PySem L2
section
variable {π : Nat → W → Prop} {bag : W → Prop}
/-! ### items -/
theorem gmL_drop : ∀ (n : Nat) {as : List AV} {ws : List W}, gmL π bag as ws → gmL π bag (as.drop n) (ws.drop n)
  | 0, as, ws, h => h
  | n + 1, [], ws, h => by rw [show ws = [] from h]; exact rfl
  | n + 1, a :: as, ws, h => by
    obtain ⟨w, ws', rfl, _, h2⟩ := h
    exact gmL_drop n h2
theorem gmL_take : ∀ (n : Nat) {as : List AV} {ws : List W}, gmL π bag as ws → gmL π bag (as.take n) (ws.take n)
  | 0, as, ws, h => rfl
  | n + 1, [], ws, h => by rw [show ws = [] from h]; exact rfl
  | n + 1, a :: as, ws, h => by
    obtain ⟨w, ws', rfl, h1, h2⟩ := h
    exact ⟨w, ws'.take n, rfl, h1, gmL_take n h2⟩
theorem sub_sq {k : Kd} {xs : List W} {i : Int} (h : isSq k = true) : subW (.n k xs) (.a (.int i)) = atI xs i := by
  cases k with
  | tup => rfl
  | lst m => rfl
  | _ => cases h
theorem atI_pos {xs : List W} {i : Int} (h0 : 0 ≤ i) (h1 : i < xs.length) : atI xs i = xs[i.toNat]? := by
  unfold atI ixN
  rw [if_pos h0, if_pos h1]
  rfl
theorem atI_neg {xs : List W} {i : Int} (h0 : i < 0) (h1 : -(xs.length : Int) ≤ i) : atI xs i = xs[(i + xs.length).toNat]? := by
  unfold atI ixN
  rw [if_neg (by omega), if_pos h1]
  rfl
def treeIx (x i : AV) : Option AV := match asTree x, asInt i with
  | some (k, xs), some p => if isSq k then
      if 0 ≤ p.1 ∧ p.2 < xs.length then some (joinL ((xs.drop p.1.toNat).take (p.2 - p.1 + 1).toNat))
      else if p.1 = p.2 ∧ p.1 < 0 ∧ -(xs.length : Int) ≤ p.1 then xs[(p.1 + xs.length).toNat]? else none
    else none
  | _, _ => none
theorem treeIx_ok {x i r : AV} {w v : W} (e : treeIx x i = some r) (h : gm π bag x w) (h' : gm π bag i v) : ∃ u, subW w v = some u ∧ gm π bag r u := by
  unfold treeIx at e
  split at e
  · rename_i k as p e1 e2
    obtain ⟨xs, rfl, g1⟩ := asTree_ok e1 h
    obtain ⟨j, rfl, g2, g3⟩ := asInt_ok h' (show asInt i = some (p.1, p.2) from e2)
    have gl := gmL_len g1
    split at e
    · rename_i hk
      rw [sub_sq hk]
      split at e
      · rename_i c
        obtain ⟨c1, c2⟩ := c
        cases e
        rw [atI_pos (by omega) (by omega)]
        have hj : j.toNat < xs.length := by omega
        obtain ⟨u, hu⟩ : ∃ u, xs[j.toNat]? = some u := ⟨_, List.getElem?_eq_getElem hj⟩
        refine ⟨u, hu, ?_⟩
        have g4 : gmL π bag ((as.drop p.1.toNat).take (p.2 - p.1 + 1).toNat) ((xs.drop p.1.toNat).take (p.2 - p.1 + 1).toNat) := gmL_take _ (gmL_drop _ g1)
        have hm : u ∈ (xs.drop p.1.toNat).take (p.2 - p.1 + 1).toNat := by
          apply List.mem_of_getElem? (i := j.toNat - p.1.toNat)
          rw [List.getElem?_take, if_pos (by omega), List.getElem?_drop]
          rw [show p.1.toNat + (j.toNat - p.1.toNat) = j.toNat by omega]
          exact hu
        obtain ⟨a, ha, h4⟩ := gmL_mem g4 hm
        exact joinL_ok ha h4
      · split at e
        · rename_i c
          obtain ⟨c1, c2, c3⟩ := c
          have : j = p.1 := by omega
          subst this
          rw [atI_neg c2 (by omega), gl]
          exact gmL_get g1 e
        · cases e
    · cases e
  · cases e
def seqIx (x i : AV) : Option AV := match asSeq x, asInt i with
  | some (k, lo, hi, e), some p => if isSq k then if (0 ≤ p.1 ∧ p.2 < lo) ∨ (-(lo : Int) ≤ p.1 ∧ p.2 < 0) then some e else none else none
  | _, _ => none
theorem seqIx_ok {x i r : AV} {w v : W} (e : seqIx x i = some r) (h : gm π bag x w) (h' : gm π bag i v) : ∃ u, subW w v = some u ∧ gm π bag r u := by
  unfold seqIx at e
  split at e
  · rename_i k lo hi e0 p e1 e2
    obtain ⟨xs, rfl, g1, g2, g3⟩ := asSeq_ok e1 h
    obtain ⟨j, rfl, g4, g5⟩ := asInt_ok h' (show asInt i = some (p.1, p.2) from e2)
    split at e
    · rename_i hk
      rw [sub_sq hk]
      split at e
      · rename_i c
        cases e
        rcases c with ⟨c1, c2⟩ | ⟨c1, c2⟩
        · rw [atI_pos (by omega) (by omega)]
          have hj : j.toNat < xs.length := by omega
          exact ⟨_, List.getElem?_eq_getElem hj, g3 _ (List.getElem_mem hj)⟩
        · rw [atI_neg (by omega) (by omega)]
          have hj : (j + xs.length).toNat < xs.length := by omega
          exact ⟨_, List.getElem?_eq_getElem hj, g3 _ (List.getElem_mem hj)⟩
      · cases e
    · cases e
  · cases e
def lookA (k : Key) : List Key → List AV → Option AV
  | q :: ks, x :: xs => if q = k then some x else lookA k ks xs
  | _, _ => none
theorem lookA_ok {k : Key} : ∀ {ks : List Key} {as : List AV} {ws : List W} {a : AV}, lookA k ks as = some a → gmL π bag as ws → ∃ w, lookK k ks ws = some w ∧ gm π bag a w
  | q :: ks, x :: xs, ws, a, e, h => by
    obtain ⟨w, ws', rfl, h1, h2⟩ := h
    unfold lookA at e
    unfold lookK
    split at e
    · rename_i c
      cases e
      exact ⟨w, if_pos c, h1⟩
    · rename_i c
      rw [if_neg c]
      exact lookA_ok e h2
  | [], _, _, _, e, _ => by cases e
  | _ :: _, [], _, _, e, _ => by cases e
def looksA (ks : List Key) (as : List AV) : List W → Option (List AV)
  | [] => some []
  | w :: ws => match keyW w with
    | some k => (match lookA k ks as, looksA ks as ws with
      | some a, some r => some (a :: r)
      | _, _ => none)
    | none => none
theorem looksA_ok {ks : List Key} {as : List AV} : ∀ {ws : List W} {r : List AV} {w : W}, looksA ks as ws = some r → w ∈ ws → ∃ k a, keyW w = some k ∧ lookA k ks as = some a ∧ a ∈ r
  | v :: ws, r, w, e, h => by
    simp only [looksA] at e
    split at e
    · rename_i k e1
      split at e
      · rename_i a q e2 e3
        cases e
        rcases List.mem_cons.mp h with rfl | h
        · exact ⟨k, a, e1, e2, List.mem_cons_self⟩
        · obtain ⟨k', a', f1, f2, f3⟩ := looksA_ok e3 h
          exact ⟨k', a', f1, f2, List.mem_cons_of_mem _ f3⟩
      · cases e
    · cases e
def dctIx (x i : AV) : Option AV := match x, finOf i with
  | .tree (.dct _ ks) as, some ws => (looksA ks as ws).map joinL
  | _, _ => none
theorem dctIx_ok {x i r : AV} {w v : W} (e : dctIx x i = some r) (h : gm π bag x w) (h' : gm π bag i v) : ∃ u, subW w v = some u ∧ gm π bag r u := by
  unfold dctIx at e
  split at e
  · rename_i m ks as ws e1
    obtain ⟨r', e2, rfl⟩ := Option.map_eq_some_iff.mp e
    obtain ⟨xs, rfl, g1⟩ := h
    obtain ⟨k, a, f1, f2, f3⟩ := looksA_ok e2 (finOf_ok h' e1)
    obtain ⟨u, f4, f5⟩ := lookA_ok f2 g1
    refine ⟨u, ?_, joinL_ok f3 f5⟩
    show (match keyW v with
      | some k => lookK k ks xs
      | none => none) = some u
    rw [f1]; exact f4
  · cases e
def subA (x i : AV) : Option AV := exact2 subW x i <|> (treeIx x i <|> (seqIx x i <|> dctIx x i))
theorem subA_ok {x i r : AV} {w v : W} (e : subA x i = some r) (h : gm π bag x w) (h' : gm π bag i v) : ∃ u, subW w v = some u ∧ gm π bag r u := by
  unfold subA at e
  rcases or_ok e with e | e
  · exact exact2_ok e h h'
  rcases or_ok e with e | e
  · exact treeIx_ok e h h'
  rcases or_ok e with e | e
  · exact seqIx_ok e h h'
  · exact dctIx_ok e h h'
/-! ### slices -/
abbrev OI := Option (Int × Int)
def gmO (o : OI) (i : Option Int) : Prop := match o, i with
  | none, none => True
  | some p, some i => p.1 ≤ i ∧ i ≤ p.2
  | _, _ => False
/-- a bound that is known -/
def oneI : OI → Option (Option Int)
  | none => some none
  | some p => if p.1 = p.2 then some (some p.1) else none
theorem oneI_ok {o : OI} {i j : Option Int} (e : oneI o = some j) (h : gmO o i) : i = j := by
  cases o with
  | none => cases e; cases i with
    | none => rfl
    | some _ => exact h.elim
  | some p =>
    simp only [oneI] at e
    split at e
    · cases e
      cases i with
      | none => exact h.elim
      | some i => have h : p.1 ≤ i ∧ i ≤ p.2 := h; congr 1; omega
    · cases e
def slK : Kd → Option Kd
  | .lst _ => some (.lst true)
  | .tup => some .tup
  | _ => none
theorem slK_ok {k l : Kd} {xs : List W} {lo hi : Option Int} (e : slK k = some l) : sliceW (.n k xs) lo hi = some (.n l (cutL xs lo hi)) := by
  cases k with
  | tup => cases e; rfl
  | lst m => cases e; rfl
  | _ => cases e
theorem gmL_cut {as : List AV} {ws : List W} {lo hi : Option Int} (h : gmL π bag as ws) : gmL π bag (cutL as lo hi) (cutL ws lo hi) := by
  unfold cutL
  rw [gmL_len h]
  exact gmL_take _ (gmL_drop _ h)
def treeSl (x : AV) (lo hi : OI) : Option AV := match asTree x, oneI lo, oneI hi with
  | some (k, xs), some l, some h => (slK k).map fun k' => .tree k' (cutL xs l h)
  | _, _, _ => none
def exSl (x : AV) (lo hi : OI) : Option AV := match oneI lo, oneI hi with
  | some l, some h => exact1 (fun w => sliceW w l h) x
  | _, _ => none
def seqSl (x : AV) (lo hi : OI) : Option AV := match asSeq x with
  | some (k, a, b, e) => (slK k).map fun k' => .seq k' (match lo, hi with
    | none, none => a
    | _, _ => 0) b e
  | none => none
def strSl (x : AV) (lo hi : OI) : Option AV := match asStr x with
  | some p => if p.2 ≤ sizeLine then some (.str 0 p.2) else none
  | none => none
def sliceA (x : AV) (lo hi : OI) : Option AV := exSl x lo hi <|> (treeSl x lo hi <|> (seqSl x lo hi <|> strSl x lo hi))
theorem cutL_len {α : Type} (xs : List α) (lo hi : Option Int) : (cutL xs lo hi).length ≤ xs.length := by
  unfold cutL
  rw [List.length_take, List.length_drop]
  omega
theorem cutL_none {α : Type} (xs : List α) : cutL xs none none = xs := by
  unfold cutL
  show ((xs.drop 0).take (xs.length - 0)) = xs
  simp
theorem cutL_mem {α : Type} {xs : List α} {lo hi : Option Int} {x : α} (h : x ∈ cutL xs lo hi) : x ∈ xs := by
  unfold cutL at h
  exact List.mem_of_mem_drop (List.mem_of_mem_take h)
theorem sliceA_ok {x r : AV} {lo hi : OI} {l h : Option Int} {w : W} (e : sliceA x lo hi = some r) (hw : gm π bag x w) (hl : gmO lo l) (hh : gmO hi h) : ∃ u, sliceW w l h = some u ∧ gm π bag r u := by
  unfold sliceA at e
  rcases or_ok e with e | e
  · unfold exSl at e
    split at e
    · rename_i l' h' e1 e2
      have := oneI_ok e1 hl
      have := oneI_ok e2 hh
      subst l h
      exact exact1_ok e hw
    · cases e
  rcases or_ok e with e | e
  · unfold treeSl at e
    split at e
    · rename_i k xs l' h' e0 e1 e2
      have := oneI_ok e1 hl
      have := oneI_ok e2 hh
      subst l h
      obtain ⟨k', e3, rfl⟩ := Option.map_eq_some_iff.mp e
      obtain ⟨ys, rfl, g⟩ := asTree_ok e0 hw
      exact ⟨_, slK_ok e3, _, rfl, gmL_cut g⟩
    · cases e
  rcases or_ok e with e | e
  · unfold seqSl at e
    split at e
    · rename_i k a b e0 e1
      obtain ⟨k', e3, rfl⟩ := Option.map_eq_some_iff.mp e
      obtain ⟨ys, rfl, g1, g2, g3⟩ := asSeq_ok e1 hw
      refine ⟨_, slK_ok e3, _, rfl, ?_, Nat.le_trans (cutL_len _ _ _) g2, fun x hx => g3 x (cutL_mem hx)⟩
      split
      · cases l with
        | some _ => exact hl.elim
        | none => cases h with
          | some _ => exact hh.elim
          | none => rw [cutL_none]; exact g1
      · exact Nat.zero_le _
    · cases e
  · unfold strSl at e
    split at e
    · rename_i p e1
      split at e
      · rename_i c
        cases e
        obtain ⟨i, rfl, g1, g2, k1⟩ := asStr_ok hw (show asStr x = some (p.1, p.2) from e1)
        refine ⟨.a (.str (cutStr i l h)), if_pos (by omega), _, rfl, Nat.zero_le _, ?_, okS_of fun c hc => okS_mem.mp k1 c (cutL_mem hc)⟩
        show ((cutL i.cps.toList l h).toArray).size ≤ p.2
        have := cutL_len i.cps.toList l h
        rw [List.size_toArray]
        have e : i.cps.toList.length = i.length := rfl
        omega
      · cases e
    · cases e
/-! ### comparisons -/
def tfB : List W → Option TF
  | [] => some (false, false)
  | w :: ws => match blW w, tfB ws with
    | some b, some p => some (p.1 || b, p.2 || !b)
    | _, _ => none
theorem tfB_ok : ∀ {ws : List W} {p : TF} {w : W}, tfB ws = some p → w ∈ ws → ∃ b, w = .a (.bl b) ∧ p.has b
  | v :: ws, p, w, e, h => by
    simp only [tfB] at e
    split at e
    · rename_i b q e1 e2
      cases e
      rcases List.mem_cons.mp h with rfl | h
      · refine ⟨b, ?_, ?_⟩
        · match w, e1 with
          | .a (.bl c), e1 => cases e1; rfl
        · cases b <;> simp [TF.has]
      · obtain ⟨c, g1, g2⟩ := tfB_ok e2 h
        refine ⟨c, g1, ?_⟩
        cases c <;> simp_all [TF.has]
    · cases e
def exCmp (op : CmpOp) (x y : AV) : Option TF := match finOf x, finOf y with
  | some xs, some ys => if xs.length * ys.length ≤ 4096 then (match mapO2 (fun a b => (cmpW op a b).map fun c => .a (.bl c)) ys xs with
      | some zs => tfB zs
      | none => none) else none
  | _, _ => none
theorem exCmp_ok {op : CmpOp} {x y : AV} {p : TF} {v w : W} (e : exCmp op x y = some p) (h : gm π bag x v) (h' : gm π bag y w) : ∃ b, cmpW op v w = some b ∧ p.has b := by
  unfold exCmp at e
  split at e
  · rename_i xs ys e1 e2
    split at e
    · split at e
      · rename_i zs e3
        obtain ⟨z, c, d⟩ := mapO2_ok e3 (finOf_ok h e1) (finOf_ok h' e2)
        obtain ⟨b, e4, e5⟩ := Option.map_eq_some_iff.mp c
        obtain ⟨b', e6, e7⟩ := tfB_ok e d
        rw [← e5] at e6
        cases e6
        exact ⟨_, e4, e7⟩
      · cases e
    · cases e
  · cases e
def cmpIA (op : CmpOp) (p q : Int × Int) : Option TF := match op with
  | .Lt => some (decide (p.1 < q.2), decide (q.1 ≤ p.2))
  | .LtE => some (decide (p.1 ≤ q.2), decide (q.1 < p.2))
  | .Gt => some (decide (q.1 < p.2), decide (p.1 ≤ q.2))
  | .GtE => some (decide (q.1 ≤ p.2), decide (p.1 < q.2))
  | .Eq => some (decide (p.1 ≤ q.2) && decide (q.1 ≤ p.2), !(decide (p.1 = p.2) && decide (q.1 = q.2) && decide (p.1 = q.1)))
  | .NotEq => some (!(decide (p.1 = p.2) && decide (q.1 = q.2) && decide (p.1 = q.1)), decide (p.1 ≤ q.2) && decide (q.1 ≤ p.2))
  | _ => none
theorem eqD_int (i j : Int) : eqD (.a (.int i)) (.a (.int j)) = some (i == j) := rfl
theorem cmpIA_ok {op : CmpOp} {p q : Int × Int} {r : TF} {i j : Int} (e : cmpIA op p q = some r) (h1 : p.1 ≤ i) (h2 : i ≤ p.2) (h3 : q.1 ≤ j) (h4 : j ≤ q.2) : ∃ b, cmpW op (.a (.int i)) (.a (.int j)) = some b ∧ r.has b := by
  cases op with
  | Lt => cases e; refine ⟨_, rfl, ?_⟩; by_cases c : i < j <;> simp [TF.has, c] <;> omega
  | LtE => cases e; refine ⟨_, rfl, ?_⟩; by_cases c : i ≤ j <;> simp [TF.has, c] <;> omega
  | Gt => cases e; refine ⟨_, rfl, ?_⟩; by_cases c : j < i <;> simp [TF.has, c] <;> omega
  | GtE => cases e; refine ⟨_, rfl, ?_⟩; by_cases c : j ≤ i <;> simp [TF.has, c] <;> omega
  | Eq => cases e; refine ⟨i == j, rfl, ?_⟩; by_cases c : i = j <;> simp [TF.has, c] <;> omega
  | NotEq => cases e; refine ⟨!(i == j), rfl, ?_⟩; by_cases c : i = j <;> simp [TF.has, c] <;> omega
  | _ => cases e
def cmpJ (op : CmpOp) (p q : Int × Int) : Option TF := match op with
  | .Lt | .LtE | .Gt | .GtE => cmpIA op p q
  | _ => none
theorem cmpJ_ok {op : CmpOp} {p q : Int × Int} {r : TF} {i j : Int} (e : cmpJ op p q = some r) (h1 : p.1 ≤ i) (h2 : i ≤ p.2) (h3 : q.1 ≤ j) (h4 : j ≤ q.2) : ∃ b, cmpI op i j = some b ∧ r.has b := by
  cases op with
  | Lt => exact cmpIA_ok (op := .Lt) e h1 h2 h3 h4
  | LtE => exact cmpIA_ok (op := .LtE) e h1 h2 h3 h4
  | Gt => exact cmpIA_ok (op := .Gt) e h1 h2 h3 h4
  | GtE => exact cmpIA_ok (op := .GtE) e h1 h2 h3 h4
  | _ => cases e
def intCmp (op : CmpOp) (x y : AV) : Option TF := match asInt x, asInt y with
  | some p, some q => cmpIA op p q
  | _, _ => none
/-- numbers, truths, texts, nothing -/
def isAtA : AV → Bool
  | .int _ _ | .num _ _ | .str _ _ => true
  | .fin ws => ws.all fun w => match w with
    | .a x => x.plain
    | _ => false
  | _ => false
theorem isAtA_ok {a : AV} {w : W} (e : isAtA a = true) (h : gm π bag a w) : ∃ x, w = .a x ∧ x.plain = true := by
  cases a with
  | int lo hi => obtain ⟨i, rfl, _⟩ := h; exact ⟨_, rfl, rfl⟩
  | num lo hi =>
    obtain ⟨i, h0, _⟩ := h
    rcases h0 with rfl | ⟨b, rfl, _⟩
    · exact ⟨_, rfl, rfl⟩
    · exact ⟨_, rfl, rfl⟩
  | str lo hi => obtain ⟨i, rfl, _⟩ := h; exact ⟨_, rfl, rfl⟩
  | fin ws =>
    have := List.all_eq_true.mp e w h.1
    match w, this with
    | .a x, this => exact ⟨x, rfl, this⟩
    | .n _ _, this => cases this
  | _ => cases e
theorem eqA_plain {x y : At} (h : x.plain = true) (h' : y.plain = true) : ∃ b, eqA x y = some b := by
  cases x <;> cases y <;> first | (cases h; done) | (cases h'; done) | exact ⟨_, rfl⟩
theorem eqD_at {x y : At} (h : x.plain = true) (h' : y.plain = true) : ∃ b, eqD (.a x) (.a y) = some b := eqA_plain h h'
theorem inL_at {x : At} (h : x.plain = true) : ∀ {ys : List W}, (∀ y ∈ ys, ∃ z, y = .a z ∧ z.plain = true) → ∃ b, inL (.a x) ys = some b
  | [], _ => ⟨_, rfl⟩
  | y :: ys, q => by
    obtain ⟨z, rfl, hz⟩ := q y List.mem_cons_self
    obtain ⟨b, e1⟩ := eqD_at hz h
    obtain ⟨c, e2⟩ := inL_at h (ys := ys) fun y hy => q y (List.mem_cons_of_mem _ hy)
    exact ⟨b || c, by simp only [inL, e1, e2]⟩
def atCmp (op : CmpOp) (x y : AV) : Option TF := match op with
  | .Eq | .NotEq => if isAtA x && isAtA y then some (true, true) else none
  | .In | .NotIn => (match asSeq y with
    | some (k, _, hi, e) => if isSq k && isAtA x && (decide (hi = 0) || isAtA e) then some (true, true) else none
    | none => none)
  | .Is | .IsNot => (match y with
    | .fin [.a .non] => if isAtA x then some (true, true) else none
    | _ => none)
  | _ => none
theorem TF.any (b : Bool) : TF.has (true, true) b := by cases b <;> rfl
theorem atCmp_ok {op : CmpOp} {x y : AV} {p : TF} {v w : W} (e : atCmp op x y = some p) (h : gm π bag x v) (h' : gm π bag y w) : ∃ b, cmpW op v w = some b ∧ p.has b := by
  have eqs : isAtA x && isAtA y → ∃ b, eqD v w = some b ∧ v.notD = true ∧ w.notD = true := fun c => by
    rw [Bool.and_eq_true] at c
    obtain ⟨a, rfl, ha⟩ := isAtA_ok c.1 h
    obtain ⟨a', rfl, ha'⟩ := isAtA_ok c.2 h'
    obtain ⟨b, hb⟩ := eqD_at ha ha'
    exact ⟨b, hb, rfl, rfl⟩
  have ins : ∀ {k lo hi e0}, asSeq y = some (k, lo, hi, e0) → (isSq k && isAtA x && (decide (hi = 0) || isAtA e0)) = true → ∃ b, isIn v w = some b := fun {k lo hi e0} e1 c => by
    simp only [Bool.and_eq_true] at c
    obtain ⟨⟨c1, c2⟩, c3⟩ := c
    obtain ⟨a, rfl, ha⟩ := isAtA_ok c2 h
    obtain ⟨ys, rfl, g1, g2, g3⟩ := asSeq_ok e1 h'
    have hy : ∀ y ∈ ys, ∃ z, y = .a z ∧ z.plain = true := fun y hy => by
      rw [Bool.or_eq_true, decide_eq_true_eq] at c3
      rcases c3 with c3 | c3
      · have : ys.length ≠ 0 := by cases ys with
          | nil => cases hy
          | cons _ _ => simp
        omega
      · exact isAtA_ok c3 (g3 y hy)
    obtain ⟨b, hb⟩ := inL_at ha hy
    cases k with
    | tup => exact ⟨b, hb⟩
    | lst m => exact ⟨b, hb⟩
    | _ => cases c1
  cases op with
  | Eq =>
    simp only [atCmp] at e
    split at e
    · rename_i c
      cases e
      obtain ⟨b, hb, _⟩ := eqs c
      exact ⟨b, hb, TF.any b⟩
    · cases e
  | NotEq =>
    simp only [atCmp] at e
    split at e
    · rename_i c
      cases e
      obtain ⟨b, hb, n1, n2⟩ := eqs c
      exact ⟨!b, by simp only [cmpW, hb, n1, n2, Bool.and_self, if_true, Option.map_some], TF.any _⟩
    · cases e
  | In =>
    simp only [atCmp] at e
    split at e
    · rename_i e1
      split at e
      · rename_i c
        cases e
        obtain ⟨b, hb⟩ := ins e1 c
        exact ⟨b, hb, TF.any b⟩
      · cases e
    · cases e
  | NotIn =>
    simp only [atCmp] at e
    split at e
    · rename_i e1
      split at e
      · rename_i c
        cases e
        obtain ⟨b, hb⟩ := ins e1 c
        exact ⟨!b, by simp only [cmpW, hb, Option.map_some], TF.any _⟩
      · cases e
    · cases e
  | Is =>
    simp only [atCmp] at e
    split at e
    · split at e
      · rename_i c
        cases e
        obtain ⟨a, rfl, ha⟩ := isAtA_ok c h
        rcases List.mem_cons.mp h'.1 with rfl | q
        · cases a <;> first | (cases ha; done) | exact ⟨_, rfl, TF.any _⟩
        · cases q
      · cases e
    · cases e
  | IsNot =>
    simp only [atCmp] at e
    split at e
    · split at e
      · rename_i c
        cases e
        obtain ⟨a, rfl, ha⟩ := isAtA_ok c h
        rcases List.mem_cons.mp h'.1 with rfl | q
        · cases a <;> first | (cases ha; done) | exact ⟨_, rfl, TF.any _⟩
        · cases q
      · cases e
    · cases e
  | _ => cases e
/-- none of them is it -/
def inCmp (op : CmpOp) (x y : AV) : Option TF := match x, y with
  | .fin vs, .seq k _ _ (.fin ws) => if isSq k = true ∧ (vs.all fun v => ws.all fun w => decide (eqD w v = some false)) = true then (match op with
    | .In => some (false, true)
    | .NotIn => some (true, false)
    | _ => none) else none
  | _, _ => none
theorem inL_no {x : W} : ∀ {xs : List W}, (∀ y ∈ xs, eqD y x = some false) → inL x xs = some false
  | [], _ => rfl
  | y :: ys, h => by
    simp only [inL, h y List.mem_cons_self, inL_no (fun z hz => h z (List.mem_cons_of_mem _ hz)), Bool.or_self]
theorem inCmp_ok {op : CmpOp} {x y : AV} {p : TF} {v w : W} (e : inCmp op x y = some p) (h : gm π bag x v) (h' : gm π bag y w) : ∃ b, cmpW op v w = some b ∧ p.has b := by
  unfold inCmp at e
  split at e
  · rename_i vs k lo hi ws
    split at e
    · rename_i c
      obtain ⟨xs, rfl, _, _, g⟩ := h'
      have hn : inL v xs = some false := inL_no fun z hz => by
        have := List.all_eq_true.mp (List.all_eq_true.mp c.2 v h.1) z (g z hz).1
        exact of_decide_eq_true this
      have hi : isIn v (.n k xs) = some false := by
        cases k with
        | tup => cases v <;> exact hn
        | lst m => cases v <;> exact hn
        | _ => cases c.1
      cases op with
      | In => cases e; exact ⟨false, hi, rfl⟩
      | NotIn => cases e; exact ⟨true, by simp only [cmpW, hi]; rfl, rfl⟩
      | _ => cases e
    · cases e
  · cases e
def cmpA (op : CmpOp) (x y : AV) : Option TF := exCmp op x y <|> (intCmp op x y <|> (inCmp op x y <|> atCmp op x y))
theorem cmpA_ok {op : CmpOp} {x y : AV} {p : TF} {v w : W} (e : cmpA op x y = some p) (h : gm π bag x v) (h' : gm π bag y w) : ∃ b, cmpW op v w = some b ∧ p.has b := by
  unfold cmpA at e
  rcases or_ok e with e | e
  · exact exCmp_ok e h h'
  rcases or_ok e with e | e
  · unfold intCmp at e
    split at e
    · rename_i p q e1 e2
      obtain ⟨i, rfl, g1, g2⟩ := asInt_ok h (show asInt x = some (p.1, p.2) from e1)
      obtain ⟨j, rfl, g3, g4⟩ := asInt_ok h' (show asInt y = some (q.1, q.2) from e2)
      exact cmpIA_ok e g1 g2 g3 g4
    · cases e
  rcases or_ok e with e | e
  · exact inCmp_ok e h h'
  · exact atCmp_ok e h h'
/-! ### kinds -/
def okTy : W → Bool
  | .a .dead => false
  | .n .ro _ => false
  | _ => true
theorem isTys_some {w : W} (h : okTy w = true) : ∀ ts : List Ty, ∃ b, isTys w ts = some b
  | [] => ⟨_, rfl⟩
  | t :: ts => by
    obtain ⟨c, hc⟩ : ∃ c, isTy w t = some c := by
      match w, h with
      | .a .non, _ => exact ⟨_, rfl⟩
      | .a (.bl _), _ => exact ⟨_, rfl⟩
      | .a (.int _), _ => exact ⟨_, rfl⟩
      | .a (.str _), _ => exact ⟨_, rfl⟩
      | .a .opq, _ => exact ⟨_, rfl⟩
      | .n .tup _, _ => exact ⟨_, rfl⟩
      | .n (.lst _) _, _ => exact ⟨_, rfl⟩
      | .n (.dct _ _) _, _ => exact ⟨_, rfl⟩
    obtain ⟨b, hb⟩ := isTys_some h ts
    cases c with
    | true => exact ⟨true, by simp only [isTys, hc]⟩
    | false => exact ⟨b, by simp only [isTys, hc, hb]⟩
theorem isTys_int (i j : Int) : ∀ ts : List Ty, isTys (.a (.int i)) ts = isTys (.a (.int j)) ts
  | [] => rfl
  | t :: ts => by simp only [isTys, isTy, isTys_int i j ts]
theorem isTys_str (i j : Str) : ∀ ts : List Ty, isTys (.a (.str i)) ts = isTys (.a (.str j)) ts
  | [] => rfl
  | t :: ts => by simp only [isTys, isTy, isTys_str i j ts]
theorem isTys_n (k : Kd) (xs ys : List W) : ∀ ts : List Ty, isTys (.n k xs) ts = isTys (.n k ys) ts
  | [] => rfl
  | t :: ts => by cases k <;> simp only [isTys, isTy, isTys_n _ xs ys ts]
def one (b : Option Bool) : Option TF := match b with
  | some true => some (true, false)
  | some false => some (false, true)
  | none => none
theorem one_ok {b : Option Bool} {p : TF} (e : one b = some p) : ∃ c, b = some c ∧ p.has c := by
  match b, e with
  | some true, e => cases e; exact ⟨true, rfl, rfl⟩
  | some false, e => cases e; exact ⟨false, rfl, rfl⟩
def isiA (ts : List Ty) (a : AV) : Option TF := match a with
  | .fin ws => (match mapO (fun w => (isTys w ts).map fun c => .a (.bl c)) ws with
    | some zs => tfB zs
    | none => none)
  | .int _ _ => one (isTys (.a (.int 0)) ts)
  | .str _ _ => one (isTys (.a (.str Str.empty)) ts)
  | .seq k _ _ _ => one (isTys (.n k []) ts)
  | .tree k _ => one (isTys (.n k []) ts)
  | .num _ _ => some (true, true)
  | .good _ _ _ => some (true, true)
  | .pr _ _ _ _ => some (true, true)
  | _ => none
theorem Good.okTy {d s b : Nat} {w : W} (h : Good d s b w) : okTy w = true := by
  match w, h with
  | .a .non, h => rfl
  | .a (.bl c), h => rfl
  | .a (.int i), h => rfl
  | .a (.str t), h => rfl
  | .a .opq, h => rfl
  | .a .dead, h => exact absurd h.ok (by simp [okW])
  | .n .tup xs, h => rfl
  | .n (.lst m) xs, h => rfl
  | .n (.dct m ks) xs, h => rfl
  | .n .ro xs, h => exact absurd h.ok (by simp [okW, okKd])
theorem isiA_ok {ts : List Ty} {a : AV} {p : TF} {w : W} (e : isiA ts a = some p) (h : gm π bag a w) : ∃ b, isTys w ts = some b ∧ p.has b := by
  cases a with
  | fin ws =>
    simp only [isiA] at e
    split at e
    · rename_i zs e3
      obtain ⟨z, c, d⟩ := mapO_ok e3 h.1
      obtain ⟨b, e4, e5⟩ := Option.map_eq_some_iff.mp c
      obtain ⟨b', e6, e7⟩ := tfB_ok e d
      rw [← e5] at e6
      cases e6
      exact ⟨_, e4, e7⟩
    · cases e
  | int lo hi =>
    obtain ⟨i, rfl, _⟩ := h
    rw [isTys_int i 0]; exact one_ok e
  | str lo hi =>
    obtain ⟨i, rfl, _⟩ := h
    rw [isTys_str i Str.empty]; exact one_ok e
  | seq k lo hi x =>
    obtain ⟨xs, rfl, _⟩ := h
    rw [isTys_n k xs []]; exact one_ok e
  | tree k as =>
    obtain ⟨xs, rfl, _⟩ := h
    rw [isTys_n k xs []]; exact one_ok e
  | num lo hi =>
    cases e
    obtain ⟨i, h0, _⟩ := h
    obtain ⟨b, hb⟩ := isTys_some (w := w) (by rcases h0 with rfl | ⟨b, rfl, _⟩ <;> rfl) ts
    exact ⟨b, hb, TF.any b⟩
  | good d s b =>
    cases e
    obtain ⟨b, hb⟩ := isTys_some (Good.okTy h) ts
    exact ⟨b, hb, TF.any b⟩
  | pr _ d s b =>
    cases e
    obtain ⟨b, hb⟩ := isTys_some (Good.okTy h.2) ts
    exact ⟨b, hb, TF.any b⟩
  | _ => cases e
/-- what it is, where it is of these kinds (t) or not -/
def rfI (ts : List Ty) (t : Bool) (a : AV) : AV := match t, a, ts with
  | true, .good _ s _, [.str] => .str 0 (s / 10)
  | true, .good _ _ b, [.int] => .num (-(2 ^ (b + 1) : Nat)) (2 ^ (b + 1) : Nat)
  | _, a, _ => a
theorem rfI_ok {ts : List Ty} {t : Bool} {a : AV} {w : W} (e : isTys w ts = some t) (h : gm π bag a w) : gm π bag (rfI ts t a) w := by
  unfold rfI
  split
  · rename_i d s b
    have h : Good d s b w := h
    match w, h with
    | .a .non, h => cases e
    | .a (.bl c), h => simp [isTys, isTy] at e
    | .a (.int i), h => simp [isTys, isTy] at e
    | .a (.str t), h =>
      have := h.wt
      simp only [wt] at this
      exact ⟨t, rfl, Nat.zero_le _, by omega, h.ok⟩
    | .a .opq, h => cases e
    | .a .dead, h => cases e
    | .n .tup xs, h => simp [isTys, isTy] at e
    | .n (.lst m) xs, h => simp [isTys, isTy] at e
    | .n (.dct m ks) xs, h => simp [isTys, isTy] at e
    | .n .ro xs, h => cases e
  · rename_i d s b
    have h : Good d s b w := h
    have big : (1 : Nat) ≤ 2 ^ (b + 1) := Nat.one_le_two_pow
    match w, h with
    | .a .non, h => cases e
    | .a (.bl c), h =>
      refine ⟨b2z c, .inr ⟨c, rfl, rfl⟩, ?_, ?_⟩ <;> cases c <;> simp only [b2z, if_true, Bool.false_eq_true, if_false] <;> omega
    | .a (.int i), h =>
      have q : i.natAbs.log2 ≤ b := of_decide_eq_true h.ok
      have : i.natAbs < 2 ^ (b + 1) := by
        by_cases z : i.natAbs = 0
        · rw [z]; omega
        · exact (Nat.log2_lt z).mp (by omega)
      exact ⟨i, .inl rfl, by omega, by omega⟩
    | .a (.str t), h => simp [isTys, isTy] at e
    | .a .opq, h => cases e
    | .a .dead, h => cases e
    | .n .tup xs, h => simp [isTys, isTy] at e
    | .n (.lst m) xs, h => simp [isTys, isTy] at e
    | .n (.dct m ks) xs, h => simp [isTys, isTy] at e
    | .n .ro xs, h => cases e
  · exact h
end
end Lin.Ab

set_option Elab.async false
set_option linter.all false
set_option maxRecDepth 100000
/-! Ab, part E: built-ins, methods, environments. -/
namespace Lin.Ab
open PySem L2
section
variable {π : Nat → W → Prop} {bag : W → Prop}
/-! ### built-ins -/
def lenA (a : AV) : Option AV := match asSeq a with
  | some (_, lo, hi, _) => some (.int lo hi)
  | none => match a with
    | .tree _ xs => some (.int xs.length xs.length)
    | a => match asStr a with
      | some p => if p.2 ≤ sizeLine then some (.int p.1 p.2) else none
      | none => none
theorem lenA_ok {a r : AV} {w : W} (e : lenA a = some r) (h : gm π bag a w) : ∃ u, biW .len [w] = some u ∧ gm π bag r u := by
  unfold lenA at e
  split at e
  · rename_i k lo hi x e1
    cases e
    obtain ⟨xs, rfl, g1, g2, _⟩ := asSeq_ok e1 h
    exact ⟨_, rfl, _, rfl, by omega, by omega⟩
  · split at e
    · cases e
      obtain ⟨xs, rfl, g⟩ := h
      have := gmL_len g
      exact ⟨_, rfl, _, rfl, by omega, by omega⟩
    · split at e
      · rename_i p e1
        split at e
        · cases e
          obtain ⟨i, rfl, g1, g2, _⟩ := asStr_ok h (show asStr _ = some (p.1, p.2) from e1)
          exact ⟨_, if_pos (by omega), _, rfl, by omega, by omega⟩
        · cases e
      · cases e
def intA (a : AV) : Option AV := match asNum a with
  | some p => some (.int p.1 p.2)
  | none => none
theorem intA_ok {a r : AV} {w : W} (e : intA a = some r) (h : gm π bag a w) : ∃ u, biW .int [w] = some u ∧ gm π bag r u := by
  unfold intA at e
  split at e
  · rename_i p e1
    cases e
    obtain ⟨i, h0, h1⟩ := asNum_ok h (show asNum a = some (p.1, p.2) from e1)
    rcases h0 with rfl | ⟨b, rfl, rfl⟩
    · exact ⟨_, rfl, _, rfl, h1⟩
    · exact ⟨_, rfl, _, rfl, h1⟩
  · cases e
def absA (a : AV) : Option AV := match asInt a with
  | some p => some (.int 0 (if -p.1 < p.2 then p.2 else -p.1))
  | none => none
theorem absA_ok {a r : AV} {w : W} (e : absA a = some r) (h : gm π bag a w) : ∃ u, biW .abs [w] = some u ∧ gm π bag r u := by
  unfold absA at e
  split at e
  · rename_i p e1
    cases e
    obtain ⟨i, rfl, h1, h2⟩ := asInt_ok h (show asInt a = some (p.1, p.2) from e1)
    refine ⟨_, rfl, _, rfl, ?_, ?_⟩
    · split <;> omega
    · split <;> split <;> omega
  · cases e
def copyA (l : Kd) (a : AV) : Option AV := match asTree a with
  | some (k, xs) => if isSq k && isFzs xs then some (.tree l xs) else none
  | none => match asSeq a with
    | some (k, lo, hi, e) => if isSq k && (decide (hi = 0) || isFz e) then some (.seq l lo hi e) else none
    | none => none
theorem copyA_ok {l : Kd} {a r : AV} {w : W} (e : copyA l a = some r) (h : gm π bag a w) : ∃ k xs, w = .n k xs ∧ isSq k = true ∧ fzL xs = true ∧ gm π bag r (.n l xs) := by
  unfold copyA at e
  split at e
  · rename_i k xs e1
    split at e
    · rename_i c
      rw [Bool.and_eq_true] at c
      cases e
      obtain ⟨ys, rfl, g⟩ := asTree_ok e1 h
      exact ⟨k, ys, rfl, c.1, isFzs_ok _ c.2 g, ys, rfl, g⟩
    · cases e
  · split at e
    · rename_i k lo hi x e1
      split at e
      · rename_i c
        rw [Bool.and_eq_true] at c
        cases e
        obtain ⟨ys, rfl, g1, g2, g3⟩ := asSeq_ok e1 h
        exact ⟨k, ys, rfl, c.1, fzL_seq c.2 g2 g3, ys, rfl, g1, g2, g3⟩
      · cases e
    · cases e
def mmA (mx : Bool) (a b : AV) : Option AV := match asInt a, asInt b with
  | some p, some q => if mx then some (.int (max p.1 q.1) (max p.2 q.2)) else some (.int (min p.1 q.1) (min p.2 q.2))
  | _, _ => none
theorem mmA_ok {mx : Bool} {a b r : AV} {v w : W} (e : mmA mx a b = some r) (h : gm π bag a v) (h' : gm π bag b w) : ∃ u, biW (if mx then .max else .min) [v, w] = some u ∧ gm π bag r u := by
  unfold mmA at e
  split at e
  · rename_i p q e1 e2
    obtain ⟨i, rfl, h1, h2⟩ := asInt_ok h (show asInt a = some (p.1, p.2) from e1)
    obtain ⟨j, rfl, h3, h4⟩ := asInt_ok h' (show asInt b = some (q.1, q.2) from e2)
    cases mx with
    | true =>
      cases e
      refine ⟨_, rfl, _, rfl, ?_, ?_⟩ <;> split <;> omega
    | false =>
      cases e
      refine ⟨_, rfl, _, rfl, ?_, ?_⟩ <;> split <;> omega
  · cases e
def biA (b : Bi) (as : List AV) : Option AV := match as with
  | [a] => exact1 (fun w => biW b [w]) a <|> (match b with
    | .len => lenA a
    | .int => intA a
    | .abs => absA a
    | .list => copyA (.lst true) a
    | .tuple => copyA .tup a
    | _ => none)
  | [a, c] => (match b with
    | .max => mmA true a c
    | .min => mmA false a c
    | _ => none)
  | _ => none
theorem biA_ok {b : Bi} {as : List AV} {r : AV} {ws : List W} (e : biA b as = some r) (h : gmL π bag as ws) : ∃ u, biW b ws = some u ∧ gm π bag r u := by
  unfold biA at e
  split at e
  · obtain ⟨w, ws', rfl, h1, h2⟩ := h
    rw [show ws' = [] from h2]
    rcases or_ok e with e | e
    · exact exact1_ok e h1
    split at e
    · exact lenA_ok e h1
    · exact intA_ok e h1
    · exact absA_ok e h1
    · obtain ⟨k, xs, rfl, g1, g2, g3⟩ := copyA_ok e h1
      refine ⟨_, ?_, g3⟩
      cases k with
      | tup => exact if_pos g2
      | lst m => exact if_pos g2
      | _ => cases g1
    · obtain ⟨k, xs, rfl, g1, g2, g3⟩ := copyA_ok e h1
      refine ⟨_, ?_, g3⟩
      cases k with
      | tup => exact if_pos g2
      | lst m => exact if_pos g2
      | _ => cases g1
    · cases e
  · obtain ⟨w, ws', rfl, h1, w', ws'', rfl, h2, h3⟩ := h
    rw [show ws'' = [] from h3]
    split at e
    · exact mmA_ok (mx := true) e h1 h2
    · exact mmA_ok (mx := false) e h1 h2
    · cases e
  · cases e
/-! ### methods -/
def nonA : AV := .fin [.a .non]
theorem nonA_ok : gm π bag nonA (.a .non) := ⟨List.mem_cons_self, rfl, rfl⟩
def addJ (hi : Nat) (e y : AV) : AV := if hi = 0 then y else join e y
theorem addJ_l {hi : Nat} {e y : AV} {xs : List W} {x : W} (h : xs.length ≤ hi) (hx : x ∈ xs) (g : gm π bag e x) : gm π bag (addJ hi e y) x := by
  unfold addJ
  split
  · cases xs with
    | nil => cases hx
    | cons _ _ => simp at h; omega
  · exact join_l g
theorem addJ_r {hi : Nat} {e y : AV} {x : W} (g : gm π bag y x) : gm π bag (addJ hi e y) x := by
  unfold addJ
  split
  · exact g
  · exact join_r g
def mtA (m : Mt) (o : AV) (as : List AV) : Option (AV × AV) := match m, as with
  | .append, [y] => (match o with
    | .tree (.lst true) xs => if xs.length < sizeLine then some (nonA, .tree (.lst true) (xs ++ [y])) else none
    | .seq (.lst true) lo hi e => if hi < sizeLine then some (nonA, .seq (.lst true) (lo + 1) (hi + 1) (addJ hi e y)) else none
    | _ => none)
  | .insert, [i, y] => (match asInt i, asSeq o with
    | some p, some (k, lo, hi, e) => if k = .lst true ∧ 0 ≤ p.1 ∧ p.2 < 2 ^ 62 ∧ hi < sizeLine then some (nonA, .seq (.lst true) (lo + 1) (hi + 1) (addJ hi e y)) else none
    | _, _ => none)
  | .extend, [y] => (match asSeq o, asSeq y with
    | some (k, lo, hi, e), some (k', lo', hi', e') => if k = .lst true ∧ isLst k' ∧ hi + hi' ≤ sizeLine then some (nonA, .seq (.lst true) (lo + lo') (hi + hi') (if hi' = 0 then e else addJ hi e (frzA e'))) else none
    | _, _ => none)
  | .popAt, [i] => (match asInt i, asSeq o with
    | some p, some (k, lo, hi, e) => if k = .lst true ∧ 0 ≤ p.1 ∧ p.2 < lo ∧ p.2 < 2 ^ 62 then some (e, .seq (.lst true) (lo - 1) (hi - 1) e) else none
    | _, _ => none)
  | .upper, [] => (match exact1 (fun w => (mtW .upper w []).map (·.1)) o with
    | some r => some (r, o)
    | none => match asStr o with
      | some p => if p.2 ≤ 5592405 then some (.str p.1 p.2, o) else none
      | none => none)
  | .split, [s] => (match exact2 (fun w t => (mtW .split w [t]).map (·.1)) o s with
    | some r => some (r, o)
    | none => none)
  | _, _ => none
theorem insert_mem {xs : List W} {n : Nat} {x y : W} (h : x ∈ xs.take n ++ [y] ++ xs.drop n) : x ∈ xs ∨ x = y := by
  rcases List.mem_append.mp h with h | h
  · rcases List.mem_append.mp h with h | h
    · exact .inl (List.mem_of_mem_take h)
    · exact .inr (List.mem_singleton.mp h)
  · exact .inl (List.mem_of_mem_drop h)
theorem upper_fst {w u : W} (h : (mtW .upper w []).map (·.1) = some u) : mtOk .upper w = true ∧ mtW .upper w [] = some (u, w) := by
  match w, h with
  | .a (.str s), h =>
    refine ⟨rfl, ?_⟩
    simp only [mtW] at h ⊢
    split at h
    · rename_i c
      cases h
      rw [if_pos c]
    · cases h
theorem split_fst {w t u : W} (h : (mtW .split w [t]).map (·.1) = some u) : mtOk .split w = true ∧ mtW .split w [t] = some (u, w) := by
  match w, t, h with
  | .a (.str s), .a (.str t), h =>
    refine ⟨rfl, ?_⟩
    simp only [mtW] at h ⊢
    split at h
    · rename_i c
      cases h
      rw [if_pos c]
    · cases h
theorem mtA_ok {m : Mt} {o r o' : AV} {as : List AV} {w : W} {ws : List W} (e : mtA m o as = some (r, o')) (h : gm π bag o w) (h' : gmL π bag as ws) : mtOk m w = true ∧ ∃ u w', mtW m w ws = some (u, w') ∧ gm π bag r u ∧ gm π bag o' w' := by
  unfold mtA at e
  split at e
  · obtain ⟨y, ws', rfl, h1, h2⟩ := h'
    rw [show ws' = [] from h2]
    split at e
    · split at e
      · rename_i c
        cases e
        obtain ⟨xs, rfl, g⟩ := h
        have gl := gmL_len g
        exact ⟨rfl, _, _, if_pos (by omega), nonA_ok, _, rfl, gmL_append g ⟨y, [], rfl, h1, rfl⟩⟩
      · cases e
    · split at e
      · rename_i c
        cases e
        obtain ⟨xs, rfl, g1, g2, g3⟩ := h
        refine ⟨rfl, _, _, if_pos (by omega), nonA_ok, _, rfl, ?_, ?_, fun x hx => ?_⟩
        · rw [List.length_append]; exact Nat.add_le_add_right g1 1
        · rw [List.length_append]; exact Nat.add_le_add_right g2 1
        · rcases List.mem_append.mp hx with hx | hx
          · exact addJ_l g2 hx (g3 x hx)
          · rw [List.mem_singleton.mp hx]; exact addJ_r h1
      · cases e
    · cases e
  · obtain ⟨i, ws', rfl, h1, y, ws'', rfl, h2, h3⟩ := h'
    rw [show ws'' = [] from h3]
    split at e
    · rename_i p k lo hi x e1 e2
      split at e
      · rename_i c
        obtain ⟨rfl, c1, c2, c3⟩ := c
        cases e
        obtain ⟨xs, rfl, g1, g2, g3⟩ := asSeq_ok e2 h
        obtain ⟨j, rfl, g4, g5⟩ := asInt_ok h1 (show asInt _ = some (p.1, p.2) from e1)
        refine ⟨rfl, _, _, if_pos ⟨by omega, by omega, by omega⟩, nonA_ok, _, rfl, ?_, ?_, fun x hx => ?_⟩
        · simp only [List.length_append, List.length_take, List.length_drop, List.length_singleton]; omega
        · simp only [List.length_append, List.length_take, List.length_drop, List.length_singleton]; omega
        · rcases insert_mem hx with hx | rfl
          · exact addJ_l g2 hx (g3 x hx)
          · exact addJ_r h2
      · cases e
    · cases e
  · obtain ⟨y, ws', rfl, h1, h2⟩ := h'
    rw [show ws' = [] from h2]
    split at e
    · rename_i k lo hi x k' lo' hi' x' e1 e2
      split at e
      · rename_i c
        obtain ⟨rfl, c1, c2⟩ := c
        cases e
        obtain ⟨xs, rfl, g1, g2, g3⟩ := asSeq_ok e1 h
        obtain ⟨ys, rfl, f1, f2, f3⟩ := asSeq_ok e2 h1
        obtain ⟨m, rfl⟩ : ∃ m, k' = .lst m := by
          cases k' with
          | lst m => exact ⟨m, rfl⟩
          | _ => cases c1
        refine ⟨rfl, _, _, if_pos (by omega), nonA_ok, _, rfl, ?_, ?_, fun z hz => ?_⟩
        · rw [List.length_append, frzL_map, List.length_map]; omega
        · rw [List.length_append, frzL_map, List.length_map]; omega
        · have f4 : z ∈ frzL ys → gm π bag (frzA x') z := fun q => by
            rw [frzL_map] at q
            obtain ⟨v, hv, rfl⟩ := List.mem_map.mp q
            exact frzA_ok _ (f3 v hv)
          rcases List.mem_append.mp hz with hz | hz
          · split
            · exact g3 z hz
            · exact addJ_l g2 hz (g3 z hz)
          · split
            · rename_i c0
              rw [frzL_map] at hz
              obtain ⟨v, hv, _⟩ := List.mem_map.mp hz
              cases ys with
              | nil => cases hv
              | cons _ _ => simp at f2; omega
            · exact addJ_r (f4 hz)
      · cases e
    · cases e
  · obtain ⟨i, ws', rfl, h1, h2⟩ := h'
    rw [show ws' = [] from h2]
    split at e
    · rename_i p k lo hi x e1 e2
      split at e
      · rename_i c
        obtain ⟨rfl, c1, c2, c3⟩ := c
        cases e
        obtain ⟨xs, rfl, g1, g2, g3⟩ := asSeq_ok e2 h
        obtain ⟨j, rfl, g4, g5⟩ := asInt_ok h1 (show asInt _ = some (p.1, p.2) from e1)
        have hj : j.toNat < xs.length := by omega
        refine ⟨rfl, xs[j.toNat], .n (.lst true) (xs.eraseIdx j.toNat), ?_, g3 _ (List.getElem_mem hj), _, rfl, ?_, ?_, fun x hx => g3 x (List.mem_of_mem_eraseIdx hx)⟩
        · simp only [mtW]
          rw [if_pos ⟨by omega, by omega⟩, List.getElem?_eq_getElem hj]
        · rw [List.length_eraseIdx_of_lt hj]; omega
        · rw [List.length_eraseIdx_of_lt hj]; omega
      · cases e
    · cases e
  · rw [show ws = [] from h']
    split at e
    · rename_i q e1
      cases e
      obtain ⟨u, g1, g2⟩ := exact1_ok e1 h
      obtain ⟨f1, f2⟩ := upper_fst g1
      exact ⟨f1, u, w, f2, g2, h⟩
    · split at e
      · rename_i p e1
        split at e
        · cases e
          obtain ⟨i, rfl, g1, g2, k1⟩ := asStr_ok h (show asStr _ = some (p.1, p.2) from e1)
          obtain ⟨k2, k3⟩ := okS_upper k1
          exact ⟨rfl, _, _, if_pos (by omega), ⟨_, rfl, by omega, by omega, k2⟩, h⟩
        · cases e
      · cases e
  · obtain ⟨y, ws', rfl, h1, h2⟩ := h'
    rw [show ws' = [] from h2]
    split at e
    · rename_i q e1
      cases e
      obtain ⟨u, g1, g2⟩ := exact2_ok e1 h h1
      obtain ⟨f1, f2⟩ := split_fst g1
      exact ⟨f1, u, w, f2, g2, h⟩
    · cases e
  · cases e
/-! ### environments -/
inductive AOd where
  | al (i : Nat) | tm (a : AV)
def aAt (A : AEnv) (i : Nat) : Option AV := match A[i]? with
  | some a => if isAl a then some a else none
  | none => none
theorem aAt_ok (B : BagOk bag) {A : AEnv} {ρ : List W} {i : Nat} {a : AV} (e : aAt A i = some a) (h : gmL π bag A ρ) : ∃ w, at? ρ i = some w ∧ gm π bag a w := by
  unfold aAt at e
  split at e
  · rename_i b e1
    split at e
    · rename_i c
      cases e
      obtain ⟨w, g1, g2⟩ := gmL_get h e1
      refine ⟨w, ?_, g2⟩
      unfold at?
      rw [g1]
      exact if_pos (isAl_ok B c g2)
    · cases e
  · cases e
def resA (o : AOd) (A : AEnv) : Option AV := match o with
  | .al i => aAt A i
  | .tm a => some a
/-- its inner things are frozen -/
def inFz : AV → Bool
  | .seq _ _ hi e => decide (hi = 0) || isFz e
  | .tree _ xs => isFzs xs
  | a => isFz a
def resCA (o : AOd) (A : AEnv) : Option AV := match o with
  | .al i => match aAt A i with
    | some a => if inFz a then some a else none
    | none => none
  | .tm a => some (frzInA a)
def gmD (o : AOd) (d : Od) : Prop := match o, d with
  | .al i, .al j => i = j
  | .tm a, .tm w => gm π bag a w
  | _, _ => False
theorem resA_ok (B : BagOk bag) {A : AEnv} {ρ : List W} {o : AOd} {d : Od} {a : AV} (e : resA o A = some a) (hd : gmD (π := π) (bag := bag) o d) (h : gmL π bag A ρ) : ∃ w, res d ρ = some w ∧ gm π bag a w := by
  match o, d, hd with
  | .al i, .al j, hd =>
    have hd : i = j := hd
    subst hd
    exact aAt_ok B e h
  | .tm b, .tm w, hd => cases e; exact ⟨w, rfl, hd⟩
theorem inFz_ok {a : AV} {k : Kd} {xs : List W} (e : inFz a = true) (h : gm π bag a (.n k xs)) : fzL xs = true := by
  have go : isFz a = true → fzL xs = true := fun q => by
    have := isFz_ok a q h
    simp only [W.fz, Bool.and_eq_true] at this
    exact this.2
  cases a with
  | seq k' lo hi x =>
    obtain ⟨ys, e0, g1, g2, g3⟩ := h
    cases e0
    exact fzL_seq e g2 g3
  | tree k' as =>
    obtain ⟨ys, e0, g⟩ := h
    cases e0
    exact isFzs_ok _ e g
  | _ => exact go e
theorem resCA_ok (B : BagOk bag) {A : AEnv} {ρ : List W} {o : AOd} {d : Od} {a : AV} (e : resCA o A = some a) (hd : gmD (π := π) (bag := bag) o d) (h : gmL π bag A ρ) : ∃ w, resC d ρ = some w ∧ gm π bag a w := by
  match o, d, hd with
  | .al i, .al j, hd =>
    have hd : i = j := hd
    subst hd
    simp only [resCA] at e
    split at e
    · rename_i b e1
      split at e
      · rename_i c
        cases e
        obtain ⟨w, g1, g2⟩ := aAt_ok B e1 h
        refine ⟨w, ?_, g2⟩
        unfold resC
        simp only [g1]
        cases w with
        | a x => rfl
        | n k xs => exact if_pos (inFz_ok c g2)
      · cases e
    · cases e
  | .tm b, .tm w, hd => cases e; exact ⟨w.frzIn, rfl, frzInA_ok hd⟩
/-- a call's arguments -/
def aTake : List AOd → AEnv → Option (List AV × AEnv)
  | [], A => some ([], A)
  | .al i :: r, A => (match aAt A i with
    | some a => if isFz a || isOw a then (match aTake r (if isFz a then A else A.set i .dead) with
        | some (as, A') => some (a :: as, A')
        | none => none) else none
    | none => none)
  | .tm a :: r, A => match aTake r A with
    | some (as, A') => some (a :: as, A')
    | none => none
def gmDs : List AOd → List Od → Prop
  | [], ds => ds = []
  | o :: os, ds => ∃ d ds', ds = d :: ds' ∧ gmD (π := π) (bag := bag) o d ∧ gmDs os ds'
theorem aTake_ok (B : BagOk bag) : ∀ {os : List AOd} {A A' : AEnv} {as : List AV} {ds : List Od} {ρ : List W}, aTake os A = some (as, A') → gmDs (π := π) (bag := bag) os ds → gmL π bag A ρ → ∃ ws ρ', takeA ds ρ = some (ws, ρ') ∧ gmL π bag as ws ∧ gmL π bag A' ρ'
  | [], A, A', as, ds, ρ, e, hd, h => by
    cases e
    rw [show ds = [] from hd]
    exact ⟨[], ρ, rfl, rfl, h⟩
  | .al i :: r, A, A', as, ds, ρ, e, hd, h => by
    obtain ⟨d, ds', rfl, h1, h2⟩ := hd
    match d, h1 with
    | .al j, h1 =>
      have h1 : i = j := h1
      subst h1
      simp only [aTake] at e
      split at e
      · rename_i a e1
        split at e
        · rename_i c
          split at e
          · rename_i as' A'' e2
            cases e
            obtain ⟨w, g1, g2⟩ := aAt_ok B e1 h
            have hs : gmL π bag (if isFz a = true then A else A.set i .dead) (if w.fz = true then ρ else ρ.set i (.a .dead)) := by
              by_cases z : isFz a = true
              · rw [if_pos z, if_pos (isFz_ok a z g2)]; exact h
              · rw [Bool.or_eq_true] at c
                have z2 := isOw_ok B (c.resolve_left z) g2
                rw [if_neg z, if_neg (by rw [z2]; decide)]
                exact gmL_set h rfl
            obtain ⟨ws, ρ', f1, f2, f3⟩ := aTake_ok B e2 h2 hs
            refine ⟨w :: ws, ρ', ?_, ⟨w, ws, rfl, g2, f2⟩, f3⟩
            simp only [takeA, g1]
            rw [show (W.dead : W) = .a .dead from rfl] at *
            simp only [f1]
          · cases e
        · cases e
      · cases e
  | .tm a :: r, A, A', as, ds, ρ, e, hd, h => by
    obtain ⟨d, ds', rfl, h1, h2⟩ := hd
    match d, h1 with
    | .tm w, h1 =>
      simp only [aTake] at e
      split at e
      · rename_i as' A'' e2
        cases e
        obtain ⟨ws, ρ', f1, f2, f3⟩ := aTake_ok B e2 h2 h
        exact ⟨w :: ws, ρ', by simp only [takeA, f1], ⟨w, ws, rfl, h1, f2⟩, f3⟩
      · cases e
def aPut : List AOd → List AV → AEnv → Option AEnv
  | .al i :: r, a :: as, A => (match A[i]? with
    | some b => if isAl b then aPut r as A else (match b with
      | .dead => aPut r as (A.set i a)
      | _ => none)
    | none => none)
  | _ :: r, _ :: as, A => aPut r as A
  | _, _, A => some A
theorem aPut_ok (B : BagOk bag) : ∀ {os : List AOd} {as : List AV} {A A' : AEnv} {ds : List Od} {ws ρ : List W}, aPut os as A = some A' → gmDs (π := π) (bag := bag) os ds → gmL π bag as ws → gmL π bag A ρ → gmL π bag A' (putA ds ws ρ)
  | [], as, A, A', ds, ws, ρ, e, hd, hw, h => by
    rw [show ds = [] from hd]
    cases as <;> (cases e; exact h)
  | .al i :: r, [], A, A', ds, ws, ρ, e, hd, hw, h => by
    obtain ⟨d, ds', rfl, h1, h2⟩ := hd
    rw [show ws = [] from hw]
    cases e
    match d, h1 with
    | .al j, h1 => exact h
  | .tm b :: r, [], A, A', ds, ws, ρ, e, hd, hw, h => by
    obtain ⟨d, ds', rfl, h1, h2⟩ := hd
    rw [show ws = [] from hw]
    cases e
    match d, h1 with
    | .tm j, h1 => exact h
  | .al i :: r, a :: as, A, A', ds, ws, ρ, e, hd, hw, h => by
    obtain ⟨d, ds', rfl, h1, h2⟩ := hd
    obtain ⟨w, ws', rfl, w1, w2⟩ := hw
    match d, h1 with
    | .al j, h1 =>
      have h1 : i = j := h1
      subst h1
      simp only [aPut] at e
      split at e
      · rename_i b e1
        obtain ⟨v, g1, g2⟩ := gmL_get h e1
        split at e
        · rename_i c
          have : (at? ρ i).isSome = true := by
            unfold at?
            rw [g1]
            simp only [isAl_ok B c g2, if_true, Option.isSome_some]
          simp only [putA, this, if_true]
          exact aPut_ok B e h2 w2 h
        · split at e
          · have : (at? ρ i).isSome = false := by
              unfold at?
              rw [g1, show v = .a .dead from g2]
              rfl
            simp only [putA, this, Bool.false_eq_true, if_false]
            exact aPut_ok B e h2 w2 (gmL_set h w1)
          · cases e
      · cases e
  | .tm b :: r, a :: as, A, A', ds, ws, ρ, e, hd, hw, h => by
    obtain ⟨d, ds', rfl, h1, h2⟩ := hd
    obtain ⟨w, ws', rfl, w1, w2⟩ := hw
    match d, h1 with
    | .tm j, h1 => exact aPut_ok B (os := r) (ds := ds') e h2 w2 h
def aWipe (A : AEnv) : List Nat → AEnv
  | [] => A
  | v :: vs => (aWipe A vs).set v .dead
theorem aWipe_ok {A : AEnv} {ρ : List W} (h : gmL π bag A ρ) : ∀ vs : List Nat, gmL π bag (aWipe A vs) (wipeW ρ vs)
  | [] => h
  | v :: vs => gmL_set (aWipe_ok h vs) rfl
def aSet : List Nat → List AV → AEnv → Option AEnv
  | [], [], A => some A
  | i :: is, a :: as, A => aSet is as (A.set i a)
  | _, _, _ => none
theorem aSet_ok : ∀ {is : List Nat} {as : List AV} {A A' : AEnv} {ws ρ : List W}, aSet is as A = some A' → gmL π bag as ws → gmL π bag A ρ → ∃ ρ', setL is ws ρ = some ρ' ∧ gmL π bag A' ρ'
  | [], [], A, A', ws, ρ, e, hw, h => by
    cases e
    rw [show ws = [] from hw]
    exact ⟨ρ, rfl, h⟩
  | i :: is, a :: as, A, A', ws, ρ, e, hw, h => by
    obtain ⟨w, ws', rfl, w1, w2⟩ := hw
    exact aSet_ok (is := is) e w2 (gmL_set h w1)
  | [], _ :: _, _, _, _, _, e, _, _ => by cases e
  | _ :: _, [], _, _, _, _, e, _, _ => by cases e
def aBind (t : Tg) (a : AV) (A : AEnv) : Option AEnv := match t with
  | .nm i => some (A.set i a)
  | .tp is => match asTree a with
    | some (k, as) => if k = .tup then aSet is as A else none
    | none => match asSeq a with
      | some (k, lo, hi, e) => if k = .tup ∧ lo = hi then aSet is (List.replicate lo e) A else none
      | none => none
theorem gmL_rep {e : AV} : ∀ {xs : List W}, (∀ x ∈ xs, gm π bag e x) → gmL π bag (List.replicate xs.length e) xs
  | [], _ => rfl
  | x :: xs, h => ⟨x, xs, rfl, h x List.mem_cons_self, gmL_rep fun y hy => h y (List.mem_cons_of_mem _ hy)⟩
theorem aBind_ok {t : Tg} {a : AV} {A A' : AEnv} {w : W} {ρ : List W} (e : aBind t a A = some A') (hw : gm π bag a w) (h : gmL π bag A ρ) : ∃ ρ', bindT t w ρ = some ρ' ∧ gmL π bag A' ρ' := by
  cases t with
  | nm i => cases e; exact ⟨_, rfl, gmL_set h hw⟩
  | tp is =>
    simp only [aBind] at e
    split at e
    · rename_i k as e1
      split at e
      · rename_i c
        subst c
        obtain ⟨xs, rfl, g⟩ := asTree_ok e1 hw
        exact aSet_ok e g h
      · cases e
    · split at e
      · rename_i k lo hi x e1
        split at e
        · rename_i c
          obtain ⟨rfl, rfl⟩ := c
          obtain ⟨xs, rfl, g1, g2, g3⟩ := asSeq_ok e1 hw
          have : lo = xs.length := by omega
          subst this
          exact aSet_ok e (gmL_rep g3) h
        · cases e
      · cases e
/-! ### ways -/
abbrev OE := Option AEnv
def leE (A B : AEnv) : Bool := all2 leA A B
theorem leE_ok {A B : AEnv} {ρ : List W} (e : leE A B = true) (h : gmL π bag A ρ) : gmL π bag B ρ := all2_ok (fun a b w e h => leA_ok e h) e h
/-- two ways come together -/
def joinO (A B : OE) : Option OE := match A, B with
  | none, b => some b
  | a, none => some a
  | some a, some b => if a.length = b.length then some (some (joinE a b)) else none
def gmE (A : OE) (ρ : List W) : Prop := ∃ A', A = some A' ∧ gmL π bag A' ρ
theorem joinO_l {A B C : OE} {ρ : List W} (e : joinO A B = some C) (h : gmE (π := π) (bag := bag) A ρ) : gmE (π := π) (bag := bag) C ρ := by
  obtain ⟨a, rfl, h⟩ := h
  cases B with
  | none => cases e; exact ⟨a, rfl, h⟩
  | some b =>
    simp only [joinO] at e
    split at e
    · rename_i c
      cases e; exact ⟨_, rfl, joinE_l c h⟩
    · cases e
theorem joinO_r {A B C : OE} {ρ : List W} (e : joinO A B = some C) (h : gmE (π := π) (bag := bag) B ρ) : gmE (π := π) (bag := bag) C ρ := by
  obtain ⟨b, rfl, h⟩ := h
  cases A with
  | none => cases e; exact ⟨b, rfl, h⟩
  | some a =>
    simp only [joinO] at e
    split at e
    · rename_i c
      cases e; exact ⟨_, rfl, joinE_r c h⟩
    · cases e
abbrev OR := Option (AV × AEnv)
def joinR (A B : OR) : Option OR := match A, B with
  | none, b => some b
  | a, none => some a
  | some a, some b => if a.2.length = b.2.length then some (some (join a.1 b.1, joinE a.2 b.2)) else none
def gmR (A : OR) (w : W) (ρ : List W) : Prop := ∃ a A', A = some (a, A') ∧ gm π bag a w ∧ gmL π bag A' ρ
theorem joinR_l {A B C : OR} {w : W} {ρ : List W} (e : joinR A B = some C) (h : gmR (π := π) (bag := bag) A w ρ) : gmR (π := π) (bag := bag) C w ρ := by
  obtain ⟨a, a', rfl, h1, h2⟩ := h
  cases B with
  | none => cases e; exact ⟨a, a', rfl, h1, h2⟩
  | some b =>
    simp only [joinR] at e
    split at e
    · rename_i c
      cases e; exact ⟨_, _, rfl, join_l h1, joinE_l c h2⟩
    · cases e
theorem joinR_r {A B C : OR} {w : W} {ρ : List W} (e : joinR A B = some C) (h : gmR (π := π) (bag := bag) B w ρ) : gmR (π := π) (bag := bag) C w ρ := by
  obtain ⟨b, b', rfl, h1, h2⟩ := h
  cases A with
  | none => cases e; exact ⟨b, b', rfl, h1, h2⟩
  | some a =>
    simp only [joinR] at e
    split at e
    · rename_i c
      cases e; exact ⟨_, _, rfl, join_r h1, joinE_r c h2⟩
    · cases e
end
end Lin.Ab

set_option Elab.async false
set_option linter.all false
set_option maxRecDepth 100000
/-! Ab, part F: expressions. -/
namespace Lin.Ab
open PySem L2
inductive AR where
  | od (o : AOd) (A : AEnv)
  | bo (t f : OE)
def cutO (b : Bool) (A : AEnv) : OE := if b then some A else none
def finA (md : Md) (a : AV) (A : AEnv) : Option AR := match md with
  | .tst => (match truA a with
    | some p => some (.bo (cutO p.1 A) (cutO p.2 A))
    | none => none)
  | _ => some (.od (.tm a) A)
def tfAV (p : TF) : AV := .fin ((if p.1 then [.a (.bl true)] else []) ++ (if p.2 then [.a (.bl false)] else []))
def tfR (md : Md) (p : TF) (At Af A : AEnv) : AR := match md with
  | .tst => .bo (cutO p.1 At) (cutO p.2 Af)
  | _ => .od (.tm (tfAV p)) A
def rfE (o : AOd) (g : AV → AV) (A : AEnv) : AEnv := match o with
  | .al i => (match A[i]? with
    | some a => A.set i (g a)
    | none => A)
  | .tm _ => A
def negOp : CmpOp → CmpOp
  | .Lt => .GtE | .LtE => .Gt | .Gt => .LtE | .GtE => .Lt | .Eq => .NotEq | .NotEq => .Eq | o => o
def rfInt (op : CmpOp) (lo hi c d : Int) : AV := match op with
  | .Lt => .int lo (if d - 1 < hi then d - 1 else hi)
  | .LtE => .int lo (if d < hi then d else hi)
  | .Gt => .int (if lo < c + 1 then c + 1 else lo) hi
  | .GtE => .int (if lo < c then c else lo) hi
  | .Eq => .int (if lo < c then c else lo) (if d < hi then d else hi)
  | .NotEq => if c = d then .int (if lo = c then lo + 1 else lo) (if hi = c then hi - 1 else hi) else .int lo hi
  | _ => .int lo hi
def rfC (op : CmpOp) (y : AV) (t : Bool) (a : AV) : AV := match a with
  | .fin ws => (match y with
    | .fin [v] => .fin (ws.filter fun w => decide (cmpW op w v = some t))
    | _ => a)
  | .int lo hi => (match asInt y with
    | some p => rfInt (if t then op else negOp op) lo hi p.1 p.2
    | none => a)
  | a => a
section
variable {π : Nat → W → Prop} {bag : W → Prop}
def Res (π : Nat → W → Prop) (bag : W → Prop) (R : AR) (r : Option (Od × Env)) : Prop := match R with
  | .od o A => ∃ d ρ', r = some (d, ρ') ∧ gmD (π := π) (bag := bag) o d ∧ gmL π bag A ρ'
  | .bo t f => ∃ b ρ', r = some (.bo b, ρ') ∧ gmE (π := π) (bag := bag) (if b then t else f) ρ'
theorem finA_ok {md : Md} {a : AV} {A : AEnv} {R : AR} {w : W} {ρ : List W} (e : finA md a A = some R) (hw : gm π bag a w) (h : gmL π bag A ρ) : Res π bag R (fin md w ρ) := by
  cases md with
  | val => cases e; exact ⟨_, _, rfl, hw, h⟩
  | opr => cases e; exact ⟨_, _, rfl, hw, h⟩
  | tst =>
    simp only [finA] at e
    split at e
    · rename_i p e1
      cases e
      obtain ⟨b, g1, g2⟩ := truA_ok e1 hw
      refine ⟨b, ρ, by simp only [fin, g1], A, ?_, h⟩
      cases b with
      | true => have g2 : p.1 = true := g2; show cutO p.1 A = some A; rw [g2]; rfl
      | false => have g2 : p.2 = true := g2; show cutO p.2 A = some A; rw [g2]; rfl
    · cases e
theorem tfR_ok {md : Md} {p : TF} {At Af A : AEnv} {b : Bool} {ρ : List W} (hb : p.has b) (h1 : b = true → gmL π bag At ρ) (h2 : b = false → gmL π bag Af ρ) (h : gmL π bag A ρ) : Res π bag (tfR md p At Af A) (fin md (.a (.bl b)) ρ) := by
  have hv : gm π bag (tfAV p) (.a (.bl b)) := by
    refine ⟨?_, rfl, rfl⟩
    cases b with
    | true => have hb : p.1 = true := hb; rw [hb]; exact List.mem_cons_self
    | false => have hb : p.2 = true := hb; rw [hb]; exact List.mem_append_right _ List.mem_cons_self
  cases md with
  | val => exact ⟨_, _, rfl, hv, h⟩
  | opr => exact ⟨_, _, rfl, hv, h⟩
  | tst =>
    refine ⟨b, ρ, rfl, ?_⟩
    cases b with
    | true => have hb : p.1 = true := hb; exact ⟨At, by show cutO p.1 At = _; rw [hb]; rfl, h1 rfl⟩
    | false => have hb : p.2 = true := hb; exact ⟨Af, by show cutO p.2 Af = _; rw [hb]; rfl, h2 rfl⟩
theorem gmL_setS : ∀ {as : List AV} {ws : List W} {i : Nat} {a : AV} {w : W}, gmL π bag as ws → ws[i]? = some w → gm π bag a w → gmL π bag (as.set i a) ws
  | [], ws, i, b, w, h, q, g => h
  | a :: as, ws, i, b, w, h, q, g => by
    obtain ⟨v, ws', rfl, h1, h2⟩ := h
    cases i with
    | zero => cases q; exact ⟨w, ws', rfl, g, h2⟩
    | succ i => exact ⟨v, ws', rfl, h1, gmL_setS h2 q g⟩
theorem rfE_ok {o : AOd} {d : Od} {g : AV → AV} {A : AEnv} {ρ : List W} {x : W} (hd : gmD (π := π) (bag := bag) o d) (hr : res d ρ = some x) (hg : ∀ a, gm π bag a x → gm π bag (g a) x) (h : gmL π bag A ρ) : gmL π bag (rfE o g A) ρ := by
  match o, d, hd with
  | .tm a, .tm w, hd => exact h
  | .al i, .al j, hd =>
    have hd : i = j := hd
    subst hd
    unfold rfE
    simp only
    split
    · rename_i a e
      obtain ⟨w, g1, g2⟩ := gmL_get h e
      have : w = x := by
        have hr : at? ρ i = some x := hr
        unfold at? at hr
        rw [g1] at hr
        simp only at hr
        split at hr
        · cases hr; rfl
        · cases hr
      subst this
      exact gmL_setS h g1 (hg a g2)
    · exact h
theorem negOp_ok {op : CmpOp} {i j : Int} (h : cmpW op (.a (.int i)) (.a (.int j)) = some false) : negOp op = op ∨ cmpW (negOp op) (.a (.int i)) (.a (.int j)) = some true := by
  cases op with
  | Lt => right; have h : some (decide (i < j)) = some false := h; have h := Option.some.inj h; show some (decide (j ≤ i)) = _; simp at h ⊢; omega
  | LtE => right; have h : some (decide (i ≤ j)) = some false := h; have h := Option.some.inj h; show some (decide (j < i)) = _; simp at h ⊢; omega
  | Gt => right; have h : some (decide (j < i)) = some false := h; have h := Option.some.inj h; show some (decide (i ≤ j)) = _; simp at h ⊢; omega
  | GtE => right; have h : some (decide (j ≤ i)) = some false := h; have h := Option.some.inj h; show some (decide (i < j)) = _; simp at h ⊢; omega
  | Eq => right; have h : some (i == j) = some false := h; have h := Option.some.inj h; show some (!(i == j)) = _; rw [h]; rfl
  | NotEq => right; have h : some (!(i == j)) = some false := h; have h := Option.some.inj h; show some (i == j) = _; simp at h ⊢; exact h
  | _ => left; rfl
theorem rfInt_ok {op : CmpOp} {lo hi c d i j : Int} (e : cmpW op (.a (.int i)) (.a (.int j)) = some true) (h1 : lo ≤ i) (h2 : i ≤ hi) (h3 : c ≤ j) (h4 : j ≤ d) : gm π bag (rfInt op lo hi c d) (.a (.int i)) := by
  cases op with
  | Lt =>
    have h : some (decide (i < j)) = some true := e
    have h := Option.some.inj h
    simp at h
    refine ⟨i, rfl, h1, ?_⟩
    split <;> omega
  | LtE =>
    have h : some (decide (i ≤ j)) = some true := e
    have h := Option.some.inj h
    simp at h
    refine ⟨i, rfl, h1, ?_⟩
    split <;> omega
  | Gt =>
    have h : some (decide (j < i)) = some true := e
    have h := Option.some.inj h
    simp at h
    refine ⟨i, rfl, ?_, h2⟩
    split <;> omega
  | GtE =>
    have h : some (decide (j ≤ i)) = some true := e
    have h := Option.some.inj h
    simp at h
    refine ⟨i, rfl, ?_, h2⟩
    split <;> omega
  | Eq =>
    have h : some (i == j) = some true := e
    have h := Option.some.inj h
    simp at h
    refine ⟨i, rfl, ?_, ?_⟩ <;> split <;> omega
  | NotEq =>
    have h : some (!(i == j)) = some true := e
    have h := Option.some.inj h
    simp at h
    simp only [rfInt]
    split
    · refine ⟨i, rfl, ?_, ?_⟩ <;> split <;> omega
    · exact ⟨i, rfl, h1, h2⟩
  | _ => exact ⟨i, rfl, h1, h2⟩
theorem rfC_ok {op : CmpOp} {y : AV} {t : Bool} {x z : W} (e : cmpW op x z = some t) (hz : gm π bag y z) (a : AV) (h : gm π bag a x) : gm π bag (rfC op y t a) x := by
  unfold rfC
  split
  · split
    · rename_i v
      have hv : z = v := by
        rcases List.mem_cons.mp hz.1 with q | q
        · exact q
        · cases q
      subst hv
      exact ⟨List.mem_filter.mpr ⟨h.1, decide_eq_true e⟩, h.2⟩
    · exact h
  · split
    · rename_i lo hi p e1
      obtain ⟨i, rfl, h1, h2⟩ := h
      obtain ⟨j, rfl, h3, h4⟩ := asInt_ok hz (show asInt y = some (p.1, p.2) from e1)
      cases t with
      | true => exact rfInt_ok e h1 h2 h3 h4
      | false =>
        rw [if_neg (by decide)]
        rcases negOp_ok e with q | q
        · rw [q]
          cases op <;> first | (cases q; done) | exact ⟨i, rfl, h1, h2⟩
        · exact rfInt_ok q h1 h2 h3 h4
    · exact h
  · exact h
end
section
variable (P : Nat → List AV → Option (List AV × AV)) (pm : Kd → List AV → AV)
section
variable (f : Ex → Md → AEnv → Option AR)
def gV (e : Ex) (A : AEnv) : Option (AV × AEnv) := match f e .val A with
  | some (.od (.tm a) A') => some (a, A')
  | _ => none
def gO (e : Ex) (A : AEnv) : Option (AOd × AEnv) := match f e .opr A with
  | some (.od o A') => some (o, A')
  | _ => none
def gT (e : Ex) (A : AEnv) : Option (OE × OE) := match f e .tst A with
  | some (.bo t g) => some (t, g)
  | _ => none
def noSt : Ex → Bool
  | .star _ => false
  | _ => true
def aL : List Ex → AEnv → Option (List AV × AEnv)
  | [], A => some ([], A)
  | e :: es, A => if noSt e then (match gV f e A with
    | some (a, A1) => (match aL es A1 with
      | some (as, A2) => some (a :: as, A2)
      | none => none)
    | none => none) else none
def aOs : List Ex → AEnv → Option (List AOd × AEnv)
  | [], A => some ([], A)
  | e :: es, A => match gO f e A with
    | some (o, A1) => (match aOs es A1 with
      | some (os, A2) => some (o :: os, A2)
      | none => none)
    | none => none
def aOI : Option Ex → AEnv → Option (OI × AEnv)
  | none, A => some (none, A)
  | some e, A => match gV f e A with
    | some (a, A1) => (match asInt a with
      | some p => some (some p, A1)
      | none => none)
    | none => none
def aTst : Option Ex → AEnv → Option (OE × OE)
  | none, A => some (some A, none)
  | some e, A => gT f e A
def aBin (op : Bop) (a b : Ex) (md : Md) (A : AEnv) : Option AR := match gV f a A with
  | some (x, A1) => (match gV f b A1 with
    | some (y, A2) => (match binA op (frzInA x) (frzInA y) with
      | some r => finA md r A2
      | none => none)
    | none => none)
  | none => none
def aNeg (a : Ex) (md : Md) (A : AEnv) : Option AR := match gV f a A with
  | some (x, A1) => (match asInt x with
    | some p => finA md (.int (-p.2) (-p.1)) A1
    | none => none)
  | none => none
def aNot (a : Ex) (md : Md) (A : AEnv) : Option AR := match md with
  | .tst => (match gT f a A with
    | some (t, g) => some (.bo g t)
    | none => none)
  | _ => (match gO f a A with
    | some (o, A1) => (match resA o A1 with
      | some x => (match truA x with
        | some p => some (.od (.tm (tfAV (p.2, p.1))) A1)
        | none => none)
      | none => none)
    | none => none)
def aAnd (a b : Ex) (md : Md) (A : AEnv) : Option AR := match md with
  | .tst => (match gT f a A with
    | some (none, f1) => some (.bo none f1)
    | some (some A1, f1) => (match gT f b A1 with
      | some (t2, f2) => (match joinO f1 f2 with
        | some g => some (.bo t2 g)
        | none => none)
      | none => none)
    | none => none)
  | _ => (match gV f a A with
    | some (x, A1) => (match truA x with
      | some p => if p.1 then (match gV f b A1 with
          | some (y, A2) => if p.2 then (match joinR (some (x, A1)) (some (y, A2)) with
              | some (some (z, A3)) => some (.od (.tm z) A3)
              | _ => none) else some (.od (.tm y) A2)
          | none => none) else some (.od (.tm x) A1)
      | none => none)
    | none => none)
def aOr (a b : Ex) (md : Md) (A : AEnv) : Option AR := match md with
  | .tst => (match gT f a A with
    | some (t1, none) => some (.bo t1 none)
    | some (t1, some A1) => (match gT f b A1 with
      | some (t2, f2) => (match joinO t1 t2 with
        | some g => some (.bo g f2)
        | none => none)
      | none => none)
    | none => none)
  | _ => (match gV f a A with
    | some (x, A1) => (match truA x with
      | some p => if p.2 then (match gV f b A1 with
          | some (y, A2) => if p.1 then (match joinR (some (x, A1)) (some (y, A2)) with
              | some (some (z, A3)) => some (.od (.tm z) A3)
              | _ => none) else some (.od (.tm y) A2)
          | none => none) else some (.od (.tm x) A1)
      | none => none)
    | none => none)
def aCmp (op : CmpOp) (a b : Ex) (md : Md) (A : AEnv) : Option AR := match gO f a A with
  | some (oa, A1) => (match gO f b A1 with
    | some (ob, A2) => (match resA oa A2, resA ob A2 with
      | some x, some y => (match cmpA op x y with
        | some p => some (tfR md p (rfE oa (rfC op y true) A2) (rfE oa (rfC op y false) A2) A2)
        | none => none)
      | _, _ => none)
    | none => none)
  | none => none
def aIsi (a : Ex) (ts : List Ty) (md : Md) (A : AEnv) : Option AR := match gO f a A with
  | some (o, A1) => (match resA o A1 with
    | some x => (match isiA ts x with
      | some p => some (tfR md p (rfE o (rfI ts true) A1) (rfE o (rfI ts false) A1) A1)
      | none => none)
    | none => none)
  | none => none
def aBr (g : AEnv → Option (AV × AEnv)) (o : OE) : Option OR := match o with
  | none => some none
  | some A => (match g A with
    | some r => some (some r)
    | none => none)
def aIte (c a b : Ex) (md : Md) (A : AEnv) : Option AR := match md with
  | .tst => none
  | _ => (match gT f c A with
    | some (t, g) => (match aBr (gV f a) t, aBr (gV f b) g with
      | some r1, some r2 => (match joinR r1 r2 with
        | some (some (z, A3)) => some (.od (.tm z) A3)
        | _ => none)
      | _, _ => none)
    | none => none)
def aSub (a i : Ex) (md : Md) (A : AEnv) : Option AR := match gO f a A with
  | some (oa, A1) => (match gO f i A1 with
    | some (oi, A2) => (match resCA oa A2, resA oi A2 with
      | some x, some y => (match subA x y with
        | some r => finA md r A2
        | none => none)
      | _, _ => none)
    | none => none)
  | none => none
def aSlice (a : Ex) (lo hi : Option Ex) (md : Md) (A : AEnv) : Option AR := match gO f a A with
  | some (oa, A1) => (match aOI f lo A1 with
    | some (l, A2) => (match aOI f hi A2 with
      | some (h, A3) => (match resCA oa A3 with
        | some x => (match sliceA x l h with
          | some r => finA md r A3
          | none => none)
        | none => none)
      | none => none)
    | none => none)
  | none => none
def aTup (es : List Ex) (md : Md) (A : AEnv) : Option AR := match aL f es A with
  | some (as, A1) => if as.length ≤ sizeLine then finA md (pm .tup as) A1 else none
  | none => none
def aLst (es : List Ex) (md : Md) (A : AEnv) : Option AR := match aL f es A with
  | some (as, A1) => if as.length ≤ sizeLine then finA md (.tree (.lst true) as) A1 else none
  | none => none
def aDct (ks : List Key) (es : List Ex) (md : Md) (A : AEnv) : Option AR := match aL f es A with
  | some (as, A1) => if ks.length = as.length ∧ ks.Nodup ∧ ks.length ≤ 15 then finA md (.tree (.dct true ks) as) A1 else none
  | none => none
/-- how many, and of what kind, are gone through -/
def srcA (s : Sr) (as : List AV) : Option (Nat × Nat × AV) := match s, as with
  | .seq, [a] => (match asSeq a with
    | some (k, lo, hi, e) => if isSq k then some (lo, hi, e) else none
    | none => match asStr a with
      | some p => if p.2 ≤ sizeLine then some (p.1, p.2, .str 1 1) else none
      | none => none)
  | .rng1, [a] => (match asInt a with
    | some p => if -(2 ^ 62) ≤ p.1 ∧ p.2 < 2 ^ 62 then some (p.1.toNat, p.2.toNat, .int 0 (p.2 - 1)) else none
    | none => none)
  | .rng2, [a, b] => (match asInt a, asInt b with
    | some p, some q => if -(2 ^ 62) ≤ p.1 ∧ p.2 < 2 ^ 62 ∧ -(2 ^ 62) ≤ q.1 ∧ q.2 < 2 ^ 62 then some ((q.1 - p.2).toNat, (q.2 - p.1).toNat, .int p.1 (q.2 - 1)) else none
    | _, _ => none)
  | .enum, [a] => (match asSeq a with
    | some (k, lo, hi, e) => if isLst k then some (lo, hi, .tree .tup [.int 0 (hi - 1), e]) else none
    | none => none)
  | .zip, [a, b] => (match asSeq a, asSeq b with
    | some (k, lo, hi, e), some (k', lo', hi', e') => if (isLst k && isLst k') || (decide (k = .tup) && decide (k' = .tup)) then some (min lo lo', min hi hi', .tree .tup [e, e']) else none
    | _, _ => none)
  | _, _ => none
def le0 (own : List Nat) (A0 : AEnv) (o : OE) : Bool := match o with
  | none => true
  | some B => leE (aWipe B own) A0
def aComp (elt : Ex) (t : Tg) (s : Sr) (src : List Ex) (test : Option Ex) (own : List Nat) (md : Md) (A : AEnv) : Option AR := match aL f src A with
  | none => none
  | some (as, A1) => (match srcA s (frzAs as) with
    | none => none
    | some (lo, hi, e) => let A0 := aWipe A1 own
      if hi = 0 then finA md (.tree (.lst true) []) (aWipe A0 own)
      else (match aBind t e A0 with
        | none => none
        | some A2 => (match aTst f test A2 with
          | none => none
          | some (tt, ff) => if hi ≤ sizeLine && le0 own A0 ff then (match tt with
              | none => finA md (.tree (.lst true) []) (aWipe A0 own)
              | some A3 => (match gV f elt A3 with
                | none => none
                | some (x, A4) => if leE (aWipe A4 own) A0 then finA md (.seq (.lst true) (if test.isNone then lo else 0) hi x) (aWipe A0 own) else none))
            else none)))
/-- what is gone through, thing by thing -/
def srcX (s : Sr) (as : List AV) : Option (List AV) := match s, as with
  | .seq, [a] => (match asTree a with
    | some (k, xs) => if isSq k then some xs else none
    | none => match a with
      | .fin [.a (.str s)] => if s.length ≤ sizeLine then some (s.cps.toList.map fun c => .fin [.a (.str ⟨#[c]⟩)]) else none
      | _ => none)
  | .rng1, [a] => (match asInt a with
    | some p => if p.1 = p.2 ∧ -(2 ^ 62) ≤ p.1 ∧ p.2 ≤ 100 then some ((List.range p.1.toNat).map fun i => AV.int (i : Nat) (i : Nat)) else none
    | none => none)
  | .zip, [a, b] => (match asTree a, asTree b with
    | some (k, xs), some (k', ys) => if (isLst k && isLst k') || (decide (k = .tup) && decide (k' = .tup)) then some (List.zipWith (fun x y => .tree .tup [x, y]) xs ys) else none
    | _, _ => none)
  | _, _ => none
def stepX (elt : Ex) (t : Tg) (test : Option Ex) (a : AV) (A : AEnv) : Option (Option AV × AEnv) := match aBind t a A with
  | none => none
  | some A2 => match aTst f test A2 with
    | some (some A3, none) => (match gV f elt A3 with
      | some (x, A4) => some (some x, A4)
      | none => none)
    | some (none, some A3) => some (none, A3)
    | _ => none
def aItems (own : List Nat) (g : AV → AEnv → Option (Option AV × AEnv)) : List AV → AEnv → Option (List AV × AEnv)
  | [], A => some ([], A)
  | a :: as, A => match g a A with
    | some (some x, A') => (match aItems own g as (aWipe A' own) with
      | some (xs, A2) => some (x :: xs, A2)
      | none => none)
    | some (none, A') => aItems own g as (aWipe A' own)
    | none => none
def aCompX (elt : Ex) (t : Tg) (s : Sr) (src : List Ex) (test : Option Ex) (own : List Nat) (md : Md) (A : AEnv) : Option AR := match aL f src A with
  | none => none
  | some (as, A1) => (match srcX s (frzAs as) with
    | none => none
    | some items => if items.length ≤ 64 then (match aItems own (stepX f elt t test) items (aWipe A1 own) with
      | some (xs, A2) => finA md (.tree (.lst true) xs) (aWipe A2 own)
      | none => none) else none)
def aCall (i : Nat) (es : List Ex) (md : Md) (A : AEnv) : Option AR := match aOs f es A with
  | none => none
  | some (os, A1) => (match aTake os A1 with
    | none => none
    | some (as, A2) => (match P i as with
      | none => none
      | some (as', r) => (match aPut os as' A2 with
        | some A3 => finA md r A3
        | none => none)))
def resCAs : List AOd → AEnv → Option (List AV)
  | [], _ => some []
  | o :: r, A => match resCA o A, resCAs r A with
    | some a, some as => some (a :: as)
    | _, _ => none
def aBi (b : Bi) (es : List Ex) (md : Md) (A : AEnv) : Option AR := match aOs f es A with
  | none => none
  | some (os, A1) => (match resCAs os A1 with
    | none => none
    | some as => (match biA b as with
      | some r => finA md r A1
      | none => none))
def aBack (o : AOd) (a : AV) (A : AEnv) : AEnv := match o with
  | .al i => A.set i a
  | .tm _ => A
def aMeth (m : Mt) (o : Ex) (es : List Ex) (md : Md) (A : AEnv) : Option AR := match gO f o A with
  | some (od, A1) => (match resA od A1 with
    | some x0 => (match aL f es A1 with
      | some (as, A2) => (match resA od A2 with
        | some x => (match mtA m x as with
          | some (r, x') => if mtOkA m x0 then finA md r (aBack od x' A2) else none
          | none => none)
        | none => none)
      | none => none)
    | none => none)
  | none => none
where mtOkA (m : Mt) (x : AV) : Bool := match m with
  | .upper | .split | .join => (asStr x).isSome
  | .get | .upd => false
  | _ => match asSeq x with
    | some (k, _, _, _) => isLst k
    | none => false
def aFrz (a : Ex) (md : Md) (A : AEnv) : Option AR := match gV f a A with
  | some (x, A1) => finA md (frzA x) A1
  | none => none
def aAddz (a b : Ex) (md : Md) (A : AEnv) : Option AR := match gV f a A with
  | some (x, A1) => (match gV f b A1 with
    | some (y, A2) => (match asNum x, asInt y with
      | some p, some q => finA md (.int (p.1 + q.1) (p.2 + q.2)) A2
      | _, _ => none)
    | none => none)
  | none => none
def aNegz (a : Ex) (md : Md) (A : AEnv) : Option AR := match gV f a A with
  | some (x, A1) => (match asNum x with
    | some p => finA md (.int (-p.2) (-p.1)) A1
    | none => none)
  | none => none
def aChain (op op' : CmpOp) (a b c : Ex) (md : Md) (A : AEnv) : Option AR := match gV f a A with
  | some (x, A1) => (match gV f b A1 with
    | some (y, A2) => (match asInt x, asInt y with
      | some p, some q => (match cmpJ op p q with
        | some t => if t.1 then (match gV f c A2 with
            | some (z, A3) => (match asInt z with
              | some r => (match cmpJ op' q r with
                | some u => if A2.length = A3.length then some (tfR md (u.1, t.2 || u.2) (if t.2 then joinE A2 A3 else A3) (if t.2 then joinE A2 A3 else A3) (if t.2 then joinE A2 A3 else A3)) else none
                | none => none)
              | none => none)
            | none => none)
          else some (tfR md (false, true) A2 A2 A2)
        | none => none)
      | _, _ => none)
    | none => none)
  | none => none
def aIsb (no : Bool) (a b : Ex) (md : Md) (A : AEnv) : Option AR := match gV f a A with
  | some (x, A1) => (match gV f b A1 with
    | some (y, A2) => (match exact2 (fun x y => match blW x, blW y with
        | some p, some q => some (.a (.bl ((p == q) != no)))
        | _, _ => none) x y with
      | some r => finA md r A2
      | none => none)
    | none => none)
  | none => none
def aEqs (a : Ex) (s : Str) (md : Md) (A : AEnv) : Option AR := match gO f a A with
  | some (o, A1) => (match resA o A1 with
    | some x => (match exact1 (fun w => (eqO w s).map fun b => .a (.bl b)) x with
      | some r => finA md r A1
      | none => if isAtA x then finA md (.fin [.a (.bl true), .a (.bl false)]) A1 else none)
    | none => none)
  | none => none
def inKW (no : Bool) (ks : List Str) : W → Option W
  | .a (.str s) => some (.a (.bl (decide (s ∈ ks) != no)))
  | _ => none
def subKW (ks : List Str) (ws : List W) : W → Option W
  | .a (.str s) => lookK (.inr s) (ks.map .inr) ws
  | _ => none
/-- a text, asked of what is known -/
def aAsk (g : W → Option W) (a : Ex) (md : Md) (A : AEnv) : Option AR := match gO f a A with
  | some (o, A1) => (match resA o A1 with
    | some x => (match exact1 g x with
      | some r => finA md r A1
      | none => none)
    | none => none)
  | none => none
end
def aE : Nat → Ex → Md → AEnv → Option AR
  | 0, _, _, _ => none
  | n + 1, e, md, A => let f := aE n
    match e with
    | .k x => if x.plain then finA md (.fin [.a x]) A else none
    | .var i => (match aAt A i with
      | none => none
      | some a => match md with
        | .val => some (.od (.tm (frzA a)) (A.set i (frzA a)))
        | .opr => some (.od (.al i) A)
        | .tst => finA .tst a A)
    | .glob w => finA md (if w.fz && w.alive then .fin [w] else ofW w) A
    | .bin op a b => aBin f op a b md A
    | .neg a => aNeg f a md A
    | .not a => aNot f a md A
    | .and a b => aAnd f a b md A
    | .or a b => aOr f a b md A
    | .cmp op a b => aCmp f op a b md A
    | .ite c a b => aIte f c a b md A
    | .sub a i => aSub f a i md A
    | .slice a lo hi => aSlice f a lo hi md A
    | .tup es => aTup pm f es md A
    | .lst es => aLst f es md A
    | .dct ks es => aDct f ks es md A
    | .comp elt t s src test own => (match aCompX f elt t s src test own md A with
      | some R => some R
      | none => aComp f elt t s src test own md A)
    | .call i es => aCall P f i es md A
    | .bi b es => aBi f b es md A
    | .isi a ts => aIsi f a ts md A
    | .meth m o es => aMeth f m o es md A
    | .frz a => aFrz f a md A
    | .addz a b => aAddz f a b md A
    | .negz a => aNegz f a md A
    | .chain op op' a b c => aChain f op op' a b c md A
    | .isb no a b => aIsb f no a b md A
    | .eqs a s => aEqs f a s md A
    | .opq => (match md with
      | .tst => none
      | _ => some (.od (.tm (.fin [.a .opq])) A))
    | .inK no a ks => aAsk f (inKW no ks) a md A
    | .subK a ks ws => aAsk f (subKW ks ws) a md A
    | .tupK ks => finA md (ofW (.n .tup (ks.map fun s => .a (.str s)))) A
    | .dcs ks vs => if ks.length = vs.length ∧ ks.Nodup then finA md (ofW (.n (.dct true (ks.map .inr)) (vs.map fun s => .a (.str s)))) A else none
    | _ => none
end
end Lin.Ab

set_option Elab.async false
set_option linter.all false
set_option maxRecDepth 100000
set_option maxHeartbeats 1000000
/-! Ab, part G: expressions, soundness. -/
namespace Lin.Ab
open PySem L2
section
variable {π : Nat → W → Prop} {bag : W → Prop}
variable {cl : Nat → List W → Option (List W × W)} {P : Nat → List AV → Option (List AV × AV)} {pm : Kd → List AV → AV}
/-- what is told of calls -/
def POk (π : Nat → W → Prop) (bag : W → Prop) (cl : Nat → List W → Option (List W × W)) (P : Nat → List AV → Option (List AV × AV)) : Prop := ∀ i as as' r, P i as = some (as', r) → ∀ ws, gmL π bag as ws → ∃ ws' w, cl i ws = some (ws', w) ∧ gmL π bag as' ws' ∧ gm π bag r w
def PmOk (π : Nat → W → Prop) (bag : W → Prop) (pm : Kd → List AV → AV) : Prop := ∀ k as ws, gmL π bag as ws → gm π bag (pm k as) (.n k ws)
def FOk (π : Nat → W → Prop) (bag : W → Prop) (cl : Nat → List W → Option (List W × W)) (f : Ex → Md → AEnv → Option AR) : Prop := ∀ e md A R, f e md A = some R → ∀ ρ, gmL π bag A ρ → Res π bag R (evm cl e md ρ)
section
variable {f : Ex → Md → AEnv → Option AR} (ih : FOk π bag cl f)
include ih
theorem gV_ok {e : Ex} {A A' : AEnv} {a : AV} {ρ : List W} (h : gV f e A = some (a, A')) (hr : gmL π bag A ρ) : ∃ w ρ', evm cl e .val ρ = some (.tm w, ρ') ∧ gm π bag a w ∧ gmL π bag A' ρ' := by
  unfold gV at h
  split at h
  · rename_i b B e1
    cases h
    obtain ⟨d, ρ', g1, g2, g3⟩ := ih _ _ _ _ e1 ρ hr
    match d, g2 with
    | .tm w, g2 => exact ⟨w, ρ', g1, g2, g3⟩
  · cases h
theorem gO_ok {e : Ex} {A A' : AEnv} {o : AOd} {ρ : List W} (h : gO f e A = some (o, A')) (hr : gmL π bag A ρ) : ∃ d ρ', evm cl e .opr ρ = some (d, ρ') ∧ gmD (π := π) (bag := bag) o d ∧ gmL π bag A' ρ' := by
  unfold gO at h
  split at h
  · rename_i b B e1
    cases h
    exact ih _ _ _ _ e1 ρ hr
  · cases h
theorem gT_ok {e : Ex} {A : AEnv} {t g : OE} {ρ : List W} (h : gT f e A = some (t, g)) (hr : gmL π bag A ρ) : ∃ b ρ', evm cl e .tst ρ = some (.bo b, ρ') ∧ gmE (π := π) (bag := bag) (if b then t else g) ρ' := by
  unfold gT at h
  split at h
  · rename_i b B e1
    cases h
    exact ih _ _ _ _ e1 ρ hr
  · cases h
omit ih in
theorem evL_ns {e : Ex} {es : List Ex} {ρ : Env} (h : noSt e = true) : evL cl (e :: es) ρ = match evm cl e .val ρ with
    | some (.tm w, ρ1) => match evL cl es ρ1 with
      | some (ws, ρ2) => some (w :: ws, ρ2)
      | none => none
    | _ => none := by
  cases e <;> first | (cases h; done) | rfl
theorem aL_ok : ∀ {es : List Ex} {A A' : AEnv} {as : List AV} {ρ : List W}, aL f es A = some (as, A') → gmL π bag A ρ → ∃ ws ρ', evL cl es ρ = some (ws, ρ') ∧ gmL π bag as ws ∧ gmL π bag A' ρ'
  | [], A, A', as, ρ, h, hr => by cases h; exact ⟨[], ρ, rfl, rfl, hr⟩
  | e :: es, A, A', as, ρ, h, hr => by
    simp only [aL] at h
    split at h
    · rename_i ns
      split at h
      · rename_i a A1 e1
        split at h
        · rename_i as' A2 e2
          cases h
          obtain ⟨w, ρ1, g1, g2, g3⟩ := gV_ok ih e1 hr
          obtain ⟨ws, ρ2, g4, g5, g6⟩ := aL_ok e2 g3
          exact ⟨w :: ws, ρ2, by rw [evL_ns ns, g1]; simp only [g4], ⟨w, ws, rfl, g2, g5⟩, g6⟩
        · cases h
      · cases h
    · cases h
theorem aOs_ok : ∀ {es : List Ex} {A A' : AEnv} {os : List AOd} {ρ : List W}, aOs f es A = some (os, A') → gmL π bag A ρ → ∃ ds ρ', opL cl es ρ = some (ds, ρ') ∧ gmDs (π := π) (bag := bag) os ds ∧ gmL π bag A' ρ'
  | [], A, A', os, ρ, h, hr => by cases h; exact ⟨[], ρ, rfl, rfl, hr⟩
  | e :: es, A, A', os, ρ, h, hr => by
    simp only [aOs] at h
    split at h
    · rename_i a A1 e1
      split at h
      · rename_i as' A2 e2
        cases h
        obtain ⟨w, ρ1, g1, g2, g3⟩ := gO_ok ih e1 hr
        obtain ⟨ws, ρ2, g4, g5, g6⟩ := aOs_ok e2 g3
        exact ⟨w :: ws, ρ2, by simp only [opL, g1, g4], ⟨w, ws, rfl, g2, g5⟩, g6⟩
      · cases h
    · cases h
theorem aOI_ok {o : Option Ex} {A A' : AEnv} {i : OI} {ρ : List W} (h : aOI f o A = some (i, A')) (hr : gmL π bag A ρ) : ∃ j ρ', evO cl o ρ = some (j, ρ') ∧ gmO i j ∧ gmL π bag A' ρ' := by
  cases o with
  | none => cases h; exact ⟨none, ρ, rfl, trivial, hr⟩
  | some e =>
    simp only [aOI] at h
    split at h
    · rename_i a A1 e1
      split at h
      · rename_i p e2
        cases h
        obtain ⟨w, ρ1, g1, g2, g3⟩ := gV_ok ih e1 hr
        obtain ⟨j, rfl, g4, g5⟩ := asInt_ok g2 (show asInt a = some (p.1, p.2) from e2)
        exact ⟨some j, ρ1, by simp only [evO, g1], ⟨g4, g5⟩, g3⟩
      · cases h
    · cases h
theorem aTst_ok {o : Option Ex} {A : AEnv} {t g : OE} {ρ : List W} (h : aTst f o A = some (t, g)) (hr : gmL π bag A ρ) : ∃ b ρ', evT cl o ρ = some (b, ρ') ∧ gmE (π := π) (bag := bag) (if b then t else g) ρ' := by
  cases o with
  | none => cases h; exact ⟨true, ρ, rfl, A, rfl, hr⟩
  | some e =>
    obtain ⟨b, ρ', g1, g2⟩ := gT_ok ih h hr
    exact ⟨b, ρ', by simp only [evT, g1], g2⟩
theorem aBin_ok {op : Bop} {a b : Ex} {md : Md} {A : AEnv} {R : AR} (h : aBin f op a b md A = some R) {ρ : List W} (hr : gmL π bag A ρ) : Res π bag R (evm cl (.bin op a b) md ρ) := by
  unfold aBin at h
  split at h
  · rename_i x A1 e1
    split at h
    · rename_i y A2 e2
      split at h
      · rename_i r e3
        obtain ⟨w, ρ1, g1, g2, g3⟩ := gV_ok ih e1 hr
        obtain ⟨v, ρ2, g4, g5, g6⟩ := gV_ok ih e2 g3
        obtain ⟨u, g7, g8⟩ := binA_ok e3 (frzInA_ok g2) (frzInA_ok g5)
        simp only [evm, g1, g4, g7]
        exact finA_ok h g8 g6
      · cases h
    · cases h
  · cases h
theorem aNeg_ok {a : Ex} {md : Md} {A : AEnv} {R : AR} (h : aNeg f a md A = some R) {ρ : List W} (hr : gmL π bag A ρ) : Res π bag R (evm cl (.neg a) md ρ) := by
  unfold aNeg at h
  split at h
  · rename_i x A1 e1
    split at h
    · rename_i p e2
      obtain ⟨w, ρ1, g1, g2, g3⟩ := gV_ok ih e1 hr
      obtain ⟨j, rfl, g4, g5⟩ := asInt_ok g2 (show asInt x = some (p.1, p.2) from e2)
      simp only [evm, g1]
      exact finA_ok h ⟨_, rfl, by omega, by omega⟩ g3
    · cases h
  · cases h
theorem has_swap {p : TF} {b : Bool} (h : p.has b) : TF.has (p.2, p.1) (!b) := by cases b <;> exact h
omit ih in
theorem tfAV_ok {p : TF} {b : Bool} (hb : p.has b) : gm π bag (tfAV p) (.a (.bl b)) := by
  refine ⟨?_, rfl, rfl⟩
  cases b with
  | true => have hb : p.1 = true := hb; rw [hb]; exact List.mem_cons_self
  | false => have hb : p.2 = true := hb; rw [hb]; exact List.mem_append_right _ List.mem_cons_self
theorem aNot_ok (B : BagOk bag) {a : Ex} {md : Md} {A : AEnv} {R : AR} (h : aNot f a md A = some R) {ρ : List W} (hr : gmL π bag A ρ) : Res π bag R (evm cl (.not a) md ρ) := by
  have go : (match gO f a A with
      | some (o, A1) => (match resA o A1 with
        | some x => (match truA x with
          | some p => some (AR.od (.tm (tfAV (p.2, p.1))) A1)
          | none => none)
        | none => none)
      | none => none) = some R → Res π bag R (match evm cl a .opr ρ with
      | some (o, ρ1) => match res o ρ1 with
        | some w => match tru w with
          | some b => some (.tm (.a (.bl !b)), ρ1)
          | none => none
        | none => none
      | none => none) := fun h => by
    split at h
    · rename_i o A1 e1
      split at h
      · rename_i x e2
        split at h
        · rename_i p e3
          cases h
          obtain ⟨d, ρ1, g1, g2, g3⟩ := gO_ok ih e1 hr
          obtain ⟨w, g4, g5⟩ := resA_ok B e2 g2 g3
          obtain ⟨b, g6, g7⟩ := truA_ok e3 g5
          simp only [g1, g4, g6]
          exact ⟨_, _, rfl, tfAV_ok (π := π) (bag := bag) (has_swap ih g7), g3⟩
        · cases h
      · cases h
    · cases h
  cases md with
  | tst =>
    simp only [aNot] at h
    split at h
    · rename_i t g e1
      cases h
      obtain ⟨b, ρ', g1, g2⟩ := gT_ok ih e1 hr
      simp only [evm, g1]
      exact ⟨!b, ρ', rfl, by cases b <;> exact g2⟩
    · cases h
  | val => simp only [evm]; exact go h
  | opr => simp only [evm]; exact go h
theorem aAnd_ok {a b : Ex} {md : Md} {A : AEnv} {R : AR} (h : aAnd f a b md A = some R) {ρ : List W} (hr : gmL π bag A ρ) : Res π bag R (evm cl (.and a b) md ρ) := by
  have go : (match gV f a A with
    | some (x, A1) => (match truA x with
      | some p => if p.1 then (match gV f b A1 with
          | some (y, A2) => if p.2 then (match joinR (some (x, A1)) (some (y, A2)) with
              | some (some (z, A3)) => some (AR.od (.tm z) A3)
              | _ => none) else some (.od (.tm y) A2)
          | none => none) else some (.od (.tm x) A1)
      | none => none)
    | none => none) = some R → Res π bag R (match evm cl a .val ρ with
      | some (.tm w, ρ1) => match tru w with
        | some true => evm cl b .val ρ1
        | some false => some (.tm w, ρ1)
        | none => none
      | _ => none) := fun h => by
    split at h
    · rename_i x A1 e1
      split at h
      · rename_i p e2
        obtain ⟨w, ρ1, g1, g2, g3⟩ := gV_ok ih e1 hr
        obtain ⟨c, g4, g5⟩ := truA_ok e2 g2
        simp only [g1, g4]
        split at h
        · rename_i p1
          split at h
          · rename_i y A2 e3
            obtain ⟨v, ρ2, g6, g7, g8⟩ := gV_ok ih e3 g3
            split at h
            · split at h
              · rename_i z A3 e4
                cases h
                cases c with
                | true =>
                  obtain ⟨_, _, q, q1, q2⟩ := joinR_r (π := π) (bag := bag) e4 ⟨y, A2, rfl, g7, g8⟩
                  cases q
                  simp only [g6]
                  exact ⟨_, _, rfl, q1, q2⟩
                | false =>
                  obtain ⟨_, _, q, q1, q2⟩ := joinR_l (π := π) (bag := bag) e4 ⟨x, A1, rfl, g2, g3⟩
                  cases q
                  exact ⟨_, _, rfl, q1, q2⟩
              · cases h
            · rename_i p2
              cases h
              cases c with
              | true => simp only [g6]; exact ⟨_, _, rfl, g7, g8⟩
              | false => exact absurd (show p.2 = true from g5) p2
          · cases h
        · rename_i p1
          cases h
          cases c with
          | true => exact absurd (show p.1 = true from g5) p1
          | false => exact ⟨_, _, rfl, g2, g3⟩
      · cases h
    · cases h
  cases md with
  | tst =>
    simp only [aAnd] at h
    split at h
    · rename_i f1 e1
      cases h
      obtain ⟨c, ρ', g1, g2⟩ := gT_ok ih e1 hr
      simp only [evm, g1]
      cases c with
      | true => obtain ⟨_, q, _⟩ := g2; cases q
      | false => exact ⟨false, ρ', rfl, g2⟩
    · rename_i A1 f1 e1
      split at h
      · rename_i t2 f2 e2
        split at h
        · rename_i g e3
          cases h
          obtain ⟨c, ρ', g1, g2⟩ := gT_ok ih e1 hr
          simp only [evm, g1]
          cases c with
          | true =>
            obtain ⟨B1, q, q1⟩ := g2
            cases q
            obtain ⟨d, ρ2, g3, g4⟩ := gT_ok ih e2 q1
            simp only [g3]
            refine ⟨d, ρ2, rfl, ?_⟩
            cases d with
            | true => exact g4
            | false => exact joinO_r e3 g4
          | false => exact ⟨false, ρ', rfl, joinO_l e3 g2⟩
        · cases h
      · cases h
    · cases h
  | val => simp only [evm]; exact go h
  | opr => simp only [evm]; exact go h
theorem aOr_ok {a b : Ex} {md : Md} {A : AEnv} {R : AR} (h : aOr f a b md A = some R) {ρ : List W} (hr : gmL π bag A ρ) : Res π bag R (evm cl (.or a b) md ρ) := by
  have go : (match gV f a A with
    | some (x, A1) => (match truA x with
      | some p => if p.2 then (match gV f b A1 with
          | some (y, A2) => if p.1 then (match joinR (some (x, A1)) (some (y, A2)) with
              | some (some (z, A3)) => some (AR.od (.tm z) A3)
              | _ => none) else some (.od (.tm y) A2)
          | none => none) else some (.od (.tm x) A1)
      | none => none)
    | none => none) = some R → Res π bag R (match evm cl a .val ρ with
      | some (.tm w, ρ1) => match tru w with
        | some true => some (.tm w, ρ1)
        | some false => evm cl b .val ρ1
        | none => none
      | _ => none) := fun h => by
    split at h
    · rename_i x A1 e1
      split at h
      · rename_i p e2
        obtain ⟨w, ρ1, g1, g2, g3⟩ := gV_ok ih e1 hr
        obtain ⟨c, g4, g5⟩ := truA_ok e2 g2
        simp only [g1, g4]
        split at h
        · rename_i p1
          split at h
          · rename_i y A2 e3
            obtain ⟨v, ρ2, g6, g7, g8⟩ := gV_ok ih e3 g3
            split at h
            · split at h
              · rename_i z A3 e4
                cases h
                cases c with
                | false =>
                  obtain ⟨_, _, q, q1, q2⟩ := joinR_r (π := π) (bag := bag) e4 ⟨y, A2, rfl, g7, g8⟩
                  cases q
                  simp only [g6]
                  exact ⟨_, _, rfl, q1, q2⟩
                | true =>
                  obtain ⟨_, _, q, q1, q2⟩ := joinR_l (π := π) (bag := bag) e4 ⟨x, A1, rfl, g2, g3⟩
                  cases q
                  exact ⟨_, _, rfl, q1, q2⟩
              · cases h
            · rename_i p2
              cases h
              cases c with
              | false => simp only [g6]; exact ⟨_, _, rfl, g7, g8⟩
              | true => exact absurd (show p.1 = true from g5) p2
          · cases h
        · rename_i p1
          cases h
          cases c with
          | false => exact absurd (show p.2 = true from g5) p1
          | true => exact ⟨_, _, rfl, g2, g3⟩
      · cases h
    · cases h
  cases md with
  | tst =>
    simp only [aOr] at h
    split at h
    · rename_i f1 e1
      cases h
      obtain ⟨c, ρ', g1, g2⟩ := gT_ok ih e1 hr
      simp only [evm, g1]
      cases c with
      | false => obtain ⟨_, q, _⟩ := g2; cases q
      | true => exact ⟨true, ρ', rfl, g2⟩
    · rename_i t1 A1 e1
      split at h
      · rename_i t2 f2 e2
        split at h
        · rename_i g e3
          cases h
          obtain ⟨c, ρ', g1, g2⟩ := gT_ok ih e1 hr
          simp only [evm, g1]
          cases c with
          | false =>
            obtain ⟨B1, q, q1⟩ := g2
            cases q
            obtain ⟨d, ρ2, g3, g4⟩ := gT_ok ih e2 q1
            simp only [g3]
            refine ⟨d, ρ2, rfl, ?_⟩
            cases d with
            | false => exact g4
            | true => exact joinO_r e3 g4
          | true => exact ⟨true, ρ', rfl, joinO_l e3 g2⟩
        · cases h
      · cases h
    · cases h
  | val => simp only [evm]; exact go h
  | opr => simp only [evm]; exact go h
theorem aCmp_ok (B : BagOk bag) {op : CmpOp} {a b : Ex} {md : Md} {A : AEnv} {R : AR} (h : aCmp f op a b md A = some R) {ρ : List W} (hr : gmL π bag A ρ) : Res π bag R (evm cl (.cmp op a b) md ρ) := by
  unfold aCmp at h
  split at h
  · rename_i oa A1 e1
    split at h
    · rename_i ob A2 e2
      split at h
      · rename_i x y e3 e4
        split at h
        · rename_i p e5
          cases h
          obtain ⟨da, ρ1, g1, g2, g3⟩ := gO_ok ih e1 hr
          obtain ⟨db, ρ2, g4, g5, g6⟩ := gO_ok ih e2 g3
          have g2' : gmD (π := π) (bag := bag) oa da := g2
          obtain ⟨u, g7, g8⟩ := resA_ok B e3 g2 g6
          obtain ⟨v, g9, g10⟩ := resA_ok B e4 g5 g6
          obtain ⟨c, g11, g12⟩ := cmpA_ok e5 g8 g10
          simp only [evm, g1, g4, g7, g9, g11]
          exact tfR_ok g12 (fun q => rfE_ok g2' g7 (rfC_ok (by rw [g11, q]) g10) g6) (fun q => rfE_ok g2' g7 (rfC_ok (by rw [g11, q]) g10) g6) g6
        · cases h
      · cases h
    · cases h
  · cases h
theorem aIsi_ok (B : BagOk bag) {a : Ex} {ts : List Ty} {md : Md} {A : AEnv} {R : AR} (h : aIsi f a ts md A = some R) {ρ : List W} (hr : gmL π bag A ρ) : Res π bag R (evm cl (.isi a ts) md ρ) := by
  unfold aIsi at h
  split at h
  · rename_i oa A1 e1
    split at h
    · rename_i x e3
      split at h
      · rename_i p e5
        cases h
        obtain ⟨da, ρ1, g1, g2, g3⟩ := gO_ok ih e1 hr
        obtain ⟨u, g7, g8⟩ := resA_ok B e3 g2 g3
        obtain ⟨c, g11, g12⟩ := isiA_ok e5 g8
        simp only [evm, g1, g7, g11]
        exact tfR_ok g12 (fun q => rfE_ok g2 g7 (fun a => rfI_ok (by rw [g11, q])) g3) (fun q => rfE_ok g2 g7 (fun a => rfI_ok (by rw [g11, q])) g3) g3
      · cases h
    · cases h
  · cases h
theorem aBr_ok {e : Ex} {o : OE} {r : OR} (h : aBr (gV f e) o = some r) {ρ : List W} (hr : gmE (π := π) (bag := bag) o ρ) : ∃ w ρ', evm cl e .val ρ = some (.tm w, ρ') ∧ gmR (π := π) (bag := bag) r w ρ' := by
  obtain ⟨A, rfl, hr⟩ := hr
  simp only [aBr] at h
  split at h
  · rename_i p e1
    cases h
    obtain ⟨w, ρ1, g1, g2, g3⟩ := gV_ok ih (show gV f e A = some (p.1, p.2) from e1) hr
    exact ⟨w, ρ1, g1, _, _, rfl, g2, g3⟩
  · cases h
theorem aIte_ok {c a b : Ex} {md : Md} {A : AEnv} {R : AR} (h : aIte f c a b md A = some R) {ρ : List W} (hr : gmL π bag A ρ) : Res π bag R (evm cl (.ite c a b) md ρ) := by
  have go : (match gT f c A with
    | some (t, g) => (match aBr (gV f a) t, aBr (gV f b) g with
      | some r1, some r2 => (match joinR r1 r2 with
        | some (some (z, A3)) => some (AR.od (.tm z) A3)
        | _ => none)
      | _, _ => none)
    | none => none) = some R → Res π bag R (match evm cl c .tst ρ with
      | some (.bo true, ρ1) => evm cl a .val ρ1
      | some (.bo false, ρ1) => evm cl b .val ρ1
      | _ => none) := fun h => by
    split at h
    · rename_i t g e1
      split at h
      · rename_i r1 r2 e2 e3
        split at h
        · rename_i z A3 e4
          cases h
          obtain ⟨d, ρ1, g1, g2⟩ := gT_ok ih e1 hr
          cases d with
          | true =>
            obtain ⟨w, ρ2, g3, g4⟩ := aBr_ok ih e2 g2
            obtain ⟨_, _, q, q1, q2⟩ := joinR_l e4 g4
            cases q
            simp only [g1, g3]
            exact ⟨_, _, rfl, q1, q2⟩
          | false =>
            obtain ⟨w, ρ2, g3, g4⟩ := aBr_ok ih e3 g2
            obtain ⟨_, _, q, q1, q2⟩ := joinR_r e4 g4
            cases q
            simp only [g1, g3]
            exact ⟨_, _, rfl, q1, q2⟩
        · cases h
      · cases h
    · cases h
  cases md with
  | tst => cases h
  | val => simp only [evm]; exact go h
  | opr => simp only [evm]; exact go h
theorem aSub_ok (B : BagOk bag) {a b : Ex} {md : Md} {A : AEnv} {R : AR} (h : aSub f a b md A = some R) {ρ : List W} (hr : gmL π bag A ρ) : Res π bag R (evm cl (.sub a b) md ρ) := by
  unfold aSub at h
  split at h
  · rename_i oa A1 e1
    split at h
    · rename_i ob A2 e2
      split at h
      · rename_i x y e3 e4
        split at h
        · rename_i r e5
          obtain ⟨da, ρ1, g1, g2, g3⟩ := gO_ok ih e1 hr
          obtain ⟨db, ρ2, g4, g5, g6⟩ := gO_ok ih e2 g3
          obtain ⟨u, g7, g8⟩ := resCA_ok B e3 g2 g6
          obtain ⟨v, g9, g10⟩ := resA_ok B e4 g5 g6
          obtain ⟨c, g11, g12⟩ := subA_ok e5 g8 g10
          simp only [evm, g1, g4, g7, g9, g11]
          exact finA_ok h g12 g6
        · cases h
      · cases h
    · cases h
  · cases h
theorem aSlice_ok (B : BagOk bag) {a : Ex} {lo hi : Option Ex} {md : Md} {A : AEnv} {R : AR} (h : aSlice f a lo hi md A = some R) {ρ : List W} (hr : gmL π bag A ρ) : Res π bag R (evm cl (.slice a lo hi) md ρ) := by
  unfold aSlice at h
  split at h
  · rename_i oa A1 e1
    split at h
    · rename_i l A2 e2
      split at h
      · rename_i i A3 e3
        split at h
        · rename_i x e4
          split at h
          · rename_i r e5
            obtain ⟨da, ρ1, g1, g2, g3⟩ := gO_ok ih e1 hr
            obtain ⟨l', ρ2, g4, g5, g6⟩ := aOI_ok ih e2 g3
            obtain ⟨i', ρ3, g7, g8, g9⟩ := aOI_ok ih e3 g6
            obtain ⟨u, g10, g11⟩ := resCA_ok B e4 g2 g9
            obtain ⟨c, g12, g13⟩ := sliceA_ok e5 g11 g5 g8
            simp only [evm, g1, g4, g7, g10, g12]
            exact finA_ok h g13 g9
          · cases h
        · cases h
      · cases h
    · cases h
  · cases h
theorem aTup_ok (hp : PmOk π bag pm) {es : List Ex} {md : Md} {A : AEnv} {R : AR} (h : aTup pm f es md A = some R) {ρ : List W} (hr : gmL π bag A ρ) : Res π bag R (evm cl (.tup es) md ρ) := by
  unfold aTup at h
  split at h
  · rename_i as A1 e1
    split at h
    · rename_i c
      obtain ⟨ws, ρ1, g1, g2, g3⟩ := aL_ok ih e1 hr
      simp only [evm, g1]
      rw [if_pos (by rw [gmL_len g2]; exact c)]
      exact finA_ok h (hp _ _ _ g2) g3
    · cases h
  · cases h
theorem aLst_ok {es : List Ex} {md : Md} {A : AEnv} {R : AR} (h : aLst f es md A = some R) {ρ : List W} (hr : gmL π bag A ρ) : Res π bag R (evm cl (.lst es) md ρ) := by
  unfold aLst at h
  split at h
  · rename_i as A1 e1
    split at h
    · rename_i c
      obtain ⟨ws, ρ1, g1, g2, g3⟩ := aL_ok ih e1 hr
      simp only [evm, g1]
      rw [if_pos (by rw [gmL_len g2]; exact c)]
      exact finA_ok h ⟨_, rfl, g2⟩ g3
    · cases h
  · cases h
theorem aDct_ok {ks : List Key} {es : List Ex} {md : Md} {A : AEnv} {R : AR} (h : aDct f ks es md A = some R) {ρ : List W} (hr : gmL π bag A ρ) : Res π bag R (evm cl (.dct ks es) md ρ) := by
  unfold aDct at h
  split at h
  · rename_i as A1 e1
    split at h
    · rename_i c
      obtain ⟨ws, ρ1, g1, g2, g3⟩ := aL_ok ih e1 hr
      simp only [evm, g1]
      rw [if_pos ⟨by rw [gmL_len g2]; exact c.1, c.2⟩]
      exact finA_ok h ⟨_, rfl, g2⟩ g3
    · cases h
  · cases h
theorem aCall_ok (B : BagOk bag) (hP : POk π bag cl P) {i : Nat} {es : List Ex} {md : Md} {A : AEnv} {R : AR} (h : aCall P f i es md A = some R) {ρ : List W} (hr : gmL π bag A ρ) : Res π bag R (evm cl (.call i es) md ρ) := by
  unfold aCall at h
  split at h
  · cases h
  · rename_i os A1 e1
    split at h
    · cases h
    · rename_i as A2 e2
      split at h
      · cases h
      · rename_i as' r e3
        split at h
        · rename_i A3 e4
          obtain ⟨ds, ρ1, g1, g2, g3⟩ := aOs_ok ih e1 hr
          obtain ⟨ws, ρ2, g4, g5, g6⟩ := aTake_ok B e2 g2 g3
          obtain ⟨ws', w, g7, g8, g9⟩ := hP _ _ _ _ e3 _ g5
          simp only [evm, g1, g4, g7]
          exact finA_ok h g9 (aPut_ok B e4 g2 g8 g6)
        · cases h
omit ih in
theorem resCAs_ok (B : BagOk bag) : ∀ {os : List AOd} {A : AEnv} {as : List AV} {ds : List Od} {ρ : List W}, resCAs os A = some as → gmDs (π := π) (bag := bag) os ds → gmL π bag A ρ → ∃ ws, resL ds ρ = some ws ∧ gmL π bag as ws
  | [], A, as, ds, ρ, h, hd, hr => by
    cases h
    rw [show ds = [] from hd]
    exact ⟨[], rfl, rfl⟩
  | o :: os, A, as, ds, ρ, h, hd, hr => by
    obtain ⟨d, ds', rfl, h1, h2⟩ := hd
    simp only [resCAs] at h
    split at h
    · rename_i a as' e1 e2
      cases h
      obtain ⟨w, g1, g2⟩ := resCA_ok B e1 h1 hr
      obtain ⟨ws, g3, g4⟩ := resCAs_ok B e2 h2 hr
      exact ⟨w :: ws, by simp only [resL, g1, g3], w, ws, rfl, g2, g4⟩
    · cases h
theorem aBi_ok (B : BagOk bag) {b : Bi} {es : List Ex} {md : Md} {A : AEnv} {R : AR} (h : aBi f b es md A = some R) {ρ : List W} (hr : gmL π bag A ρ) : Res π bag R (evm cl (.bi b es) md ρ) := by
  unfold aBi at h
  split at h
  · cases h
  · rename_i os A1 e1
    split at h
    · cases h
    · rename_i as e2
      split at h
      · rename_i r e3
        obtain ⟨ds, ρ1, g1, g2, g3⟩ := aOs_ok ih e1 hr
        obtain ⟨ws, g4, g5⟩ := resCAs_ok B e2 g2 g3
        obtain ⟨w, g7, g8⟩ := biA_ok e3 g5
        simp only [evm, g1, g4, g7]
        exact finA_ok h g8 g3
      · cases h
omit ih in
theorem aBack_ok {o : AOd} {d : Od} {a : AV} {w : W} {A : AEnv} {ρ : List W} (hd : gmD (π := π) (bag := bag) o d) (hw : gm π bag a w) (hr : gmL π bag A ρ) : gmL π bag (aBack o a A) (backO d w ρ) := by
  match o, d, hd with
  | .al i, .al j, hd =>
    have hd : i = j := hd
    subst hd
    exact gmL_set hr hw
  | .tm b, .tm v, hd => exact hr
omit ih in
theorem mtOkA_ok {m : Mt} {x : AV} {w : W} (h : aMeth.mtOkA m x = true) (hw : gm π bag x w) : mtOk m w = true := by
  have str : (asStr x).isSome = true → ∃ s, w = .a (.str s) := fun q => by
    obtain ⟨p, hp⟩ := Option.isSome_iff_exists.mp q
    obtain ⟨i, e, _⟩ := asStr_ok hw (show asStr x = some (p.1, p.2) from hp)
    exact ⟨i, e⟩
  have lst : (match asSeq x with
    | some (k, _, _, _) => isLst k
    | none => false) = true → ∃ m xs, w = .n (.lst m) xs := fun q => by
    split at q
    · rename_i k lo hi e e1
      obtain ⟨xs, rfl, _⟩ := asSeq_ok e1 hw
      cases k with
      | lst m => exact ⟨m, xs, rfl⟩
      | _ => cases q
    · cases q
  cases m with
  | upper => obtain ⟨s, rfl⟩ := str h; rfl
  | split => obtain ⟨s, rfl⟩ := str h; rfl
  | join => obtain ⟨s, rfl⟩ := str h; rfl
  | get => cases h
  | upd => cases h
  | _ => obtain ⟨m, xs, rfl⟩ := lst h; rfl
theorem aMeth_ok (B : BagOk bag) {m : Mt} {o : Ex} {es : List Ex} {md : Md} {A : AEnv} {R : AR} (h : aMeth f m o es md A = some R) {ρ : List W} (hr : gmL π bag A ρ) : Res π bag R (evm cl (.meth m o es) md ρ) := by
  unfold aMeth at h
  split at h
  · rename_i od A1 e1
    split at h
    · rename_i x0 e2
      split at h
      · rename_i as A2 e3
        split at h
        · rename_i x e4
          split at h
          · rename_i r x' e5
            split at h
            · rename_i c
              obtain ⟨d, ρ1, g1, g2, g3⟩ := gO_ok ih e1 hr
              obtain ⟨w0, g4, g5⟩ := resA_ok B e2 g2 g3
              obtain ⟨ws, ρ2, g6, g7, g8⟩ := aL_ok ih e3 g3
              obtain ⟨w, g9, g10⟩ := resA_ok B e4 g2 g8
              obtain ⟨_, u, w', g11, g12, g13⟩ := mtA_ok e5 g10 g7
              simp only [evm, g1, g4, mtOkA_ok c g5, if_true, g6, g9, g11]
              exact finA_ok h g12 (aBack_ok g2 g13 g8)
            · cases h
          · cases h
        · cases h
      · cases h
    · cases h
  · cases h
theorem aFrz_ok {a : Ex} {md : Md} {A : AEnv} {R : AR} (h : aFrz f a md A = some R) {ρ : List W} (hr : gmL π bag A ρ) : Res π bag R (evm cl (.frz a) md ρ) := by
  unfold aFrz at h
  split at h
  · rename_i x A1 e1
    obtain ⟨w, ρ1, g1, g2, g3⟩ := gV_ok ih e1 hr
    simp only [evm, g1]
    exact finA_ok h (frzA_ok _ g2) g3
  · cases h
theorem aAddz_ok {a b : Ex} {md : Md} {A : AEnv} {R : AR} (h : aAddz f a b md A = some R) {ρ : List W} (hr : gmL π bag A ρ) : Res π bag R (evm cl (.addz a b) md ρ) := by
  unfold aAddz at h
  split at h
  · rename_i x A1 e1
    split at h
    · rename_i y A2 e2
      split at h
      · rename_i p q e3 e4
        obtain ⟨w, ρ1, g1, g2, g3⟩ := gV_ok ih e1 hr
        obtain ⟨v, ρ2, g4, g5, g6⟩ := gV_ok ih e2 g3
        obtain ⟨i, h0, g7, g8⟩ := asNum_ok g2 (show asNum x = some (p.1, p.2) from e3)
        obtain ⟨j, rfl, g9, g10⟩ := asInt_ok g5 (show asInt y = some (q.1, q.2) from e4)
        have : addzW w (.a (.int j)) = some (i + j) := by
          rcases h0 with rfl | ⟨b, rfl, rfl⟩ <;> rfl
        simp only [evm, g1, g4, this]
        exact finA_ok h ⟨_, rfl, by omega, by omega⟩ g6
      · cases h
    · cases h
  · cases h
theorem aNegz_ok {a : Ex} {md : Md} {A : AEnv} {R : AR} (h : aNegz f a md A = some R) {ρ : List W} (hr : gmL π bag A ρ) : Res π bag R (evm cl (.negz a) md ρ) := by
  unfold aNegz at h
  split at h
  · rename_i x A1 e1
    split at h
    · rename_i p e3
      obtain ⟨w, ρ1, g1, g2, g3⟩ := gV_ok ih e1 hr
      obtain ⟨i, h0, g7, g8⟩ := asNum_ok g2 (show asNum x = some (p.1, p.2) from e3)
      have : zW w = some i := by
        rcases h0 with rfl | ⟨b, rfl, rfl⟩ <;> rfl
      simp only [evm, g1, this]
      exact finA_ok h ⟨_, rfl, by omega, by omega⟩ g3
    · cases h
  · cases h
theorem aChain_ok {op op' : CmpOp} {a b c : Ex} {md : Md} {A : AEnv} {R : AR} (h : aChain f op op' a b c md A = some R) {ρ : List W} (hr : gmL π bag A ρ) : Res π bag R (evm cl (.chain op op' a b c) md ρ) := by
  unfold aChain at h
  split at h
  · rename_i x A1 e1
    split at h
    · rename_i y A2 e2
      split at h
      · rename_i p q e3 e4
        split at h
        · rename_i t e5
          obtain ⟨w, ρ1, g1, g2, g3⟩ := gV_ok ih e1 hr
          obtain ⟨v, ρ2, g4, g5, g6⟩ := gV_ok ih e2 g3
          obtain ⟨i, rfl, g7, g8⟩ := asInt_ok g2 (show asInt x = some (p.1, p.2) from e3)
          obtain ⟨j, rfl, g9, g10⟩ := asInt_ok g5 (show asInt y = some (q.1, q.2) from e4)
          obtain ⟨d, g11, g12⟩ := cmpJ_ok e5 g7 g8 g9 g10
          simp only [evm, g1, g4, g11]
          split at h
          · split at h
            · rename_i z A3 e6
              split at h
              · rename_i r e7
                split at h
                · rename_i u e8
                  split at h
                  · rename_i hlen
                    cases h
                    cases d with
                    | false =>
                      have t2 : t.2 = true := g12
                      refine tfR_ok (b := false) (show (t.2 || u.2) = true by rw [t2]; rfl) (fun q => by cases q) (fun _ => ?_) ?_
                      · rw [if_pos t2]; exact joinE_l hlen g6
                      · rw [if_pos t2]; exact joinE_l hlen g6
                    | true =>
                      obtain ⟨w3, ρ3, f1, f2, f3⟩ := gV_ok ih e6 g6
                      obtain ⟨k, rfl, f4, f5⟩ := asInt_ok f2 (show asInt z = some (r.1, r.2) from e7)
                      obtain ⟨d', f6, f7⟩ := cmpJ_ok e8 g9 g10 f4 f5
                      have J : gmL π bag (if t.2 = true then joinE A2 A3 else A3) ρ3 := by
                        split
                        · exact joinE_r hlen f3
                        · exact f3
                      simp only [f1, f6]
                      refine tfR_ok (b := d') ?_ (fun _ => J) (fun _ => J) J
                      cases d' with
                      | true => exact f7
                      | false => exact (show (t.2 || u.2) = true by rw [show u.2 = true from f7, Bool.or_true])
                  · cases h
                · cases h
              · cases h
            · cases h
          · rename_i t1
            cases h
            cases d with
            | true => exact absurd (show t.1 = true from g12) t1
            | false => exact tfR_ok (b := false) rfl (fun q => by cases q) (fun _ => g6) g6
        · cases h
      · cases h
    · cases h
  · cases h
theorem aIsb_ok {no : Bool} {a b : Ex} {md : Md} {A : AEnv} {R : AR} (h : aIsb f no a b md A = some R) {ρ : List W} (hr : gmL π bag A ρ) : Res π bag R (evm cl (.isb no a b) md ρ) := by
  unfold aIsb at h
  split at h
  · rename_i x A1 e1
    split at h
    · rename_i y A2 e2
      split at h
      · rename_i r e3
        obtain ⟨w, ρ1, g1, g2, g3⟩ := gV_ok ih e1 hr
        obtain ⟨v, ρ2, g4, g5, g6⟩ := gV_ok ih e2 g3
        obtain ⟨u, g7, g8⟩ := exact2_ok e3 g2 g5
        cases hp : blW w with
        | none =>
          simp only [hp] at g7
          cases g7
        | some p =>
          cases hq : blW v with
          | none =>
            simp only [hp, hq] at g7
            cases g7
          | some q =>
            simp only [hp, hq] at g7
            cases g7
            simp only [evm, g1, g4, hp, hq]
            exact finA_ok h g8 g6
      · cases h
    · cases h
  · cases h
theorem aEqs_ok (B : BagOk bag) {a : Ex} {s : Str} {md : Md} {A : AEnv} {R : AR} (h : aEqs f a s md A = some R) {ρ : List W} (hr : gmL π bag A ρ) : Res π bag R (evm cl (.eqs a s) md ρ) := by
  unfold aEqs at h
  split at h
  · rename_i oa A1 e1
    split at h
    · rename_i x e3
      obtain ⟨da, ρ1, g1, g2, g3⟩ := gO_ok ih e1 hr
      obtain ⟨u, g7, g8⟩ := resA_ok B e3 g2 g3
      split at h
      · rename_i r e5
        obtain ⟨v, g9, g10⟩ := exact1_ok e5 g8
        obtain ⟨b, g11, rfl⟩ := Option.map_eq_some_iff.mp g9
        simp only [evm, g1, g7, g11]
        exact finA_ok h g10 g3
      · split at h
        · rename_i c
          obtain ⟨y, rfl, hy⟩ := isAtA_ok c g8
          obtain ⟨b, hb⟩ := eqD_at (y := .str s) hy rfl
          have : eqO (.a y) s = some b := by
            cases y <;> first | (cases hy; done) | exact hb
          simp only [evm, g1, g7, this]
          exact finA_ok h ⟨by cases b <;> simp, rfl, rfl⟩ g3
        · cases h
    · cases h
  · cases h
theorem aAsk_ok (B : BagOk bag) {g : W → Option W} {a : Ex} {md : Md} {A : AEnv} {R : AR} {e : Ex} (h : aAsk f g a md A = some R) {ρ : List W} (hr : gmL π bag A ρ)
    (hev : ∀ o ρ1 u v, evm cl a .opr ρ = some (o, ρ1) → res o ρ1 = some u → g u = some v → evm cl e md ρ = fin md v ρ1) : Res π bag R (evm cl e md ρ) := by
  unfold aAsk at h
  split at h
  · rename_i oa A1 e1
    split at h
    · rename_i x e3
      obtain ⟨da, ρ1, g1, g2, g3⟩ := gO_ok ih e1 hr
      obtain ⟨u, g7, g8⟩ := resA_ok B e3 g2 g3
      split at h
      · rename_i r e5
        obtain ⟨v, g9, g10⟩ := exact1_ok e5 g8
        rw [hev _ _ _ _ g1 g7 g9]
        exact finA_ok h g10 g3
      · cases h
    · cases h
  · cases h
theorem aInK_ok (B : BagOk bag) {no : Bool} {ks : List Str} {a : Ex} {md : Md} {A : AEnv} {R : AR} (h : aAsk f (inKW no ks) a md A = some R) {ρ : List W} (hr : gmL π bag A ρ) : Res π bag R (evm cl (.inK no a ks) md ρ) :=
  aAsk_ok ih B h hr fun o ρ1 u v e1 e2 e3 => by
    unfold inKW at e3
    split at e3 <;> first | (cases e3; done) | skip
    cases e3
    simp only [evm, e1, e2]
theorem aSubK_ok (B : BagOk bag) {ks : List Str} {ws : List W} {a : Ex} {md : Md} {A : AEnv} {R : AR} (h : aAsk f (subKW ks ws) a md A = some R) {ρ : List W} (hr : gmL π bag A ρ) : Res π bag R (evm cl (.subK a ks ws) md ρ) :=
  aAsk_ok ih B h hr fun o ρ1 u v e1 e2 e3 => by
    unfold subKW at e3
    split at e3 <;> first | (cases e3; done) | skip
    simp only [evm, e1, e2, e3]
end
end
end Lin.Ab

set_option Elab.async false
set_option linter.all false
set_option maxRecDepth 100000
set_option maxHeartbeats 1000000
/-! Ab, part H: comprehensions; expressions as a whole. -/
namespace Lin.Ab
open PySem L2
section
variable {π : Nat → W → Prop} {bag : W → Prop}
variable {cl : Nat → List W → Option (List W × W)} {P : Nat → List AV → Option (List AV × AV)} {pm : Kd → List AV → AV}
theorem isSq_items {k : Kd} {xs : List W} (h : isSq k = true) : itemsW (.n k xs) = some xs := by
  cases k with
  | tup => rfl
  | lst m => rfl
  | _ => cases h
theorem isLst_is {k : Kd} (h : isLst k = true) : ∃ m, k = .lst m := by
  cases k with
  | lst m => exact ⟨m, rfl⟩
  | _ => cases h
theorem rngW_len (lo : Int) (n : Nat) : (rngW lo n).length = n := by simp [rngW]
theorem rngW_mem {lo : Int} {n : Nat} {x : W} (h : x ∈ rngW lo n) : ∃ i : Int, x = .a (.int i) ∧ lo ≤ i ∧ i < lo + n := by
  unfold rngW at h
  obtain ⟨i, hi, rfl⟩ := List.mem_map.mp h
  have := List.mem_range.mp hi
  exact ⟨lo + i, rfl, by omega, by omega⟩
theorem okB_of {j : Int} (h1 : -(2 ^ 62) ≤ j) (h2 : j < 2 ^ 62) : okB j = true := by
  unfold okB
  rw [Bool.and_eq_true]
  exact ⟨decide_eq_true h1, decide_eq_true h2⟩
theorem srcA_ok {s : Sr} {as : List AV} {lo hi : Nat} {e : AV} {ws : List W} (h : srcA s as = some (lo, hi, e)) (hw : gmL π bag as ws) : ∃ items, srcW s ws = some items ∧ lo ≤ items.length ∧ items.length ≤ hi ∧ ∀ x ∈ items, gm π bag e x := by
  unfold srcA at h
  split at h
  · obtain ⟨w, ws', rfl, h1, h2⟩ := hw
    rw [show ws' = [] from h2]
    split at h
    · rename_i k lo' hi' e' e1
      split at h
      · rename_i c
        cases h
        obtain ⟨xs, rfl, g1, g2, g3⟩ := asSeq_ok e1 h1
        exact ⟨xs, isSq_items c, g1, g2, g3⟩
      · cases h
    · split at h
      · rename_i p e1
        split at h
        · rename_i c
          cases h
          obtain ⟨i, rfl, g1, g2, k1⟩ := asStr_ok h1 (show asStr _ = some (p.1, p.2) from e1)
          have el : (i.cps.toList.map fun c => (W.a (.str ⟨#[c]⟩))).length = i.length := by
            rw [List.length_map]; rfl
          refine ⟨_, if_pos (by omega), by omega, by omega, fun x hx => ?_⟩
          obtain ⟨c, hc, rfl⟩ := List.mem_map.mp hx
          exact ⟨_, rfl, Nat.le_refl 1, Nat.le_refl 1, okS_of (l := [c]) fun d hd => by rw [List.mem_singleton.mp hd]; exact okS_mem.mp k1 c hc⟩
        · cases h
      · cases h
  · obtain ⟨w, ws', rfl, h1, h2⟩ := hw
    rw [show ws' = [] from h2]
    split at h
    · rename_i p e1
      split at h
      · rename_i c
        cases h
        obtain ⟨j, rfl, g1, g2⟩ := asInt_ok h1 (show asInt _ = some (p.1, p.2) from e1)
        refine ⟨_, if_pos (okB_of (by omega) (by omega)), ?_, ?_, fun x hx => ?_⟩
        · rw [rngW_len]; omega
        · rw [rngW_len]; omega
        · obtain ⟨i, rfl, f1, f2⟩ := rngW_mem hx
          exact ⟨i, rfl, f1, by omega⟩
      · cases h
    · cases h
  · obtain ⟨w, ws', rfl, h1, w', ws'', rfl, h2, h3⟩ := hw
    rw [show ws'' = [] from h3]
    split at h
    · rename_i p q e1 e2
      split at h
      · rename_i c
        cases h
        obtain ⟨j, rfl, g1, g2⟩ := asInt_ok h1 (show asInt _ = some (p.1, p.2) from e1)
        obtain ⟨l, rfl, g3, g4⟩ := asInt_ok h2 (show asInt _ = some (q.1, q.2) from e2)
        have ok : (okB j && okB l) = true := by
          rw [Bool.and_eq_true]
          exact ⟨okB_of (by omega) (by omega), okB_of (by omega) (by omega)⟩
        refine ⟨_, if_pos ok, ?_, ?_, fun x hx => ?_⟩
        · rw [rngW_len]; omega
        · rw [rngW_len]; omega
        · obtain ⟨i, rfl, f1, f2⟩ := rngW_mem hx
          exact ⟨i, rfl, by omega, by omega⟩
      · cases h
    · cases h
  · obtain ⟨w, ws', rfl, h1, h2⟩ := hw
    rw [show ws' = [] from h2]
    split at h
    · rename_i k lo' hi' e' e1
      split at h
      · rename_i c
        cases h
        obtain ⟨m, rfl⟩ := isLst_is c
        obtain ⟨xs, rfl, g1, g2, g3⟩ := asSeq_ok e1 h1
        have el : (((List.range xs.length).zip xs).map fun p => (W.n .tup [.a (.int (p.1 : Nat)), p.2])).length = xs.length := by simp
        refine ⟨_, rfl, by omega, by omega, fun x hx => ?_⟩
        obtain ⟨⟨i, y⟩, hy, rfl⟩ := List.mem_map.mp hx
        have hm := List.of_mem_zip hy
        have := List.mem_range.mp hm.1
        exact ⟨_, rfl, _, _, rfl, ⟨_, rfl, by omega, by omega⟩, _, _, rfl, g3 y hm.2, rfl⟩
      · cases h
    · cases h
  · obtain ⟨w, ws', rfl, h1, w', ws'', rfl, h2, h3⟩ := hw
    rw [show ws'' = [] from h3]
    split at h
    · rename_i k lo1 hi1 e1' k' lo2 hi2 e2' e1 e2
      split at h
      · rename_i c
        cases h
        obtain ⟨xs, rfl, g1, g2, g3⟩ := asSeq_ok e1 h1
        obtain ⟨ys, rfl, f1, f2, f3⟩ := asSeq_ok e2 h2
        have el : ((xs.zip ys).map fun p => (W.n .tup [p.1, p.2])).length = min xs.length ys.length := by simp
        have es : srcW .zip [.n k xs, .n k' ys] = some ((xs.zip ys).map fun p => (W.n .tup [p.1, p.2])) := by
          simp only [Bool.or_eq_true, Bool.and_eq_true, decide_eq_true_eq] at c
          rcases c with ⟨c1, c2⟩ | ⟨rfl, rfl⟩
          · obtain ⟨m, rfl⟩ := isLst_is c1
            obtain ⟨m', rfl⟩ := isLst_is c2
            rfl
          · rfl
        refine ⟨_, es, by omega, by omega, fun x hx => ?_⟩
        obtain ⟨⟨i, y⟩, hy, rfl⟩ := List.mem_map.mp hx
        have hm := List.of_mem_zip hy
        exact ⟨_, rfl, _, _, rfl, g3 i hm.1, _, _, rfl, f3 y hm.2, rfl⟩
      · cases h
    · cases h
  · cases h
theorem loopC_ok {own : List Nat} {g : W → Env → Option (Option W × Env)} {A0 : AEnv} {e x : AV} {must : Prop}
    (H : ∀ w ρ, gm π bag e w → gmL π bag A0 ρ → ∃ o ρ', g w ρ = some (o, ρ') ∧ gmL π bag A0 (wipeW ρ' own) ∧ (∀ v, o = some v → gm π bag x v) ∧ (must → ∃ v, o = some v)) :
    ∀ (items acc : List W) (ρ : Env), (∀ w ∈ items, gm π bag e w) → gmL π bag A0 ρ → acc.length + items.length ≤ sizeLine → ∃ new ρ', loopC own g items acc ρ = some (acc ++ new, ρ') ∧ gmL π bag A0 ρ' ∧ new.length ≤ items.length ∧ (must → new.length = items.length) ∧ ∀ v ∈ new, gm π bag x v
  | [], acc, ρ, hi, hr, hl => ⟨[], ρ, by rw [List.append_nil]; rfl, hr, Nat.le_refl _, fun _ => rfl, fun v hv => nomatch hv⟩
  | w :: ws, acc, ρ, hi, hr, hl => by
    obtain ⟨o, ρ', g1, g2, g3, g4⟩ := H w ρ (hi w List.mem_cons_self) hr
    rw [List.length_cons] at hl
    cases o with
    | none =>
      obtain ⟨new, ρ2, f1, f2, f3, f4, f5⟩ := loopC_ok H ws acc _ (fun v hv => hi v (List.mem_cons_of_mem _ hv)) g2 (by omega)
      exact ⟨new, ρ2, by simp only [loopC, g1, f1], f2, by rw [List.length_cons]; omega, ⟨fun m => (by obtain ⟨v, q⟩ := g4 m; cases q), f5⟩⟩
    | some v =>
      obtain ⟨new, ρ2, f1, f2, f3, f4, f5⟩ := loopC_ok H ws (acc ++ [v]) _ (fun v hv => hi v (List.mem_cons_of_mem _ hv)) g2 (by rw [List.length_append]; simp; omega)
      refine ⟨v :: new, ρ2, ?_, f2, by rw [List.length_cons, List.length_cons]; omega, fun m => by rw [List.length_cons, List.length_cons, f4 m], fun u hu => ?_⟩
      · simp only [loopC, g1]
        rw [if_pos (by omega), f1, List.append_assoc]
        rfl
      · rcases List.mem_cons.mp hu with rfl | hu
        · exact g3 u rfl
        · exact f5 u hu
theorem le0_ok {own : List Nat} {A0 : AEnv} {o : OE} {ρ : List W} (h : le0 own A0 o = true) (hr : gmE (π := π) (bag := bag) o ρ) : gmL π bag A0 (wipeW ρ own) := by
  obtain ⟨B, rfl, hr⟩ := hr
  exact leE_ok h (aWipe_ok hr own)
def stepC (cl : Nat → List W → Option (List W × W)) (elt : Ex) (t : Tg) (test : Option Ex) (w : W) (ρ : Env) : Option (Option W × Env) := match bindT t w ρ with
  | none => none
  | some ρ2 => match evT cl test ρ2 with
    | none => none
    | some (false, ρ3) => some (none, ρ3)
    | some (true, ρ3) => match evm cl elt .val ρ3 with
      | some (.tm x, ρ4) => some (some x, ρ4)
      | _ => none
theorem evm_comp (elt : Ex) (t : Tg) (s : Sr) (src : List Ex) (test : Option Ex) (own : List Nat) (md : Md) (ρ : Env) : evm cl (.comp elt t s src test own) md ρ = match evL cl src ρ with
    | none => none
    | some (ws, ρ1) => match srcW s (frzL ws) with
      | none => none
      | some items => match loopC own (stepC cl elt t test) items [] (wipeW ρ1 own) with
        | none => none
        | some (acc, ρ5) => fin md (.n (.lst true) acc) (wipeW ρ5 own) := by
  simp only [evm]; rfl
theorem aComp_ok {f : Ex → Md → AEnv → Option AR} (ih : FOk π bag cl f) {elt : Ex} {t : Tg} {s : Sr} {src : List Ex} {test : Option Ex} {own : List Nat} {md : Md} {A : AEnv} {R : AR} (h : aComp f elt t s src test own md A = some R) {ρ : List W} (hr : gmL π bag A ρ) : Res π bag R (evm cl (.comp elt t s src test own) md ρ) := by
  unfold aComp at h
  split at h
  · cases h
  · rename_i as A1 e1
    split at h
    · cases h
    · rename_i lo hi e e2
      obtain ⟨ws, ρ1, g1, g2, g3⟩ := aL_ok ih e1 hr
      obtain ⟨items, g4, g5, g6, g7⟩ := srcA_ok e2 (frzAs_ok _ g2)
      have g8 := aWipe_ok g3 own
      simp only at h
      simp only [evm_comp, g1, g4]
      split at h
      · rename_i c
        have : items = [] := by cases items with
          | nil => rfl
          | cons _ _ => simp at g6; omega
        subst this
        simp only [loopC]
        exact finA_ok h ⟨[], rfl, rfl⟩ (aWipe_ok g8 own)
      · split at h
        · cases h
        · rename_i A2 e3
          split at h
          · cases h
          · rename_i tt ff e4
            split at h
            · rename_i c
              rw [Bool.and_eq_true, decide_eq_true_eq] at c
              obtain ⟨c1, c2⟩ := c
              split at h
              · obtain ⟨new, ρ2, f1, f2, f3, f4, f5⟩ := loopC_ok (must := False) (x := .fin []) (own := own) (A0 := aWipe A1 own) (e := e) (g := stepC cl elt t test) (fun w ρ hw hr => by
                    obtain ⟨ρ2, q1, q2⟩ := aBind_ok e3 hw hr
                    obtain ⟨b, ρ3, q3, q4⟩ := aTst_ok ih e4 q2
                    cases b with
                    | true => obtain ⟨_, q, _⟩ := q4; cases q
                    | false => exact ⟨none, ρ3, by simp only [stepC, q1, q3], le0_ok c2 q4, ⟨fun v hv => (by cases hv), fun m => False.elim m⟩⟩) items [] _ g7 g8 (by simp; omega)
                have : new = [] := by cases new with
                  | nil => rfl
                  | cons v _ => exact absurd (f5 v List.mem_cons_self).1 (by simp)
                subst this
                rw [f1]
                exact finA_ok h ⟨[], rfl, rfl⟩ (aWipe_ok f2 own)
              · rename_i A3 e5
                split at h
                · cases h
                · rename_i x A4 e6
                  split at h
                  · rename_i c3
                    obtain ⟨new, ρ2, f1, f2, f3, f4, f5⟩ := loopC_ok (must := test = none) (x := x) (own := own) (A0 := aWipe A1 own) (e := e) (g := stepC cl elt t test) (fun w ρ hw hr => by
                        obtain ⟨ρ2, q1, q2⟩ := aBind_ok e3 hw hr
                        obtain ⟨b, ρ3, q3, q4⟩ := aTst_ok ih e4 q2
                        cases b with
                        | true =>
                          obtain ⟨_, q, q5⟩ := q4
                          cases q
                          obtain ⟨v, ρ4, q6, q7, q8⟩ := gV_ok ih e6 q5
                          exact ⟨some v, ρ4, by simp only [stepC, q1, q3, q6], leE_ok c3 (aWipe_ok q8 own), ⟨fun u hu => (by cases hu; exact q7), fun _ => ⟨v, rfl⟩⟩⟩
                        | false => exact ⟨none, ρ3, by simp only [stepC, q1, q3], le0_ok c2 q4, ⟨fun v hv => (by cases hv), fun m => (by subst m; cases q3)⟩⟩) items [] _ g7 g8 (by simp; omega)
                    rw [f1]
                    refine finA_ok h ⟨[] ++ new, rfl, ?_, by rw [List.nil_append]; omega, by rw [List.nil_append]; exact f5⟩ (aWipe_ok f2 own)
                    split
                    · rename_i z
                      have := f4 (by simpa using z)
                      rw [List.nil_append]; omega
                    · exact Nat.zero_le _
                  · cases h
            · cases h
theorem okB_of' {p q : Int} (h1 : -(2 ^ 62) ≤ p) (h2 : q ≤ 100) (h : p = q) : okB p = true := by
  subst h
  unfold okB
  simp only [Bool.and_eq_true, decide_eq_true_eq]
  have : (100 : Int) < 2 ^ 62 := by decide
  omega
theorem zipWith_ok : ∀ {xs ys : List AV} {vs us : List W}, gmL π bag xs vs → gmL π bag ys us → gmL π bag (List.zipWith (fun x y => AV.tree .tup [x, y]) xs ys) ((vs.zip us).map fun p => W.n .tup [p.1, p.2])
  | [], ys, vs, us, h, h' => by rw [show vs = [] from h]; exact rfl
  | x :: xs, [], vs, us, h, h' => by
    rw [show us = [] from h']
    rw [List.zip_nil_right]; exact rfl
  | x :: xs, y :: ys, vs, us, h, h' => by
    obtain ⟨v, vs', rfl, h1, h2⟩ := h
    obtain ⟨u, us', rfl, h3, h4⟩ := h'
    exact ⟨_, _, rfl, ⟨_, rfl, _, _, rfl, h1, _, _, rfl, h3, rfl⟩, zipWith_ok h2 h4⟩
theorem srcX_ok {s : Sr} {as : List AV} {items : List AV} {ws : List W} (h : srcX s as = some items) (hw : gmL π bag as ws) : ∃ vs, srcW s ws = some vs ∧ gmL π bag items vs := by
  unfold srcX at h
  split at h
  · obtain ⟨w, ws', rfl, h1, h2⟩ := hw
    rw [show ws' = [] from h2]
    split at h
    · rename_i k xs e1
      split at h
      · rename_i c
        cases h
        obtain ⟨ys, rfl, g⟩ := asTree_ok e1 h1
        refine ⟨ys, ?_, g⟩
        cases k with
        | tup => rfl
        | lst m => rfl
        | _ => cases c
      · cases h
    · split at h
      · rename_i z _
        split at h
        · rename_i c
          cases h
          rcases List.mem_cons.mp h1.1 with rfl | q
          · refine ⟨_, if_pos c, ?_⟩
            generalize z.cps.toList = l
            induction l with
            | nil => exact rfl
            | cons i l ih => exact ⟨_, _, rfl, ⟨List.mem_cons_self, rfl, rfl⟩, ih⟩
          · cases q
        · cases h
      · cases h
  · obtain ⟨w, ws', rfl, h1, h2⟩ := hw
    rw [show ws' = [] from h2]
    split at h
    · rename_i p e1
      split at h
      · rename_i c
        obtain ⟨c1, c2, c3⟩ := c
        cases h
        obtain ⟨j, rfl, g1, g2⟩ := asInt_ok h1 (show asInt _ = some (p.1, p.2) from e1)
        have : j = p.1 := by omega
        subst this
        refine ⟨_, if_pos (okB_of' c2 (by omega) rfl), ?_⟩
        unfold rngW
        generalize List.range p.1.toNat = l
        induction l with
        | nil => exact rfl
        | cons i l ih => exact ⟨_, _, rfl, ⟨_, rfl, by omega, by omega⟩, ih⟩
      · cases h
    · cases h
  · obtain ⟨w, ws', rfl, h1, w2, ws'', rfl, h3, h2⟩ := hw
    rw [show ws'' = [] from h2]
    split at h
    · rename_i k xs k' ys e1 e2
      split at h
      · rename_i c
        cases h
        obtain ⟨vs, rfl, g⟩ := asTree_ok e1 h1
        obtain ⟨us, rfl, g'⟩ := asTree_ok e2 h3
        refine ⟨_, ?_, zipWith_ok g g'⟩
        rw [Bool.or_eq_true, Bool.and_eq_true, Bool.and_eq_true, decide_eq_true_eq, decide_eq_true_eq] at c
        rcases c with ⟨c1, c2⟩ | ⟨rfl, rfl⟩
        · cases k with
          | lst m =>
            cases k' with
            | lst m' => rfl
            | _ => cases c2
          | _ => cases c1
        · rfl
      · cases h
    · cases h
  · cases h
theorem aItems_ok {own : List Nat} {g : AV → AEnv → Option (Option AV × AEnv)} {st : W → Env → Option (Option W × Env)}
    (G : ∀ a A o A', g a A = some (o, A') → ∀ w ρ, gm π bag a w → gmL π bag A ρ → ∃ v ρ', st w ρ = some (v, ρ') ∧ gmL π bag A' ρ' ∧ (match o, v with
      | some x, some u => gm π bag x u
      | none, none => True
      | _, _ => False)) : ∀ {as : List AV} {A A' : AEnv} {xs : List AV} {ws acc : List W} {ρ : Env}, aItems own g as A = some (xs, A') → gmL π bag as ws → gmL π bag A ρ → acc.length + as.length ≤ sizeLine →
      ∃ new ρ', loopC own st ws acc ρ = some (acc ++ new, ρ') ∧ gmL π bag xs new ∧ gmL π bag A' ρ'
  | [], A, A', xs, ws, acc, ρ, h, hw, hr, hl => by
    cases h
    rw [show ws = [] from hw]
    exact ⟨[], ρ, by simp [loopC], rfl, hr⟩
  | a :: as, A, A', xs, ws, acc, ρ, h, hw, hr, hl => by
    obtain ⟨w, ws', rfl, h1, h2⟩ := hw
    rw [List.length_cons] at hl
    simp only [aItems] at h
    split at h
    · rename_i x A1 e1
      obtain ⟨v, ρ1, g1, g2, g3⟩ := G a A _ _ e1 w ρ h1 hr
      cases v with
      | none => exact g3.elim
      | some u =>
        split at h
        · rename_i xs' A2 e2
          cases h
          obtain ⟨new, ρ2, f1, f2, f3⟩ := aItems_ok G (acc := acc ++ [u]) e2 h2 (aWipe_ok g2 own) (by simp; omega)
          refine ⟨u :: new, ρ2, ?_, ⟨_, _, rfl, g3, f2⟩, f3⟩
          simp only [loopC, g1]
          rw [if_pos (by omega), f1]
          simp
        · cases h
    · rename_i A1 e1
      obtain ⟨v, ρ1, g1, g2, g3⟩ := G a A _ _ e1 w ρ h1 hr
      cases v with
      | some u => exact g3.elim
      | none =>
        obtain ⟨new, ρ2, f1, f2, f3⟩ := aItems_ok G (acc := acc) h h2 (aWipe_ok g2 own) (by omega)
        exact ⟨new, ρ2, by simp only [loopC, g1]; exact f1, f2, f3⟩
    · cases h
theorem aCompX_ok {f : Ex → Md → AEnv → Option AR} (ih : FOk π bag cl f) {elt : Ex} {t : Tg} {s : Sr} {src : List Ex} {test : Option Ex} {own : List Nat} {md : Md} {A : AEnv} {R : AR} (h : aCompX f elt t s src test own md A = some R) {ρ : List W} (hr : gmL π bag A ρ) : Res π bag R (evm cl (.comp elt t s src test own) md ρ) := by
  unfold aCompX at h
  split at h
  · cases h
  · rename_i as A1 e1
    split at h
    · cases h
    · rename_i items e2
      obtain ⟨ws, ρ1, g1, g2, g3⟩ := aL_ok ih e1 hr
      obtain ⟨vs, g4, g5⟩ := srcX_ok e2 (frzAs_ok _ g2)
      simp only [evm_comp, g1, g4]
      split at h
      · rename_i c
        split at h
        · rename_i xs A2 e3
          have hl : (64 : Nat) ≤ sizeLine := by decide
          obtain ⟨new, ρ2, f1, f2, f3⟩ := aItems_ok (st := stepC cl elt t test) (fun a A o A' e w ρ hw hr => by
            unfold stepX at e
            split at e
            · cases e
            · rename_i B1 b1
              obtain ⟨ρ2, q1, q2⟩ := aBind_ok b1 hw hr
              split at e
              · rename_i B2 b2
                obtain ⟨b, ρ3, q3, q4⟩ := aTst_ok ih b2 q2
                split at e
                · rename_i x B3 b3
                  cases e
                  cases b with
                  | true =>
                    obtain ⟨_, q, q5⟩ := q4
                    cases q
                    obtain ⟨v, ρ4, q6, q7, q8⟩ := gV_ok ih b3 q5
                    exact ⟨some v, ρ4, by simp only [stepC, q1, q3, q6], q8, q7⟩
                  | false => obtain ⟨_, q, _⟩ := q4; cases q
                · cases e
              · rename_i B2 b2
                obtain ⟨b, ρ3, q3, q4⟩ := aTst_ok ih b2 q2
                cases e
                cases b with
                | true => obtain ⟨_, q, _⟩ := q4; cases q
                | false =>
                  obtain ⟨_, q, q5⟩ := q4
                  cases q
                  exact ⟨none, ρ3, by simp only [stepC, q1, q3], q5, trivial⟩
              · cases e) (acc := []) e3 g5 (aWipe_ok g3 own) (by simp; omega)
          rw [f1]
          exact finA_ok h ⟨new, rfl, f2⟩ (aWipe_ok f3 own)
        · cases h
      · cases h
theorem aE_ok (B : BagOk bag) (hP : POk π bag cl P) (hp : PmOk π bag pm) : ∀ n : Nat, FOk π bag cl (aE P pm n)
  | 0 => fun e md A R h => by cases h
  | n + 1 => fun e md A R h ρ hr => by
    have ih := aE_ok B hP hp n
    cases e with
    | k x =>
      simp only [aE] at h
      split at h
      · rename_i c
        simp only [evm]
        rw [if_pos c]
        refine finA_ok h ⟨List.mem_cons_self, rfl, ?_⟩ hr
        cases x <;> first | rfl | (cases c; done)
      · cases h
    | var i =>
      simp only [aE] at h
      split at h
      · cases h
      · rename_i a e1
        obtain ⟨w, g1, g2⟩ := aAt_ok B e1 hr
        simp only [evm, g1]
        cases md with
        | val => cases h; exact ⟨_, _, rfl, frzA_ok _ g2, gmL_set hr (frzA_ok _ g2)⟩
        | opr => cases h; exact ⟨_, _, rfl, rfl, hr⟩
        | tst => exact finA_ok h g2 hr
    | glob w =>
      simp only [aE] at h
      simp only [evm]
      refine finA_ok h ?_ hr
      split
      · rename_i c
        rw [Bool.and_eq_true] at c
        exact ⟨List.mem_cons_self, c⟩
      · exact ofW_ok w
    | bin op a b => exact aBin_ok ih h hr
    | neg a => exact aNeg_ok ih h hr
    | not a => exact aNot_ok ih B h hr
    | and a b => exact aAnd_ok ih h hr
    | or a b => exact aOr_ok ih h hr
    | cmp op a b => exact aCmp_ok ih B h hr
    | ite c a b => exact aIte_ok ih h hr
    | sub a i => exact aSub_ok ih B h hr
    | slice a lo hi => exact aSlice_ok ih B h hr
    | tup es => exact aTup_ok ih hp h hr
    | lst es => exact aLst_ok ih h hr
    | dct ks es => exact aDct_ok ih h hr
    | comp elt t s src test own =>
      simp only [aE] at h
      split at h
      · rename_i R' e1
        cases h
        exact aCompX_ok ih e1 hr
      · exact aComp_ok ih h hr
    | call i es => exact aCall_ok ih B hP h hr
    | bi b es => exact aBi_ok ih B h hr
    | isi a ts => exact aIsi_ok ih B h hr
    | meth m o es => exact aMeth_ok ih B h hr
    | frz a => exact aFrz_ok ih h hr
    | addz a b => exact aAddz_ok ih h hr
    | negz a => exact aNegz_ok ih h hr
    | chain op op' a b c => exact aChain_ok ih h hr
    | star _ => cases h
    | opq =>
      simp only [aE] at h
      cases md with
      | tst => cases h
      | val => cases h; exact ⟨_, _, rfl, ⟨List.mem_cons_self, rfl, rfl⟩, hr⟩
      | opr => cases h; exact ⟨_, _, rfl, ⟨List.mem_cons_self, rfl, rfl⟩, hr⟩
    | isb no a b => exact aIsb_ok ih h hr
    | eqs a s => exact aEqs_ok ih B h hr
    | inK no a ks => exact aInK_ok ih B h hr
    | subK a ks ws => exact aSubK_ok ih B h hr
    | tupK ks =>
      simp only [aE] at h
      simp only [evm]
      exact finA_ok h (ofW_ok _) hr
    | dcs ks vs =>
      simp only [aE] at h
      split at h
      · rename_i c
        simp only [evm]
        rw [if_pos c]
        exact finA_ok h (ofW_ok _) hr
      · cases h
end
end Lin.Ab

set_option Elab.async false
set_option linter.all false
set_option maxRecDepth 100000
set_option maxHeartbeats 1000000
/-! Ab, part I: statements, defs. -/
namespace Lin.Ab
open PySem L2
structure AOut where
  nx : OE
  rt : OR
  bk : OE
  ct : OE
def nxO (A : AEnv) : AOut := ⟨some A, none, none, none⟩
def joinT (x y : AOut) : Option AOut := match joinO x.nx y.nx, joinR x.rt y.rt, joinO x.bk y.bk, joinO x.ct y.ct with
  | some a, some b, some c, some d => some ⟨a, b, c, d⟩
  | _, _, _, _ => none
section
variable {π : Nat → W → Prop} {bag : W → Prop}
def gmT (π : Nat → W → Prop) (bag : W → Prop) (R : AOut) (o : Out) (ρ : Env) : Prop := match o with
  | .nx => gmE (π := π) (bag := bag) R.nx ρ
  | .rt w => gmR (π := π) (bag := bag) R.rt w ρ
  | .bk => gmE (π := π) (bag := bag) R.bk ρ
  | .ct => gmE (π := π) (bag := bag) R.ct ρ
theorem joinT_l {x y z : AOut} {o : Out} {ρ : Env} (e : joinT x y = some z) (h : gmT π bag x o ρ) : gmT π bag z o ρ := by
  unfold joinT at e
  split at e
  · rename_i a b c d e1 e2 e3 e4
    cases e
    cases o with
    | nx => exact joinO_l e1 h
    | rt w => exact joinR_l e2 h
    | bk => exact joinO_l e3 h
    | ct => exact joinO_l e4 h
  · cases e
theorem joinT_r {x y z : AOut} {o : Out} {ρ : Env} (e : joinT x y = some z) (h : gmT π bag y o ρ) : gmT π bag z o ρ := by
  unfold joinT at e
  split at e
  · rename_i a b c d e1 e2 e3 e4
    cases e
    cases o with
    | nx => exact joinO_r e1 h
    | rt w => exact joinR_r e2 h
    | bk => exact joinO_r e3 h
    | ct => exact joinO_r e4 h
  · cases e
def SRes (π : Nat → W → Prop) (bag : W → Prop) (R : AOut) (r : Option (Out × Env)) : Prop := ∃ o ρ', r = some (o, ρ') ∧ gmT π bag R o ρ'
end
def botT : AOut := ⟨none, none, none, none⟩
section
variable (F : Ex → Md → AEnv → Option AR)
/-- one thing behind another -/
def seqT (x : AOut) (k : AEnv → Option AOut) : Option AOut := match x.nx with
  | none => some x
  | some A => match k A with
    | some y => joinT ⟨none, x.rt, x.bk, x.ct⟩ y
    | none => none
def aSs (g : Sm → AEnv → Option AOut) : List Sm → AEnv → Option AOut
  | [], A => some (nxO A)
  | s :: ss, A => match g s A with
    | some x => seqT x (aSs g ss)
    | none => none
/-- behind one turn of a loop: what goes on, what ends -/
def turnT (x : AOut) : Option (OE × AOut) := match joinO x.nx x.ct with
  | some c => some (c, ⟨x.bk, x.rt, none, none⟩)
  | none => none
/-- known things are gone through -/
def aForT (g : AV → AEnv → Option AOut) : List AV → AEnv → Option AOut
  | [], A => some (nxO A)
  | a :: as, A => match g a A with
    | none => none
    | some x => match turnT x with
      | none => none
      | some (none, y) => some y
      | some (some A', y) => match aForT g as A' with
        | some z => joinT y z
        | none => none
/-- at least lo, at most n + lo .. things of a kind are gone through -/
def aForN (g : AV → AEnv → Option AOut) (e : AV) : Nat → Nat → AEnv → Option AOut
  | 0, _, A => some (nxO A)
  | n + 1, lo, A => match g e A with
    | none => none
    | some x => match turnT x with
      | none => none
      | some (none, y) => joinT y (if lo = 0 then nxO A else botT)
      | some (some A', y) => if leE A' A then joinT y (nxO A) else match aForN g e n (lo - 1) A' with
        | some z => (match joinT y z with
          | some u => joinT u (if lo = 0 then nxO A else botT)
          | none => none)
        | none => none
def aWh (c : AEnv → Option (OE × OE)) (g : AEnv → Option AOut) : Nat → AEnv → Option AOut
  | 0, _ => none
  | n + 1, A => match c A with
    | none => none
    | some (t, f) => match t with
      | none => some ⟨f, none, none, none⟩
      | some A1 => match g A1 with
        | none => none
        | some x => match turnT x with
          | none => none
          | some (none, y) => joinT y ⟨f, none, none, none⟩
          | some (some A', y) => match aWh c g n A' with
            | some z => (match joinT y z with
              | some u => joinT u ⟨f, none, none, none⟩
              | none => none)
            | none => none
def srcT (s : Sr) (as : List AV) : Option (List AV) := match s, as with
  | .seq, [a] => (match asTree a with
    | some (k, xs) => if isSq k then some xs else none
    | none => none)
  | .rng1, [a] => (match asInt a with
    | some p => if p.1 = p.2 ∧ -(2 ^ 62) ≤ p.1 ∧ p.2 ≤ 100 then some ((List.range p.1.toNat).map fun i => AV.int (i : Nat) (i : Nat)) else none
    | none => none)
  | _, _ => none
def setIxA (w i y : AV) : Option AV := match asInt i with
  | none => none
  | some p => match w with
    | .tree (.lst true) xs => if p.1 = p.2 ∧ 0 ≤ p.1 ∧ p.1 < xs.length then some (.tree (.lst true) (xs.set p.1.toNat y))
        else if 0 ≤ p.1 ∧ p.2 < xs.length then some (.seq (.lst true) xs.length xs.length (join (joinL xs) y)) else none
    | .seq (.lst true) lo hi e => if 0 ≤ p.1 ∧ p.2 < lo then some (.seq (.lst true) lo hi (join e y)) else none
    | _ => none
def aS (k : Nat) : Nat → Sm → AEnv → Option AOut
  | 0, _, _ => none
  | n + 1, s, A => match s with
    | .set t e => (match gV F e A with
      | some (a, A1) => (match aBind t a A1 with
        | some A2 => some (nxO A2)
        | none => none)
      | none => none)
    | .setS i ix e => (match gV F e A with
      | some (y, A1) => (match aAt A1 i with
        | none => none
        | some _ => (match gV F ix A1 with
          | some (q, A2) => (match aAt A2 i with
            | none => none
            | some w => (match setIxA w q y with
              | some w' => some (nxO (A2.set i w'))
              | none => none))
          | none => none))
      | none => none)
    | .augS _ _ _ _ => none
    | .aug i op e => (match A[i]? with
      | some a => (match asInt a with
        | some p => (match gV F e A with
          | some (y, A1) => (match asInt y with
            | some q => (match intBin op p q with
              | some r => some (nxO (A1.set i r))
              | none => none)
            | none => none)
          | none => none)
        | none => none)
      | none => none)
    | .ex e => (match gV F e A with
      | some (_, A1) => some (nxO A1)
      | none => none)
    | .ret e => (match gV F e A with
      | some (a, A1) => some ⟨none, some (a, A1), none, none⟩
      | none => none)
    | .retm i => (match aAt A i with
      | some a => some ⟨none, some (a, A.set i .dead), none, none⟩
      | none => none)
    | .ife c a b => (match gT F c A with
      | some (t, f) => (match (match t with
          | none => some botT
          | some A1 => aSs (aS k n) a A1), (match f with
          | none => some botT
          | some A1 => aSs (aS k n) b A1) with
        | some x, some y => joinT x y
        | _, _ => none)
      | none => none)
    | .for t s src body => (match aL F src A with
      | none => none
      | some (as, A1) => let g := fun a A => (match aBind t a A with
          | none => none
          | some A2 => aSs (aS k n) body A2)
        (match srcT s (frzAs as) with
        | some items => aForT g items A1
        | none => (match srcA s (frzAs as) with
          | none => none
          | some (lo, hi, e) => if hi = 0 then some (nxO A1) else aForN g e hi lo A1)))
    | .whl m c body => aWh (gT F c) (aSs (aS k n) body) m A
    | .brk => some ⟨none, none, some A, none⟩
    | .cnt => some ⟨none, none, none, some A⟩
    | .pass => some (nxO A)
end
section
variable {π : Nat → W → Prop} {bag : W → Prop}
variable {cl : Nat → List W → Option (List W × W)}
theorem seqT_ok {x R : AOut} {k : AEnv → Option AOut} {o : Out} {ρ : Env} (h : seqT x k = some R) (hx : gmT π bag x o ρ) : (o = .nx ∧ ∃ A y, k A = some y ∧ gmL π bag A ρ ∧ ∀ o' ρ', gmT π bag y o' ρ' → gmT π bag R o' ρ') ∨ (o ≠ .nx ∧ gmT π bag R o ρ) := by
  unfold seqT at h
  split at h
  · rename_i e1
    cases h
    cases o with
    | nx =>
      obtain ⟨_, e, _⟩ := hx
      rw [e1] at e; cases e
    | rt w => exact .inr ⟨by simp, hx⟩
    | bk => exact .inr ⟨by simp, hx⟩
    | ct => exact .inr ⟨by simp, hx⟩
  · rename_i A e1
    split at h
    · rename_i y e2
      cases o with
      | nx =>
        obtain ⟨A', e, hA⟩ := hx
        rw [e1] at e; cases e
        exact .inl ⟨rfl, A, y, e2, hA, fun o' ρ' q => joinT_r h q⟩
      | rt w => exact .inr ⟨by simp, joinT_l h hx⟩
      | bk => exact .inr ⟨by simp, joinT_l h hx⟩
      | ct => exact .inr ⟨by simp, joinT_l h hx⟩
    · cases h
def GOk (π : Nat → W → Prop) (bag : W → Prop) (cl : Nat → List W → Option (List W × W)) (g : Sm → AEnv → Option AOut) : Prop := ∀ s A R, g s A = some R → ∀ ρ, gmL π bag A ρ → SRes π bag R (exm cl s ρ)
theorem aSs_ok {g : Sm → AEnv → Option AOut} (ig : GOk π bag cl g) : ∀ {ss : List Sm} {A : AEnv} {R : AOut}, aSs g ss A = some R → ∀ {ρ : List W}, gmL π bag A ρ → SRes π bag R (exs cl ss ρ)
  | [], A, R, h, ρ, hr => by cases h; exact ⟨.nx, ρ, rfl, A, rfl, hr⟩
  | s :: ss, A, R, h, ρ, hr => by
    simp only [aSs] at h
    split at h
    · rename_i x e1
      obtain ⟨o, ρ1, g1, g2⟩ := ig _ _ _ e1 ρ hr
      rcases seqT_ok h g2 with ⟨rfl, A1, y, e2, g3, g4⟩ | ⟨c, g3⟩
      · obtain ⟨o', ρ2, g5, g6⟩ := aSs_ok ig e2 g3
        exact ⟨o', ρ2, by simp only [exs, g1, g5], g4 _ _ g6⟩
      · refine ⟨o, ρ1, ?_, g3⟩
        cases o with
        | nx => exact absurd rfl c
        | rt w => simp only [exs, g1]
        | bk => simp only [exs, g1]
        | ct => simp only [exs, g1]
    · cases h
theorem turnT_ok {x y : AOut} {c : OE} {o : Out} {ρ : Env} (h : turnT x = some (c, y)) (hx : gmT π bag x o ρ) : match o with
    | .nx => gmE (π := π) (bag := bag) c ρ
    | .ct => gmE (π := π) (bag := bag) c ρ
    | .bk => gmT π bag y .nx ρ
    | .rt w => gmT π bag y (.rt w) ρ := by
  unfold turnT at h
  split at h
  · rename_i c' e1
    cases h
    cases o with
    | nx => exact joinO_l e1 hx
    | ct => exact joinO_r e1 hx
    | bk => exact hx
    | rt w => exact hx
  · cases h
section
variable {g : AV → AEnv → Option AOut} {f : W → Env → Option (Out × Env)} (G : ∀ a A x, g a A = some x → ∀ w ρ, gm π bag a w → gmL π bag A ρ → SRes π bag x (f w ρ))
include G
theorem aForT_ok : ∀ {as : List AV} {A : AEnv} {R : AOut} {ws ρ : List W}, aForT g as A = some R → gmL π bag as ws → gmL π bag A ρ → SRes π bag R (loopF f ws ρ)
  | [], A, R, ws, ρ, h, hw, hr => by
    rw [show ws = [] from hw]
    cases h
    exact ⟨.nx, ρ, rfl, A, rfl, hr⟩
  | a :: as, A, R, ws, ρ, h, hw, hr => by
    obtain ⟨w, ws', rfl, h1, h2⟩ := hw
    simp only [aForT] at h
    split at h
    · cases h
    · rename_i x e1
      obtain ⟨o, ρ1, g1, g2⟩ := G _ _ _ e1 w ρ h1 hr
      split at h
      · cases h
      · rename_i y e2
        cases h
        have t := turnT_ok e2 g2
        cases o with
        | nx => obtain ⟨_, q, _⟩ := t; cases q
        | ct => obtain ⟨_, q, _⟩ := t; cases q
        | bk => exact ⟨.nx, ρ1, by simp only [loopF, g1], t⟩
        | rt v => exact ⟨.rt v, ρ1, by simp only [loopF, g1], t⟩
      · rename_i A' y e2
        have t := turnT_ok e2 g2
        split at h
        · rename_i z e3
          cases o with
          | nx =>
            obtain ⟨B, q, t⟩ := t
            cases q
            obtain ⟨o', ρ2, g3, g4⟩ := aForT_ok e3 h2 t
            exact ⟨o', ρ2, by simp only [loopF, g1, g3], joinT_r h g4⟩
          | ct =>
            obtain ⟨B, q, t⟩ := t
            cases q
            obtain ⟨o', ρ2, g3, g4⟩ := aForT_ok e3 h2 t
            exact ⟨o', ρ2, by simp only [loopF, g1, g3], joinT_r h g4⟩
          | bk => exact ⟨.nx, ρ1, by simp only [loopF, g1], joinT_l h t⟩
          | rt v => exact ⟨.rt v, ρ1, by simp only [loopF, g1], joinT_l h t⟩
        · cases h
/-- a turn leads back to where it began -/
theorem inv_ok {e : AV} {A A' : AEnv} {x y : AOut} (e1 : g e A = some x) (e2 : turnT x = some (some A', y)) (c : leE A' A = true) : ∀ {ws ρ : List W}, (∀ w ∈ ws, gm π bag e w) → gmL π bag A ρ → ∃ o ρ', loopF f ws ρ = some (o, ρ') ∧ (gmT π bag y o ρ' ∨ gmT π bag (nxO A) o ρ')
  | [], ρ, hw, hr => ⟨.nx, ρ, rfl, .inr ⟨A, rfl, hr⟩⟩
  | w :: ws, ρ, hw, hr => by
    obtain ⟨o, ρ1, g1, g2⟩ := G _ _ _ e1 w ρ (hw w List.mem_cons_self) hr
    have t := turnT_ok e2 g2
    have go : gmE (π := π) (bag := bag) (some A') ρ1 → ∃ o ρ', loopF f ws ρ1 = some (o, ρ') ∧ (gmT π bag y o ρ' ∨ gmT π bag (nxO A) o ρ') := fun t => by
      obtain ⟨B, q, t⟩ := t
      cases q
      exact inv_ok e1 e2 c (fun v hv => hw v (List.mem_cons_of_mem _ hv)) (leE_ok c t)
    cases o with
    | nx =>
      obtain ⟨o', ρ2, g3, g4⟩ := go t
      exact ⟨o', ρ2, by simp only [loopF, g1, g3], g4⟩
    | ct =>
      obtain ⟨o', ρ2, g3, g4⟩ := go t
      exact ⟨o', ρ2, by simp only [loopF, g1, g3], g4⟩
    | bk => exact ⟨.nx, ρ1, by simp only [loopF, g1], .inl t⟩
    | rt v => exact ⟨.rt v, ρ1, by simp only [loopF, g1], .inl t⟩
theorem aForN_ok {e : AV} : ∀ {n lo : Nat} {A : AEnv} {R : AOut} {ws ρ : List W}, aForN g e n lo A = some R → lo ≤ ws.length → ws.length ≤ n → (∀ w ∈ ws, gm π bag e w) → gmL π bag A ρ → SRes π bag R (loopF f ws ρ)
  | 0, lo, A, R, ws, ρ, h, h1, h2, hw, hr => by
    have : ws = [] := List.length_eq_zero_iff.mp (by omega)
    subst this
    cases h
    exact ⟨.nx, ρ, rfl, A, rfl, hr⟩
  | n + 1, lo, A, R, ws, ρ, h, h1, h2, hw, hr => by
    simp only [aForN] at h
    split at h
    · cases h
    · rename_i x e1
      split at h
      · cases h
      · rename_i y e2
        cases ws with
        | nil =>
          have : lo = 0 := by simpa using h1
          rw [if_pos this] at h
          exact ⟨.nx, ρ, rfl, joinT_r h ⟨A, rfl, hr⟩⟩
        | cons w ws =>
          obtain ⟨o, ρ1, g1, g2⟩ := G _ _ _ e1 w ρ (hw w List.mem_cons_self) hr
          have t := turnT_ok e2 g2
          cases o with
          | nx => obtain ⟨_, q, _⟩ := t; cases q
          | ct => obtain ⟨_, q, _⟩ := t; cases q
          | bk => exact ⟨.nx, ρ1, by simp only [loopF, g1], joinT_l h t⟩
          | rt v => exact ⟨.rt v, ρ1, by simp only [loopF, g1], joinT_l h t⟩
      · rename_i A' y e2
        split at h
        · rename_i c
          obtain ⟨o, ρ', g1, g2⟩ := inv_ok G e1 e2 c hw hr
          rcases g2 with g2 | g2
          · exact ⟨o, ρ', g1, joinT_l h g2⟩
          · exact ⟨o, ρ', g1, joinT_r h g2⟩
        · split at h
          · rename_i z e3
            split at h
            · rename_i u e4
              cases ws with
              | nil =>
                have : lo = 0 := by simpa using h1
                rw [if_pos this] at h
                exact ⟨.nx, ρ, rfl, joinT_r h ⟨A, rfl, hr⟩⟩
              | cons w ws =>
                rw [List.length_cons] at h1 h2
                obtain ⟨o, ρ1, g1, g2⟩ := G _ _ _ e1 w ρ (hw w List.mem_cons_self) hr
                have t := turnT_ok e2 g2
                have go : gmE (π := π) (bag := bag) (some A') ρ1 → SRes π bag z (loopF f ws ρ1) := fun t => by
                  obtain ⟨B, q, t⟩ := t
                  cases q
                  exact aForN_ok e3 (by omega) (by omega) (fun v hv => hw v (List.mem_cons_of_mem _ hv)) t
                cases o with
                | nx =>
                  obtain ⟨o', ρ2, g3, g4⟩ := go t
                  exact ⟨o', ρ2, by simp only [loopF, g1, g3], joinT_l h (joinT_r e4 g4)⟩
                | ct =>
                  obtain ⟨o', ρ2, g3, g4⟩ := go t
                  exact ⟨o', ρ2, by simp only [loopF, g1, g3], joinT_l h (joinT_r e4 g4)⟩
                | bk => exact ⟨.nx, ρ1, by simp only [loopF, g1], joinT_l h (joinT_l e4 t)⟩
                | rt v => exact ⟨.rt v, ρ1, by simp only [loopF, g1], joinT_l h (joinT_l e4 t)⟩
            · cases h
          · cases h
end
theorem aWh_ok {c : AEnv → Option (OE × OE)} {g : AEnv → Option AOut} {c' : Env → Option (Bool × Env)} {f : Env → Option (Out × Env)}
    (C : ∀ A t k, c A = some (t, k) → ∀ ρ, gmL π bag A ρ → ∃ b ρ', c' ρ = some (b, ρ') ∧ gmE (π := π) (bag := bag) (if b then t else k) ρ') (G : ∀ A x, g A = some x → ∀ ρ, gmL π bag A ρ → SRes π bag x (f ρ)) :
    ∀ {n : Nat} {A : AEnv} {R : AOut} {ρ : List W}, aWh c g n A = some R → gmL π bag A ρ → SRes π bag R (loopW c' f n ρ)
  | 0, A, R, ρ, h, hr => by cases h
  | n + 1, A, R, ρ, h, hr => by
    simp only [aWh] at h
    split at h
    · cases h
    · rename_i t k e1
      obtain ⟨b, ρ1, g1, g2⟩ := C _ _ _ e1 ρ hr
      split at h
      · cases h
        cases b with
        | true => obtain ⟨_, q, _⟩ := g2; cases q
        | false => exact ⟨.nx, ρ1, by simp only [loopW, g1], g2⟩
      · rename_i A1
        split at h
        · cases h
        · rename_i x e2
          split at h
          · cases h
          · rename_i y e3
            cases b with
            | false => exact ⟨.nx, ρ1, by simp only [loopW, g1], joinT_r h g2⟩
            | true =>
              obtain ⟨B, q, g2⟩ := g2
              cases q
              obtain ⟨o, ρ2, g3, g4⟩ := G _ _ e2 ρ1 g2
              have t := turnT_ok e3 g4
              cases o with
              | nx => obtain ⟨_, q, _⟩ := t; cases q
              | ct => obtain ⟨_, q, _⟩ := t; cases q
              | bk => exact ⟨.nx, ρ2, by simp only [loopW, g1, g3], joinT_l h t⟩
              | rt v => exact ⟨.rt v, ρ2, by simp only [loopW, g1, g3], joinT_l h t⟩
          · rename_i A' y e3
            split at h
            · rename_i z e4
              split at h
              · rename_i u e5
                cases b with
                | false => exact ⟨.nx, ρ1, by simp only [loopW, g1], joinT_r h g2⟩
                | true =>
                  obtain ⟨B, q, g2⟩ := g2
                  cases q
                  obtain ⟨o, ρ2, g3, g4⟩ := G _ _ e2 ρ1 g2
                  have t := turnT_ok e3 g4
                  cases o with
                  | nx =>
                    obtain ⟨B, q, t⟩ := t
                    cases q
                    obtain ⟨o', ρ3, g5, g6⟩ := aWh_ok C G e4 t
                    exact ⟨o', ρ3, by simp only [loopW, g1, g3, g5], joinT_l h (joinT_r e5 g6)⟩
                  | ct =>
                    obtain ⟨B, q, t⟩ := t
                    cases q
                    obtain ⟨o', ρ3, g5, g6⟩ := aWh_ok C G e4 t
                    exact ⟨o', ρ3, by simp only [loopW, g1, g3, g5], joinT_l h (joinT_r e5 g6)⟩
                  | bk => exact ⟨.nx, ρ2, by simp only [loopW, g1, g3], joinT_l h (joinT_l e5 t)⟩
                  | rt v => exact ⟨.rt v, ρ2, by simp only [loopW, g1, g3], joinT_l h (joinT_l e5 t)⟩
              · cases h
            · cases h
theorem srcT_ok {s : Sr} {as : List AV} {items : List AV} {ws : List W} (h : srcT s as = some items) (hw : gmL π bag as ws) : ∃ vs, srcW s ws = some vs ∧ gmL π bag items vs := by
  unfold srcT at h
  split at h
  · obtain ⟨w, ws', rfl, h1, h2⟩ := hw
    rw [show ws' = [] from h2]
    split at h
    · rename_i k xs e1
      split at h
      · rename_i c
        cases h
        obtain ⟨ys, rfl, g⟩ := asTree_ok e1 h1
        exact ⟨ys, isSq_items c, g⟩
      · cases h
    · cases h
  · obtain ⟨w, ws', rfl, h1, h2⟩ := hw
    rw [show ws' = [] from h2]
    split at h
    · rename_i p e1
      split at h
      · rename_i c
        obtain ⟨c1, c2, c3⟩ := c
        cases h
        obtain ⟨j, rfl, g1, g2⟩ := asInt_ok h1 (show asInt _ = some (p.1, p.2) from e1)
        have : j = p.1 := by omega
        subst this
        refine ⟨_, if_pos (okB_of c2 (by omega)), ?_⟩
        unfold rngW
        generalize List.range p.1.toNat = l
        induction l with
        | nil => exact rfl
        | cons i l ih => exact ⟨_, _, rfl, ⟨_, rfl, by omega, by omega⟩, ih⟩
      · cases h
    · cases h
  · cases h
theorem setIxA_ok {w q y w' : AV} {v k u : W} (h : setIxA w q y = some w') (hw : gm π bag w v) (hq : gm π bag q k) (hy : gm π bag y u) : ∃ v', setIx v k u = some v' ∧ gm π bag w' v' := by
  unfold setIxA at h
  split at h
  · cases h
  · rename_i p e1
    obtain ⟨j, rfl, g1, g2⟩ := asInt_ok hq (show asInt _ = some (p.1, p.2) from e1)
    have ix : ∀ xs : List W, 0 ≤ j → j < xs.length → setIx (.n (.lst true) xs) (.a (.int j)) u = some (.n (.lst true) (xs.set j.toNat u)) := fun xs a b => by
      unfold setIx ixN
      simp only [if_pos a, if_pos b]
    split at h
    · rename_i as
      obtain ⟨xs, rfl, g⟩ := hw
      have gl := gmL_len g
      split at h
      · rename_i c
        cases h
        have : j = p.1 := by omega
        subst this
        exact ⟨_, ix xs (by omega) (by omega), _, rfl, gmL_set g hy⟩
      · split at h
        · rename_i c
          cases h
          refine ⟨_, ix xs (by omega) (by omega), _, rfl, ?_, ?_, fun x hx => ?_⟩
          · rw [List.length_set]; omega
          · rw [List.length_set]; omega
          · rcases List.mem_or_eq_of_mem_set hx with hx | rfl
            · obtain ⟨a, ha, h4⟩ := gmL_mem g hx
              exact join_l (joinL_ok ha h4)
            · exact join_r hy
        · cases h
    · rename_i lo hi e
      obtain ⟨xs, rfl, f1, f2, f3⟩ := hw
      split at h
      · rename_i c
        cases h
        refine ⟨_, ix xs (by omega) (by omega), _, rfl, ?_, ?_, fun x hx => ?_⟩
        · rw [List.length_set]; omega
        · rw [List.length_set]; omega
        · rcases List.mem_or_eq_of_mem_set hx with hx | rfl
          · exact join_l (f3 x hx)
          · exact join_r hy
      · cases h
    · cases h
theorem aS_ok (B : BagOk bag) {F : Ex → Md → AEnv → Option AR} (ih : FOk π bag cl F) (k : Nat) : ∀ n : Nat, GOk π bag cl (aS F k n)
  | 0 => fun s A R h => by cases h
  | n + 1 => fun s A R h ρ hr => by
    have ig := aS_ok B ih k n
    cases s with
    | set t e =>
      simp only [aS] at h
      split at h
      · rename_i a A1 e1
        split at h
        · rename_i A2 e2
          cases h
          obtain ⟨w, ρ1, g1, g2, g3⟩ := gV_ok ih e1 hr
          obtain ⟨ρ2, g4, g5⟩ := aBind_ok e2 g2 g3
          exact ⟨.nx, ρ2, by simp only [exm, g1, g4], A2, rfl, g5⟩
        · cases h
      · cases h
    | setS i ix e =>
      simp only [aS] at h
      split at h
      · rename_i y A1 e1
        split at h
        · cases h
        · rename_i a0 e2
          split at h
          · rename_i q A2 e3
            split at h
            · cases h
            · rename_i w e4
              split at h
              · rename_i w' e5
                cases h
                obtain ⟨u, ρ1, g1, g2, g3⟩ := gV_ok ih e1 hr
                obtain ⟨v0, g4, _⟩ := aAt_ok B e2 g3
                obtain ⟨k', ρ2, g5, g6, g7⟩ := gV_ok ih e3 g3
                obtain ⟨v, g8, g9⟩ := aAt_ok B e4 g7
                obtain ⟨v', g10, g11⟩ := setIxA_ok e5 g9 g6 g2
                exact ⟨.nx, _, by simp only [exm, g1, g4, g5, g8, g10], _, rfl, gmL_set g7 g11⟩
              · cases h
          · cases h
      · cases h
    | augS i op ix e => cases h
    | aug i op e =>
      simp only [aS] at h
      split at h
      · rename_i a e1
        split at h
        · rename_i p e2
          split at h
          · rename_i y A1 e3
            split at h
            · rename_i q e4
              split at h
              · rename_i r e5
                cases h
                obtain ⟨w0, g1, g2⟩ := gmL_get hr e1
                obtain ⟨x, rfl, g3, g4⟩ := asInt_ok g2 (show asInt _ = some (p.1, p.2) from e2)
                obtain ⟨u, ρ1, g5, g6, g7⟩ := gV_ok ih e3 hr
                obtain ⟨z, rfl, g8, g9⟩ := asInt_ok g6 (show asInt _ = some (q.1, q.2) from e4)
                obtain ⟨v, g10, g11⟩ := intBin_ok (π := π) (bag := bag) e5 g3 g4 g8 g9
                have g10 : (binI op x z).map (fun k => W.a (.int k)) = some v := g10
                obtain ⟨v', g12, rfl⟩ := Option.map_eq_some_iff.mp g10
                have ha : at? ρ i = some (.a (.int x)) := by
                  unfold at?
                  rw [g1]; rfl
                exact ⟨.nx, _, by simp only [exm, ha, g5, g12], _, rfl, gmL_set g7 g11⟩
              · cases h
            · cases h
          · cases h
        · cases h
      · cases h
    | ex e =>
      simp only [aS] at h
      split at h
      · rename_i a A1 e1
        cases h
        obtain ⟨w, ρ1, g1, g2, g3⟩ := gV_ok ih e1 hr
        exact ⟨.nx, ρ1, by simp only [exm, g1], A1, rfl, g3⟩
      · cases h
    | ret e =>
      simp only [aS] at h
      split at h
      · rename_i a A1 e1
        cases h
        obtain ⟨w, ρ1, g1, g2, g3⟩ := gV_ok ih e1 hr
        exact ⟨.rt w, ρ1, by simp only [exm, g1], a, A1, rfl, g2, g3⟩
      · cases h
    | retm i =>
      simp only [aS] at h
      split at h
      · rename_i a e1
        cases h
        obtain ⟨w, g1, g2⟩ := aAt_ok B e1 hr
        exact ⟨.rt w, _, by simp only [exm, g1], a, _, rfl, g2, gmL_set hr rfl⟩
      · cases h
    | ife c a b =>
      simp only [aS] at h
      split at h
      · rename_i t f e1
        obtain ⟨d, ρ1, g1, g2⟩ := gT_ok ih e1 hr
        split at h
        · rename_i x y e2 e3
          cases d with
          | true =>
            obtain ⟨A1, q, g3⟩ := g2
            simp only [if_true] at q
            subst q
            obtain ⟨o, ρ2, g4, g5⟩ := aSs_ok ig e2 g3
            exact ⟨o, ρ2, by simp only [exm, g1, g4], joinT_l h g5⟩
          | false =>
            obtain ⟨A1, q, g3⟩ := g2
            simp only [Bool.false_eq_true, if_false] at q
            subst q
            obtain ⟨o, ρ2, g4, g5⟩ := aSs_ok ig e3 g3
            exact ⟨o, ρ2, by simp only [exm, g1, g4], joinT_r h g5⟩
        · cases h
      · cases h
    | «for» t s src body =>
      simp only [aS] at h
      split at h
      · cases h
      · rename_i as A1 e1
        obtain ⟨ws, ρ1, g1, g2, g3⟩ := aL_ok ih e1 hr
        have G : ∀ a A x, (match aBind t a A with
          | none => none
          | some A2 => aSs (aS F k n) body A2) = some x → ∀ w ρ, gm π bag a w → gmL π bag A ρ → SRes π bag x (match bindT t w ρ with
          | none => none
          | some ρ2 => exs cl body ρ2) := fun a A x q w ρ hw hr => by
          split at q
          · cases q
          · rename_i A2 e2
            obtain ⟨ρ2, f1, f2⟩ := aBind_ok e2 hw hr
            simp only [f1]
            exact aSs_ok ig q f2
        split at h
        · rename_i items e2
          obtain ⟨vs, g4, g5⟩ := srcT_ok e2 (frzAs_ok _ g2)
          simp only [exm, g1, g4]
          exact aForT_ok G h g5 g3
        · split at h
          · cases h
          · rename_i lo hi e e2
            obtain ⟨vs, g4, g5, g6, g7⟩ := srcA_ok e2 (frzAs_ok _ g2)
            simp only [exm, g1, g4]
            split at h
            · cases h
              have : vs = [] := List.length_eq_zero_iff.mp (by omega)
              subst this
              exact ⟨.nx, ρ1, rfl, A1, rfl, g3⟩
            · exact aForN_ok G h g5 g6 g7 g3
    | whl m c body =>
      simp only [aS] at h
      simp only [exm]
      refine aWh_ok (fun A t k' e ρ hr => ?_) (fun A x e ρ hr => aSs_ok ig e hr) h hr
      obtain ⟨b, ρ', g1, g2⟩ := gT_ok ih e hr
      exact ⟨b, ρ', by simp only [g1], g2⟩
    | brk => cases h; exact ⟨.bk, ρ, rfl, A, rfl, hr⟩
    | cnt => cases h; exact ⟨.ct, ρ, rfl, A, rfl, hr⟩
    | pass => cases h; exact ⟨.nx, ρ, rfl, A, rfl, hr⟩
/-! ### defs -/
def bkA : (Nat → Bool) → Nat → AEnv → List AV
  | _, 0, _ => []
  | P, n + 1, [] => .dead :: bkA (fun i => P (i + 1)) n []
  | P, n + 1, w :: A => (if P 0 then w else .dead) :: bkA (fun i => P (i + 1)) n A
theorem bkA_ok : ∀ {n : Nat} {P : Nat → Bool} {A : AEnv} {ρ : List W}, gmL π bag A ρ → gmL π bag (bkA P n A) (bk P n ρ)
  | 0, P, A, ρ, h => rfl
  | n + 1, P, [], ρ, h => by
    rw [show ρ = [] from h]
    exact ⟨_, _, rfl, rfl, bkA_ok (A := []) rfl⟩
  | n + 1, P, a :: A, ρ, h => by
    obtain ⟨w, ws, rfl, h1, h2⟩ := h
    refine ⟨_, _, rfl, ?_, bkA_ok h2⟩
    cases hP : P 0 with
    | true => exact h1
    | false => rfl
end
/-- a def, run -/
def aFn (pm : Kd → List AV → AV) (P : Nat → List AV → Option (List AV × AV)) (N : Nat) (F : Fn) (as : List AV) : Option (List AV × AV) :=
  if as.length = F.np ∧ F.np ≤ F.ns then match aSs (aS (aE P pm N) N N) F.body (as ++ List.replicate (F.ns - F.np) .dead) with
    | some R => match R.bk, R.ct with
      | none, none => (match R.nx, R.rt with
        | none, some (a, A) => some (bkA (fun i => decide (i ∈ F.keep)) F.np A, a)
        | some A, none => some (bkA (fun i => decide (i ∈ F.keep)) F.np A, nonA)
        | _, _ => none)
      | _, _ => none
    | none => none
  else none
/-- the defs of a table, run; what base tells is not run -/
def aRun (pm : Kd → List AV → AV) (base : Nat → List AV → Option (List AV × AV)) (tab : List Fn) (N : Nat) : Nat → Nat → List AV → Option (List AV × AV)
  | 0, f, as => base f as
  | n + 1, f, as => match base f as with
    | some r => some r
    | none => match tab[f]? with
      | some F => aFn pm (aRun pm base tab N n) N F as
      | none => none
section
variable {π : Nat → W → Prop} {bag : W → Prop}
variable {cl : Nat → List W → Option (List W × W)}
theorem gmL_dead : ∀ n : Nat, gmL π bag (List.replicate n .dead) (List.replicate n (.a .dead))
  | 0 => rfl
  | n + 1 => ⟨_, _, rfl, rfl, gmL_dead n⟩
theorem aFn_ok (B : BagOk bag) {pm : Kd → List AV → AV} (hp : PmOk π bag pm) {tab : List Fn} {m : Nat} {P : Nat → List AV → Option (List AV × AV)} (hP : POk π bag (run tab m) P) {N i : Nat} {F : Fn} (hF : tab[i]? = some F) {as as' : List AV} {r : AV} (h : aFn pm P N F as = some (as', r)) {ws : List W} (hw : gmL π bag as ws) :
    ∃ ws' w, run tab (m + 1) i ws = some (ws', w) ∧ gmL π bag as' ws' ∧ gm π bag r w := by
  unfold aFn at h
  split at h
  · rename_i c
    split at h
    · rename_i R e1
      have hr : gmL π bag (as ++ List.replicate (F.ns - F.np) .dead) (ws ++ List.replicate (F.ns - F.np) (.a .dead)) := gmL_append hw (gmL_dead _)
      obtain ⟨o, ρ', g1, g2⟩ := aSs_ok (aS_ok B (aE_ok B hP hp N) N N) e1 hr
      have hl : ws.length = F.np := by rw [gmL_len hw]; exact c.1
      simp only [run, hF]
      rw [if_pos ⟨hl, c.2⟩]
      rw [show (W.dead : W) = .a .dead from rfl, g1]
      split at h
      · rename_i e2 e3
        split at h
        · rename_i a A e4 e5
          cases h
          cases o with
          | nx => obtain ⟨_, q, _⟩ := g2; rw [e4] at q; cases q
          | bk => obtain ⟨_, q, _⟩ := g2; rw [e2] at q; cases q
          | ct => obtain ⟨_, q, _⟩ := g2; rw [e3] at q; cases q
          | rt w =>
            obtain ⟨a', A', q, q1, q2⟩ := g2
            rw [e5] at q; cases q
            exact ⟨_, _, rfl, bkA_ok q2, q1⟩
        · rename_i A e4 e5
          cases h
          cases o with
          | nx =>
            obtain ⟨A', q, q1⟩ := g2
            rw [e4] at q; cases q
            exact ⟨_, _, rfl, bkA_ok q1, nonA_ok⟩
          | bk => obtain ⟨_, q, _⟩ := g2; rw [e2] at q; cases q
          | ct => obtain ⟨_, q, _⟩ := g2; rw [e3] at q; cases q
          | rt w => obtain ⟨_, _, q, _⟩ := g2; rw [e5] at q; cases q
        · cases h
      · cases h
    · cases h
  · cases h
theorem aRun_ok (B : BagOk bag) {pm : Kd → List AV → AV} (hp : PmOk π bag pm) {tab : List Fn} {base : Nat → List AV → Option (List AV × AV)} {M : Nat} (hb : ∀ m, M ≤ m → POk π bag (run tab m) base) (N : Nat) : ∀ n m : Nat, M + n ≤ m → POk π bag (run tab m) (aRun pm base tab N n)
  | 0, m, h => fun i as as' r e => hb m (by omega) i as as' r e
  | n + 1, m, h => fun i as as' r e ws hw => by
    simp only [aRun] at e
    split at e
    · rename_i q e1
      cases e
      exact hb m (by omega) i as as' r e1 ws hw
    · split at e
      · rename_i F hF
        obtain ⟨m', rfl⟩ : ∃ m', m = m' + 1 := ⟨m - 1, by omega⟩
        exact aFn_ok B hp (aRun_ok B hp hb N n m' (by omega)) hF e hw
      · cases e
/-- a promise of a def: what is given, what comes -/
def chk (pm : Kd → List AV → AV) (base : Nat → List AV → Option (List AV × AV)) (tab : List Fn) (N n f : Nat) (as as' : List AV) (r : AV) : Bool := match aRun pm base tab N n f as with
  | some (bs, q) => leE bs as' && leA q r
  | none => false
theorem chk_ok (B : BagOk bag) {pm : Kd → List AV → AV} (hp : PmOk π bag pm) {tab : List Fn} {base : Nat → List AV → Option (List AV × AV)} {M : Nat} (hb : ∀ m, M ≤ m → POk π bag (run tab m) base) {N n f : Nat} {as as' : List AV} {r : AV} (h : chk pm base tab N n f as as' r = true) (m : Nat) (hm : M + n ≤ m) (ws : List W) (hw : gmL π bag as ws) : ∃ ws' w, run tab m f ws = some (ws', w) ∧ gmL π bag as' ws' ∧ gm π bag r w := by
  unfold chk at h
  split at h
  · rename_i bs q e
    rw [Bool.and_eq_true] at h
    obtain ⟨ws', w, g1, g2, g3⟩ := aRun_ok B hp hb N n m hm f as bs q e ws hw
    exact ⟨ws', w, g1, leE_ok h.1 g2, leA_ok h.2 g3⟩
  · cases h
end
end Lin.Ab

set_option Elab.async false
set_option linter.all false
set_option maxRecDepth 100000
set_option maxHeartbeats 4000000
/-! Ab, part K: what is drawn. -/
namespace Lin.Ab
open PySem L2
/-- the drawing def: how a number is come by; how it is drawn from -/
def fTakeG (A B : List Sm) : Fn := ⟨2, 7, [0, 1], .ife (.cmp .Eq (.sub (.var 0) (.k (.int 0))) (.k (.int 0))) A [] :: B⟩
def tkMix : List Sm := [.set (.nm 5) (.bin .add (.bin .add (.bin .mul (.sub (.var 0) (.k (.int 1))) (.k (.int 48271))) (.bin .mod (.bi .int [.var 4]) (.k (.int 2147483647)))) (.bin .mul (.k (.int 7919)) (.sub (.var 0) (.k (.int 2))))), .setS 0 (.k (.int 1)) (.bin .mod (.bi .int [.var 5]) (.k (.int 2147483647)))]
def tkA1 : List Sm := .set (.nm 4) (.sub (.bin .add (.slice (.sub (.var 0) (.k (.int 3))) (some (.sub (.var 0) (.k (.int 2)))) none) (.lst [.k (.int 0)])) (.k (.int 0))) :: .augS 0 .add (.k (.int 2)) (.k (.int 1)) :: .ife (.cmp .GtE (.var 4) (.bin .pow (.k (.int 10)) (.k (.int 18)))) [.setS 0 (.k (.int 0)) (.var 4)] [] :: tkMix
def tkA2 : List Sm := .set (.nm 4) (.k (.int 0)) :: .ife (.cmp .Lt (.sub (.var 0) (.k (.int 2))) (.bi .len [.sub (.var 0) (.k (.int 3))])) [.set (.nm 4) (.sub (.sub (.var 0) (.k (.int 3))) (.sub (.var 0) (.k (.int 2))))] [] :: .augS 0 .add (.k (.int 2)) (.k (.int 1)) :: .ife (.cmp .GtE (.var 4) (.k (.int 1000000000000000000))) [.setS 0 (.k (.int 0)) (.var 4)] [] :: tkMix
def tkB1 : List Sm := [.ife (.cmp .Gt (.sub (.var 0) (.k (.int 0))) (.k (.int 0))) [.set (.nm 6) (.bin .mod (.bi .int [.sub (.var 0) (.k (.int 0))]) (.var 1)), .setS 0 (.k (.int 0)) (.bin .fdiv (.bi .int [.sub (.var 0) (.k (.int 0))]) (.var 1)), .retm 6] [], .set (.nm 2) (.bin .mod (.bi .int [.bin .mul (.bin .add (.sub (.var 0) (.k (.int 1))) (.k (.int 1))) (.k (.int 39373))]) (.k (.int 1000000007))), .set (.nm 3) (.bin .mod (.bi .int [.bin .mul (.bin .mod (.bi .int [.bin .mul (.var 2) (.var 2)]) (.k (.int 998244353))) (.k (.int 30011))]) (.k (.int 998244353))), .ret (.bin .mod (.bi .int [.bin .fdiv (.var 3) (.k (.int 7))]) (.var 1))]
def fTake : Fn := fTakeG tkA1 tkB1
def fTake2 : Fn := fTakeG tkA2 tkB1
/-- one of some -/
def fSome (iT : Nat) : Fn := ⟨2, 2, [0, 1], [.ret (.sub (.var 1) (.call iT [.var 0, .bi .len [.var 1]]))]⟩
/-- with something otherwise; u ways, of these v0: a leaf, v1: one out, v2: one twice, v3: the other sort -/
structure BV where
  ts : List Ty
  u : Int
  v0 : Int
  v1 : Int
  v2 : Int
  v3 : Int
  leaf : List Sm
def bCond (V : BV) : Ex := .or (.not (.isi (.var 1) V.ts)) (.or (.cmp .Eq (.bi .len [.var 1]) (.k (.int 0))) (.cmp .Eq (.var 2) (.k (.int V.v0))))
def bTail (V : BV) (iB : Nat) : List Sm := [.ife (.cmp .Eq (.var 2) (.k (.int V.v1))) [.ex (.meth .popAt (.var 4) [.var 3])] [.ife (.cmp .Eq (.var 2) (.k (.int V.v2))) [.ex (.meth .insert (.var 4) [.var 3, .sub (.var 1) (.var 3)])] [.ife (.cmp .Eq (.var 2) (.k (.int V.v3))) [.ret (.ite (.isi (.var 1) [.tuple]) (.var 4) (.bi .tuple [.var 4]))] [.setS 4 (.var 3) (.call iB [.var 0, .sub (.var 4) (.var 3)])]]], .ret (.ite (.isi (.var 1) [.tuple]) (.bi .tuple [.var 4]) (.var 4))]
def fBent (V : BV) (iT iB : Nat) : Fn := ⟨2, 5, [0, 1], .set (.nm 2) (.call iT [.var 0, .k (.int V.u)]) :: .ife (bCond V) V.leaf [] :: .set (.tp [3, 4]) (.tup [.call iT [.var 0, .bi .len [.var 1]], .bi .list [.var 1]]) :: bTail V iB⟩
structure BV.Ok (V : BV) : Prop where
  ts : V.ts = [.tuple, .list] ∨ V.ts = [.list, .tuple]
  u : 1 ≤ V.u ∧ V.u < 1073741824
def iws (l : List Int) : List W := l.map fun i => .a (.int i)
/-- the bag -/
def bag (a b c : Int) (l : List Int) : W := .n (.lst true) [.a (.int a), .a (.int b), .a (.int c), .n (.lst false) (iws l)]
theorem fzL_iws : ∀ l : List Int, fzL (iws l) = true
  | [] => rfl
  | x :: l => by
    show (true && fzL (iws l)) = true
    rw [fzL_iws l]; rfl
theorem frzL_iws (l : List Int) : frzL (iws l) = iws l := frzL_fzW (fzL_iws l)
theorem cut_iws (l : List Int) (c : Int) (hc : 0 ≤ c) : cutL (iws l) (some c) none = iws (l.drop c.toNat) := by
  have hn : (iws l).length = l.length := by simp [iws]
  have e1 : HT.sIx l.length 0 (some c) = min c.toNat l.length := by
    show (if c < 0 then (c + (l.length : Int)).toNat else min c.toNat l.length) = _
    rw [if_neg (by omega)]
  have e2 : HT.sIx l.length l.length none = l.length := rfl
  unfold cutL
  rw [hn, e1, e2]
  rcases Nat.le_total c.toNat l.length with h | h
  · rw [Nat.min_eq_left h, List.take_of_length_le (by simp [iws])]
    simp [iws, List.map_drop]
  · rw [Nat.min_eq_right h, Nat.sub_self, List.take_zero, List.drop_eq_nil_of_le h]
    rfl
theorem head_iws : ∀ l : List Int, atI (iws l ++ [.a (.int 0)]) 0 = some (.a (.int (l.headD 0)))
  | [] => rfl
  | x :: l => by
    unfold atI ixN
    rw [if_pos (by decide), if_pos (by simp [iws]; omega)]
    rfl
theorem fzL_app : ∀ xs ys : List W, fzL (xs ++ ys) = (fzL xs && fzL ys)
  | [], ys => rfl
  | x :: xs, ys => by
    show (x.fz && fzL (xs ++ ys)) = ((x.fz && fzL xs) && fzL ys)
    rw [fzL_app xs ys, Bool.and_assoc]
theorem frz_iws0 (l : List Int) : frzL (iws l ++ [.a (.int 0)]) = iws l ++ [.a (.int 0)] := frzL_fzW (by rw [fzL_app, fzL_iws]; rfl)
theorem ix4_0 : ixN 4 0 = some 0 := rfl
theorem ix4_1 : ixN 4 1 = some 1 := rfl
theorem ix4_2 : ixN 4 2 = some 2 := rfl
theorem at4_0 (a b c d : W) : atI [a, b, c, d] 0 = some a := rfl
theorem at4_1 (a b c d : W) : atI [a, b, c, d] 1 = some b := rfl
theorem at4_2 (a b c d : W) : atI [a, b, c, d] 2 = some c := rfl
theorem at4_3 (a b c d : W) : atI [a, b, c, d] 3 = some d := rfl
def dd : W := .a .dead
/-- a number is come by -/
def TkA (A : List Sm) (l : List Int) : Prop := ∀ (cl : Nat → List W → Option (List W × W)) (b c u : Int), 0 ≤ c → ∃ a' b' x4 x5, 0 ≤ a' ∧ exs cl A [bag 0 b c l, .a (.int u), dd, dd, dd, dd, dd] = some (.nx, [bag a' b' (c + 1) l, .a (.int u), dd, dd, x4, x5, dd])
/-- it is drawn from -/
def TkB (B : List Sm) (l : List Int) : Prop := ∀ (cl : Nat → List W → Option (List W × W)) (a b c u : Int) (x4 x5 : W), 0 ≤ a → 1 ≤ u → u < 1073741824 → ∃ a' r ρ', 0 ≤ a' ∧ 0 ≤ r ∧ r < u ∧ exs cl B [bag a b c l, .a (.int u), dd, dd, x4, x5, dd] = some (.rt (.a (.int r)), ρ') ∧ backs 2 [0, 1] ρ' = [bag a' b c l, .a (.int u)]
theorem bag_fzl (a b c : Int) (l : List Int) : fzL [W.a (.int a), .a (.int b), .a (.int c), .n (.lst false) (iws l)] = true := by
  simp [fzL, Lin.W.fz, Kd.fz, fzL_iws]
theorem tkMix_ok {cl : Nat → List W → Option (List W × W)} {a b c u z : Int} {l : List Int} : ∃ b' x5, exs cl tkMix [bag a b c l, .a (.int u), dd, dd, .a (.int z), dd, dd] = some (.nx, [bag a b' c l, .a (.int u), dd, dd, .a (.int z), x5, dd]) := by
  have h1 := bag_fzl a b c l
  refine ⟨(b * 48271 + z % 2147483647 + 7919 * c) % 2147483647, .a (.int (b * 48271 + z % 2147483647 + 7919 * c)), ?_⟩
  unfold tkMix bag dd
  simp [exs, exm, evm, evL, opL, at?, res, resC, resL, fin, h1, Lin.W.alive, At.plain, subW, biW, binW, binI, Lin.W.frzIn, Lin.W.frz, frzL, bindT, setIx, at4_0, at4_1, at4_2, at4_3, fzL, Lin.W.fz, Kd.fz, fzL_iws, ix4_0, ix4_1, ix4_2]
theorem tkAug_ok {cl : Nat → List W → Option (List W × W)} {a b c u z : Int} {l : List Int} : exm cl (.augS 0 .add (.k (.int 2)) (.k (.int 1))) [bag a b c l, .a (.int u), dd, dd, .a (.int z), dd, dd] = some (.nx, [bag a b (c + 1) l, .a (.int u), dd, dd, .a (.int z), dd, dd]) := by
  unfold bag dd
  simp [exm, evm, at?, fin, Lin.W.alive, At.plain, binI, setIx, at4_2, ix4_2]
theorem tkBig_ok {cl : Nat → List W → Option (List W × W)} {e : Ex} (he : ∀ ρ, evm cl e .opr ρ = some (.tm (.a (.int 1000000000000000000)), ρ)) {b c u z : Int} {l : List Int} : ∃ a', 0 ≤ a' ∧ exm cl (.ife (.cmp .GtE (.var 4) e) [.setS 0 (.k (.int 0)) (.var 4)] []) [bag 0 b c l, .a (.int u), dd, dd, .a (.int z), dd, dd] = some (.nx, [bag a' b c l, .a (.int u), dd, dd, .a (.int z), dd, dd]) := by
  have hc : cmpW .GtE (.a (.int z)) (.a (.int 1000000000000000000)) = some (decide (1000000000000000000 ≤ z)) := rfl
  by_cases hb : 1000000000000000000 ≤ z
  · refine ⟨z, by omega, ?_⟩
    have hb1 : decide (1000000000000000000 ≤ z) = true := by simpa using hb
    rw [hb1] at hc
    unfold bag dd
    simp [exs, exm, evm, at?, res, fin, Lin.W.alive, At.plain, he, hc, tru, setIx, ix4_0, Lin.W.frz]
  · refine ⟨0, by omega, ?_⟩
    have hb1 : decide (1000000000000000000 ≤ z) = false := by simpa using hb
    rw [hb1] at hc
    unfold bag dd
    simp [exs, exm, evm, at?, res, fin, Lin.W.alive, At.plain, he, hc, tru]
theorem exs_c {cl : Nat → List W → Option (List W × W)} {s : Sm} {ss : List Sm} {ρ ρ1 : Env} {r : Option (Out × Env)} (h : exm cl s ρ = some (.nx, ρ1)) (h2 : exs cl ss ρ1 = r) : exs cl (s :: ss) ρ = r := by simp only [exs, h, h2]
theorem tkEnd {cl : Nat → List W → Option (List W × W)} {e : Ex} (he : ∀ ρ, evm cl e .opr ρ = some (.tm (.a (.int 1000000000000000000)), ρ)) {b c u z : Int} {l : List Int} : ∃ a' b' x4 x5, 0 ≤ a' ∧ exs cl (.augS 0 .add (.k (.int 2)) (.k (.int 1)) :: .ife (.cmp .GtE (.var 4) e) [.setS 0 (.k (.int 0)) (.var 4)] [] :: tkMix) [bag 0 b c l, .a (.int u), dd, dd, .a (.int z), dd, dd] = some (.nx, [bag a' b' (c + 1) l, .a (.int u), dd, dd, x4, x5, dd]) := by
  obtain ⟨a', ha, e1⟩ := tkBig_ok (cl := cl) he (b := b) (c := c + 1) (u := u) (z := z) (l := l)
  obtain ⟨b', x5, e2⟩ := tkMix_ok (cl := cl) (a := a') (b := b) (c := c + 1) (u := u) (z := z) (l := l)
  exact ⟨a', b', _, x5, ha, exs_c tkAug_ok (exs_c e1 e2)⟩
theorem tkA1_ok {l : List Int} (hl : l.length ≤ 63) : TkA tkA1 l := fun cl b c u hc => by
  have h1 := bag_fzl 0 b c l
  have hz1 : 1 ≤ sizeLine := by decide
  have hz2 : (iws (l.drop c.toNat)).length + 1 ≤ sizeLine := by
    have : (iws (l.drop c.toNat)).length ≤ 63 := by simp [iws]; omega
    exact Nat.le_trans (Nat.add_le_add_right this 1) (by decide)
  have e0 : exm cl (.set (.nm 4) (.sub (.bin .add (.slice (.sub (.var 0) (.k (.int 3))) (some (.sub (.var 0) (.k (.int 2)))) none) (.lst [.k (.int 0)])) (.k (.int 0)))) [bag 0 b c l, .a (.int u), dd, dd, dd, dd, dd] = some (.nx, [bag 0 b c l, .a (.int u), dd, dd, .a (.int ((l.drop c.toNat).headD 0)), dd, dd]) := by
    unfold bag dd
    have hh := head_iws (l.drop c.toNat)
    generalize (l.drop c.toNat).headD 0 = cell at hh ⊢
    simp [exm, evm, evL, evO, at?, res, resC, fin, h1, Lin.W.alive, At.plain, subW, binW, Lin.W.frzIn, Lin.W.frz, frzL, bindT, sliceW, cut_iws l c hc, frzL_iws, fzL_iws, hh, at4_2, at4_3, hz1, hz2, fzL, Lin.W.fz, Kd.fz, fzL_app, frz_iws0]
  obtain ⟨a', b', x4, x5, ha, e⟩ := tkEnd (cl := cl) (e := .bin .pow (.k (.int 10)) (.k (.int 18))) (fun ρ => rfl) (b := b) (c := c) (u := u) (z := (l.drop c.toNat).headD 0) (l := l)
  exact ⟨a', b', x4, x5, ha, exs_c e0 e⟩
theorem at_iws {l : List Int} {c : Int} (h0 : 0 ≤ c) (h1 : c.toNat < l.length) : atI (iws l) c = some (.a (.int (l[c.toNat]))) := by
  have hn : (iws l).length = l.length := by simp [iws]
  rw [atI_pos h0 (by rw [hn]; omega)]
  simp [iws, h1]
theorem tkA2_ok {l : List Int} (hl : l.length ≤ 63) : TkA tkA2 l := fun cl b c u hc => by
  have h1 := bag_fzl 0 b c l
  have e0 : exm cl (.set (.nm 4) (.k (.int 0))) [bag 0 b c l, .a (.int u), dd, dd, dd, dd, dd] = some (.nx, [bag 0 b c l, .a (.int u), dd, dd, .a (.int 0), dd, dd]) := rfl
  have hn : (iws l).length = l.length := by simp [iws]
  have e1 : ∃ z, exm cl (.ife (.cmp .Lt (.sub (.var 0) (.k (.int 2))) (.bi .len [.sub (.var 0) (.k (.int 3))])) [.set (.nm 4) (.sub (.sub (.var 0) (.k (.int 3))) (.sub (.var 0) (.k (.int 2))))] []) [bag 0 b c l, .a (.int u), dd, dd, .a (.int 0), dd, dd] = some (.nx, [bag 0 b c l, .a (.int u), dd, dd, .a (.int z), dd, dd]) := by
    have hc2 : cmpW .Lt (.a (.int c)) (.a (.int l.length)) = some (decide (c < l.length)) := rfl
    by_cases hlt : c < l.length
    · have hb1 : decide (c < (l.length : Int)) = true := by simpa using hlt
      rw [hb1] at hc2
      have hcl : c.toNat < l.length := by omega
      have ha := at_iws hc (l := l) hcl
      refine ⟨l[c.toNat], ?_⟩
      unfold bag dd
      simp [exs, exm, evm, opL, at?, res, resC, resL, fin, h1, Lin.W.alive, At.plain, subW, biW, Lin.W.frzIn, Lin.W.frz, frzL_iws, bindT, at4_2, at4_3, hn, hc2, tru, ha]
    · have hb1 : decide (c < (l.length : Int)) = false := by simpa using hlt
      rw [hb1] at hc2
      refine ⟨0, ?_⟩
      unfold bag dd
      simp [exs, exm, evm, opL, at?, res, resC, resL, fin, h1, Lin.W.alive, At.plain, subW, biW, Lin.W.frzIn, Lin.W.frz, frzL_iws, bindT, at4_2, at4_3, hn, hc2, tru]
  obtain ⟨z, e1⟩ := e1
  obtain ⟨a', b', x4, x5, ha, e⟩ := tkEnd (cl := cl) (e := .k (.int 1000000000000000000)) (fun ρ => rfl) (b := b) (c := c) (u := u) (z := z) (l := l)
  exact ⟨a', b', x4, x5, ha, exs_c e0 (exs_c e1 e)⟩
theorem tkLast {cl : Nat → List W → Option (List W × W)} {b c u : Int} {x4 x5 : W} {l : List Int} (hu : 1 ≤ u) : ∃ r, (0 ≤ r ∧ r < u) ∧ exs cl (tkB1.drop 1) [bag 0 b c l, .a (.int u), dd, dd, x4, x5, dd] = some (.rt (.a (.int r)), [bag 0 b c l, .a (.int u), .a (.int ((b + 1) * 39373 % 1000000007)), .a (.int ((b + 1) * 39373 % 1000000007 * ((b + 1) * 39373 % 1000000007) % 998244353 * 30011 % 998244353)), x4, x5, dd]) := by
  have h1 := bag_fzl 0 b c l
  have hu3 : decide (0 < u) = true := by simp; omega
  have hu5 : 0 < u := by omega
  refine ⟨(((b + 1) * 39373 % 1000000007) * ((b + 1) * 39373 % 1000000007) % 998244353 * 30011 % 998244353) / 7 % u, ⟨Int.emod_nonneg _ (by omega), Int.emod_lt_of_pos _ (by omega)⟩, ?_⟩
  unfold bag dd
  have he0 : -18446744073709551616 < (b + 1) * 39373 % 1000000007 := by omega
  have he1 : (b + 1) * 39373 % 1000000007 < 18446744073709551616 := by omega
  generalize hE : (b + 1) * 39373 % 1000000007 = e at he0 he1
  simp [tkB1, exs, exm, evm, opL, at?, res, resC, resL, fin, h1, Lin.W.alive, At.plain, subW, biW, binW, binI, Lin.W.frzIn, Lin.W.frz, hu3, hu5, bindT, at4_1, hE, he0, he1]
theorem tkB1_ok {l : List Int} : TkB tkB1 l := fun cl a b c u x4 x5 ha hu hu2 => by
  have h1 := bag_fzl a b c l
  have hu3 : decide (0 < u) = true := by simp; omega
  have hu4 : decide (u < 1073741824) = true := by simp; omega
  by_cases h : a = 0
  · subst h
    obtain ⟨r, ⟨r0, r1⟩, e⟩ := tkLast (cl := cl) (b := b) (c := c) (u := u) (x4 := x4) (x5 := x5) (l := l) hu
    refine ⟨0, r, _, by omega, r0, r1, exs_c (ρ1 := [bag 0 b c l, .a (.int u), dd, dd, x4, x5, dd]) ?_ e, rfl⟩
    unfold bag dd
    simp [exs, exm, evm, at?, res, resC, fin, h1, Lin.W.alive, At.plain, subW, cmpW, cmpI, tru, at4_0]
  · have ha1 : decide (0 < a) = true := by simp; omega
    refine ⟨a / u, a % u, [bag (a / u) b c l, .a (.int u), dd, dd, x4, x5, dd], Int.ediv_nonneg ha (by omega), Int.emod_nonneg _ (by omega), Int.emod_lt_of_pos _ (by omega), ?_, rfl⟩
    unfold bag dd
    simp [tkB1, exs, exm, evm, evL, opL, at?, res, resC, resL, fin, h1, Lin.W.alive, At.plain, subW, atI, ixN, cmpW, cmpI, tru, ha1, biW, binW, binI, Lin.W.frzIn, Lin.W.frz, frzL, hu3, hu4, bindT, setIx]
/-- a bag of these numbers -/
def Bg (l : List Int) (w : W) : Prop := ∃ a b c, 0 ≤ a ∧ 0 ≤ c ∧ w = bag a b c l
/-- a def that draws -/
def Drw (tab : List Fn) (iT : Nat) (l : List Int) : Prop := ∀ (w : W) (u : Int) (n : Nat), Bg l w → 1 ≤ u → u < 1073741824 → ∃ w' r, Bg l w' ∧ 0 ≤ r ∧ r < u ∧ Lin.run tab (n + 1) iT [w, .a (.int u)] = some ([w', .a (.int u)], .a (.int r))
theorem run_at {tab : List Fn} {n i : Nat} {F : Fn} {ws : List W} (h : tab[i]? = some F) (hl : ws.length = F.np) (hn : F.np ≤ F.ns) : Lin.run tab (n + 1) i ws = match exs (Lin.run tab n) F.body (ws ++ List.replicate (F.ns - F.np) (.a .dead)) with
    | some (.nx, ρ) => some (backs F.np F.keep ρ, .a .non)
    | some (.rt w, ρ) => some (backs F.np F.keep ρ, w)
    | _ => none := by
  rw [Lin.run, h]
  simp only [hl, hn, and_self, if_true]
  all_goals rfl
theorem drw_of {tab : List Fn} {iT : Nat} {A B : List Sm} {l : List Int} (hT : tab[iT]? = some (fTakeG A B)) (hA : TkA A l) (hB : TkB B l) : Drw tab iT l := fun w u n hw hu hu2 => by
  obtain ⟨a, b, c, ha, hc, rfl⟩ := hw
  have h1 := bag_fzl a b c l
  have start : ∃ a' b' c' x4 x5, 0 ≤ a' ∧ 0 ≤ c' ∧ exm (Lin.run tab n) (.ife (.cmp .Eq (.sub (.var 0) (.k (.int 0))) (.k (.int 0))) A []) [bag a b c l, .a (.int u), dd, dd, dd, dd, dd] = some (.nx, [bag a' b' c' l, .a (.int u), dd, dd, x4, x5, dd]) := by
    have hc2 : cmpW .Eq (.a (.int a)) (.a (.int 0)) = some (a == 0) := rfl
    have ht : evm (Lin.run tab n) (.cmp .Eq (.sub (.var 0) (.k (.int 0))) (.k (.int 0))) .tst [bag a b c l, .a (.int u), dd, dd, dd, dd, dd] = some (.bo (a == 0), [bag a b c l, .a (.int u), dd, dd, dd, dd, dd]) := by
      unfold bag dd
      simp [evm, at?, res, resC, fin, h1, Lin.W.alive, At.plain, subW, hc2, tru, at4_0]
    by_cases h : a = 0
    · subst h
      obtain ⟨a', b', x4, x5, ha', e⟩ := hA (Lin.run tab n) b c u hc
      exact ⟨a', b', c + 1, x4, x5, ha', by omega, by simp only [exm, ht]; exact e⟩
    · have h' : (a == 0) = false := by simpa using h
      rw [h'] at ht
      exact ⟨a, b, c, dd, dd, ha, hc, by simp only [exm, ht]; rfl⟩
  obtain ⟨a', b', c', x4, x5, ha', hc', e1⟩ := start
  obtain ⟨a2, r, ρ', ha2, r0, r1, e2, hb⟩ := hB (Lin.run tab n) a' b' c' u x4 x5 ha' hu hu2
  refine ⟨bag a2 b' c' l, r, ⟨a2, b', c', ha2, hc', rfl⟩, r0, r1, ?_⟩
  rw [run_at hT rfl (show 2 ≤ 7 by decide)]
  have e : exs (Lin.run tab n) (fTakeG A B).body ([bag a b c l, .a (.int u)] ++ List.replicate ((fTakeG A B).ns - (fTakeG A B).np) (.a .dead)) = some (.rt (.a (.int r)), ρ') := exs_c e1 e2
  rw [e]
  exact congrArg (fun z => some (z, W.a (.int r))) hb
theorem drw1 {tab : List Fn} {iT : Nat} {l : List Int} (hT : tab[iT]? = some fTake) (hl : l.length ≤ 63) : Drw tab iT l := drw_of hT (tkA1_ok hl) tkB1_ok
theorem drw2 {tab : List Fn} {iT : Nat} {l : List Int} (hT : tab[iT]? = some fTake2) (hl : l.length ≤ 63) : Drw tab iT l := drw_of hT (tkA2_ok hl) tkB1_ok

theorem atI_mem {xs : List W} {r : Int} (h0 : 0 ≤ r) (h1 : r < xs.length) : ∃ x, x ∈ xs ∧ atI xs r = some x := by
  have hl : r.toNat < xs.length := by omega
  exact ⟨xs[r.toNat], List.getElem_mem hl, by rw [atI_pos h0 h1]; exact List.getElem?_eq_getElem hl⟩
theorem al_n (k : Kd) (xs : List W) : Lin.W.alive (.n k xs) = true := rfl
theorem al_int (i : Int) : Lin.W.alive (.a (.int i)) = true := rfl
theorem al_str (i : Str) : Lin.W.alive (.a (.str i)) = true := rfl
theorem al_bl (i : Bool) : Lin.W.alive (.a (.bl i)) = true := rfl
theorem al_non : Lin.W.alive (.a .non) = true := rfl
theorem al_dead : Lin.W.alive (.a .dead) = false := rfl
theorem bag_alive (a b c : Int) (l : List Int) : Lin.W.alive (bag a b c l) = true := rfl
theorem bag_fz (a b c : Int) (l : List Int) : Lin.W.fz (bag a b c l) = false := rfl
theorem bagOk (l : List Int) : BagOk (Bg l) := ⟨fun w ⟨a, b, c, _, _, e⟩ => by rw [e]; rfl, fun w ⟨a, b, c, _, _, e⟩ => by rw [e]; rfl⟩
/-- one of some -/
theorem pick {tab : List Fn} {iT iS : Nat} {l : List Int} (hT : Drw tab iT l) (hS : tab[iS]? = some (fSome iT)) {w : W} (hw : Bg l w) {k : Kd} (hk : isSq k = true) {xs : List W} (hx : fzL xs = true) (hn : 1 ≤ xs.length) (hb : xs.length < 1073741824) (n : Nat) : ∃ w' x ws, Bg l w' ∧ x ∈ xs ∧ ws = .n k xs ∧ Lin.run tab (n + 2) iS [w, .n k xs] = some ([w', ws], x) := by
  obtain ⟨w', r, hw', h0, h1, e⟩ := hT w xs.length n hw (by omega) (by omega)
  obtain ⟨x, hxm, hat⟩ := atI_mem h0 h1
  refine ⟨w', x, .n k xs, hw', hxm, rfl, ?_⟩
  obtain ⟨a, b, c, _, _, rfl⟩ := hw
  obtain ⟨a', b', c', _, _, rfl⟩ := hw'
  rw [run_at hS rfl (Nat.le_refl 2)]
  cases k with
  | tup => simp [fSome, exs, exm, evm, opL, at?, res, resC, resL, fin, bag_alive, bag_fz, al_n, al_int, al_dead, Lin.W.fz, Kd.fz, hx, biW, takeA, putA, e, subW, hat, backs, bk]
  | lst m => cases m <;> simp [fSome, exs, exm, evm, opL, at?, res, resC, resL, fin, bag_alive, bag_fz, al_n, al_int, al_dead, Lin.W.fz, Kd.fz, hx, biW, takeA, putA, e, subW, hat, backs, bk]
  | _ => cases hk
/-! ### something otherwise -/
theorem isTys_nn {ts : List Ty} (ht : ts = [.tuple, .list] ∨ ts = [.list, .tuple]) {k : Kd} {xs : List W} (hk : isSq k = true) : isTys (.n k xs) ts = some true := by
  rcases ht with rfl | rfl
  · cases k with
    | tup => rfl
    | lst m => rfl
    | _ => cases hk
  · cases k with
    | tup => rfl
    | lst m => rfl
    | _ => cases hk
theorem two_sl : (2 ≤ sizeLine) = True := by decide
theorem frz_a (x : At) : (W.a x).frz = .a x := rfl
theorem tru_bl (b : Bool) : tru (.a (.bl b)) = some b := rfl
/-- what the leaf tells -/
def LeafOk (V : BV) (cl : Nat → List W → Option (List W × W)) (l : List Int) (t : W) (Q : W → Prop) : Prop :=
  ∀ (w : W) (r : Int), Bg l w → 0 ≤ r → r < V.u → ∃ w' t' x ρ', Bg l w' ∧ exs cl V.leaf [w, t, .a (.int r), dd, dd] = some (.rt x, ρ') ∧ backs 2 [0, 1] ρ' = [w', t'] ∧ Q x
section
variable {tab : List Fn} {V : BV} {iT iB : Nat} {l : List Int} (hV : V.Ok) (hT : Drw tab iT l) (hB : tab[iB]? = some (fBent V iT iB))
include hV hT hB
theorem bentA {cl : Nat → List W → Option (List W × W)} {a b c a1 b1 c1 : Int} {t : W} {u v : Int} (ha : t.alive = true) (hf : t.fz = true) (e1 : cl iT [bag a b c l, .a (.int v)] = some ([bag a1 b1 c1 l, .a (.int v)], .a (.int u))) :
    exm cl (.set (.nm 2) (.call iT [.var 0, .k (.int v)])) [bag a b c l, t, dd, dd, dd] = some (.nx, [bag a1 b1 c1 l, t, .a (.int u), dd, dd]) := by
  unfold dd
  simp [exm, evm, opL, at?, fin, bag_alive, bag_fz, al_dead, At.plain, bindT, takeA, putA, e1]
/-- a leaf -/
theorem bent_leaf {t : W} (ht : t.alive = true) (hf : t.fz = true) {w w1 : W} {u : Int} (hw : Bg l w) (hw1 : Bg l w1) {n : Nat} (h0 : 0 ≤ u) (hu : u < V.u) (e1 : Lin.run tab (n + 1) iT [w, .a (.int V.u)] = some ([w1, .a (.int V.u)], .a (.int u)))
    (hc : ∀ B, evm (Lin.run tab (n + 1)) (bCond V) .tst [B, t, .a (.int u), dd, dd] = some (.bo true, [B, t, .a (.int u), dd, dd])) {Q : W → Prop} (hL : LeafOk V (Lin.run tab (n + 1)) l t Q) : ∃ w' t' r, Bg l w' ∧ Lin.run tab (n + 2) iB [w, t] = some ([w', t'], r) ∧ Q r := by
  obtain ⟨w', t', x, ρ', hw', e2, hb, q⟩ := hL w1 u hw1 h0 hu
  refine ⟨w', t', x, hw', ?_, q⟩
  obtain ⟨a, b, c, _, _, rfl⟩ := hw
  obtain ⟨a1, b1, c1, _, _, rfl⟩ := hw1
  have A := bentA (l := l) hV hT hB (cl := Lin.run tab (n + 1)) ht hf e1
  rw [run_at hB rfl (show 2 ≤ 5 by decide)]
  have e : exs (Lin.run tab (n + 1)) (fBent V iT iB).body ([bag a b c l, t] ++ List.replicate ((fBent V iT iB).ns - (fBent V iT iB).np) (.a .dead)) = some (.rt x, ρ') := by
    refine exs_c A ?_
    have : exm (Lin.run tab (n + 1)) (.ife (bCond V) V.leaf []) [bag a1 b1 c1 l, t, .a (.int u), dd, dd] = some (.rt x, ρ') := by
      simp only [exm, hc]
      exact e2
    simp only [exs, this]
  rw [e]
  exact congrArg (fun z => some (z, x)) hb
omit hT hB in
theorem cond_leaf {cl : Nat → List W → Option (List W × W)} {t : W} (ht : t.alive = true) (hf : t.fz = true) (hk : isTys t V.ts = some false ∨ ∃ k, t = .n k [] ∧ isSq k = true) (u : Int) (B : W) : evm cl (bCond V) .tst [B, t, .a (.int u), dd, dd] = some (.bo true, [B, t, .a (.int u), dd, dd]) := by
  unfold bCond dd
  rcases hk with hk | ⟨k, rfl, hk⟩
  · simp [evm, opL, at?, res, resC, resL, fin, ht, hk, tru]
  · have hk := isTys_nn (xs := []) hV.ts hk
    simp [evm, opL, at?, res, resC, resL, fin, al_n, At.plain, hk, tru, biW, cmpW, eqD, eqW, eqA, Lin.W.dep, fzL]
end
end Lin.Ab

set_option Elab.async false
set_option linter.all false
set_option maxRecDepth 100000
set_option maxHeartbeats 4000000
/-! Ab, part L: something otherwise. -/
namespace Lin.Ab
open PySem L2

/-- a method's statement, step by step -/
theorem ex_meth {cl : Nat → List W → Option (List W × W)} {m : Mt} {i : Nat} {es : List Ex} {ρ ρ2 : Env} {ws : List W} {w w2 r w' : W} (h1 : at? ρ i = some w) (ho : mtOk m w = true) (h2 : evL cl es ρ = some (ws, ρ2)) (h3 : at? ρ2 i = some w2) (h4 : mtW m w2 ws = some (r, w')) : exm cl (.ex (.meth m (.var i) es)) ρ = some (.nx, ρ2.set i w') := by
  have e : evm cl (.meth m (.var i) es) .val ρ = some (.tm r, ρ2.set i w') := by
    simp only [evm, h1, res, ho, if_true, h2, h3, h4, fin, backO]
  simp only [exm, e]
theorem exs_nx {cl : Nat → List W → Option (List W × W)} {s : Sm} {ss : List Sm} {ρ ρ1 : Env} (h : exm cl s ρ = some (.nx, ρ1)) : exs cl (s :: ss) ρ = exs cl ss ρ1 := by simp only [exs, h]
theorem exs_rt {cl : Nat → List W → Option (List W × W)} {s : Sm} {ss : List Sm} {ρ ρ1 : Env} {w : W} (h : exm cl s ρ = some (.rt w, ρ1)) : exs cl (s :: ss) ρ = some (.rt w, ρ1) := by simp only [exs, h]
theorem exs_1 {cl : Nat → List W → Option (List W × W)} {s : Sm} {ρ ρ1 : Env} (h : exm cl s ρ = some (.nx, ρ1)) : exs cl [s] ρ = some (.nx, ρ1) := by simp only [exs, h]
theorem ife_t {cl : Nat → List W → Option (List W × W)} {c : Ex} {a b : List Sm} {ρ ρ1 : Env} (h : evm cl c .tst ρ = some (.bo true, ρ1)) : exm cl (.ife c a b) ρ = exs cl a ρ1 := by simp only [exm, h]
theorem ife_f {cl : Nat → List W → Option (List W × W)} {c : Ex} {a b : List Sm} {ρ ρ1 : Env} (h : evm cl c .tst ρ = some (.bo false, ρ1)) : exm cl (.ife c a b) ρ = exs cl b ρ1 := by simp only [exm, h]
theorem ret_v {cl : Nat → List W → Option (List W × W)} {e : Ex} {ρ ρ1 : Env} {w : W} (h : evm cl e .val ρ = some (.tm w, ρ1)) : exm cl (.ret e) ρ = some (.rt w, ρ1) := by simp only [exm, h]
section
variable {tab : List Fn} {V : BV} {iT iB : Nat} {l : List Int} (hV : V.Ok) (hT : Drw tab iT l) (hB : tab[iB]? = some (fBent V iT iB))
include hV hT hB
def fzSq : Kd → Bool
  | .tup => true
  | .lst m => !m
  | _ => false
def kOther : Kd → Kd
  | .tup => .lst false
  | _ => .tup
/-- the facts of a list or a tuple that is not empty -/
structure NE (k : Kd) (xs : List W) : Prop where
  sq : isSq k = true
  fz : (W.n k xs).fz = true
  fzl : Lin.fzL xs = true
  pos : 1 ≤ xs.length
omit hV hT hB in
theorem NE.of {k : Kd} {xs : List W} (hk : fzSq k = true) (hx : fzL xs = true) (h1 : 1 ≤ xs.length) : NE k xs := by
  refine ⟨(by cases k <;> first | rfl | cases hk), ?_, hx, h1⟩
  simp only [W.fz, hx, Bool.and_true]
  cases k with
  | tup => rfl
  | lst m => exact hk
  | _ => cases hk
omit hV hT hB in
theorem len_ne {k : Kd} {xs : List W} (h : NE k xs) : cmpW .Eq (.a (.int xs.length)) (.a (.int 0)) = some false := by
  show some ((xs.length : Int) == 0) = _
  have h1 := h.pos
  have : ((xs.length : Int) == 0) = false := by simp; intro z; subst z; simp at h1
  rw [this]
omit hT hB in
theorem bentB {cl : Nat → List W → Option (List W × W)} {B : W} {k : Kd} {xs : List W} (h : NE k xs) {u : Int} (hu : cmpW .Eq (.a (.int u)) (.a (.int V.v0)) = some false) {x : List Sm} :
    exm cl (.ife (bCond V) x []) [B, .n k xs, .a (.int u), dd, dd] = some (.nx, [B, .n k xs, .a (.int u), dd, dd]) := by
  have hk := isTys_nn (k := k) (xs := xs) hV.ts h.sq
  have hln : biW .len [.n k xs] = some (.a (.int xs.length)) := rfl
  have c0 := len_ne h
  have hx := h.fzl
  refine (ife_f (ρ1 := [B, .n k xs, .a (.int u), dd, dd]) ?_).trans rfl
  unfold dd bCond
  simp [evm, opL, at?, res, resC, resL, fin, al_n, al_int, tru_bl, hx, At.plain, hk, hln, c0, hu]
omit hV hT hB in
theorem bentC {cl : Nat → List W → Option (List W × W)} {k : Kd} {xs : List W} (h : NE k xs) {a b c a1 b1 c1 : Int} {u j : W} (e2 : cl iT [bag a b c l, .a (.int xs.length)] = some ([bag a1 b1 c1 l, .a (.int xs.length)], j)) :
    exm cl (.set (.tp [3, 4]) (.tup [.call iT [.var 0, .bi .len [.var 1]], .bi .list [.var 1]])) [bag a b c l, .n k xs, u, dd, dd] = some (.nx, [bag a1 b1 c1 l, .n k xs, u, j, .n (.lst true) xs]) := by
  have hln : biW .len [.n k xs] = some (.a (.int xs.length)) := rfl
  have hx := h.fzl
  have hli : biW .list [.n k xs] = some (.n (.lst true) xs) := by
    have := h.sq
    cases k with
    | tup => exact if_pos hx
    | lst m => exact if_pos hx
    | _ => cases this
  unfold dd
  simp [exm, evm, evL, opL, at?, res, resC, resL, fin, bag_alive, bag_fz, al_n, al_dead, hx, At.plain, bindT, setL, takeA, putA, e2, hln, hli, two_sl]
omit hV hT hB in
theorem bentR {cl : Nat → List W → Option (List W × W)} {k : Kd} {xs ys : List W} (hk : fzSq k = true) (hy : fzL ys = true) {B u j : W} : ∃ ρ', exm cl (.ret (.ite (.isi (.var 1) [.tuple]) (.bi .tuple [.var 4]) (.var 4))) [B, .n k xs, u, j, .n (.lst true) ys] = some (.rt (.n k ys), ρ') ∧ backs 2 [0, 1] ρ' = [B, .n k xs] := by
  have hfr : (W.n (.lst true) ys).frz = .n (.lst false) ys := by simp only [W.frz, Kd.frz, frzL_fzW hy]
  have htu : biW .tuple [.n (.lst true) ys] = some (.n .tup ys) := if_pos hy
  cases k with
  | tup =>
    have hk2 : isTys (.n .tup xs) [.tuple] = some true := rfl
    refine ⟨[B, .n .tup xs, u, j, .n (.lst true) ys], ?_, rfl⟩
    refine ret_v ?_
    simp [evm, opL, at?, res, resC, resL, fin, al_n, tru_bl, hy, hk2, htu]
  | lst m =>
    cases m with
    | true => cases hk
    | false =>
      have hk2 : isTys (.n (.lst false) xs) [.tuple] = some false := rfl
      refine ⟨[B, .n (.lst false) xs, u, j, .n (.lst false) ys], ?_, rfl⟩
      refine ret_v ?_
      simp [evm, at?, res, fin, al_n, tru_bl, hk2, hfr]
  | _ => cases hk
omit hV hT hB in
theorem bentT {cl : Nat → List W → Option (List W × W)} {k : Kd} {xs ys : List W} (hk : fzSq k = true) (hy : fzL ys = true) {B u j : W} : ∃ ρ', exm cl (.ret (.ite (.isi (.var 1) [.tuple]) (.var 4) (.bi .tuple [.var 4]))) [B, .n k xs, u, j, .n (.lst true) ys] = some (.rt (.n (kOther k) ys), ρ') ∧ backs 2 [0, 1] ρ' = [B, .n k xs] := by
  have hfr : (W.n (.lst true) ys).frz = .n (.lst false) ys := by simp only [W.frz, Kd.frz, frzL_fzW hy]
  have htu : biW .tuple [.n (.lst true) ys] = some (.n .tup ys) := if_pos hy
  cases k with
  | tup =>
    have hk2 : isTys (.n .tup xs) [.tuple] = some true := rfl
    refine ⟨[B, .n .tup xs, u, j, .n (.lst false) ys], ?_, rfl⟩
    refine ret_v ?_
    simp [evm, at?, res, fin, al_n, tru_bl, hk2, hfr, kOther]
  | lst m =>
    cases m with
    | true => cases hk
    | false =>
      have hk2 : isTys (.n (.lst false) xs) [.tuple] = some false := rfl
      refine ⟨[B, .n (.lst false) xs, u, j, .n (.lst true) ys], ?_, rfl⟩
      refine ret_v ?_
      simp [evm, opL, at?, res, resC, resL, fin, al_n, tru_bl, hy, hk2, htu, kOther]
  | _ => cases hk
omit hV hT hB in
theorem bentW {cl : Nat → List W → Option (List W × W)} {B T L J : W} {u v : Int} {b : Bool} (h : (u == v) = b) : evm cl (.cmp .Eq (.var 2) (.k (.int v))) .tst [B, T, .a (.int u), J, L] = some (.bo b, [B, T, .a (.int u), J, L]) := by
  have hc : cmpW .Eq (.a (.int u)) (.a (.int v)) = some b := by show some (u == v) = _; rw [h]
  simp [evm, at?, res, fin, al_int, tru_bl, At.plain, hc]
/-- a list or a tuple with something otherwise -/
theorem bent_node {k : Kd} (hk : fzSq k = true) {xs : List W} (hx : fzL xs = true) (h1 : 1 ≤ xs.length) (hb : xs.length < sizeLine) {n : Nat} {R : W → Prop}
    (hC : LeafOk V (Lin.run tab (n + 1)) l (.n k xs) R)
    (hR : ∀ x ∈ xs, ∀ w, Bg l w → ∃ w' t' y, Bg l w' ∧ Lin.run tab (n + 1) iB [w, x] = some ([w', t'], y) ∧ y.fz = true ∧ ∀ j, xs[j]? = some x → R (.n k (xs.set j y)))
    (r1 : ∀ j < xs.length, R (.n k (xs.eraseIdx j))) (r2 : ∀ j, (hj : j < xs.length) → R (.n k (xs.take j ++ [xs[j]] ++ xs.drop j))) (r3 : R (.n (kOther k) xs)) {w : W} (hw : Bg l w) :
    ∃ w' t' r, Bg l w' ∧ Lin.run tab (n + 2) iB [w, .n k xs] = some ([w', t'], r) ∧ R r := by
  have ne := NE.of hk hx h1
  have sl : (sizeLine : Int) < 1073741824 := by decide
  obtain ⟨w1, u, hw1, h0, hu, e1⟩ := hT w V.u n hw hV.u.1 hV.u.2
  by_cases hz : u = V.v0
  · refine bent_leaf hV hT hB rfl ne.fz hw hw1 h0 hu e1 (fun B => ?_) hC
    have hkk := isTys_nn (k := k) (xs := xs) hV.ts ne.sq
    have hln : biW .len [.n k xs] = some (.a (.int xs.length)) := rfl
    have c0 := len_ne ne
    have hx := ne.fzl
    have hq : cmpW .Eq (.a (.int u)) (.a (.int V.v0)) = some true := by show some (u == V.v0) = _; rw [hz]; simp
    unfold dd bCond
    simp [evm, opL, at?, res, resC, resL, fin, al_n, al_int, tru_bl, hx, At.plain, hkk, hln, c0, hq]
  · obtain ⟨w2, j0, hw2, j1, j2, e2⟩ := hT w1 xs.length n hw1 (by omega) (by omega)
    obtain ⟨j, rfl⟩ : ∃ j : Nat, j0 = j := ⟨j0.toNat, by omega⟩
    have hj : j < xs.length := by omega
    have hxf : xs[j].fz = true := fzL_mem.mp hx _ (List.getElem_mem hj)
    have hg : xs[j]? = some xs[j] := List.getElem?_eq_getElem hj
    have hgi : atI xs (j : Int) = some xs[j] := by rw [atI_pos (by omega) (by omega), Int.toNat_natCast, hg]
    have hj62 : (j : Int) < 2 ^ 62 := by
      have : (sizeLine : Int) < 2 ^ 62 := by decide
      omega
    have hr1 := r1 j hj
    have hr2 := r2 j hj
    have hz1 : fzL (xs.eraseIdx j) = true := fzL_mem.mpr fun x m => fzL_mem.mp hx x (List.mem_of_mem_eraseIdx m)
    have hz2 : fzL (xs.take j ++ [xs[j]] ++ xs.drop j) = true := fzL_mem.mpr fun x m => (insert_mem m).elim (fun m => fzL_mem.mp hx x m) (fun e => e ▸ hxf)
    have hm1 : mtW .popAt (.n (.lst true) xs) [.a (.int j)] = some (xs[j], .n (.lst true) (xs.eraseIdx j)) := by
      simp only [mtW]
      rw [if_pos ⟨Int.natCast_nonneg j, hj62⟩, Int.toNat_natCast, hg]
    have hm2 : mtW .insert (.n (.lst true) xs) [.a (.int j), xs[j]] = some (.a .non, .n (.lst true) (xs.take j ++ [xs[j]] ++ xs.drop j)) := by
      simp only [mtW]
      rw [if_pos ⟨Int.natCast_nonneg j, hj62, hb⟩, Int.toNat_natCast]
    obtain ⟨a, b, c, _, _, rfl⟩ := hw
    obtain ⟨a1, b1, c1, _, _, rfl⟩ := hw1
    have hw2' := hw2
    obtain ⟨a2, b2, c2, _, _, rfl⟩ := hw2
    have hu0 : cmpW .Eq (.a (.int u)) (.a (.int V.v0)) = some false := by
      show some (u == V.v0) = _
      have : (u == V.v0) = false := by simpa using hz
      rw [this]
    have A := bentA hV hT hB (cl := Lin.run tab (n + 1)) (l := l) (t := .n k xs) rfl ne.fz e1
    have C := bentC (cl := Lin.run tab (n + 1)) (l := l) ne (u := .a (.int u)) e2
    have start : ∀ body, exs (Lin.run tab (n + 1)) (.set (.nm 2) (.call iT [.var 0, .k (.int V.u)]) :: .ife (bCond V) V.leaf [] :: .set (.tp [3, 4]) (.tup [.call iT [.var 0, .bi .len [.var 1]], .bi .list [.var 1]]) :: body) [bag a b c l, .n k xs, dd, dd, dd] = exs (Lin.run tab (n + 1)) body [bag a2 b2 c2 l, .n k xs, .a (.int u), .a (.int j), .n (.lst true) xs] := fun body => by
      rw [exs_nx A, exs_nx (bentB hV ne hu0), exs_nx C]
    have fin : ∀ (B r : W) (ρ' : Env), exs (Lin.run tab (n + 1)) (bTail V iB) [bag a2 b2 c2 l, .n k xs, .a (.int u), .a (.int j), .n (.lst true) xs] = some (.rt r, ρ') → backs 2 [0, 1] ρ' = [B, .n k xs] → Lin.run tab (n + 2) iB [bag a b c l, .n k xs] = some ([B, .n k xs], r) := fun B r ρ' q1 q2 => by
      rw [run_at hB rfl (show 2 ≤ 5 by decide)]
      have e : exs (Lin.run tab (n + 1)) (fBent V iT iB).body ([bag a b c l, .n k xs] ++ List.replicate ((fBent V iT iB).ns - (fBent V iT iB).np) (.a .dead)) = some (.rt r, ρ') := (start _).trans q1
      rw [e]
      exact congrArg (fun z => some (z, r)) q2
    unfold bTail at fin
    by_cases u1 : u = V.v1
    · subst u1
      have hx4 : exm (Lin.run tab (n + 1)) (.ex (.meth .popAt (.var 4) [.var 3])) [bag a2 b2 c2 l, .n k xs, .a (.int V.v1), .a (.int j), .n (.lst true) xs] = some (.nx, [bag a2 b2 c2 l, .n k xs, .a (.int V.v1), .a (.int j), .n (.lst true) (xs.eraseIdx j)]) := by
        have e2 : evL (Lin.run tab (n + 1)) [.var 3] [bag a2 b2 c2 l, .n k xs, .a (.int V.v1), .a (.int j), .n (.lst true) xs] = some ([.a (.int j)], [bag a2 b2 c2 l, .n k xs, .a (.int V.v1), .a (.int j), .n (.lst true) xs]) := by
          simp [evL, evm, at?, al_int, frz_a]
        exact ex_meth (w := .n (.lst true) xs) rfl rfl e2 rfl hm1
      obtain ⟨ρ', q1, q2⟩ := bentR (cl := Lin.run tab (n + 1)) (k := k) (xs := xs) hk hz1 (B := bag a2 b2 c2 l) (u := .a (.int V.v1)) (j := .a (.int j))
      refine ⟨_, _, _, hw2', fin _ _ ρ' ?_ q2, hr1⟩
      rw [exs_nx ((ife_t (bentW (b := true) (by simp))).trans (exs_1 hx4)), exs_rt q1]
    · have u1' : (u == V.v1) = false := by simpa using u1
      by_cases u2 : u = V.v2
      · subst u2
        have hs : subW (.n k xs) (.a (.int j)) = some xs[j] := by rw [sub_sq ne.sq]; exact hgi
        have hx4 : exm (Lin.run tab (n + 1)) (.ex (.meth .insert (.var 4) [.var 3, .sub (.var 1) (.var 3)])) [bag a2 b2 c2 l, .n k xs, .a (.int V.v2), .a (.int j), .n (.lst true) xs] = some (.nx, [bag a2 b2 c2 l, .n k xs, .a (.int V.v2), .a (.int j), .n (.lst true) (xs.take j ++ [xs[j]] ++ xs.drop j)]) := by
          have e2 : evL (Lin.run tab (n + 1)) [.var 3, .sub (.var 1) (.var 3)] [bag a2 b2 c2 l, .n k xs, .a (.int V.v2), .a (.int j), .n (.lst true) xs] = some ([.a (.int j), xs[j]], [bag a2 b2 c2 l, .n k xs, .a (.int V.v2), .a (.int j), .n (.lst true) xs]) := by
            simp [evL, evm, at?, res, resC, al_n, al_int, frz_a, hx, hs, Lin.fin]
          exact ex_meth (w := .n (.lst true) xs) rfl rfl e2 rfl hm2
        obtain ⟨ρ', q1, q2⟩ := bentR (cl := Lin.run tab (n + 1)) (k := k) (xs := xs) hk hz2 (B := bag a2 b2 c2 l) (u := .a (.int V.v2)) (j := .a (.int j))
        refine ⟨_, _, _, hw2', fin _ _ ρ' ?_ q2, hr2⟩
        rw [exs_nx ((ife_f (bentW u1')).trans (exs_1 ((ife_t (bentW (b := true) (by simp))).trans (exs_1 hx4)))), exs_rt q1]
      · have u2' : (u == V.v2) = false := by simpa using u2
        by_cases u3 : u = V.v3
        · subst u3
          obtain ⟨ρ', q1, q2⟩ := bentT (cl := Lin.run tab (n + 1)) (k := k) (xs := xs) hk hx (B := bag a2 b2 c2 l) (u := .a (.int V.v3)) (j := .a (.int j))
          refine ⟨_, _, _, hw2', fin _ _ ρ' ?_ q2, r3⟩
          exact exs_rt ((ife_f (bentW u1')).trans (exs_rt ((ife_f (bentW u2')).trans (exs_rt ((ife_t (bentW (b := true) (by simp))).trans (exs_rt q1))))))
        · have u3' : (u == V.v3) = false := by simpa using u3
          obtain ⟨w3, t3, y, hw3, e3, hyf, hry⟩ := hR xs[j] (List.getElem_mem hj) _ hw2'
          have hw3' := hw3
          obtain ⟨a3, b3, c3, _, _, rfl⟩ := hw3
          have hz4 : fzL (xs.set j y) = true := fzL_mem.mpr fun x m => (List.mem_or_eq_of_mem_set m).elim (fun m => fzL_mem.mp hx x m) (fun e => e ▸ hyf)
          have hset : setIx (.n (.lst true) xs) (.a (.int j)) y = some (.n (.lst true) (xs.set j y)) := by
            unfold setIx ixN
            simp only [if_pos (Int.natCast_nonneg j), if_pos j2, Int.toNat_natCast]
          have hs : subW (.n (.lst true) xs) (.a (.int j)) = some xs[j] := hgi
          have hx4 : exm (Lin.run tab (n + 1)) (.setS 4 (.var 3) (.call iB [.var 0, .sub (.var 4) (.var 3)])) [bag a2 b2 c2 l, .n k xs, .a (.int u), .a (.int j), .n (.lst true) xs] = some (.nx, [bag a3 b3 c3 l, .n k xs, .a (.int u), .a (.int j), .n (.lst true) (xs.set j y)]) := by
            simp [exm, evm, opL, at?, res, resC, Lin.fin, bag_alive, bag_fz, al_n, al_int, al_dead, frz_a, hx, hs, takeA, putA, e3, hset]
          obtain ⟨ρ', q1, q2⟩ := bentR (cl := Lin.run tab (n + 1)) (k := k) (xs := xs) hk hz4 (B := bag a3 b3 c3 l) (u := .a (.int u)) (j := .a (.int j))
          refine ⟨_, _, _, hw3', fin _ _ ρ' ?_ q2, hry j hg⟩
          rw [exs_nx ((ife_f (bentW u1')).trans (exs_1 ((ife_f (bentW u2')).trans (exs_1 ((ife_f (bentW u3')).trans (exs_1 hx4)))))), exs_rt q1]
end
end Lin.Ab

set_option Elab.async false
set_option linter.all false
set_option maxRecDepth 100000
set_option maxHeartbeats 4000000
/-! Ab, part M: something otherwise, at any depth; what draws tell of abstract values. -/
namespace Lin.Ab
open PySem L2
theorem wtL_erase : ∀ (xs : List W) (j : Nat), wtL (xs.eraseIdx j) ≤ wtL xs
  | [], j => Nat.le_refl _
  | x :: xs, 0 => by simp only [List.eraseIdx, wtL]; omega
  | x :: xs, j + 1 => by have := wtL_erase xs j; simp only [List.eraseIdx, wtL]; omega
theorem wtL_set : ∀ (xs : List W) (j : Nat) (y : W), wtL (xs.set j y) ≤ wtL xs + wt y
  | [], j, y => by simp [wtL]
  | x :: xs, 0, y => by simp only [List.set, wtL]; omega
  | x :: xs, j + 1, y => by have := wtL_set xs j y; simp only [List.set, wtL]; omega
theorem wtL_ins (xs : List W) (j : Nat) (x : W) : wtL (xs.take j ++ [x] ++ xs.drop j) = wtL xs + wt x + 2 := by
  have : wtL (xs.take j) + wtL (xs.drop j) = wtL xs := by rw [← wtL_append, List.take_append_drop]
  rw [wtL_append, wtL_append]
  simp only [wtL]; omega
theorem good_n {k : Kd} (hk : fzSq k = true) {ys : List W} {d s b : Nat} (h1 : ∀ y ∈ ys, okW b y = true) (h2 : ∀ y ∈ ys, y.dep + 1 ≤ d) (hd : 1 ≤ d) (h3 : 3 + wtL ys ≤ s) : Good d s b (.n k ys) := by
  have h4 : depL ys ≤ d - 1 := depL_mem.mpr fun y hy => by have := h2 y hy; omega
  refine ⟨?_, by simp only [W.dep]; omega, ?_⟩
  · simp only [okW, Bool.and_eq_true]
    refine ⟨?_, okL_mem.mpr h1⟩
    cases k with
    | tup => rfl
    | lst m => exact hk
    | _ => cases hk
  · cases k with
    | tup => simpa only [wt, kdWt, Nat.add_zero] using h3
    | lst m => simpa only [wt, kdWt, Nat.add_zero] using h3
    | _ => cases hk
theorem Good.nth {d s b : Nat} {k : Kd} {xs : List W} (h : Good d s b (.n k xs)) : (∀ x ∈ xs, okW b x = true) ∧ (∀ x ∈ xs, x.dep + 1 ≤ d) ∧ 1 ≤ d ∧ 3 + wtL xs ≤ s := by
  have h1 := h.ok
  have h2 := h.dep
  have h3 := h.wt
  simp only [okW, Bool.and_eq_true] at h1
  simp only [W.dep] at h2
  simp only [Lin.Ab.wt] at h3
  refine ⟨okL_mem.mp h1.2, fun x hx => ?_, by omega, by omega⟩
  have := (depL_mem (d := d - 1)).mp (by omega) x hx
  omega
theorem wtL_len : ∀ xs : List W, 2 * xs.length ≤ wtL xs
  | [] => Nat.le_refl _
  | x :: xs => by have := wtL_len xs; simp only [wtL, List.length_cons]; omega
theorem isTys_sw {ts : List Ty} (ht : ts = [.tuple, .list] ∨ ts = [.list, .tuple]) {t : W} (h : isTys t [.tuple, .list] = some false) : isTys t ts = some false := by
  rcases ht with rfl | rfl
  · exact h
  · match t, h with
    | .a .non, _ => rfl
    | .a (.bl _), _ => rfl
    | .a (.int _), _ => rfl
    | .a (.str _), _ => rfl
    | .a .opq, _ => rfl
    | .n (.dct _ _) _, _ => rfl
section
variable {tab : List Fn} {V : BV} {iT iB : Nat} {l : List Int} (hV : V.Ok) (hT : Drw tab iT l) (hB : tab[iB]? = some (fBent V iT iB))
include hV hT hB
theorem bent_lf {t : W} (ht : t.alive = true) (hf : t.fz = true) (hk : isTys t [.tuple, .list] = some false ∨ ∃ k, t = .n k [] ∧ isSq k = true) {w : W} (hw : Bg l w) {n : Nat} {Q : W → Prop} (hC : LeafOk V (Lin.run tab (n + 1)) l t Q) : ∃ w' t' r, Bg l w' ∧ Lin.run tab (n + 2) iB [w, t] = some ([w', t'], r) ∧ Q r := by
  obtain ⟨w1, u, hw1, h0, hu, e1⟩ := hT w V.u n hw hV.u.1 hV.u.2
  refine bent_leaf hV hT hB ht hf hw hw1 h0 hu e1 (fun B => cond_leaf hV ht hf ?_ u B) hC
  rcases hk with hk | hk
  · exact .inl (isTys_sw hV.ts hk)
  · exact .inr hk
theorem bent_ok {D s b dc sc bc M : Nat} (hs : s < sizeLine) (hC : ∀ m, M ≤ m → ∀ t, Good D s b t → LeafOk V (Lin.run tab m) l t (Good dc sc bc)) :
    ∀ d, d ≤ D → ∀ m, M + d + 2 ≤ m → ∀ w t, Bg l w → Good d s b t → ∃ w' t' r, Bg l w' ∧ Lin.run tab m iB [w, t] = some ([w', t'], r) ∧ Good (dc + d) (sc + s * (d + 2)) (max b bc) r := by
  intro d
  induction d with
  | zero =>
    intro hd m hm w t hw ht
    obtain ⟨n, rfl⟩ : ∃ n, m = n + 2 := ⟨m - 2, by omega⟩
    have hC' := hC (n + 1) (by omega) t (ht.mono hd (Nat.le_refl _) (Nat.le_refl _))
    have leaf : isTys t [.tuple, .list] = some false → ∃ w' t' r, Bg l w' ∧ Lin.run tab (n + 2) iB [w, t] = some ([w', t'], r) ∧ Good (dc + 0) (sc + s * (0 + 2)) (max b bc) r := fun q => by
      obtain ⟨w', t', r, g1, g2, g3⟩ := bent_lf hV hT hB (Good.alive ht) (Good.fz ht) (.inl q) hw hC'
      exact ⟨w', t', r, g1, g2, g3.mono (Nat.le_refl _) (by omega) (Nat.le_max_right _ _)⟩
    match t, ht, leaf with
    | .a .non, ht, leaf => exact leaf rfl
    | .a (.bl _), ht, leaf => exact leaf rfl
    | .a (.int _), ht, leaf => exact leaf rfl
    | .a (.str _), ht, leaf => exact leaf rfl
    | .a .opq, ht, leaf => exact leaf rfl
    | .a .dead, ht, leaf => exact absurd ht.ok (by simp [okW])
    | .n k xs, ht, leaf => have := ht.nth.2.2.1; omega
  | succ d ih =>
    intro hd m hm w t hw ht
    obtain ⟨n, rfl⟩ : ∃ n, m = n + 2 := ⟨m - 2, by omega⟩
    have hC' := hC (n + 1) (by omega) t (ht.mono hd (Nat.le_refl _) (Nat.le_refl _))
    have up : ∀ r, Good dc sc bc r → Good (dc + (d + 1)) (sc + s * (d + 1 + 2)) (max b bc) r := fun r g => g.mono (by omega) (by omega) (Nat.le_max_right _ _)
    have leaf : (isTys t [.tuple, .list] = some false ∨ ∃ k, t = .n k [] ∧ isSq k = true) → ∃ w' t' r, Bg l w' ∧ Lin.run tab (n + 2) iB [w, t] = some ([w', t'], r) ∧ Good (dc + (d + 1)) (sc + s * (d + 1 + 2)) (max b bc) r := fun q => by
      obtain ⟨w', t', r, g1, g2, g3⟩ := bent_lf hV hT hB (Good.alive ht) (Good.fz ht) q hw hC'
      exact ⟨w', t', r, g1, g2, up r g3⟩
    have node : ∀ k xs, t = .n k xs → fzSq k = true → ∃ w' t' r, Bg l w' ∧ Lin.run tab (n + 2) iB [w, t] = some ([w', t'], r) ∧ Good (dc + (d + 1)) (sc + s * (d + 1 + 2)) (max b bc) r := fun k xs e hk => by
      subst e
      obtain ⟨t1, t2, t3, t4⟩ := ht.nth
      have ms : s ≤ sc + s * (d + 1 + 2) ∧ s + s ≤ sc + s * (d + 1 + 2) := by
        have : s * (d + 1 + 2) = s * (d + 1) + s * 2 := Nat.mul_add _ _ _
        omega
      cases xs with
      | nil => exact leaf (.inr ⟨k, rfl, by cases k <;> first | rfl | cases hk⟩)
      | cons x0 xs0 =>
        generalize hxs : x0 :: xs0 = xs at *
        have h1 : 1 ≤ xs.length := by rw [← hxs]; simp
        have hlen := wtL_len xs
        have okm : ∀ {y : W}, okW b y = true → okW (max b bc) y = true := fun {y} => okW_mono (Nat.le_max_left _ _) y
        refine bent_node hV hT hB hk (okL_fz xs (okL_mem.mpr t1)) h1 (by omega) (fun w r hw h0 hu => ?_) (fun x hx w hw => ?_) (fun j hj => ?_) (fun j hj => ?_) ?_ hw
        · obtain ⟨w', t', x, ρ', g1, g2, g3, g4⟩ := hC' w r hw h0 hu
          exact ⟨w', t', x, ρ', g1, g2, g3, up x g4⟩
        · obtain ⟨w', t', r, g1, g2, g3⟩ := ih (by omega) (n + 1) (by omega) w x hw (ht.sub hx).1
          refine ⟨w', t', r, g1, g2, g3.fz, fun j _ => good_n hk (fun y hy => ?_) (fun y hy => ?_) (by omega) ?_⟩
          · rcases List.mem_or_eq_of_mem_set hy with hy | rfl
            · exact okm (t1 y hy)
            · exact g3.ok
          · rcases List.mem_or_eq_of_mem_set hy with hy | rfl
            · have := t2 y hy; omega
            · have := g3.dep; omega
          · have a1 := wtL_set xs j r
            have a2 := g3.wt
            have a3 : s * (d + 1 + 2) = s * (d + 2) + s := by rw [show d + 1 + 2 = (d + 2) + 1 by omega, Nat.mul_succ]
            omega
        · refine good_n hk (fun y hy => okm (t1 y (List.mem_of_mem_eraseIdx hy))) (fun y hy => ?_) (by omega) ?_
          · have := t2 y (List.mem_of_mem_eraseIdx hy); omega
          · have := wtL_erase xs j; omega
        · have hm : xs[j] ∈ xs := List.getElem_mem hj
          refine good_n hk (fun y hy => ?_) (fun y hy => ?_) (by omega) ?_
          · rcases insert_mem hy with hy | rfl
            · exact okm (t1 y hy)
            · exact okm (t1 _ hm)
          · rcases insert_mem hy with hy | rfl
            · have := t2 y hy; omega
            · have := t2 _ hm; omega
          · have a1 := wtL_ins xs j xs[j]
            have a2 := wtL_mem hm
            omega
        · refine good_n (by cases k <;> first | rfl | cases hk) (fun y hy => okm (t1 y hy)) (fun y hy => ?_) (by omega) (by omega)
          have := t2 y hy; omega
    match t, ht, leaf, node with
    | .a .non, ht, leaf, node => exact leaf (.inl rfl)
    | .a (.bl _), ht, leaf, node => exact leaf (.inl rfl)
    | .a (.int _), ht, leaf, node => exact leaf (.inl rfl)
    | .a (.str _), ht, leaf, node => exact leaf (.inl rfl)
    | .a .opq, ht, leaf, node => exact leaf (.inl rfl)
    | .a .dead, ht, leaf, node => exact absurd ht.ok (by simp [okW])
    | .n .tup xs, ht, leaf, node => exact node _ xs rfl rfl
    | .n (.lst false) xs, ht, leaf, node => exact node _ xs rfl rfl
    | .n (.lst true) xs, ht, leaf, node => exact absurd ht.ok (by simp [okW, okKd])
    | .n (.dct _ _) xs, ht, leaf, node => exact leaf (.inl rfl)
    | .n .ro xs, ht, leaf, node => exact absurd ht.ok (by simp [okW, okKd])
end
/-! ### what draws tell -/
abbrev Tr := Nat → List AV → Option (List AV × AV)
def tOr (a b : Tr) : Tr := fun f as => match a f as with
  | some r => some r
  | none => b f as
def trTake (iT : Nat) : Tr := fun f as => match as with
  | [.bg, u] => if f = iT then (match asInt u with
    | some p => if 1 ≤ p.1 ∧ p.2 < 1073741824 then some ([.bg, u], .int 0 (p.2 - 1)) else none
    | none => none) else none
  | _ => none
def trSome (iS : Nat) : Tr := fun f as => match as with
  | [.bg, a] => if f = iS then (match asSeq a with
    | some (k, lo, hi, e) => if isSq k = true ∧ 1 ≤ lo ∧ hi < 1073741824 ∧ inFz a = true then some ([.bg, a], e) else none
    | none => none) else none
  | _ => none
/-- a promise that is known -/
def trOne (i : Nat) (as as' : List AV) (r : AV) : Tr := fun f bs => if f = i ∧ leE bs as then some (as', r) else none
/-- something otherwise of a good thing -/
def trBent (iB D s b dc sc bc : Nat) : Tr := fun f as => match as with
  | [.bg, t] => if f = iB then (match toGood t with
    | some g => if g.d ≤ D ∧ g.s ≤ s ∧ g.b ≤ b then some ([.bg, .top], .good (dc + g.d) (sc + s * (g.d + 2)) (max b bc)) else none
    | none => none) else none
  | _ => none
section
variable {π : Nat → W → Prop} {l : List Int} {tab : List Fn}
theorem tOr_ok {cl : Nat → List W → Option (List W × W)} {bag : W → Prop} {a b : Tr} (ha : POk π bag cl a) (hb : POk π bag cl b) : POk π bag cl (tOr a b) := fun i as as' r e ws hw => by
  unfold tOr at e
  split at e
  · rename_i q e1
    cases e
    exact ha i as as' r e1 ws hw
  · exact hb i as as' r e ws hw
theorem trTake_ok {iT m : Nat} (hT : Drw tab iT l) (hm : 1 ≤ m) : POk π (Bg l) (Lin.run tab m) (trTake iT) := fun i as as' r e ws hw => by
  unfold trTake at e
  split at e
  · rename_i u
    split at e
    · rename_i hi
      subst hi
      split at e
      · rename_i p e1
        split at e
        · rename_i c
          cases e
          obtain ⟨w, ws1, rfl, h1, v, ws2, rfl, h2, h3⟩ := hw
          rw [show ws2 = [] from h3]
          obtain ⟨n, rfl⟩ : ∃ n, m = n + 1 := ⟨m - 1, by omega⟩
          obtain ⟨j, rfl, g1, g2⟩ := asInt_ok h2 (show asInt u = some (p.1, p.2) from e1)
          obtain ⟨w', q, hw', q0, q1, e2⟩ := hT w j n h1 (by omega) (by omega)
          exact ⟨_, _, e2, ⟨_, _, rfl, hw', _, _, rfl, h2, rfl⟩, _, rfl, q0, by omega⟩
        · cases e
      · cases e
    · cases e
  · cases e
theorem trSome_ok {iT iS m : Nat} (hT : Drw tab iT l) (hS : tab[iS]? = some (fSome iT)) (hm : 2 ≤ m) : POk π (Bg l) (Lin.run tab m) (trSome iS) := fun i as as' r e ws hw => by
  unfold trSome at e
  split at e
  · rename_i a
    split at e
    · rename_i hi
      subst hi
      split at e
      · rename_i k lo hi x e1
        split at e
        · rename_i c
          obtain ⟨c1, c2, c3, c4⟩ := c
          cases e
          obtain ⟨w, ws1, rfl, h1, v, ws2, rfl, h2, h3⟩ := hw
          rw [show ws2 = [] from h3]
          obtain ⟨n, rfl⟩ : ∃ n, m = n + 2 := ⟨m - 2, by omega⟩
          obtain ⟨xs, rfl, g1, g2, g3⟩ := asSeq_ok e1 h2
          obtain ⟨w', y, ws', hw', hy, rfl, e2⟩ := pick hT hS h1 c1 (inFz_ok c4 h2) (by omega) (by omega) n
          exact ⟨_, _, e2, ⟨_, _, rfl, hw', _, _, rfl, h2, rfl⟩, g3 y hy⟩
        · cases e
      · cases e
    · cases e
  · cases e
theorem trOne_ok {cl : Nat → List W → Option (List W × W)} {bag : W → Prop} {i : Nat} {as as' : List AV} {r : AV} (h : ∀ ws, gmL π bag as ws → ∃ ws' w, cl i ws = some (ws', w) ∧ gmL π bag as' ws' ∧ gm π bag r w) : POk π bag cl (trOne i as as' r) := fun j bs bs' q e ws hw => by
  unfold trOne at e
  split at e
  · rename_i c
    cases e
    rw [c.1]
    exact h ws (leE_ok c.2 hw)
  · cases e
theorem trBent_ok {V : BV} {iT iB m D s b dc sc bc M : Nat} (hV : V.Ok) (hT : Drw tab iT l) (hB : tab[iB]? = some (fBent V iT iB)) (hs : s < sizeLine) (hC : ∀ m, M ≤ m → ∀ t, Good D s b t → LeafOk V (Lin.run tab m) l t (Good dc sc bc)) (hm : M + D + 2 ≤ m) : POk π (Bg l) (Lin.run tab m) (trBent iB D s b dc sc bc) := fun i as as' r e ws hw => by
  unfold trBent at e
  split at e
  · rename_i t
    split at e
    · rename_i hi
      subst hi
      split at e
      · rename_i g e1
        split at e
        · rename_i c
          obtain ⟨c1, c2, c3⟩ := c
          cases e
          obtain ⟨w, ws1, rfl, h1, v, ws2, rfl, h2, h3⟩ := hw
          rw [show ws2 = [] from h3]
          obtain ⟨w', t', q, q1, q2, q3⟩ := bent_ok hV hT hB hs hC g.d c1 m (by omega) w v h1 ((toGood_ok t e1 h2).mono (Nat.le_refl _) c2 c3)
          exact ⟨_, _, q2, ⟨_, _, rfl, q1, _, _, rfl, trivial, rfl⟩, q3⟩
        · cases e
      · cases e
    · cases e
  · cases e
/-- the leaf, by an abstract run -/
def chkLf (pm : Kd → List AV → AV) (P : Tr) (N : Nat) (leaf : List Sm) (a : AV) (u : Int) (d s b : Nat) : Bool := match aSs (aS (aE P pm N) N N) leaf [.bg, a, .int 0 (u - 1), .dead, .dead] with
  | some R => R.nx.isNone && R.bk.isNone && R.ct.isNone && (match R.rt with
    | some (x, A) => leA x (.good d s b) && leE (bkA (fun i => decide (i ∈ [0, 1])) 2 A) [.bg, .top]
    | none => false)
  | none => false
theorem chkLf_ok {V : BV} {pm : Kd → List AV → AV} (hp : PmOk π (Bg l) pm) {P : Tr} {N : Nat} {a : AV} {d s b m : Nat} (hP : POk π (Bg l) (Lin.run tab m) P) (h : chkLf pm P N V.leaf a V.u d s b = true) {t : W} (ht : gm π (Bg l) a t) : LeafOk V (Lin.run tab m) l t (Good d s b) := fun w r hw h0 hu => by
  unfold chkLf at h
  split at h
  · rename_i R e
    simp only [Bool.and_eq_true, Option.isNone_iff_eq_none] at h
    obtain ⟨⟨⟨c1, c2⟩, c3⟩, c4⟩ := h
    have hr : gmL π (Bg l) [.bg, a, .int 0 (V.u - 1), .dead, .dead] [w, t, .a (.int r), dd, dd] := ⟨_, _, rfl, hw, _, _, rfl, ht, _, _, rfl, ⟨r, rfl, h0, by omega⟩, _, _, rfl, rfl, _, _, rfl, rfl, rfl⟩
    obtain ⟨o, ρ', g1, g2⟩ := aSs_ok (aS_ok (bagOk l) (aE_ok (bagOk l) hP hp N) N N) e hr
    cases o with
    | nx => obtain ⟨_, q, _⟩ := g2; rw [c1] at q; cases q
    | bk => obtain ⟨_, q, _⟩ := g2; rw [c2] at q; cases q
    | ct => obtain ⟨_, q, _⟩ := g2; rw [c3] at q; cases q
    | rt x =>
      obtain ⟨y, A, q, q1, q2⟩ := g2
      rw [q] at c4
      simp only [Bool.and_eq_true] at c4
      have k1 := leE_ok c4.2 (bkA_ok (n := 2) (P := fun i => decide (i ∈ [0, 1])) q2)
      obtain ⟨w', ws1, e1, k2, t', ws2, e2, _, k3⟩ := k1
      refine ⟨w', t', x, ρ', k2, g1, ?_, leA_ok c4.1 q1⟩
      show bk _ 2 ρ' = _
      rw [e1, e2, show ws2 = [] from k3]
  · cases h
theorem pm0_ok {bag : W → Prop} : PmOk π bag (fun k as => .tree k as) := fun k as ws h => ⟨ws, rfl, h⟩
end
end Lin.Ab

set_option Elab.async false
set_option linter.all false
set_option maxRecDepth 100000
set_option maxHeartbeats 1000000
/-! Ab, part N: good things are shown. -/
namespace Lin.Ab
open PySem L2
theorem digits_lt (n : Nat) : n < 10 ^ (n.log2 + 1) := by
  have h1 : n < 2 ^ (n.log2 + 1) := by
    by_cases h : n = 0
    · subst h; decide
    · exact (Nat.log2_lt h).mp (Nat.lt_succ_self _)
  exact Nat.lt_of_lt_of_le h1 (Nat.pow_le_pow_left (by decide) _)
theorem int_len (i : Int) : (PySem.Str.ofString (toString i)).length ≤ i.natAbs.log2 + 3 := by
  have pos : ∀ n : Nat, (PySem.Str.ofString (toString (n : Int))).length ≤ n.log2 + 1 := fun n =>
    PyProof.Rows.toString_length_le (v := (n : Int)) (by omega) (by omega) (by
      have := digits_lt n
      have e : ((10 ^ (n.log2 + 1) : Nat) : Int) = (10 : Int) ^ (n.log2 + 1) := by push_cast; rfl
      rw [← e]; omega)
  rcases Int.le_total 0 i with h | h
  · obtain ⟨n, rfl⟩ : ∃ n : Nat, i = n := ⟨i.toNat, by omega⟩
    have := pos n
    rw [Int.natAbs_natCast]; omega
  · obtain ⟨n, rfl⟩ : ∃ n : Nat, i = -(n : Int) := ⟨(-i).toNat, by omega⟩
    cases n with
    | zero => exact Nat.le_trans (pos 0) (by show Nat.log2 0 + 1 ≤ Nat.log2 0 + 3; omega)
    | succ n =>
      have := pos (n + 1)
      have e : (PySem.Str.ofString (toString (-((n + 1 : Nat) : Int)))).length = (PySem.Str.ofString (toString ((n + 1 : Nat) : Int))).length + 1 := by
        show (PySem.Str.ofString ("-" ++ toString (n + 1))).length = (PySem.Str.ofString (toString (n + 1))).length + 1
        rw [PyProof.Rows.ofString_length, PyProof.Rows.ofString_length, String.toList_append, List.length_append]
        exact Nat.add_comm _ _
      rw [e]
      rw [Int.natAbs_neg, Int.natAbs_natCast]; omega
theorem okS_repr {s : Str} (h : okS s = true) : (reprText s).length ≤ 10 * s.length + 2 := PySem.StrLaws.reprText_len s fun c hc => Nat.lt_trans (okS_mem.mp h c hc) (by decide)
theorem kD_ok {b : Nat} {k : Key} (h : okKy b k = true) : (b < 1920 → (kD k).showable = true) ∧ (kD k).shown.length ≤ kyWt k ∧ (kD k).depth = 0 := by
  cases k with
  | inl i =>
    have h : i.natAbs.log2 ≤ b := of_decide_eq_true h
    exact ⟨fun hb => decide_eq_true (by omega), int_len i, rfl⟩
  | inr s => exact ⟨fun _ => rfl, okS_repr h, rfl⟩
theorem strLen3 (a b : Str) : (a ++ ": " ++ b : Str).length = a.length + 2 + b.length := by
  rw [strLen_append, strLen_append]; rfl
theorem kv_ok {b : Nat} : ∀ {ks : List Key} {ds : List PyData}, ks.length = ds.length → ks.all (okKy b) = true → PyData.showableAll ds = true ∨ ¬ b < 1920 → (b < 1920 → PyData.showableKv ((ks.map kD).zip ds) = true) ∧ ((PyData.shownKv ((ks.map kD).zip ds)).map (·.length)).sum ≤ ksWt ks + ((PyData.shownAll ds).map (·.length)).sum ∧ PyData.depthKv ((ks.map kD).zip ds) ≤ PyData.depthAll ds ∧ (PyData.shownKv ((ks.map kD).zip ds)).length = ds.length
  | [], [], _, _, _ => ⟨fun _ => rfl, Nat.zero_le _, Nat.le_refl _, rfl⟩
  | k :: ks, d :: ds, hl, hk, hs => by
    simp only [List.all_cons, Bool.and_eq_true] at hk
    obtain ⟨k1, k2, k3⟩ := kD_ok hk.1
    have hs' : (d.showable = true ∧ PyData.showableAll ds = true) ∨ ¬ b < 1920 := by
      rcases hs with hs | hs
      · rw [PyData.showableAll, Bool.and_eq_true] at hs; exact .inl hs
      · exact .inr hs
    obtain ⟨r1, r2, r3, r4⟩ := kv_ok (ks := ks) (ds := ds) (by simpa using hl) hk.2 (hs'.imp And.right id)
    simp only [List.map_cons, List.zip_cons_cons, PyData.showableKv, PyData.shownKv, PyData.shownAll, PyData.depthKv, PyData.depthAll, List.sum_cons, List.length_cons, ksWt, strLen3, r4, k3, Bool.and_eq_true]
    refine ⟨fun hb => ⟨⟨k1 hb, ?_⟩, r1 hb⟩, ?_, ?_, trivial⟩
    · exact (hs'.resolve_right (fun q => q hb)).1
    · omega
    · omega
  | [], _ :: _, hl, _, _ => by cases hl
  | _ :: _, [], hl, _, _ => by cases hl
theorem shownAll_len : ∀ ds : List PyData, (PyData.shownAll ds).length = ds.length
  | [] => rfl
  | d :: ds => by rw [PyData.shownAll, List.length_cons, List.length_cons, shownAll_len ds]
mutual
theorem toD_ok {b : Nat} : ∀ w : W, okW b w = true → ∃ D, toD w = some D ∧ (b < 1920 → D.showable = true) ∧ D.shown.length ≤ wt w ∧ D.depth ≤ w.dep
  | .a .non, h => ⟨_, rfl, fun _ => rfl, by decide +kernel, Nat.le_refl _⟩
  | .a (.bl true), h => ⟨_, rfl, fun _ => rfl, by decide +kernel, Nat.le_refl _⟩
  | .a (.bl false), h => ⟨_, rfl, fun _ => rfl, by decide +kernel, Nat.le_refl _⟩
  | .a (.int i), h => ⟨_, rfl, fun hb => decide_eq_true (by have h : i.natAbs.log2 ≤ b := of_decide_eq_true h; omega), int_len i, Nat.le_refl _⟩
  | .a (.str s), h => ⟨_, rfl, fun _ => rfl, okS_repr h, Nat.le_refl _⟩
  | .a .opq, h => by cases h
  | .a .dead, h => by cases h
  | .n k xs, h => by
    simp only [okW, Bool.and_eq_true] at h
    obtain ⟨hk, hx⟩ := h
    obtain ⟨ds, e, s1, s2, s3, s4⟩ := toDL_ok xs hx
    have sl := shownAll_len ds
    cases k with
    | tup =>
      refine ⟨.tuple ds, by simp only [toD, e], s1, ?_, by simp only [PyData.depth, W.dep]; omega⟩
      have := tupleText_len_le (PyData.shownAll ds)
      simp only [PyData.shown, wt, kdWt]
      omega
    | lst m =>
      refine ⟨.list ds, by simp only [toD, e], s1, ?_, by simp only [PyData.depth, W.dep]; omega⟩
      have := listText_len_le (PyData.shownAll ds)
      simp only [PyData.shown, wt, kdWt]
      omega
    | dct m ks =>
      simp only [okKd, Bool.and_eq_true, decide_eq_true_eq] at hk
      have hl : ks.length = ds.length := by omega
      obtain ⟨r1, r2, r3, r4⟩ := kv_ok hl hk.2 (by
        by_cases hb : b < 1920
        · exact .inl (s1 hb)
        · exact .inr hb)
      refine ⟨.dict ((ks.map kD).zip ds), by simp only [toD, e, hl, if_true], r1, ?_, by simp only [PyData.depth, W.dep]; omega⟩
      have := dictText_len_le (PyData.shownKv ((ks.map kD).zip ds))
      simp only [PyData.shown, wt, kdWt]
      omega
    | ro => cases hk
theorem toDL_ok {b : Nat} : ∀ ws : List W, okL b ws = true → ∃ ds, toDL ws = some ds ∧ (b < 1920 → PyData.showableAll ds = true) ∧ ((PyData.shownAll ds).map (·.length)).sum + 2 * ds.length ≤ wtL ws ∧ PyData.depthAll ds ≤ depL ws ∧ ds.length = ws.length
  | [], h => ⟨[], rfl, fun _ => rfl, Nat.le_refl _, Nat.le_refl _, rfl⟩
  | x :: xs, h => by
    simp only [okL, Bool.and_eq_true] at h
    obtain ⟨D, e, a1, a2, a3⟩ := toD_ok x h.1
    obtain ⟨ds, e', b1, b2, b3, b4⟩ := toDL_ok xs h.2
    refine ⟨D :: ds, by simp only [toDL, e, e'], fun hb => ?_, ?_, ?_, ?_⟩
    · rw [PyData.showableAll, a1 hb, b1 hb]; rfl
    · simp only [PyData.shownAll, List.map_cons, List.sum_cons, List.length_cons, wtL]; omega
    · simp only [PyData.depthAll, depL]; omega
    · simp only [List.length_cons, b4]
end
theorem reprW_good {d s b : Nat} {w : W} (h : Good d s b w) (hd : d ≤ 60) (hs : s ≤ sizeLine) (hb : b < 1920) : ∃ t, reprW w = some t := by
  obtain ⟨D, e, a1, a2, a3⟩ := toD_ok w h.ok
  have := h.dep
  have := h.wt
  refine ⟨D.shown, ?_⟩
  unfold reprW
  rw [e]
  have c2 : D.shown.length ≤ sizeLine := by omega
  have c3 : D.depth ≤ 60 := by omega
  simp only [a1 hb, decide_eq_true c2, decide_eq_true c3, Bool.and_self, if_true]
/-! ### sameness of good things -/
end Lin.Ab

set_option Elab.async false
set_option linter.all false
set_option maxRecDepth 100000
set_option maxHeartbeats 4000000
/-! Ab, part O: a law as a whole; a def whose ways are gone one by one. -/
namespace Lin.Ab
open PySem L2
theorem resC_fz {ρ : Lin.Env} {i : Nat} {w : W} (h : at? ρ i = some w) (hf : w.fz = true) : resC (.al i) ρ = some w := by
  unfold resC
  simp only [h]
  cases w with
  | a x => rfl
  | n k xs =>
    simp only [W.fz, Bool.and_eq_true] at hf
    exact if_pos hf.2
theorem callv {cl : Nat → List W → Option (List W × W)} {ρ : Lin.Env} {i f : Nat} {w r : W} (h : at? ρ i = some w) (hf : w.fz = true) (hc : cl f [w] = some ([w], r)) (md : Md) : evm cl (.call f [.var i]) md ρ = fin md r ρ := by
  simp only [evm, opL, h, takeA, hf, if_true, hc, putA, Option.isSome_some]
/-- a loop that keeps what holds -/
theorem loop_inv {f : W → Lin.Env → Option (Out × Lin.Env)} {I : Lin.Env → Prop} : ∀ (ws : List W), (∀ w ∈ ws, ∀ ρ, I ρ → ∃ ρ', f w ρ = some (.nx, ρ') ∧ I ρ') → ∀ ρ, I ρ → ∃ ρ', loopF f ws ρ = some (.nx, ρ') ∧ I ρ'
  | [], h, ρ, hr => ⟨ρ, rfl, hr⟩
  | w :: ws, h, ρ, hr => by
    obtain ⟨ρ1, e1, h1⟩ := h w List.mem_cons_self ρ hr
    obtain ⟨ρ2, e2, h2⟩ := loop_inv ws (fun v hv => h v (List.mem_cons_of_mem _ hv)) ρ1 h1
    exact ⟨ρ2, by simp only [loopF, e1, e2], h2⟩
/-- the law's bag -/
def fBag : Fn := ⟨1, 2, [0], [.ret (.lst [.k (.int 0), .k (.int 1234567891), .k (.int 0), .frz (.comp (.bi .abs [.var 1]) (.nm 1) .seq [.slice (.var 0) none (some (.k (.int 63)))] none [1])])]⟩
theorem bag_ok {tab : List Fn} {iB : Nat} (hB : tab[iB]? = some fBag) {ns : List Int} (h : ns.length ≤ 63) (m : Nat) : Lin.run tab (m + 1) iB [scriptW ns] = some ([scriptW ns], bag 0 1234567891 0 (ns.map fun i => if i < 0 then -i else i)) := by
  have go : ∀ (xs : List Int) (acc : List W) (S : W), acc.length + xs.length ≤ sizeLine → loopC [1] (stepC (Lin.run tab m) (.bi .abs [.var 1]) (.nm 1) none) (xs.map fun i => W.a (.int i)) acc [S, .a .dead] = some (acc ++ iws (xs.map fun i => if i < 0 then -i else i), [S, .a .dead]) := by
    intro xs
    induction xs with
    | nil => intro acc S _; simp [loopC, iws]
    | cons x xs ih =>
      intro acc S hl
      rw [List.length_cons] at hl
      have e : stepC (Lin.run tab m) (.bi .abs [.var 1]) (.nm 1) none (.a (.int x)) [S, .a .dead] = some (some (.a (.int (if x < 0 then -x else x))), [S, .a (.int x)]) := rfl
      rw [List.map_cons, loopC, e]
      simp only
      rw [if_pos (by omega), show wipeW [S, .a (.int x)] [1] = [S, .a .dead] from rfl, ih _ S (by simp; omega)]
      simp [iws]
  have hsl : sliceW (scriptW ns) none (some 63) = some (.n (.lst true) (ns.map fun i => W.a (.int i))) := by
    show some (W.n (.lst true) (cutL (ns.map fun n => W.a (.int n)) none (some 63))) = _
    have : cutL (ns.map fun n => W.a (.int n)) none (some 63) = ns.map fun n => W.a (.int n) := by
      unfold cutL
      show ((ns.map fun n => W.a (.int n)).drop 0).take (HT.sIx (ns.map fun n => W.a (.int n)).length (ns.map fun n => W.a (.int n)).length (some 63) - 0) = _
      have e : HT.sIx (ns.map fun n => W.a (.int n)).length (ns.map fun n => W.a (.int n)).length (some 63) = ns.length := by
        have q := HT.sIx_nat (ns.map fun n => W.a (.int n)).length (ns.map fun n => W.a (.int n)).length 63
        rw [List.length_map] at q ⊢
        exact q.trans (Nat.min_eq_right h)
      rw [e, List.drop_zero, Nat.sub_zero]
      exact List.take_of_length_le (by simp)
    rw [this]
  have hz : fzL (ns.map fun n => W.a (.int n)) = true := fzL_iws ns
  have hal : (scriptW ns).alive = true := rfl
  have hres : resC (.al 0) [scriptW ns, .a .dead] = some (scriptW ns) := resC_fz (by unfold at?; rfl) (by show (true && _) = true; rw [hz]; rfl)
  have hsrc : evL (Lin.run tab m) [.slice (.var 0) none (some (.k (.int 63)))] [scriptW ns, .a .dead] = some ([.n (.lst true) (ns.map fun i => W.a (.int i))], [scriptW ns, .a .dead]) := by
    rw [evL_ns rfl]
    have : evm (Lin.run tab m) (.slice (.var 0) none (some (.k (.int 63)))) .val [scriptW ns, .a .dead] = some (.tm (.n (.lst true) (ns.map fun i => W.a (.int i))), [scriptW ns, .a .dead]) := by
      have h0 : at? [scriptW ns, .a .dead] 0 = some (scriptW ns) := rfl
      simp only [evm, evO, h0, At.plain, if_true, fin, hres, hsl]
    rw [this]
    simp only [evL]
  have hcomp : evm (Lin.run tab m) (.comp (.bi .abs [.var 1]) (.nm 1) .seq [.slice (.var 0) none (some (.k (.int 63)))] none [1]) .val [scriptW ns, .a .dead] = some (.tm (.n (.lst true) (iws (ns.map fun i => if i < 0 then -i else i))), [scriptW ns, .a .dead]) := by
    rw [evm_comp, hsrc]
    have e2 : srcW .seq (frzL [.n (.lst true) (ns.map fun i => W.a (.int i))]) = some (ns.map fun i => W.a (.int i)) := by
      show some (frzL (ns.map fun i => W.a (.int i))) = _
      rw [Ab.frzL_fzW hz]
    simp only [e2]
    have h64 : ns.length ≤ sizeLine := Nat.le_trans h (by decide)
    rw [show wipeW [scriptW ns, .a .dead] [1] = [scriptW ns, .a .dead] from rfl, go ns [] _ (by simpa using h64)]
    rfl
  rw [run_at hB rfl (by decide)]
  have hfrz : (W.n (.lst true) (iws (ns.map fun i => if i < 0 then -i else i))).frz = .n (.lst false) (iws (ns.map fun i => if i < 0 then -i else i)) := by
    simp only [W.frz, Kd.frz, Ab.frzL_fzW (fzL_iws _)]
  have z4 : (4 ≤ sizeLine) := by decide
  have k0 : ∀ (i : Int) ρ, evm (Lin.run tab m) (.k (.int i)) .val ρ = some (.tm (.a (.int i)), ρ) := fun i ρ => rfl
  have k3 : evm (Lin.run tab m) (.frz (.comp (.bi .abs [.var 1]) (.nm 1) .seq [.slice (.var 0) none (some (.k (.int 63)))] none [1])) .val [scriptW ns, .a .dead] = some (.tm (.n (.lst false) (iws (ns.map fun i => if i < 0 then -i else i))), [scriptW ns, .a .dead]) := by
    rw [show ∀ e ρ, evm (Lin.run tab m) (.frz e) .val ρ = (match evm (Lin.run tab m) e .val ρ with
      | some (.tm w, ρ1) => fin .val w.frz ρ1
      | _ => none) from fun e ρ => rfl, hcomp]
    simp only [hfrz, fin]
  have eL : evL (Lin.run tab m) [.k (.int 0), .k (.int 1234567891), .k (.int 0), .frz (.comp (.bi .abs [.var 1]) (.nm 1) .seq [.slice (.var 0) none (some (.k (.int 63)))] none [1])] [scriptW ns, .a .dead] = some ([.a (.int 0), .a (.int 1234567891), .a (.int 0), .n (.lst false) (iws (ns.map fun i => if i < 0 then -i else i))], [scriptW ns, .a .dead]) := by
    rw [evL_ns rfl, k0]
    simp only
    rw [evL_ns rfl, k0]
    simp only
    rw [evL_ns rfl, k0]
    simp only
    rw [evL_ns rfl, k3]
    simp only [evL]
  have el : evm (Lin.run tab m) (.lst [.k (.int 0), .k (.int 1234567891), .k (.int 0), .frz (.comp (.bi .abs [.var 1]) (.nm 1) .seq [.slice (.var 0) none (some (.k (.int 63)))] none [1])]) .val [scriptW ns, .a .dead] = some (.tm (bag 0 1234567891 0 (ns.map fun i => if i < 0 then -i else i)), [scriptW ns, .a .dead]) := by
    rw [show ∀ es ρ, evm (Lin.run tab m) (.lst es) .val ρ = (match evL (Lin.run tab m) es ρ with
      | some (ws, ρ1) => if ws.length ≤ sizeLine then fin .val (.n (.lst true) ws) ρ1 else none
      | none => none) from fun es ρ => rfl, eL]
    exact if_pos z4
  have e : exs (Lin.run tab m) fBag.body ([scriptW ns] ++ List.replicate (fBag.ns - fBag.np) (.a .dead)) = some (.rt (bag 0 1234567891 0 (ns.map fun i => if i < 0 then -i else i)), [scriptW ns, .a .dead]) := exs_rt (ret_v el)
  rw [e]
  rfl

/-- what is behind the bag, run -/
def chkRest (pm : Kd → List AV → AV) (P : Tr) (N ns : Nat) (rest : List Sm) : Bool := match aSs (aS (aE P pm N) N N) rest (.top :: .bg :: List.replicate (ns - 2) .dead) with
  | some R => R.nx.isNone && R.bk.isNone && R.ct.isNone && (match R.rt with
    | some (a, _) => leA a (.fin [.a (.bl true)])
    | none => false)
  | none => false
theorem law_glue {π : Nat → W → Prop} {tab : List Fn} {iB iL N m n : Nat} {F : Fn} {rest : List Sm} {pm : Kd → List AV → AV} {P : Tr} (hB : tab[iB]? = some fBag) (hF : tab[iL]? = some F) (hnp : F.np = 1) (hns : F.ns = n + 2) (hb : F.body = .set (.nm 1) (.call iB [.var 0]) :: rest)
    (hp : ∀ bag, PmOk π bag pm) (hP : ∀ l : List Int, l.length ≤ 63 → POk π (Bg l) (Lin.run tab (m + 1)) P) (hc : chkRest pm P N (n + 2) rest = true) : ∀ ns : List Int, ns.length ≤ 63 → ∃ ws', Lin.run tab (m + 2) iL [scriptW ns] = some (ws', .a (.bl true)) := by
  intro ns hn
  have hl : (ns.map fun i => if i < 0 then -i else i).length ≤ 63 := by rw [List.length_map]; exact hn
  have hbg : Bg (ns.map fun i => if i < 0 then -i else i) (bag 0 1234567891 0 (ns.map fun i => if i < 0 then -i else i)) := ⟨0, 1234567891, 0, by decide, by decide, rfl⟩
  have hS : (scriptW ns).fz = true := by
    show (true && fzL (ns.map fun n => W.a (.int n))) = true
    rw [show fzL (ns.map fun n => W.a (.int n)) = true from fzL_iws ns]; rfl
  have s1 : exm (Lin.run tab (m + 1)) (.set (.nm 1) (.call iB [.var 0])) (scriptW ns :: .a .dead :: List.replicate n (.a .dead)) = some (.nx, scriptW ns :: bag 0 1234567891 0 (ns.map fun i => if i < 0 then -i else i) :: List.replicate n (.a .dead)) := by
    have e := callv (cl := Lin.run tab (m + 1)) (ρ := scriptW ns :: .a .dead :: List.replicate n (.a .dead)) (i := 0) rfl hS (bag_ok hB hn m) .val
    simp only [exm, e, fin, bindT]
    rfl
  unfold chkRest at hc
  split at hc
  · rename_i R e
    simp only [Bool.and_eq_true, Option.isNone_iff_eq_none] at hc
    obtain ⟨⟨⟨c1, c2⟩, c3⟩, c4⟩ := hc
    have hr : gmL π (Bg (ns.map fun i => if i < 0 then -i else i)) (.top :: .bg :: List.replicate (n + 2 - 2) .dead) (scriptW ns :: bag 0 1234567891 0 (ns.map fun i => if i < 0 then -i else i) :: List.replicate n (.a .dead)) := ⟨_, _, rfl, trivial, _, _, rfl, hbg, gmL_dead n⟩
    obtain ⟨o, ρ', g1, g2⟩ := aSs_ok (aS_ok (bagOk _) (aE_ok (bagOk _) (hP _ hl) (hp _) N) N N) e hr
    cases o with
    | nx => obtain ⟨_, q, _⟩ := g2; rw [c1] at q; cases q
    | bk => obtain ⟨_, q, _⟩ := g2; rw [c2] at q; cases q
    | ct => obtain ⟨_, q, _⟩ := g2; rw [c3] at q; cases q
    | rt w =>
      obtain ⟨a, A, q, q1, _⟩ := g2
      rw [q] at c4
      have hw : w = .a (.bl true) := exW_ok (.fin [.a (.bl true)]) rfl (leA_ok c4 q1)
      subst hw
      refine ⟨backs F.np F.keep ρ', (run_at hF (by rw [hnp]; rfl) (by omega)).trans ?_⟩
      have e3 : exs (Lin.run tab (m + 1)) F.body ([scriptW ns] ++ List.replicate (F.ns - F.np) (.a .dead)) = some (.rt (.a (.bl true)), ρ') := by
        rw [hb, hnp, hns]
        exact exs_c s1 g1
      rw [e3]
  · cases hc
/-! ### a def whose ways are gone one by one -/
theorem exs_app {cl : Nat → List W → Option (List W × W)} : ∀ (a b : List Sm) (ρ : Env), exs cl (a ++ b) ρ = match exs cl a ρ with
    | some (.nx, ρ1) => exs cl b ρ1
    | r => r
  | [], b, ρ => by simp [exs]
  | s :: a, b, ρ => by
    rw [List.cons_append]
    simp only [exs]
    cases e : exm cl s ρ with
    | none => rfl
    | some p =>
      obtain ⟨o, ρ1⟩ := p
      cases o with
      | nx => simp only []; exact exs_app a b ρ1
      | _ => rfl
def chkSp (pm : Kd → List AV → AV) (P : Tr) (N k j : Nat) (F : Fn) (as as' : List AV) (r : AV) : Bool := decide (as.length = F.np) && decide (F.np ≤ F.ns) && match aSs (aS (aE P pm N) N N) (F.body.take k) (as ++ List.replicate (F.ns - F.np) .dead) with
  | some R => R.rt.isNone && R.bk.isNone && R.ct.isNone && (match R.nx with
    | some A => (match A[j]? with
      | some (.fin ws) => ws.all fun w => (match aSs (aS (aE P pm N) N N) (F.body.drop k) (A.set j (.fin [w])) with
        | some R' => R'.nx.isNone && R'.bk.isNone && R'.ct.isNone && (match R'.rt with
          | some (a, A') => leA a r && leE (bkA (fun i => decide (i ∈ F.keep)) F.np A') as'
          | none => false)
        | none => false)
      | _ => false)
    | none => false)
  | none => false
theorem gmL_sp {π : Nat → W → Prop} {bag : W → Prop} {A : AEnv} {ρ : List W} {j : Nat} {ws : List W} (h : gmL π bag A ρ) (e : A[j]? = some (.fin ws)) : ∃ w ∈ ws, gmL π bag (A.set j (.fin [w])) ρ := by
  obtain ⟨w, g1, g2⟩ := gmL_get h e
  exact ⟨w, g2.1, gmL_setS h g1 ⟨List.mem_singleton.mpr rfl, g2.2⟩⟩
theorem chkSp_ok {π : Nat → W → Prop} {bag : W → Prop} (B : BagOk bag) {pm : Kd → List AV → AV} (hp : PmOk π bag pm) {tab : List Fn} {P : Tr} {m N k j f : Nat} {F : Fn} (hF : tab[f]? = some F) (hP : POk π bag (Lin.run tab m) P) {as as' : List AV} {r : AV} (h : chkSp pm P N k j F as as' r = true) (ws : List W) (hw : gmL π bag as ws) :
    ∃ ws' w, Lin.run tab (m + 1) f ws = some (ws', w) ∧ gmL π bag as' ws' ∧ gm π bag r w := by
  unfold chkSp at h
  simp only [Bool.and_eq_true, decide_eq_true_eq] at h
  obtain ⟨⟨h1, h2⟩, h⟩ := h
  split at h
  · rename_i R e1
    simp only [Bool.and_eq_true, Option.isNone_iff_eq_none] at h
    obtain ⟨⟨⟨c1, c2⟩, c3⟩, h⟩ := h
    split at h
    · rename_i A e2
      split at h
      · rename_i vs e3
        have hr : gmL π bag (as ++ List.replicate (F.ns - F.np) .dead) (ws ++ List.replicate (F.ns - F.np) (.a .dead)) := gmL_append hw (gmL_dead _)
        obtain ⟨o, ρ', g1, g2⟩ := aSs_ok (aS_ok B (aE_ok B hP hp N) N N) e1 hr
        cases o with
        | rt w => obtain ⟨_, _, q, _⟩ := g2; rw [c1] at q; cases q
        | bk => obtain ⟨_, q, _⟩ := g2; rw [c2] at q; cases q
        | ct => obtain ⟨_, q, _⟩ := g2; rw [c3] at q; cases q
        | nx =>
          obtain ⟨A', q, q1⟩ := g2
          rw [e2] at q
          cases q
          obtain ⟨w, hm, g3⟩ := gmL_sp q1 e3
          have h := List.all_eq_true.mp h w hm
          split at h
          · rename_i R' e4
            simp only [Bool.and_eq_true, Option.isNone_iff_eq_none] at h
            obtain ⟨⟨⟨d1, d2⟩, d3⟩, h⟩ := h
            obtain ⟨o, ρ2, g4, g5⟩ := aSs_ok (aS_ok B (aE_ok B hP hp N) N N) e4 g3
            cases o with
            | nx => obtain ⟨_, q, _⟩ := g5; rw [d1] at q; cases q
            | bk => obtain ⟨_, q, _⟩ := g5; rw [d2] at q; cases q
            | ct => obtain ⟨_, q, _⟩ := g5; rw [d3] at q; cases q
            | rt x =>
              obtain ⟨a, A2, q, q2, q3⟩ := g5
              rw [q] at h
              simp only [Bool.and_eq_true] at h
              have e5 : exs (Lin.run tab m) F.body (ws ++ List.replicate (F.ns - F.np) (.a .dead)) = some (.rt x, ρ2) := by
                rw [← List.take_append_drop k F.body, exs_app, g1]
                exact g4
              refine ⟨backs F.np F.keep ρ2, x, (run_at hF (by rw [gmL_len hw]; exact h1) h2).trans (by rw [e5]), leE_ok h.2 (bkA_ok q3), leA_ok h.1 q2⟩
          · cases h
      · cases h
    · cases h
  · cases h
/-! ### the leaf of something otherwise, thing by thing -/
theorem leaf_cases {l : List Int} {tab : List Fn} {V : BV} {pm : Kd → List AV → AV} {π : Nat → W → Prop} (hp : PmOk π (Bg l) pm) {P : Tr} {N m D s b d s' b' : Nat} (hP : POk π (Bg l) (Lin.run tab m) P) (h1 : chkLf pm P N V.leaf (.str 0 (s / 10)) V.u d s' b' = true)
    (h2 : chkLf pm P N V.leaf (.int (-(2 ^ (b + 1))) (2 ^ (b + 1))) V.u d s' b' = true) (h3 : chkLf pm P N V.leaf (.fin [.a (.bl true), .a (.bl false)]) V.u d s' b' = true)
    (h4 : ∀ t : W, Good D s b t → (t = .a .non ∨ ∃ k xs, t = .n k xs) → LeafOk V (Lin.run tab m) l t (Good d s' b')) : ∀ t, Good D s b t → LeafOk V (Lin.run tab m) l t (Good d s' b') := fun t ht => by
  match t, ht with
  | .a .non, ht => exact h4 _ ht (.inl rfl)
  | .a (.bl x), ht => exact chkLf_ok hp hP h3 ⟨by cases x <;> simp, rfl, rfl⟩
  | .a (.int i), ht =>
    refine chkLf_ok hp hP h2 ⟨i, rfl, ?_⟩
    have q : i.natAbs.log2 ≤ b := of_decide_eq_true ht.ok
    have q2 : i.natAbs < 2 ^ (b + 1) := by
      by_cases h : i.natAbs = 0
      · rw [h]; exact Nat.two_pow_pos _
      · exact (Nat.log2_lt h).mp (by omega)
    have e : ((2 ^ (b + 1) : Nat) : Int) = (2 : Int) ^ (b + 1) := by push_cast; rfl
    rw [← e]
    omega
  | .a (.str z), ht =>
    refine chkLf_ok hp hP h1 ⟨z, rfl, Nat.zero_le _, ?_, ht.ok⟩
    have := ht.wt
    simp only [wt] at this
    omega
  | .a .opq, ht => exact absurd ht.ok (by simp [okW])
  | .a .dead, ht => exact absurd ht.ok (by simp [okW])
  | .n k xs, ht => exact h4 _ ht (.inr ⟨k, xs, rfl⟩)
end Lin.Ab

set_option Elab.async false
set_option linter.all false
set_option maxRecDepth 100000
set_option maxHeartbeats 4000000
/-! Pu, part A: what is asked of frozen things changes nothing: the language without an environment that is written to. -/
namespace Lin.Pu
open PySem L2 Lin
def pfin (md : Md) (w : W) : Option W := match md with
  | .tst => (match tru w with
    | some b => some (.a (.bl b))
    | none => none)
  | _ => some w
def cutF (w : W) : Option W := match w with
  | .n k xs => if fzL xs then some (.n k xs) else none
  | w => some w
def cutFs : List W → Option (List W)
  | [] => some []
  | w :: ws => match cutF w, cutFs ws with
    | some v, some vs => some (v :: vs)
    | _, _ => none
/-- a comprehension's loop -/
def pC (f : W → Option (Option W)) : List W → Option (List W)
  | [] => some []
  | w :: ws => match f w with
    | none => none
    | some none => pC f ws
    | some (some x) => match pC f ws with
      | some xs => some (x :: xs)
      | none => none
def deadAt (ρ : Env) (own : List Nat) : Bool := own.all fun i => match ρ[i]? with
  | some (.a .dead) => true
  | _ => false
def mtPure : Mt → Bool
  | .get | .split | .upper | .join => true
  | _ => false
section
variable (cl : Nat → List W → Option W)
mutual
def pM : Ex → Md → Env → Option W
  | .k x, md, ρ => if x.plain then pfin md (.a x) else none
  | .var i, md, ρ => match at? ρ i with
    | none => none
    | some w => match md with
      | .val => if w.fz then some w else none
      | .opr => some w
      | .tst => pfin .tst w
  | .glob w, md, ρ => pfin md w
  | .bin op a b, md, ρ => match pM a .val ρ with
    | some x => match pM b .val ρ with
      | some y => match binW op x.frzIn y.frzIn with
        | some w => pfin md w
        | none => none
      | none => none
    | none => none
  | .neg a, md, ρ => match pM a .val ρ with
    | some (.a (.int i)) => pfin md (.a (.int (-i)))
    | _ => none
  | .not a, md, ρ => match md with
    | .tst => match pM a .tst ρ with
      | some (.a (.bl b)) => some (.a (.bl !b))
      | _ => none
    | _ => match pM a .opr ρ with
      | some w => match tru w with
        | some b => some (.a (.bl !b))
        | none => none
      | none => none
  | .and a b, md, ρ => match md with
    | .tst => match pM a .tst ρ with
      | some (.a (.bl true)) => pM b .tst ρ
      | some (.a (.bl false)) => some (.a (.bl false))
      | _ => none
    | _ => match pM a .val ρ with
      | some w => match tru w with
        | some true => pM b .val ρ
        | some false => some w
        | none => none
      | none => none
  | .or a b, md, ρ => match md with
    | .tst => match pM a .tst ρ with
      | some (.a (.bl true)) => some (.a (.bl true))
      | some (.a (.bl false)) => pM b .tst ρ
      | _ => none
    | _ => match pM a .val ρ with
      | some w => match tru w with
        | some true => some w
        | some false => pM b .val ρ
        | none => none
      | none => none
  | .cmp op a b, md, ρ => match pM a .opr ρ with
    | some x => match pM b .opr ρ with
      | some y => match cmpW op x y with
        | some c => pfin md (.a (.bl c))
        | none => none
      | none => none
    | none => none
  | .chain op op' a b c, md, ρ => match pM a .val ρ with
    | some (.a (.int x)) => match pM b .val ρ with
      | some (.a (.int y)) => match cmpI op x y with
        | some false => pfin md (.a (.bl false))
        | some true => match pM c .val ρ with
          | some (.a (.int z)) => match cmpI op' y z with
            | some d => pfin md (.a (.bl d))
            | none => none
          | _ => none
        | none => none
      | _ => none
    | _ => none
  | .ite c a b, md, ρ => match md with
    | .tst => none
    | _ => match pM c .tst ρ with
      | some (.a (.bl true)) => pM a .val ρ
      | some (.a (.bl false)) => pM b .val ρ
      | _ => none
  | .sub a i, md, ρ => match pM a .opr ρ with
    | some x0 => match pM i .opr ρ with
      | some y => match cutF x0 with
        | some x => match subW x y with
          | some w => pfin md w
          | none => none
        | none => none
      | none => none
    | none => none
  | .slice a lo hi, md, ρ => match pM a .opr ρ with
    | some x0 => match pO lo ρ with
      | some l => match pO hi ρ with
        | some h => match cutF x0 with
          | some x => match sliceW x l h with
            | some w => pfin md w
            | none => none
          | none => none
        | none => none
      | none => none
    | none => none
  | .tup es, md, ρ => match pL es ρ with
    | some ws => if ws.length ≤ sizeLine then pfin md (.n .tup ws) else none
    | none => none
  | .lst es, md, ρ => match pL es ρ with
    | some ws => if ws.length ≤ sizeLine then pfin md (.n (.lst true) ws) else none
    | none => none
  | .comp elt t s src test own, md, ρ => if deadAt ρ own && (tgs t).all (fun i => decide (i ∈ own)) then match pL src ρ with
    | none => none
    | some ws => match srcW s (frzL ws) with
      | none => none
      | some items => if items.length ≤ sizeLine then match pC (fun w => match bindT t w ρ with
          | none => none
          | some ρ2 => match pT test ρ2 with
            | none => none
            | some false => some none
            | some true => match pM elt .val ρ2 with
              | some x => some (some x)
              | none => none) items with
        | none => none
        | some acc => pfin md (.n (.lst true) acc)
        else none
    else none
  | .call f es, md, ρ => match pOs es ρ with
    | none => none
    | some ws => if fzL ws then match cl f ws with
      | none => none
      | some r => pfin md r
      else none
  | .bi b es, md, ρ => match pOs es ρ with
    | none => none
    | some os => match cutFs os with
      | none => none
      | some ws => match biW b ws with
        | some w => pfin md w
        | none => none
  | .isi a tys, md, ρ => match pM a .opr ρ with
    | some w => match isTys w tys with
      | some b => pfin md (.a (.bl b))
      | none => none
    | none => none
  | .meth m o es, md, ρ => if mtPure m then match pM o .opr ρ with
      | some w => if mtOk m w then match pL es ρ with
        | some ws => match mtW m w ws with
          | some (r, _) => pfin md r
          | none => none
        | none => none
        else none
      | none => none
    else none
  | .frz a, md, ρ => match pM a .val ρ with
    | some w => pfin md w.frz
    | none => none
  | .eqs a s, md, ρ => match pM a .opr ρ with
    | some w => match eqO w s with
      | some b => pfin md (.a (.bl b))
      | none => none
    | none => none
  | .dcs ks vs, md, ρ => if ks.length = vs.length ∧ ks.Nodup then pfin md (.n (.dct true (ks.map .inr)) (vs.map fun s => .a (.str s))) else none
  | .inK no a ks, md, ρ => match pM a .opr ρ with
    | some (.a (.str s)) => pfin md (.a (.bl (decide (s ∈ ks) != no)))
    | _ => none
  | .subK a ks ws, md, ρ => match pM a .opr ρ with
    | some (.a (.str s)) => match lookK (.inr s) (ks.map .inr) ws with
      | some w => pfin md w
      | none => none
    | _ => none
  | .tupK ks, md, ρ => pfin md (.n .tup (ks.map fun s => .a (.str s)))
  | .isb no a b, md, ρ => match pM a .val ρ with
    | some x => match pM b .val ρ with
      | some y => match blW x, blW y with
        | some p, some q => pfin md (.a (.bl ((p == q) != no)))
        | _, _ => none
      | none => none
    | none => none
  | _, _, _ => none
def pL : List Ex → Env → Option (List W)
  | [], ρ => some []
  | e :: es, ρ => match Ab.noSt e with
    | false => none
    | true => match pM e .val ρ with
      | some w => match pL es ρ with
        | some ws => some (w :: ws)
        | none => none
      | none => none
def pO : Option Ex → Env → Option (Option Int)
  | none, ρ => some none
  | some e, ρ => match pM e .val ρ with
    | some (.a (.int i)) => some (some i)
    | _ => none
def pT : Option Ex → Env → Option Bool
  | none, ρ => some true
  | some e, ρ => match pM e .tst ρ with
    | some (.a (.bl b)) => some b
    | _ => none
def pOs : List Ex → Env → Option (List W)
  | [], ρ => some []
  | e :: es, ρ => match pM e .opr ρ with
    | some w => match pOs es ρ with
      | some ws => some (w :: ws)
      | none => none
    | none => none
end
end
end Lin.Pu

set_option Elab.async false
set_option linter.all false
set_option maxRecDepth 100000
set_option maxHeartbeats 4000000
/-! Pu, part B: it tells what the evaluator tells. -/
namespace Lin.Pu
open PySem L2 Lin
def Opd (ρ : Env) (o : Od) (w : W) : Prop := o = .tm w ∨ ∃ i, o = .al i ∧ at? ρ i = some w
def OsR (ρ : Env) : List Od → List W → Prop
  | [], ws => ws = []
  | o :: os, ws => ∃ w ws', ws = w :: ws' ∧ Opd ρ o w ∧ OsR ρ os ws'
def Ok (cl : Nat → List W → Option (List W × W)) (e : Ex) (md : Md) (ρ : Env) (w : W) : Prop := match md with
  | .val => evm cl e .val ρ = some (.tm w, ρ)
  | .opr => ∃ o, evm cl e .opr ρ = some (o, ρ) ∧ Opd ρ o w
  | .tst => ∃ b, w = .a (.bl b) ∧ evm cl e .tst ρ = some (.bo b, ρ)
theorem Opd.res {ρ : Env} {o : Od} {w : W} (h : Opd ρ o w) : res o ρ = some w := by
  rcases h with rfl | ⟨i, rfl, h⟩
  · rfl
  · exact h
theorem cutF_fz {w v : W} (h : cutF w = some v) : v = w ∧ w.frzIn = w := by
  cases w with
  | a x => cases h; exact ⟨rfl, rfl⟩
  | n k xs =>
    simp only [cutF] at h
    split at h
    · rename_i c
      cases h
      exact ⟨rfl, by simp only [W.frzIn, Ab.frzL_fzW c]⟩
    · cases h
theorem Opd.resC {ρ : Env} {o : Od} {w v : W} (h : Opd ρ o w) (c : cutF w = some v) : Lin.resC o ρ = some v := by
  obtain ⟨rfl, hf⟩ := cutF_fz c
  rcases h with rfl | ⟨i, rfl, h⟩
  · show some v.frzIn = _
    rw [hf]
  · unfold Lin.resC
    simp only [h]
    cases v with
    | a x => rfl
    | n k xs =>
      simp only [cutF] at c
      split at c
      · rename_i c2; simp only [c2, if_true]
      · cases c
theorem okFin {cl : Nat → List W → Option (List W × W)} {e : Ex} {md : Md} {ρ : Env} {w v : W} (h : evm cl e md ρ = fin md w ρ) (p : pfin md w = some v) : Ok cl e md ρ v := by
  cases md with
  | val => cases p; exact h
  | opr => cases p; exact ⟨_, h, .inl rfl⟩
  | tst =>
    simp only [pfin] at p
    split at p
    · rename_i b hb
      cases p
      exact ⟨b, rfl, by rw [h]; simp only [fin, hb]⟩
    · cases p
theorem take_ok {ρ : Env} : ∀ {os : List Od} {ws : List W}, OsR ρ os ws → fzL ws = true → takeA os ρ = some (ws, ρ)
  | [], ws, h, _ => by rw [show ws = [] from h]; rfl
  | o :: os, ws, h, f => by
    obtain ⟨w, ws', rfl, h1, h2⟩ := h
    simp only [fzL, Bool.and_eq_true] at f
    have ih := take_ok h2 f.2
    rcases h1 with rfl | ⟨i, rfl, h1⟩
    · simp only [takeA, ih]
    · simp only [takeA, h1, f.1, if_true, ih]
theorem put_ok {ρ : Env} : ∀ {os : List Od} {ws : List W} (us : List W), OsR ρ os ws → putA os us ρ = ρ
  | [], ws, us, h => by cases us <;> rfl
  | o :: os, ws, [], h => by cases o <;> rfl
  | o :: os, ws, u :: us, h => by
    obtain ⟨w, ws', rfl, h1, h2⟩ := h
    have ih := put_ok us h2
    rcases h1 with rfl | ⟨i, rfl, h1⟩
    · exact ih
    · simp only [putA, h1, Option.isSome_some, if_true]
      exact ih
theorem resL_of {ρ : Env} : ∀ {os : List Od} {ws vs : List W}, OsR ρ os ws → cutFs ws = some vs → resL os ρ = some vs
  | [], ws, vs, h, c => by rw [show ws = [] from h] at c; cases c; rfl
  | o :: os, ws, vs, h, c => by
    obtain ⟨w, ws', rfl, h1, h2⟩ := h
    simp only [cutFs] at c
    split at c
    · rename_i v vs' e1 e2
      cases c
      simp only [resL, h1.resC e1, resL_of h2 e2]
    · cases c
theorem set_same {ρ : Env} {i : Nat} {w : W} (h : at? ρ i = some w) : ρ.set i w = ρ := by
  unfold at? at h
  split at h
  · rename_i v e
    split at h
    · cases h
      exact List.ext_getElem? fun j => by
        rw [List.getElem?_set]
        split
        · rename_i c
          subst c
          obtain ⟨hl, hv⟩ := List.getElem?_eq_some_iff.mp e
          rw [if_pos hl, e]
        · rfl
    · cases h
  · cases h
theorem mt_same {m : Mt} {w w' r : W} {ws : List W} (hm : mtPure m = true) (h : mtW m w ws = some (r, w')) : w' = w := by
  cases m with
  | get =>
    unfold mtW at h
    split at h <;> first | (cases h; done) | skip
    all_goals (rename_i hm2; first | (cases hm2; done) | skip)
    all_goals (repeat' split at h)
    all_goals first | (cases h; done) | (cases h; rfl)
  | split =>
    unfold mtW at h
    split at h <;> first | (cases h; done) | skip
    all_goals (rename_i hm2; first | (cases hm2; done) | skip)
    all_goals (repeat' split at h)
    all_goals first | (cases h; done) | (cases h; rfl)
  | upper =>
    unfold mtW at h
    split at h <;> first | (cases h; done) | skip
    all_goals (rename_i hm2; first | (cases hm2; done) | skip)
    all_goals (repeat' split at h)
    all_goals first | (cases h; done) | (cases h; rfl)
  | join =>
    unfold mtW at h
    split at h <;> first | (cases h; done) | skip
    all_goals (rename_i hm2; first | (cases hm2; done) | skip)
    all_goals (repeat' split at h)
    all_goals first | (cases h; done) | (cases h; rfl)
  | _ => cases hm
theorem wipe_at {ρ : Env} : ∀ (own : List Nat) (j : Nat), (wipeW ρ own)[j]? = if j ∈ own ∧ j < ρ.length then some (.a .dead) else ρ[j]?
  | [], j => by simp [wipeW]
  | v :: vs, j => by
    show ((wipeW ρ vs).set v (.a .dead))[j]? = _
    have hl : ∀ vs : List Nat, (wipeW ρ vs).length = ρ.length := fun vs => by
      induction vs with
      | nil => rfl
      | cons v vs ih => show ((wipeW ρ vs).set v _).length = _; rw [List.length_set, ih]
    rw [List.getElem?_set, hl vs, wipe_at vs j]
    by_cases c : v = j
    · subst c
      by_cases d : v < ρ.length
      · simp [d]
      · simp [d, List.getElem?_eq_none (Nat.le_of_not_lt d)]
    · have c' : ¬ j = v := fun q => c q.symm
      simp [c, c']
theorem wipe_dead {ρ : Env} {own : List Nat} (h : deadAt ρ own = true) : wipeW ρ own = ρ := by
  apply List.ext_getElem?
  intro j
  rw [wipe_at]
  split
  · rename_i c
    have := List.all_eq_true.mp h j c.1
    split at this
    · rename_i e; exact e.symm
    · cases this
  · rfl
theorem setL_at : ∀ {is : List Nat} {ws : List W} {ρ ρ' : Env}, setL is ws ρ = some ρ' → ρ'.length = ρ.length ∧ ∀ j, j ∉ is → ρ'[j]? = ρ[j]?
  | [], [], ρ, ρ', h => by cases h; exact ⟨rfl, fun _ _ => rfl⟩
  | i :: is, w :: ws, ρ, ρ', h => by
    obtain ⟨h1, h2⟩ := setL_at (is := is) (ws := ws) h
    refine ⟨by rw [h1, List.length_set], fun j hj => ?_⟩
    rw [h2 j fun q => hj (List.mem_cons_of_mem _ q), List.getElem?_set, if_neg fun q => hj (by rw [q]; exact List.mem_cons_self)]
  | [], _ :: _, ρ, ρ', h => by cases h
  | _ :: _, [], ρ, ρ', h => by cases h
theorem bind_at {t : Tg} {w : W} {ρ ρ' : Env} (h : bindT t w ρ = some ρ') : ρ'.length = ρ.length ∧ ∀ j, j ∉ tgs t → ρ'[j]? = ρ[j]? := by
  cases t with
  | nm i =>
    cases h
    exact ⟨List.length_set, fun j hj => by rw [List.getElem?_set, if_neg fun q => hj (by rw [q]; exact List.mem_singleton.mpr rfl)]⟩
  | tp is =>
    unfold bindT at h
    split at h
    · rename_i i e; cases e
    · rename_i is' e
      cases e
      split at h
      · exact setL_at h
      · cases h
theorem wipe_back {ρ ρ' : Env} {own : List Nat} {t : Tg} {w : W} (h : deadAt ρ own = true) (ht : (tgs t).all (fun i => decide (i ∈ own)) = true) (hb : bindT t w ρ = some ρ') : wipeW ρ' own = ρ := by
  obtain ⟨h1, h2⟩ := bind_at hb
  apply List.ext_getElem?
  intro j
  rw [wipe_at, h1]
  split
  · rename_i c
    have := List.all_eq_true.mp h j c.1
    split at this
    · rename_i e; exact e.symm
    · cases this
  · rename_i c
    by_cases hj : j ∈ own
    · have hl : ρ.length ≤ j := Nat.le_of_not_lt fun q => c ⟨hj, q⟩
      rw [List.getElem?_eq_none hl, List.getElem?_eq_none (by rw [h1]; exact hl)]
    · exact h2 j fun q => hj (of_decide_eq_true (List.all_eq_true.mp ht j q))
/-- the loop -/
theorem pC_ok {own : List Nat} {ρ : Env} {f : W → Option (Option W)} {g : W → Env → Option (Option W × Env)} (hg : ∀ w v, f w = some v → ∃ ρ', g w ρ = some (v, ρ') ∧ wipeW ρ' own = ρ) :
    ∀ {items acc xs : List W}, pC f items = some xs → acc.length + items.length ≤ sizeLine → loopC own g items acc ρ = some (acc ++ xs, ρ)
  | [], acc, xs, h, hl => by cases h; simp [loopC]
  | w :: items, acc, xs, h, hl => by
    rw [List.length_cons] at hl
    simp only [pC] at h
    split at h
    · cases h
    · rename_i e1
      obtain ⟨ρ', g1, g2⟩ := hg w _ e1
      simp only [loopC, g1]
      rw [g2]
      exact pC_ok hg h (by omega)
    · rename_i x e1
      obtain ⟨ρ', g1, g2⟩ := hg w _ e1
      split at h
      · rename_i xs' e2
        cases h
        simp only [loopC, g1]
        rw [if_pos (by omega), g2, pC_ok hg e2 (by simp; omega)]
        simp
      · cases h
section
variable {pc : Nat → List W → Option W} {cl : Nat → List W → Option (List W × W)} (hcl : ∀ f ws w, pc f ws = some w → ∃ ws', cl f ws = some (ws', w))
include hcl
mutual
theorem pM_ok : ∀ (e : Ex) (md : Md) (ρ : Env) (w : W), pM pc e md ρ = some w → Ok cl e md ρ w
  | .k x, md, ρ, w, h => by
    simp only [pM] at h
    split at h
    · rename_i c
      exact okFin (by simp only [evm, c, if_true]) h
    · cases h
  | .var i, md, ρ, w, h => by
    simp only [pM] at h
    split at h
    · cases h
    · rename_i v e
      cases md with
      | val =>
        simp only at h
        split at h
        · rename_i c
          cases h
          show evm cl (.var i) .val ρ = _
          simp only [evm, e, Ab.frz_fzW c, set_same e]
        · cases h
      | opr => cases h; exact ⟨.al i, by simp only [evm, e], .inr ⟨i, rfl, e⟩⟩
      | tst => exact okFin (by simp only [evm, e]) h
  | .glob v, md, ρ, w, h => by
    simp only [pM] at h
    exact okFin (by simp only [evm]) h
  | .bin op a b, md, ρ, w, h => by
    simp only [pM] at h
    split at h
    · rename_i x e1
      have g1 : evm cl a .val ρ = _ := pM_ok a .val ρ x e1
      split at h
      · rename_i y e2
        have g2 : evm cl b .val ρ = _ := pM_ok b .val ρ y e2
        split at h
        · rename_i v e3
          exact okFin (by simp only [evm, g1, g2, e3]) h
        · cases h
      · cases h
    · cases h
  | .neg a, md, ρ, w, h => by
    simp only [pM] at h
    split at h
    · rename_i i e1
      have g1 : evm cl a .val ρ = _ := pM_ok a .val ρ _ e1
      exact okFin (by simp only [evm, g1]) h
    · cases h
  | .not a, md, ρ, w, h => by
    cases md with
    | tst =>
      simp only [pM] at h
      split at h
      · rename_i b e1
        cases h
        obtain ⟨b', q, g1⟩ := pM_ok a .tst ρ _ e1
        cases q
        exact ⟨!b, rfl, by simp only [evm, g1]⟩
      · cases h
    | val =>
      simp only [pM] at h
      split at h
      · rename_i x e1
        obtain ⟨o, g1, g2⟩ := pM_ok a .opr ρ _ e1
        split at h
        · rename_i b e2
          cases h
          show evm cl (.not a) .val ρ = _
          simp only [evm, g1, g2.res, e2]
        · cases h
      · cases h
    | opr =>
      simp only [pM] at h
      split at h
      · rename_i x e1
        obtain ⟨o, g1, g2⟩ := pM_ok a .opr ρ _ e1
        split at h
        · rename_i b e2
          cases h
          exact ⟨_, by simp only [evm, g1, g2.res, e2], .inl rfl⟩
        · cases h
      · cases h
  | .and a b, md, ρ, w, h => by
    cases md with
    | tst =>
      simp only [pM] at h
      split at h
      · rename_i e1
        obtain ⟨b', q, g1⟩ := pM_ok a .tst ρ _ e1
        cases q
        obtain ⟨c, q, g2⟩ := pM_ok b .tst ρ _ h
        exact ⟨c, q, by simp only [evm, g1, g2]⟩
      · rename_i e1
        cases h
        obtain ⟨b', q, g1⟩ := pM_ok a .tst ρ _ e1
        cases q
        exact ⟨false, rfl, by simp only [evm, g1]⟩
      · cases h
    | val =>
      simp only [pM] at h
      split at h
      · rename_i x e1
        have g1 : evm cl a .val ρ = _ := pM_ok a .val ρ x e1
        split at h
        · rename_i e2
          have g2 : evm cl b .val ρ = _ := pM_ok b .val ρ _ h
          show evm cl (.and a b) .val ρ = _
          simp only [evm, g1, e2, g2]
        · rename_i e2
          cases h
          show evm cl (.and a b) .val ρ = _
          simp only [evm, g1, e2]
        · cases h
      · cases h
    | opr =>
      simp only [pM] at h
      split at h
      · rename_i x e1
        have g1 : evm cl a .val ρ = _ := pM_ok a .val ρ x e1
        split at h
        · rename_i e2
          have g2 : evm cl b .val ρ = _ := pM_ok b .val ρ _ h
          exact ⟨_, by simp only [evm, g1, e2, g2], .inl rfl⟩
        · rename_i e2
          cases h
          exact ⟨_, by simp only [evm, g1, e2], .inl rfl⟩
        · cases h
      · cases h
  | .or a b, md, ρ, w, h => by
    cases md with
    | tst =>
      simp only [pM] at h
      split at h
      · rename_i e1
        cases h
        obtain ⟨b', q, g1⟩ := pM_ok a .tst ρ _ e1
        cases q
        exact ⟨true, rfl, by simp only [evm, g1]⟩
      · rename_i e1
        obtain ⟨b', q, g1⟩ := pM_ok a .tst ρ _ e1
        cases q
        obtain ⟨c, q, g2⟩ := pM_ok b .tst ρ _ h
        exact ⟨c, q, by simp only [evm, g1, g2]⟩
      · cases h
    | val =>
      simp only [pM] at h
      split at h
      · rename_i x e1
        have g1 : evm cl a .val ρ = _ := pM_ok a .val ρ x e1
        split at h
        · rename_i e2
          cases h
          show evm cl (.or a b) .val ρ = _
          simp only [evm, g1, e2]
        · rename_i e2
          have g2 : evm cl b .val ρ = _ := pM_ok b .val ρ _ h
          show evm cl (.or a b) .val ρ = _
          simp only [evm, g1, e2, g2]
        · cases h
      · cases h
    | opr =>
      simp only [pM] at h
      split at h
      · rename_i x e1
        have g1 : evm cl a .val ρ = _ := pM_ok a .val ρ x e1
        split at h
        · rename_i e2
          cases h
          exact ⟨_, by simp only [evm, g1, e2], .inl rfl⟩
        · rename_i e2
          have g2 : evm cl b .val ρ = _ := pM_ok b .val ρ _ h
          exact ⟨_, by simp only [evm, g1, e2, g2], .inl rfl⟩
        · cases h
      · cases h
  | .cmp op a b, md, ρ, w, h => by
    simp only [pM] at h
    split at h
    · rename_i x e1
      obtain ⟨o, g1, r1⟩ := pM_ok a .opr ρ _ e1
      split at h
      · rename_i y e2
        obtain ⟨o2, g2, r2⟩ := pM_ok b .opr ρ _ e2
        split at h
        · rename_i c e3
          exact okFin (by simp only [evm, g1, g2, r1.res, r2.res, e3]) h
        · cases h
      · cases h
    · cases h
  | .chain op op' a b c, md, ρ, w, h => by
    simp only [pM] at h
    split at h
    · rename_i x e1
      have g1 : evm cl a .val ρ = _ := pM_ok a .val ρ _ e1
      split at h
      · rename_i y e2
        have g2 : evm cl b .val ρ = _ := pM_ok b .val ρ _ e2
        split at h
        · rename_i e3
          exact okFin (by simp only [evm, g1, g2, e3]) h
        · rename_i e3
          split at h
          · rename_i z e4
            have g4 : evm cl c .val ρ = _ := pM_ok c .val ρ _ e4
            split at h
            · rename_i d e5
              exact okFin (by simp only [evm, g1, g2, e3, g4, e5]) h
            · cases h
          · cases h
        · cases h
      · cases h
    · cases h
  | .ite c a b, md, ρ, w, h => by
    cases md with
    | tst => simp only [pM] at h; cases h
    | val =>
      simp only [pM] at h
      split at h
      · rename_i e1
        obtain ⟨b', q, g1⟩ := pM_ok c .tst ρ _ e1
        cases q
        have g2 : evm cl a .val ρ = _ := pM_ok a .val ρ _ h
        show evm cl (.ite c a b) .val ρ = _
        simp only [evm, g1, g2]
      · rename_i e1
        obtain ⟨b', q, g1⟩ := pM_ok c .tst ρ _ e1
        cases q
        have g2 : evm cl b .val ρ = _ := pM_ok b .val ρ _ h
        show evm cl (.ite c a b) .val ρ = _
        simp only [evm, g1, g2]
      · cases h
    | opr =>
      simp only [pM] at h
      split at h
      · rename_i e1
        obtain ⟨b', q, g1⟩ := pM_ok c .tst ρ _ e1
        cases q
        have g2 : evm cl a .val ρ = _ := pM_ok a .val ρ _ h
        exact ⟨_, by simp only [evm, g1, g2], .inl rfl⟩
      · rename_i e1
        obtain ⟨b', q, g1⟩ := pM_ok c .tst ρ _ e1
        cases q
        have g2 : evm cl b .val ρ = _ := pM_ok b .val ρ _ h
        exact ⟨_, by simp only [evm, g1, g2], .inl rfl⟩
      · cases h
  | .sub a i, md, ρ, w, h => by
    simp only [pM] at h
    split at h
    · rename_i x0 e1
      obtain ⟨o, g1, r1⟩ := pM_ok a .opr ρ _ e1
      split at h
      · rename_i y e2
        obtain ⟨o2, g2, r2⟩ := pM_ok i .opr ρ _ e2
        split at h
        · rename_i x e3
          split at h
          · rename_i v e4
            exact okFin (by simp only [evm, g1, g2, r1.resC e3, r2.res, e4]) h
          · cases h
        · cases h
      · cases h
    · cases h
  | .slice a lo hi, md, ρ, w, h => by
    simp only [pM] at h
    split at h
    · rename_i x0 e1
      obtain ⟨o, g1, r1⟩ := pM_ok a .opr ρ _ e1
      split at h
      · rename_i l e2
        have g2 := pO_ok lo ρ l e2
        split at h
        · rename_i hh e3
          have g3 := pO_ok hi ρ hh e3
          split at h
          · rename_i x e4
            split at h
            · rename_i v e5
              exact okFin (by simp only [evm, g1, g2, g3, r1.resC e4, e5]) h
            · cases h
          · cases h
        · cases h
      · cases h
    · cases h
  | .tup es, md, ρ, w, h => by
    simp only [pM] at h
    split at h
    · rename_i ws e1
      have g1 := pL_ok es ρ ws e1
      split at h
      · rename_i c
        exact okFin (by simp only [evm, g1, if_pos c]) h
      · cases h
    · cases h
  | .lst es, md, ρ, w, h => by
    simp only [pM] at h
    split at h
    · rename_i ws e1
      have g1 := pL_ok es ρ ws e1
      split at h
      · rename_i c
        exact okFin (by simp only [evm, g1, if_pos c]) h
      · cases h
    · cases h
  | .comp elt t s src test own, md, ρ, w, h => by
    simp only [pM] at h
    split at h
    · rename_i c
      rw [Bool.and_eq_true] at c
      split at h
      · cases h
      · rename_i ws e1
        have g1 := pL_ok src ρ ws e1
        split at h
        · cases h
        · rename_i items e2
          split at h
          · rename_i c2
            split at h
            · cases h
            · rename_i acc e3
              have hw := wipe_dead c.1
              have hloop := pC_ok (own := own) (ρ := ρ) (g := Ab.stepC cl elt t test) (fun w v q => by
                split at q
                · cases q
                · rename_i ρ2 b1
                  split at q
                  · cases q
                  · rename_i b2
                    cases q
                    have g5 := pT_ok test ρ2 false b2
                    exact ⟨ρ2, by simp only [Ab.stepC, b1, g5], wipe_back c.1 c.2 b1⟩
                  · rename_i b2
                    have g5 := pT_ok test ρ2 true b2
                    split at q
                    · rename_i x b3
                      cases q
                      have g6 : evm cl elt .val ρ2 = _ := pM_ok elt .val ρ2 x b3
                      exact ⟨ρ2, by simp only [Ab.stepC, b1, g5, g6], wipe_back c.1 c.2 b1⟩
                    · cases q) (acc := []) e3 (by simpa using c2)
              refine okFin ?_ h
              rw [Ab.evm_comp]
              simp only [g1, e2, hw, hloop, List.nil_append]
          · cases h
    · cases h
  | .call f es, md, ρ, w, h => by
    simp only [pM] at h
    split at h
    · cases h
    · rename_i ws e1
      obtain ⟨os, g1, r1⟩ := pOs_ok es ρ ws e1
      split at h
      · rename_i c
        split at h
        · cases h
        · rename_i r e2
          obtain ⟨ws', g2⟩ := hcl f ws r e2
          exact okFin (by simp only [evm, g1, take_ok r1 c, g2, put_ok ws' r1]) h
      · cases h
  | .bi b es, md, ρ, w, h => by
    simp only [pM] at h
    split at h
    · cases h
    · rename_i ws e1
      obtain ⟨os, g1, r1⟩ := pOs_ok es ρ ws e1
      split at h
      · cases h
      · rename_i vs e2
        split at h
        · rename_i v e3
          exact okFin (by simp only [evm, g1, resL_of r1 e2, e3]) h
        · cases h
  | .isi a tys, md, ρ, w, h => by
    simp only [pM] at h
    split at h
    · rename_i x e1
      obtain ⟨o, g1, r1⟩ := pM_ok a .opr ρ _ e1
      split at h
      · rename_i b e2
        exact okFin (by simp only [evm, g1, r1.res, e2]) h
      · cases h
    · cases h
  | .meth m o es, md, ρ, w, h => by
    simp only [pM] at h
    split at h
    · rename_i c
      split at h
      · rename_i x e1
        obtain ⟨od, g1, r1⟩ := pM_ok o .opr ρ _ e1
        split at h
        · rename_i c2
          split at h
          · rename_i ws e2
            have g2 := pL_ok es ρ ws e2
            split at h
            · rename_i r w' e3
              have := mt_same c e3
              subst this
              refine okFin ?_ h
              have hb : backO od w' ρ = ρ := by
                rcases r1 with rfl | ⟨i, rfl, hi⟩
                · rfl
                · exact set_same hi
              simp only [evm, g1, r1.res, c2, if_true, g2, e3, hb]
            · cases h
          · cases h
        · cases h
      · cases h
    · cases h
  | .frz a, md, ρ, w, h => by
    simp only [pM] at h
    split at h
    · rename_i x e1
      have g1 : evm cl a .val ρ = _ := pM_ok a .val ρ _ e1
      exact okFin (by simp only [evm, g1]) h
    · cases h
  | .eqs a s, md, ρ, w, h => by
    simp only [pM] at h
    split at h
    · rename_i x e1
      obtain ⟨o, g1, r1⟩ := pM_ok a .opr ρ _ e1
      split at h
      · rename_i b e2
        exact okFin (by simp only [evm, g1, r1.res, e2]) h
      · cases h
    · cases h
  | .dcs ks vs, md, ρ, w, h => by
    simp only [pM] at h
    split at h
    · rename_i c
      exact okFin (by simp only [evm]; rw [if_pos c]) h
    · cases h
  | .inK no a ks, md, ρ, w, h => by
    simp only [pM] at h
    split at h
    · rename_i s e1
      obtain ⟨o, g1, r1⟩ := pM_ok a .opr ρ _ e1
      exact okFin (by simp only [evm, g1, r1.res]) h
    · cases h
  | .subK a ks ws, md, ρ, w, h => by
    simp only [pM] at h
    split at h
    · rename_i s e1
      obtain ⟨o, g1, r1⟩ := pM_ok a .opr ρ _ e1
      split at h
      · rename_i v e2
        exact okFin (by simp only [evm, g1, r1.res, e2]) h
      · cases h
    · cases h
  | .tupK ks, md, ρ, w, h => by
    simp only [pM] at h
    exact okFin (by simp only [evm]) h
  | .isb no a b, md, ρ, w, h => by
    simp only [pM] at h
    split at h
    · rename_i x e1
      have g1 : evm cl a .val ρ = _ := pM_ok a .val ρ _ e1
      split at h
      · rename_i y e2
        have g2 : evm cl b .val ρ = _ := pM_ok b .val ρ _ e2
        split at h
        · rename_i p q e3 e4
          exact okFin (by simp only [evm, g1, g2, e3, e4]) h
        · cases h
      · cases h
    · cases h
  | .star _, md, ρ, w, h => by simp only [pM] at h; cases h
  | .dct _ _, md, ρ, w, h => by simp only [pM] at h; cases h
  | .opq, md, ρ, w, h => by simp only [pM] at h; cases h
  | .addz _ _, md, ρ, w, h => by simp only [pM] at h; cases h
  | .negz _, md, ρ, w, h => by simp only [pM] at h; cases h
theorem pL_ok : ∀ (es : List Ex) (ρ : Env) (ws : List W), pL pc es ρ = some ws → evL cl es ρ = some (ws, ρ)
  | [], ρ, ws, h => by simp only [pL] at h; cases h; simp only [evL]
  | e :: es, ρ, ws, h => by
    simp only [pL] at h
    split at h
    · cases h
    · rename_i c
      split at h
      · rename_i w e1
        have g1 : evm cl e .val ρ = _ := pM_ok e .val ρ _ e1
        split at h
        · rename_i ws' e2
          cases h
          have g2 := pL_ok es ρ ws' e2
          rw [Ab.evL_ns c, g1]
          simp only [g2]
        · cases h
      · cases h
theorem pO_ok : ∀ (e : Option Ex) (ρ : Env) (o : Option Int), pO pc e ρ = some o → evO cl e ρ = some (o, ρ)
  | none, ρ, o, h => by simp only [pO] at h; cases h; simp only [evO]
  | some e, ρ, o, h => by
    simp only [pO] at h
    split at h
    · rename_i i e1
      cases h
      have g1 : evm cl e .val ρ = _ := pM_ok e .val ρ _ e1
      simp only [evO, g1]
    · cases h
theorem pT_ok : ∀ (e : Option Ex) (ρ : Env) (b : Bool), pT pc e ρ = some b → evT cl e ρ = some (b, ρ)
  | none, ρ, o, h => by simp only [pT] at h; cases h; simp only [evT]
  | some e, ρ, o, h => by
    simp only [pT] at h
    split at h
    · rename_i b e1
      cases h
      obtain ⟨b', q, g1⟩ := pM_ok e .tst ρ _ e1
      cases q
      simp only [evT, g1]
    · cases h
theorem pOs_ok : ∀ (es : List Ex) (ρ : Env) (ws : List W), pOs pc es ρ = some ws → ∃ os, opL cl es ρ = some (os, ρ) ∧ OsR ρ os ws
  | [], ρ, ws, h => by simp only [pOs] at h; cases h; exact ⟨[], by simp only [opL], rfl⟩
  | e :: es, ρ, ws, h => by
    simp only [pOs] at h
    split at h
    · rename_i w e1
      obtain ⟨o, g1, r1⟩ := pM_ok e .opr ρ _ e1
      split at h
      · rename_i ws' e2
        cases h
        obtain ⟨os, g2, r2⟩ := pOs_ok es ρ ws' e2
        exact ⟨o :: os, by simp only [opL, g1, g2], _, _, rfl, r1, r2⟩
      · cases h
    · cases h
end
end
/-! ### statements -/
def pFor (f : W → Env → Option (Option W × Env)) : List W → Env → Option (Option W × Env)
  | [], ρ => some (none, ρ)
  | w :: ws, ρ => match f w ρ with
    | none => none
    | some (none, ρ') => pFor f ws ρ'
    | some (some r, ρ') => some (some r, ρ')
section
variable (cl : Nat → List W → Option W)
mutual
def pX : Sm → Env → Option (Option W × Env)
  | .set t e, ρ => match pM cl e .val ρ with
    | some w => match bindT t w ρ with
      | some ρ2 => some (none, ρ2)
      | none => none
    | none => none
  | .ret e, ρ => match pM cl e .val ρ with
    | some w => some (some w, ρ)
    | none => none
  | .retm i, ρ => match at? ρ i with
    | some w => some (some w, ρ)
    | none => none
  | .ife c a b, ρ => match pM cl c .tst ρ with
    | some (.a (.bl true)) => pXs a ρ
    | some (.a (.bl false)) => pXs b ρ
    | _ => none
  | .for t s src body, ρ => match pL cl src ρ with
    | none => none
    | some ws => match srcW s (frzL ws) with
      | none => none
      | some items => pFor (fun w ρ => match bindT t w ρ with
          | none => none
          | some ρ2 => pXs body ρ2) items ρ
  | .pass, ρ => some (none, ρ)
  | _, _ => none
def pXs : List Sm → Env → Option (Option W × Env)
  | [], ρ => some (none, ρ)
  | s :: ss, ρ => match pX s ρ with
    | none => none
    | some (none, ρ1) => pXs ss ρ1
    | some (some w, ρ1) => some (some w, ρ1)
end
end
def Stm (r : Option (Out × Env)) (o : Option W) (ρ : Env) : Prop := match o with
  | none => r = some (.nx, ρ)
  | some w => ∃ ρ', r = some (.rt w, ρ')
theorem pFor_ok {f : W → Env → Option (Option W × Env)} {g : W → Env → Option (Out × Env)} (hg : ∀ w ρ o ρ', f w ρ = some (o, ρ') → Stm (g w ρ) o ρ') : ∀ (ws : List W) (ρ : Env) (o : Option W) (ρ' : Env), pFor f ws ρ = some (o, ρ') → Stm (loopF g ws ρ) o ρ'
  | [], ρ, o, ρ', h => by cases h; rfl
  | w :: ws, ρ, o, ρ', h => by
    simp only [pFor] at h
    split at h
    · cases h
    · rename_i ρ1 e1
      have g1 : g w ρ = _ := hg _ _ _ _ e1
      have := pFor_ok hg ws ρ1 o ρ' h
      simp only [loopF, g1]
      exact this
    · rename_i r ρ1 e1
      cases h
      obtain ⟨ρ2, g1⟩ := hg _ _ _ _ e1
      exact ⟨ρ2, by simp only [loopF, g1]⟩
section
variable {pc : Nat → List W → Option W} {cl : Nat → List W → Option (List W × W)} (hcl : ∀ f ws w, pc f ws = some w → ∃ ws', cl f ws = some (ws', w))
include hcl
mutual
theorem pX_ok : ∀ (s : Sm) (ρ : Env) (o : Option W) (ρ' : Env), pX pc s ρ = some (o, ρ') → Stm (exm cl s ρ) o ρ'
  | .set t e, ρ, o, ρ', h => by
    simp only [pX] at h
    split at h
    · rename_i w e1
      have g1 : evm cl e .val ρ = _ := pM_ok hcl e .val ρ w e1
      split at h
      · rename_i ρ2 e2
        cases h
        show exm cl _ _ = _
        simp only [exm, g1, e2]
      · cases h
    · cases h
  | .ret e, ρ, o, ρ', h => by
    simp only [pX] at h
    split at h
    · rename_i w e1
      have g1 : evm cl e .val ρ = _ := pM_ok hcl e .val ρ w e1
      cases h
      exact ⟨ρ, by simp only [exm, g1]⟩
    · cases h
  | .retm i, ρ, o, ρ', h => by
    simp only [pX] at h
    split at h
    · rename_i w e1
      cases h
      exact ⟨ρ.set i .dead, by simp only [exm, e1]⟩
    · cases h
  | .ife c a b, ρ, o, ρ', h => by
    simp only [pX] at h
    split at h
    · rename_i e1
      obtain ⟨b', q, g1⟩ := pM_ok hcl c .tst ρ _ e1
      cases q
      have := pXs_ok a ρ o ρ' h
      simp only [exm, g1]
      exact this
    · rename_i e1
      obtain ⟨b', q, g1⟩ := pM_ok hcl c .tst ρ _ e1
      cases q
      have := pXs_ok b ρ o ρ' h
      simp only [exm, g1]
      exact this
    · cases h
  | .for t s src body, ρ, o, ρ', h => by
    simp only [pX] at h
    split at h
    · cases h
    · rename_i ws e1
      have g1 := pL_ok hcl src ρ ws e1
      split at h
      · cases h
      · rename_i items e2
        simp only [exm, g1, e2]
        refine pFor_ok (fun w ρ o ρ' q => ?_) items ρ o ρ' h
        split at q
        · cases q
        · rename_i ρ2 b1
          have := pXs_ok body ρ2 o ρ' q
          first
            | (simp only [b1]; exact this)
            | (rw [b1]; exact this)
            | (dsimp only; rw [b1]; exact this)
            | exact this
  | .pass, ρ, o, ρ', h => by simp only [pX] at h; cases h; show exm cl _ _ = _; simp only [exm]
  | .setS _ _ _, ρ, o, ρ', h => by simp only [pX] at h; cases h
  | .augS _ _ _ _, ρ, o, ρ', h => by simp only [pX] at h; cases h
  | .aug _ _ _, ρ, o, ρ', h => by simp only [pX] at h; cases h
  | .ex _, ρ, o, ρ', h => by simp only [pX] at h; cases h
  | .whl _ _ _, ρ, o, ρ', h => by simp only [pX] at h; cases h
  | .brk, ρ, o, ρ', h => by simp only [pX] at h; cases h
  | .cnt, ρ, o, ρ', h => by simp only [pX] at h; cases h
theorem pXs_ok : ∀ (ss : List Sm) (ρ : Env) (o : Option W) (ρ' : Env), pXs pc ss ρ = some (o, ρ') → Stm (exs cl ss ρ) o ρ'
  | [], ρ, o, ρ', h => by simp only [pXs] at h; cases h; show exs cl _ _ = _; simp only [exs]
  | s :: ss, ρ, o, ρ', h => by
    simp only [pXs] at h
    split at h
    · cases h
    · rename_i ρ1 e1
      have g1 : exm cl s ρ = _ := pX_ok s ρ none ρ1 e1
      have := pXs_ok ss ρ1 o ρ' h
      simp only [exs, g1]
      exact this
    · rename_i w _ e1
      cases h
      obtain ⟨ρ2, g1⟩ := pX_ok s ρ (some w) _ e1
      exact ⟨ρ2, by simp only [exs, g1]⟩
end
end
/-- defs that ask alone -/
def prun (tab : List Fn) : Nat → Nat → List W → Option W
  | 0, _, _ => none
  | n + 1, f, ws => match tab[f]? with
    | none => none
    | some F => if ws.length = F.np ∧ F.np ≤ F.ns then match pXs (prun tab n) F.body (ws ++ List.replicate (F.ns - F.np) (.a .dead)) with
        | some (some w, _) => some w
        | some (none, _) => some (.a .non)
        | none => none
      else none
theorem prun_ok (tab : List Fn) : ∀ (n f : Nat) (ws : List W) (w : W), prun tab n f ws = some w → ∃ ws', run tab n f ws = some (ws', w)
  | 0, f, ws, w, h => by cases h
  | n + 1, f, ws, w, h => by
    simp only [prun] at h
    split at h
    · cases h
    · rename_i F hF
      split at h
      · rename_i c
        simp only [run, hF]
        rw [if_pos c]
        split at h
        · rename_i w' ρ1 e1
          cases h
          obtain ⟨ρ2, g⟩ := pXs_ok (prun_ok tab n) F.body _ _ _ e1
          rw [show (W.dead : W) = .a .dead from rfl, g]
          exact ⟨_, rfl⟩
        · rename_i ρ1 e1
          cases h
          have g : exs (run tab n) F.body _ = _ := pXs_ok (prun_ok tab n) F.body _ _ _ e1
          rw [show (W.dead : W) = .a .dead from rfl, g]
          exact ⟨_, rfl⟩
        · cases h
      · cases h
end Lin.Pu

set_option Elab.async false
set_option linter.all false
set_option maxRecDepth 100000
set_option maxHeartbeats 4000000
/-! Lk, part A: looks that many laws have: integers, names, words; comprehensions that ask all. -/
namespace Lin.Pu
open PySem L2 Lin Lin.Ab
theorem prun_at {tab : List Fn} {n i : Nat} {F : Fn} {ws : List W} (h : tab[i]? = some F) (hl : ws.length = F.np) (hn : F.np ≤ F.ns) : prun tab (n + 1) i ws = match pXs (prun tab n) F.body (ws ++ List.replicate (F.ns - F.np) (.a .dead)) with
    | some (some w, _) => some w
    | some (none, _) => some (.a .non)
    | none => none := by
  rw [prun, h]
  simp only [hl, hn, and_self, if_true]
  all_goals rfl
section
variable {cl : Nat → List W → Option W}
theorem pXs_nx {s : Sm} {ss : List Sm} {ρ ρ1 : Env} (h : pX cl s ρ = some (none, ρ1)) : pXs cl (s :: ss) ρ = pXs cl ss ρ1 := by simp only [pXs, h]
theorem pXs_rt {s : Sm} {ss : List Sm} {ρ ρ1 : Env} {w : W} (h : pX cl s ρ = some (some w, ρ1)) : pXs cl (s :: ss) ρ = some (some w, ρ1) := by simp only [pXs, h]
theorem pX_ret {e : Ex} {ρ : Env} {w : W} (h : pM cl e .val ρ = some w) : pX cl (.ret e) ρ = some (some w, ρ) := by simp only [pX, h]
theorem pX_set {e : Ex} {i : Nat} {ρ : Env} {w : W} (h : pM cl e .val ρ = some w) : pX cl (.set (.nm i) e) ρ = some (none, ρ.set i w) := by simp only [pX, h, bindT]
theorem pX_t {c : Ex} {a b : List Sm} {ρ : Env} (h : pM cl c .tst ρ = some (.a (.bl true))) : pX cl (.ife c a b) ρ = pXs cl a ρ := by simp only [pX, h]
theorem pX_f {c : Ex} {a b : List Sm} {ρ : Env} (h : pM cl c .tst ρ = some (.a (.bl false))) : pX cl (.ife c a b) ρ = pXs cl b ρ := by simp only [pX, h]
/-- a def's end: it tells w -/
theorem prun_rt {tab : List Fn} {n i : Nat} {F : Fn} {ws : List W} {w : W} {ρ : Env} (h : tab[i]? = some F) (hl : ws.length = F.np) (hn : F.np ≤ F.ns) (e : pXs (prun tab n) F.body (ws ++ List.replicate (F.ns - F.np) (.a .dead)) = some (some w, ρ)) : prun tab (n + 1) i ws = some w := by rw [prun_at h hl hn, e]
end
/-- things that are asked -/
def Fit (w : W) : Prop := ∃ d s b, Good d s b w ∧ s ≤ sizeLine
theorem Fit.fz {w : W} (h : Fit w) : w.fz = true := by obtain ⟨d, s, b, h, _⟩ := h; exact h.fz
theorem Fit.alive {w : W} (h : Fit w) : w.alive = true := by obtain ⟨d, s, b, h, _⟩ := h; exact h.alive
theorem Fit.okTy {w : W} (h : Fit w) : okTy w = true := by obtain ⟨d, s, b, h, _⟩ := h; exact h.okTy
theorem Fit.sub {k : Kd} {xs : List W} (h : Fit (.n k xs)) {x : W} (hx : x ∈ xs) : Fit x := by
  obtain ⟨d, s, b, h, hs⟩ := h
  exact ⟨_, _, _, (h.sub hx).1, hs⟩
theorem Fit.fzl {k : Kd} {xs : List W} (h : Fit (.n k xs)) : fzL xs = true := by
  have := h.fz
  simp only [W.fz, Bool.and_eq_true] at this
  exact this.2
theorem Fit.len {k : Kd} {xs : List W} (h : Fit (.n k xs)) : xs.length ≤ sizeLine := by
  obtain ⟨d, s, b, h, hs⟩ := h
  have h1 := h.wt
  have h2 := wtL_len xs
  cases k <;> simp only [Lin.Ab.wt, kdWt] at h1 <;> omega
theorem Fit.str {s : Str} (h : Fit (.a (.str s))) : s.length ≤ sizeLine := by
  obtain ⟨d, z, b, h, hs⟩ := h
  have h1 := h.wt
  simp only [Lin.Ab.wt] at h1
  omega
/-- frozen things, whatever they are -/
theorem Fit.is {w : W} (h : Fit w) : w = .a .non ∨ (∃ b, w = .a (.bl b)) ∨ (∃ i, w = .a (.int i)) ∨ (∃ s, w = .a (.str s)) ∨ (∃ xs, w = .n .tup xs) ∨ (∃ xs, w = .n (.lst false) xs) ∨ (∃ ks xs, w = .n (.dct false ks) xs) := by
  match w, h with
  | .a .non, _ => exact .inl rfl
  | .a (.bl b), _ => exact .inr (.inl ⟨b, rfl⟩)
  | .a (.int i), _ => exact .inr (.inr (.inl ⟨i, rfl⟩))
  | .a (.str s), h => exact .inr (.inr (.inr (.inl ⟨s, rfl⟩)))
  | .a .opq, h => obtain ⟨_, _, _, h, _⟩ := h; exact absurd h.ok (by simp [okW])
  | .a .dead, h => obtain ⟨_, _, _, h, _⟩ := h; exact absurd h.ok (by simp [okW])
  | .n .tup xs, h => exact .inr (.inr (.inr (.inr (.inl ⟨xs, rfl⟩))))
  | .n (.lst false) xs, h => exact .inr (.inr (.inr (.inr (.inr (.inl ⟨xs, rfl⟩)))))
  | .n (.lst true) xs, h => obtain ⟨_, _, _, h, _⟩ := h; exact absurd h.ok (by simp [okW, okKd])
  | .n (.dct false ks) xs, h => exact .inr (.inr (.inr (.inr (.inr (.inr ⟨ks, xs, rfl⟩)))))
  | .n (.dct true ks) xs, h => obtain ⟨_, _, _, h, _⟩ := h; exact absurd h.ok (by simp [okW, okKd])
  | .n .ro xs, h => obtain ⟨_, _, _, h, _⟩ := h; exact absurd h.ok (by simp [okW, okKd])
abbrev B (b : Bool) : Option W := some (.a (.bl b))
/-- a def of one thing that tells p, with k calls at most in one another -/
def Asks (tab : List Fn) (i k : Nat) (p : W → Bool) : Prop := ∀ m w, Fit w → prun tab (m + k) i [w] = B (p w)
def isIntB : W → Bool
  | .a (.int _) => true
  | _ => false
def isStrB : W → Bool
  | .a (.str _) => true
  | _ => false
def isNonB : W → Bool
  | .a .non => true
  | _ => false
def isTupB : W → Bool
  | .n .tup _ => true
  | _ => false
def isBoolB : W → Bool
  | .a (.bl _) => true
  | _ => false
def geB (k : Int) : W → Bool
  | .a (.int i) => decide (k ≤ i)
  | _ => false
abbrev isNatB : W → Bool := geB 0
theorem tru_b (b : Bool) : tru (.a (.bl b)) = some b := rfl
theorem isi_str {x : W} (h : Fit x) : isTys x [.str] = some (isStrB x) := by rcases h.is with rfl | ⟨_, rfl⟩ | ⟨_, rfl⟩ | ⟨_, rfl⟩ | ⟨_, rfl⟩ | ⟨_, rfl⟩ | ⟨_, _, rfl⟩ <;> rfl
theorem isi_int {x : W} (h : Fit x) : isTys x [.int] = some (isIntB x || isBoolB x) := by rcases h.is with rfl | ⟨_, rfl⟩ | ⟨_, rfl⟩ | ⟨_, rfl⟩ | ⟨_, rfl⟩ | ⟨_, rfl⟩ | ⟨_, _, rfl⟩ <;> rfl
theorem isi_tup {x : W} (h : Fit x) : isTys x [.tuple] = some (isTupB x) := by rcases h.is with rfl | ⟨_, rfl⟩ | ⟨_, rfl⟩ | ⟨_, rfl⟩ | ⟨_, rfl⟩ | ⟨_, rfl⟩ | ⟨_, _, rfl⟩ <;> rfl
theorem isi_bool {x : W} (h : Fit x) : isTys x [.bool] = some (isBoolB x) := by rcases h.is with rfl | ⟨_, rfl⟩ | ⟨_, rfl⟩ | ⟨_, rfl⟩ | ⟨_, rfl⟩ | ⟨_, rfl⟩ | ⟨_, _, rfl⟩ <;> rfl
theorem is_non {x : W} (h : Fit x) : cmpW .Is x (.a .non) = some (isNonB x) := by rcases h.is with rfl | ⟨_, rfl⟩ | ⟨_, rfl⟩ | ⟨_, rfl⟩ | ⟨_, rfl⟩ | ⟨_, rfl⟩ | ⟨_, _, rfl⟩ <;> rfl
theorem isNot_non {x : W} (h : Fit x) : cmpW .IsNot x (.a .non) = some (!isNonB x) := by rcases h.is with rfl | ⟨_, rfl⟩ | ⟨_, rfl⟩ | ⟨_, rfl⟩ | ⟨_, rfl⟩ | ⟨_, rfl⟩ | ⟨_, _, rfl⟩ <;> rfl
theorem eq_str (s t : Str) : cmpW .Eq (.a (.str s)) (.a (.str t)) = some (s == t) := rfl
theorem eq_int (s t : Int) : cmpW .Eq (.a (.int s)) (.a (.int t)) = some (s == t) := rfl
theorem ne_int (s t : Int) : cmpW .NotEq (.a (.int s)) (.a (.int t)) = some (!(s == t)) := rfl
theorem ge_int (s t : Int) : cmpW .GtE (.a (.int s)) (.a (.int t)) = some (decide (t ≤ s)) := rfl
theorem gt_int (s t : Int) : cmpW .Gt (.a (.int s)) (.a (.int t)) = some (decide (t < s)) := rfl
theorem lt_int (s t : Int) : cmpW .Lt (.a (.int s)) (.a (.int t)) = some (decide (s < t)) := rfl
theorem le_int (s t : Int) : cmpW .LtE (.a (.int s)) (.a (.int t)) = some (decide (s ≤ t)) := rfl
/-- what stands at a place -/
theorem at_0 {w : W} {ρ : Env} (h : w.alive = true) : at? (w :: ρ) 0 = some w := by
  show (if w.alive then some w else none) = some w
  rw [if_pos h]
theorem at_s {w : W} {ρ : Env} {i : Nat} : at? (w :: ρ) (i + 1) = at? ρ i := rfl
/-! ### integers -/
def fIsInt : Fn := ⟨1, 1, [0], [.ret (.and (.isi (.var 0) [.int]) (.not (.isi (.var 0) [.bool])))]⟩
theorem int_asks {tab : List Fn} {i : Nat} (h : tab[i]? = some fIsInt) : Asks tab i 1 isIntB := fun m w hw => by
  rw [prun_at h rfl (by decide)]
  rcases hw.is with rfl | ⟨_, rfl⟩ | ⟨_, rfl⟩ | ⟨_, rfl⟩ | ⟨_, rfl⟩ | ⟨_, rfl⟩ | ⟨_, _, rfl⟩ <;> rfl
/-- a call of one thing at a place -/
theorem call_var {tab : List Fn} {i k m : Nat} {p : W → Bool} (h : Asks tab i k p) {ρ : Env} {j : Nat} {w : W} (ha : at? ρ j = some w) (hw : Fit w) (md : Md) : pM (prun tab (m + k)) (.call i [.var j]) md ρ = pfin md (.a (.bl (p w))) := by
  have f : fzL [w] = true := by simp [fzL, hw.fz]
  simp only [pM, pOs, ha, f, if_true, h m w hw]
theorem Asks.go {tab : List Fn} {i k n : Nat} {p : W → Bool} (h : Asks tab i k p) (hn : k ≤ n) {w : W} (hw : Fit w) : prun tab n i [w] = B (p w) := by
  obtain ⟨m, rfl⟩ : ∃ m, n = m + k := ⟨n - k, by omega⟩
  exact h m w hw
/-- .. of what an expression tells -/
theorem call_of {tab : List Fn} {i k n : Nat} {p : W → Bool} (h : Asks tab i k p) (hn : k ≤ n) {ρ : Env} {e : Ex} {w : W} (ha : pM (prun tab n) e .opr ρ = some w) (hw : Fit w) (md : Md) : pM (prun tab n) (.call i [e]) md ρ = pfin md (.a (.bl (p w))) := by
  have f : fzL [w] = true := by simp [fzL, hw.fz]
  rw [show ∀ es, pM (prun tab n) (.call i es) md ρ = (match pOs (prun tab n) es ρ with
    | none => none
    | some ws => if fzL ws then match prun tab n i ws with
      | none => none
      | some r => pfin md r
      else none) from fun es => rfl]
  simp only [pOs, ha, f, if_true, h.go hn hw]
def fIsNat (i : Nat) : Fn := ⟨1, 1, [0], [.ret (.and (.call i [.var 0]) (.cmp .GtE (.var 0) (.k (.int 0))))]⟩
/-- an integer from k on: its test -/
theorem intGe {tab : List Fn} {i k m : Nat} (h : Asks tab i k isIntB) {ρ : Env} {j : Nat} {w : W} (ha : at? ρ j = some w) (hw : Fit w) (z : Int) : pM (prun tab (m + k)) (.and (.call i [.var j]) (.cmp .GtE (.var j) (.k (.int z)))) .val ρ = B (geB z w) := by
  have c := call_var h ha hw (m := m) .val
  have e : pM (prun tab (m + k)) (.and (.call i [.var j]) (.cmp .GtE (.var j) (.k (.int z)))) .val ρ = match pM (prun tab (m + k)) (.call i [.var j]) .val ρ with
      | some w => match tru w with
        | some true => pM (prun tab (m + k)) (.cmp .GtE (.var j) (.k (.int z))) .val ρ
        | some false => some w
        | none => none
      | none => none := rfl
  rw [e, c]
  rcases hw.is with rfl | ⟨_, rfl⟩ | ⟨i, rfl⟩ | ⟨_, rfl⟩ | ⟨_, rfl⟩ | ⟨_, rfl⟩ | ⟨_, _, rfl⟩ <;> try rfl
  simp only [pfin, isIntB, tru_b, pM, ha, At.plain, if_true, ge_int, geB]
theorem nat_asks {tab : List Fn} {i j k : Nat} (h : tab[i]? = some (fIsNat j)) (hj : Asks tab j k isIntB) : Asks tab i (k + 1) isNatB := fun m w hw => by
  rw [show m + (k + 1) = (m + k) + 1 from rfl, prun_at h rfl (Nat.le_refl 1)]
  have e := intGe hj (m := m) (at_0 (ρ := []) hw.alive) hw 0
  have e2 : pXs (prun tab (m + k)) (fIsNat j).body ([w] ++ List.replicate ((fIsNat j).ns - (fIsNat j).np) (.a .dead)) = some (some (.a (.bl (geB 0 w))), [w]) := by
    show pXs (prun tab (m + k)) [.ret (.and (.call j [.var 0]) (.cmp .GtE (.var 0) (.k (.int 0))))] [w] = _
    simp only [pXs, pX, e]
  rw [e2]
/-! ### comprehensions that ask all -/
theorem pC_map {f : W → Option (Option W)} {g : W → W} : ∀ {ws : List W}, (∀ w ∈ ws, f w = some (some (g w))) → pC f ws = some (ws.map g)
  | [], _ => rfl
  | w :: ws, h => by simp only [pC, h w List.mem_cons_self, pC_map (fun v hv => h v (List.mem_cons_of_mem _ hv)), List.map_cons]
theorem pC_filter {f : W → Option (Option W)} {g : W → W} {b : W → Bool} : ∀ {ws : List W}, (∀ w ∈ ws, f w = some (if b w then some (g w) else none)) → pC f ws = some ((ws.filter b).map g)
  | [], _ => rfl
  | w :: ws, h => by
    have ih := pC_filter (f := f) (g := g) (b := b) (fun v hv => h v (List.mem_cons_of_mem _ hv))
    have h0 := h w List.mem_cons_self
    cases hb : b w with
    | true => rw [hb] at h0; simp only [pC, h0, if_true, ih, List.filter_cons, hb, List.map_cons]
    | false => rw [hb] at h0; simp only [pC, h0, Bool.false_eq_true, if_false, ih, List.filter_cons, hb]
section
variable {cl : Nat → List W → Option W} {elt : Ex} {t : Tg} {s : Sr} {src : List Ex} {own : List Nat} {md : Md} {ρ : Env} {ws items : List W}
theorem pM_map {g : W → W} (hd : (deadAt ρ own && (tgs t).all (fun i => decide (i ∈ own))) = true) (h1 : pL cl src ρ = some ws) (h2 : srcW s (frzL ws) = some items) (h3 : items.length ≤ sizeLine) (h4 : ∀ w ∈ items, ∃ ρ2, bindT t w ρ = some ρ2 ∧ pM cl elt .val ρ2 = some (g w)) : pM cl (.comp elt t s src none own) md ρ = pfin md (.n (.lst true) (items.map g)) := by
  simp only [pM, hd, if_true, h1, h2, h3]
  rw [pC_map (g := g) fun w hw => by
    obtain ⟨ρ2, e1, e2⟩ := h4 w hw
    simp only [e1, pT, e2]]
theorem pM_filter {c : Ex} {g : W → W} {b : W → Bool} (hd : (deadAt ρ own && (tgs t).all (fun i => decide (i ∈ own))) = true) (h1 : pL cl src ρ = some ws) (h2 : srcW s (frzL ws) = some items) (h3 : items.length ≤ sizeLine) (h4 : ∀ w ∈ items, ∃ ρ2, bindT t w ρ = some ρ2 ∧ pM cl c .tst ρ2 = B (b w) ∧ (b w = true → pM cl elt .val ρ2 = some (g w))) : pM cl (.comp elt t s src (some c) own) md ρ = pfin md (.n (.lst true) ((items.filter b).map g)) := by
  simp only [pM, hd, if_true, h1, h2, h3]
  rw [pC_filter (g := g) (b := b) fun w hw => by
    obtain ⟨ρ2, e1, e2, e3⟩ := h4 w hw
    cases hb : b w with
    | true => rw [hb] at e2; simp only [e1, pT, e2, e3 hb, if_true]
    | false => rw [hb] at e2; simp only [e1, pT, e2, Bool.false_eq_true, if_false]]
theorem bools_map {p : W → Bool} : ∀ xs : List W, boolsW (xs.map fun w => W.a (.bl (p w))) = some (xs.map p)
  | [] => rfl
  | x :: xs => by simp only [List.map_cons, boolsW, bools_map xs, Option.map_some]
/-- all([p for ..]) -/
theorem pM_all {p : W → Bool} (hd : (deadAt ρ own && (tgs t).all (fun i => decide (i ∈ own))) = true) (h1 : pL cl src ρ = some ws) (h2 : srcW s (frzL ws) = some items) (h3 : items.length ≤ sizeLine) (h4 : ∀ w ∈ items, ∃ ρ2, bindT t w ρ = some ρ2 ∧ pM cl elt .val ρ2 = B (p w)) : pM cl (.bi .all [.comp elt t s src none own]) md ρ = pfin md (.a (.bl (items.all p))) := by
  have e := pM_map (md := .opr) (g := fun w => .a (.bl (p w))) hd h1 h2 h3 h4
  have hz : fzL (items.map fun w => W.a (.bl (p w))) = true := Ab.fzL_mem.mpr fun x hx => by
    obtain ⟨c, _, rfl⟩ := List.mem_map.mp hx
    rfl
  rw [show ∀ a, pM cl (.bi .all [a]) md ρ = (match pOs cl [a] ρ with
    | none => none
    | some os => match cutFs os with
      | none => none
      | some ws => match biW .all ws with
        | some w => pfin md w
        | none => none) from fun a => rfl]
  have ha : (items.map p).all id = items.all p := by simp [List.all_map]
  simp only [pOs, e, pfin, cutFs, cutF, hz, if_true, biW, bools_map, Option.map_some, ha]
theorem eq_nil (xs : List W) : cmpW .Eq (.n (.lst true) xs) (.n (.lst true) []) = some xs.isEmpty := by
  show eqD _ _ = _
  unfold eqD
  rw [if_pos (by show min _ (0 + 1) ≤ 60; omega)]
  cases xs <;> rfl
theorem filter_nil {p : W → Bool} {g : W → W} : ∀ xs : List W, ((xs.filter fun w => !p w).map g).isEmpty = xs.all p
  | [] => rfl
  | x :: xs => by
    rw [List.filter_cons, List.all_cons]
    cases h : p x with
    | true => simp only [Bool.not_true, Bool.false_eq_true, if_false, filter_nil xs, Bool.true_and]
    | false => rfl
/-- [.. for .. if not p] == [] -/
theorem pM_none {c : Ex} {g : W → W} {p : W → Bool} (hd : (deadAt ρ own && (tgs t).all (fun i => decide (i ∈ own))) = true) (h1 : pL cl src ρ = some ws) (h2 : srcW s (frzL ws) = some items) (h3 : items.length ≤ sizeLine) (h4 : ∀ w ∈ items, ∃ ρ2, bindT t w ρ = some ρ2 ∧ pM cl c .tst ρ2 = B (!p w) ∧ (p w = false → pM cl elt .val ρ2 = some (g w))) : pM cl (.cmp .Eq (.comp elt t s src (some c) own) (.lst [])) md ρ = pfin md (.a (.bl (items.all p))) := by
  have e := pM_filter (md := .opr) (b := fun w => !p w) (g := g) (elt := elt) hd h1 h2 h3 (fun w hw => by
    obtain ⟨ρ2, e1, e2, e3⟩ := h4 w hw
    exact ⟨ρ2, e1, e2, fun q => e3 (by simpa using q)⟩)
  have hz : (0 ≤ sizeLine) = True := by decide
  rw [show ∀ a b, pM cl (.cmp .Eq a b) md ρ = (match pM cl a .opr ρ with
    | some x => match pM cl b .opr ρ with
      | some y => match cmpW .Eq x y with
        | some c => pfin md (.a (.bl c))
        | none => none
      | none => none
    | none => none) from fun a b => rfl, e]
  simp only [pM, pL, List.length_nil, hz, if_true, pfin, eq_nil, filter_nil]
end
/-! ### words -/
def sW (ss : List Str) : List W := ss.map fun s => .a (.str s)
theorem inL_strs (s : Str) : ∀ ss : List Str, inL (.a (.str s)) (sW ss) = some (ss.any (· == s))
  | [] => rfl
  | x :: ss => by
    show (match eqD (.a (.str x)) (.a (.str s)), inL (.a (.str s)) (sW ss) with
      | some b, some c => some (b || c)
      | _, _ => none) = _
    rw [inL_strs s ss]
    rfl
theorem in_tup (s : Str) (ss : List Str) : cmpW .In (.a (.str s)) (.n .tup (sW ss)) = some (ss.any (· == s)) := inL_strs s ss
theorem in_lst (s : Str) (m : Bool) (ss : List Str) : cmpW .In (.a (.str s)) (.n (.lst m) (sW ss)) = some (ss.any (· == s)) := inL_strs s ss
theorem sW_fz : ∀ ss : List Str, fzL (sW ss) = true
  | [] => rfl
  | s :: ss => by show (true && fzL (sW ss)) = true; rw [sW_fz ss]; rfl
def oneB (ss : List Str) : W → Bool
  | .a (.str s) => ss.any (· == s)
  | _ => false
def fOneOf : Fn := ⟨2, 2, [0, 1], [.ret (.and (.isi (.var 0) [.str]) (.cmp .In (.var 0) (.var 1)))]⟩
theorem one_asks {tab : List Fn} {i : Nat} (h : tab[i]? = some fOneOf) (ss : List Str) (m : Nat) {w : W} (hw : Fit w) : prun tab (m + 1) i [w, .n .tup (sW ss)] = B (oneB ss w) := by
  rw [prun_at h rfl (by decide)]
  rcases hw.is with rfl | ⟨_, rfl⟩ | ⟨_, rfl⟩ | ⟨s, rfl⟩ | ⟨_, rfl⟩ | ⟨_, rfl⟩ | ⟨_, _, rfl⟩ <;> try rfl
  have a0 : at? [W.a (.str s), .n .tup (sW ss)] 0 = some (.a (.str s)) := rfl
  have a1 : at? [W.a (.str s), .n .tup (sW ss)] 1 = some (.n .tup (sW ss)) := rfl
  have t : isTys (.a (.str s)) [.str] = some true := rfl
  have e : pXs (prun tab m) fOneOf.body ([W.a (.str s), .n .tup (sW ss)] ++ List.replicate (fOneOf.ns - fOneOf.np) (.a .dead)) = some (B (ss.any (· == s)), [W.a (.str s), .n .tup (sW ss)]) := by
    show pXs (prun tab m) [.ret (.and (.isi (.var 0) [.str]) (.cmp .In (.var 0) (.var 1)))] [W.a (.str s), .n .tup (sW ss)] = _
    simp only [pXs, pX, pM, a0, a1, t, pfin, tru_b, in_tup]
  rw [e]
  rfl
/-! ### names -/
def resS : List Str := ["add", "back", "call", "cell", "do", "field", "function", "generator", "if", "im\x70ort", "integer", "is", "less", "let", "make", "maker", "module", "mul", "next", "nothing", "put", "quo", "rest", "same", "store", "sub", "tell", "throw", "try", "while", "word", "yield"]
def letters : Str := "abcdefghijklmnopqrstuvwxyz"
def pLet (c : Nat) : Bool := subStr ⟨#[c]⟩ letters
def pLetW : W → Bool
  | .a (.str s) => subStr s letters
  | _ => false
def ch (c : Nat) : W := .a (.str ⟨#[c]⟩)
def isNameB : W → Bool
  | .a (.str s) => decide (1 ≤ s.length) && decide (s.length ≤ 8) && !(resS.any (· == s)) && (s.cps.toList.map ch).all pLetW
  | _ => false
def fIsName : Fn := ⟨1, 2, [0], [.ife (.or (.not (.isi (.var 0) [.str])) (.or (.not (.chain .LtE .LtE (.k (.int 1)) (.bi .len [.var 0]) (.glob (.a (.int 8))))) (.cmp .In (.var 0) (.glob (.n .tup (sW resS)))))) [.ret (.k (.bl false))] [], .ret (.bi .all [.comp (.cmp .In (.var 1) (.glob (.a (.str letters)))) (.nm 1) .seq [.var 0] none [1]])]⟩
theorem ch_str {s : Str} {x : W} (h : x ∈ s.cps.toList.map ch) : ∃ c, x = ch c := by
  obtain ⟨c, _, rfl⟩ := List.mem_map.mp h
  exact ⟨c, rfl⟩
theorem name_str {cl : Nat → List W → Option W} {s : Str} (hs : s.length ≤ sizeLine) : pXs cl fIsName.body [.a (.str s), .a .dead] = some (B (isNameB (.a (.str s))), [.a (.str s), .a .dead]) := by
  have hln : biW .len [.a (.str s)] = some (.a (.int s.length)) := if_pos hs
  have a0 : at? [W.a (.str s), .a .dead] 0 = some (.a (.str s)) := rfl
  have hty : isTys (.a (.str s)) [.str] = some true := rfl
  have k1 : cmpI .LtE 1 s.length = some (decide (1 ≤ s.length)) := by show some (decide ((1 : Int) ≤ s.length)) = _; congr 1; simp; omega
  have k2 : cmpI .LtE s.length 8 = some (decide (s.length ≤ 8)) := by show some (decide ((s.length : Int) ≤ 8)) = _; congr 1; simp; omega
  have hc : pM cl (.bi .all [.comp (.cmp .In (.var 1) (.glob (.a (.str letters)))) (.nm 1) .seq [.var 0] none [1]]) .val [.a (.str s), .a .dead] = B ((s.cps.toList.map ch).all pLetW) := by
    refine pM_all (items := s.cps.toList.map ch) (ws := [.a (.str s)]) rfl rfl (if_pos hs) (by rw [List.length_map]; exact hs) (fun w hw => ?_)
    obtain ⟨c, rfl⟩ := ch_str hw
    exact ⟨[.a (.str s), ch c], rfl, rfl⟩
  unfold isNameB fIsName
  cases c1 : decide (1 ≤ s.length) <;> cases c2 : decide (s.length ≤ 8) <;> cases c3 : resS.any (· == s) <;>
    simp [pXs, pX, pM, pOs, a0, hty, hln, cutFs, cutF, pfin, tru_b, At.plain, k1, k2, c1, c2, c3, in_tup, ↓hc]
theorem name_asks {tab : List Fn} {i : Nat} (h : tab[i]? = some fIsName) : Asks tab i 1 isNameB := fun m w hw => by
  rw [prun_at h rfl (by decide)]
  rcases hw.is with rfl | ⟨_, rfl⟩ | ⟨_, rfl⟩ | ⟨s, rfl⟩ | ⟨_, rfl⟩ | ⟨_, rfl⟩ | ⟨_, _, rfl⟩ <;> try rfl
  rw [show ([W.a (.str s)] ++ List.replicate (fIsName.ns - fIsName.np) (.a .dead)) = [.a (.str s), .a .dead] from rfl, name_str hw.str]
end Lin.Pu

set_option Elab.async false
set_option linter.all false
set_option maxRecDepth 100000
set_option maxHeartbeats 4000000
/-! Lk, part B: a law's own look at names; what ops can keep. -/
namespace Lin.Pu
open PySem L2 Lin Lin.Ab
def wordsA : Str := "add back call cell do field function generator if im\x70ort integer is less let make maker module mul next"
def wordsB : Str := " nothing put quo rest same store sub tell throw try while word yield"
theorem words_split : Txt.split (wordsA ++ wordsB) " " = resS := by decide +kernel
def fWords : Fn := ⟨0, 1, [], [.set (.nm 0) (.k (.str wordsA)), .ret (.meth .split (.bin .add (.var 0) (.k (.str wordsB))) [.k (.str " ")])]⟩
theorem words_run {tab : List Fn} {i : Nat} (h : tab[i]? = some fWords) (m : Nat) : prun tab (m + 1) i [] = some (.n (.lst true) (sW resS)) := by
  rw [prun_at h rfl (by decide)]
  have b1 : binW .add (.a (.str wordsA)) (.a (.str wordsB)) = some (.a (.str (wordsA ++ wordsB))) := by simp only [binW]; exact if_pos (by decide +kernel)
  have m1 : mtW .split (.a (.str (wordsA ++ wordsB))) [.a (.str " ")] = some (.n (.lst true) ((Txt.split (wordsA ++ wordsB) " ").map fun x => .a (.str x)), .a (.str (wordsA ++ wordsB))) := by simp only [mtW]; exact if_pos (by decide +kernel)
  rw [words_split] at m1
  have a0 : at? [W.a (.str wordsA)] 0 = some (.a (.str wordsA)) := rfl
  have e : pXs (prun tab m) fWords.body ([] ++ List.replicate (fWords.ns - fWords.np) (.a .dead)) = some (some (.n (.lst true) (sW resS)), [.a (.str wordsA)]) := by
    show pXs (prun tab m) [.set (.nm 0) (.k (.str wordsA)), .ret (.meth .split (.bin .add (.var 0) (.k (.str wordsB))) [.k (.str " ")])] [.a .dead] = _
    have s0 : pX (prun tab m) (.set (.nm 0) (.k (.str wordsA))) [.a .dead] = some (none, [.a (.str wordsA)]) := rfl
    have g : pM (prun tab m) (.bin .add (.var 0) (.k (.str wordsB))) .opr [.a (.str wordsA)] = some (.a (.str (wordsA ++ wordsB))) := by
      rw [show ∀ a b ρ, pM (prun tab m) (.bin .add a b) .opr ρ = (match pM (prun tab m) a .val ρ with
        | some x => match pM (prun tab m) b .val ρ with
          | some y => match binW .add x.frzIn y.frzIn with
            | some w => pfin .opr w
            | none => none
          | none => none
        | none => none) from fun a b ρ => rfl]
      have v0 : pM (prun tab m) (.var 0) .val [.a (.str wordsA)] = some (.a (.str wordsA)) := rfl
      have k0 : pM (prun tab m) (.k (.str wordsB)) .val [.a (.str wordsA)] = some (.a (.str wordsB)) := rfl
      rw [v0, k0]
      simp only [W.frzIn, b1, pfin]
    have l : pL (prun tab m) [.k (.str " ")] [.a (.str wordsA)] = some [.a (.str " ")] := rfl
    have v : pM (prun tab m) (.meth .split (.bin .add (.var 0) (.k (.str wordsB))) [.k (.str " ")]) .val [.a (.str wordsA)] = some (.n (.lst true) (sW resS)) := by
      rw [show ∀ o es ρ, pM (prun tab m) (.meth .split o es) .val ρ = (match pM (prun tab m) o .opr ρ with
        | some w => if mtOk .split w then match pL (prun tab m) es ρ with
          | some ws => match mtW .split w ws with
            | some (r, _) => pfin .val r
            | none => none
          | none => none
          else none
        | none => none) from fun o es ρ => rfl, g, l]
      simp only [mtOk, if_true, m1, pfin]
      rfl
    exact (pXs_nx s0).trans (pXs_rt (pX_ret v))
  rw [e]
def fLawName (iW : Nat) : Fn := ⟨1, 2, [0], [.ife (.or (.not (.isi (.var 0) [.str])) (.or (.not (.chain .Lt .Lt (.k (.int 0)) (.bi .len [.var 0]) (.k (.int 9)))) (.cmp .In (.var 0) (.call iW [])))) [.ret (.k (.bl false))] [], .ret (.cmp .Eq (.comp (.var 1) (.nm 1) .seq [.var 0] (some (.cmp .NotIn (.var 1) (.k (.str letters)))) [1]) (.lst []))]⟩
theorem lname_str {cl : Nat → List W → Option W} {iW : Nat} (hW : cl iW [] = some (.n (.lst true) (sW resS))) {s : Str} (hs : s.length ≤ sizeLine) : pXs cl (fLawName iW).body [.a (.str s), .a .dead] = some (B (isNameB (.a (.str s))), [.a (.str s), .a .dead]) := by
  have hln : biW .len [.a (.str s)] = some (.a (.int s.length)) := if_pos hs
  have a0 : at? [W.a (.str s), .a .dead] 0 = some (.a (.str s)) := rfl
  have hty : isTys (.a (.str s)) [.str] = some true := rfl
  have k1 : cmpI .Lt 0 s.length = some (decide (1 ≤ s.length)) := by show some (decide ((0 : Int) < s.length)) = _; congr 1; simp; omega
  have k2 : cmpI .Lt s.length 9 = some (decide (s.length ≤ 8)) := by show some (decide ((s.length : Int) < 9)) = _; congr 1; simp; omega
  have hc : pM cl (.cmp .Eq (.comp (.var 1) (.nm 1) .seq [.var 0] (some (.cmp .NotIn (.var 1) (.k (.str letters)))) [1]) (.lst [])) .val [.a (.str s), .a .dead] = B ((s.cps.toList.map ch).all pLetW) := by
    refine pM_none (items := s.cps.toList.map ch) (ws := [.a (.str s)]) (g := id) rfl rfl (if_pos hs) (by rw [List.length_map]; exact hs) (fun w hw => ?_)
    obtain ⟨c, rfl⟩ := ch_str hw
    exact ⟨[.a (.str s), ch c], rfl, rfl, fun _ => rfl⟩
  have hz : fzL ([] : List W) = true := rfl
  unfold isNameB fLawName
  cases c1 : decide (1 ≤ s.length) <;> cases c2 : decide (s.length ≤ 8) <;> cases c3 : resS.any (· == s) <;>
    simp [pXs, pX, pM, pOs, a0, hty, hln, hW, hz, cutFs, cutF, pfin, tru_b, At.plain, k1, k2, c1, c2, c3, in_lst, ↓hc]
theorem lname_asks {tab : List Fn} {i iW : Nat} (h : tab[i]? = some (fLawName iW)) (hW : tab[iW]? = some fWords) : Asks tab i 2 isNameB := fun m w hw => by
  rw [show m + 2 = (m + 1) + 1 from rfl, prun_at h rfl (show 1 ≤ 2 by decide)]
  rcases hw.is with rfl | ⟨_, rfl⟩ | ⟨_, rfl⟩ | ⟨s, rfl⟩ | ⟨_, rfl⟩ | ⟨_, rfl⟩ | ⟨_, _, rfl⟩ <;> try rfl
  rw [show ([W.a (.str s)] ++ List.replicate ((fLawName iW).ns - (fLawName iW).np) (.a .dead)) = [.a (.str s), .a .dead] from rfl, lname_str (words_run hW m) hw.str]
/-! ### what ops keep -/
def keptB (w : W) : Bool := isNonB w || (isIntB w || isNameB w)
def fKept (iI iN : Nat) : Fn := ⟨1, 1, [0], [.ret (.or (.cmp .Is (.var 0) (.k .non)) (.or (.call iI [.var 0]) (.call iN [.var 0])))]⟩
theorem kept_val {tab : List Fn} {iI iN k1 k2 : Nat} (hI : Asks tab iI k1 isIntB) (hN : Asks tab iN k2 isNameB) {ρ : Env} {j : Nat} {w : W} (ha : at? ρ j = some w) (hw : Fit w) {n : Nat} (h1 : k1 ≤ n) (h2 : k2 ≤ n) : pM (prun tab n) (.or (.cmp .Is (.var j) (.k .non)) (.or (.call iI [.var j]) (.call iN [.var j]))) .val ρ = B (keptB w) := by
  have hv : pM (prun tab n) (.var j) .opr ρ = some w := by simp only [pM, ha]
  have c1 : pM (prun tab n) (.call iI [.var j]) .val ρ = B (isIntB w) := call_of hI h1 hv hw .val
  have c2 : pM (prun tab n) (.call iN [.var j]) .val ρ = B (isNameB w) := call_of hN h2 hv hw .val
  have c0 : pM (prun tab n) (.cmp .Is (.var j) (.k .non)) .val ρ = B (isNonB w) := by
    simp only [pM, ha, At.plain, if_true, is_non hw, pfin]
  have or_v : ∀ a b, pM (prun tab n) (.or a b) .val ρ = (match pM (prun tab n) a .val ρ with
      | some w => match tru w with
        | some true => some w
        | some false => pM (prun tab n) b .val ρ
        | none => none
      | none => none) := fun a b => rfl
  rw [or_v, c0, or_v, c1, c2]
  unfold keptB
  cases isNonB w <;> cases isIntB w <;> cases isNameB w <;> rfl
theorem kept_asks {tab : List Fn} {i iI iN k1 k2 : Nat} (h : tab[i]? = some (fKept iI iN)) (hI : Asks tab iI k1 isIntB) (hN : Asks tab iN k2 isNameB) : Asks tab i (max k1 k2 + 1) keptB := fun m w hw => by
  rw [show m + (max k1 k2 + 1) = (m + max k1 k2) + 1 from rfl, prun_at h rfl (Nat.le_refl 1)]
  have e := kept_val hI hN (at_0 (ρ := []) hw.alive) hw (n := m + max k1 k2) (by omega) (by omega)
  have e2 : pXs (prun tab (m + max k1 k2)) (fKept iI iN).body ([w] ++ List.replicate ((fKept iI iN).ns - (fKept iI iN).np) (.a .dead)) = some (B (keptB w), [w]) := by
    show pXs (prun tab (m + max k1 k2)) [.ret _] [w] = _
    simp only [pXs, pX, e]
  rw [e2]
end Lin.Pu

set_option Elab.async false
set_option linter.all false
set_option maxRecDepth 100000
set_option maxHeartbeats 4000000
/-! Lk, part C: ops by their form: the package's look and the law's own one. -/
namespace Lin.Pu
open PySem L2 Lin Lin.Ab
def opsS : List Str := ["add", "sub", "mul", "quo", "rest", "less", "same"]
def kindsS : List Str := ["cell", "function", "generator", "integer", "nothing", "word"]
def natsB : W → Bool
  | .n .tup xs => xs.all isNatB
  | _ => false
/-- the sorts of parts -/
def predN : Nat → W → Bool
  | 0 => isNatB
  | 1 => geB 1
  | 2 => keptB
  | 3 => isNameB
  | 4 => natsB
  | 5 => oneB opsS
  | _ => oneB kindsS
def P5 (x : Str) : Nat := if x == "value" then 2 else if x == "hops" then 1 else if x == "op" then 5 else if x == "kind" then 6 else if x == "label" then 3 else if x == "owns" then 4 else 0
section
variable {cl : Nat → List W → Option W} {ρ : Env} {x s : Str}
theorem tst_eq : pM cl (.cmp .Eq (.var 0) (.k (.str s))) .tst (.a (.str x) :: ρ) = B (x == s) := rfl
theorem val_eq : pM cl (.cmp .Eq (.var 0) (.k (.str s))) .val (.a (.str x) :: ρ) = B (x == s) := rfl
theorem ife_go {e : Ex} {ss : List Sm} {w : W} {c : Ex} {b : Bool} {r : Option (Option W × Env)} (h : pM cl c .tst ρ = B b) (h1 : b = true → pM cl e .val ρ = some w) (h2 : b = false → pXs cl ss ρ = r) : pXs cl (.ife c [.ret e] [] :: ss) ρ = if b then some (some w, ρ) else r := by
  cases b with
  | true => exact pXs_rt ((pX_t h).trans (pXs_rt (pX_ret (h1 rfl))))
  | false =>
    rw [pXs_nx ((pX_f h).trans rfl)]
    exact h2 rfl
theorem and_v {a b : Ex} {md : Md} (hm : md ≠ .tst) {p q : Bool} (h1 : pM cl a .val ρ = B p) (h2 : p = true → pM cl b .val ρ = B q) : pM cl (.and a b) md ρ = B (p && q) := by
  cases md with
  | tst => exact absurd rfl hm
  | val =>
    rw [show pM cl (.and a b) .val ρ = (match pM cl a .val ρ with
      | some w => match tru w with
        | some true => pM cl b .val ρ
        | some false => some w
        | none => none
      | none => none) from rfl, h1]
    cases p with
    | true => exact h2 rfl
    | false => rfl
  | opr =>
    rw [show pM cl (.and a b) .opr ρ = (match pM cl a .val ρ with
      | some w => match tru w with
        | some true => pM cl b .val ρ
        | some false => some w
        | none => none
      | none => none) from rfl, h1]
    cases p with
    | true => exact h2 rfl
    | false => rfl
theorem or_t {a b : Ex} {p q : Bool} (h1 : pM cl a .tst ρ = B p) (h2 : p = false → pM cl b .tst ρ = B q) : pM cl (.or a b) .tst ρ = B (p || q) := by
  rw [show pM cl (.or a b) .tst ρ = (match pM cl a .tst ρ with
    | some (.a (.bl true)) => some (.a (.bl true))
    | some (.a (.bl false)) => pM cl b .tst ρ
    | _ => none) from rfl, h1]
  cases p with
  | true => rfl
  | false => exact h2 rfl
theorem and_t {a b : Ex} {p q : Bool} (h1 : pM cl a .tst ρ = B p) (h2 : p = true → pM cl b .tst ρ = B q) : pM cl (.and a b) .tst ρ = B (p && q) := by
  rw [show pM cl (.and a b) .tst ρ = (match pM cl a .tst ρ with
    | some (.a (.bl true)) => pM cl b .tst ρ
    | some (.a (.bl false)) => some (.a (.bl false))
    | _ => none) from rfl, h1]
  cases p with
  | true => exact h2 rfl
  | false => rfl
theorem not_t {a : Ex} {p : Bool} (h1 : pM cl a .tst ρ = B p) : pM cl (.not a) .tst ρ = B (!p) := by
  rw [show pM cl (.not a) .tst ρ = (match pM cl a .tst ρ with
    | some (.a (.bl b)) => some (.a (.bl !b))
    | _ => none) from rfl, h1]
theorem isi_m {a : Ex} {ts : List Ty} {w : W} {b : Bool} (h : pM cl a .opr ρ = some w) (hb : isTys w ts = some b) (md : Md) : pM cl (.isi a ts) md ρ = pfin md (.a (.bl b)) := by
  rw [show pM cl (.isi a ts) md ρ = (match pM cl a .opr ρ with
    | some w => match isTys w ts with
      | some b => pfin md (.a (.bl b))
      | none => none
    | none => none) from rfl, h]
  simp only [hb]
theorem cmp_m {op : CmpOp} {a b : Ex} {x y : W} {c : Bool} (h1 : pM cl a .opr ρ = some x) (h2 : pM cl b .opr ρ = some y) (h : cmpW op x y = some c) (md : Md) : pM cl (.cmp op a b) md ρ = pfin md (.a (.bl c)) := by
  rw [show pM cl (.cmp op a b) md ρ = (match pM cl a .opr ρ with
    | some x => match pM cl b .opr ρ with
      | some y => match cmpW op x y with
        | some c => pfin md (.a (.bl c))
        | none => none
      | none => none
    | none => none) from rfl, h1, h2]
  simp only [h]
theorem sub_m {a i : Ex} {x y w : W} (h1 : pM cl a .opr ρ = some x) (h2 : pM cl i .opr ρ = some y) (hc : cutF x = some x) (h : subW x y = some w) (md : Md) : pM cl (.sub a i) md ρ = pfin md w := by
  rw [show pM cl (.sub a i) md ρ = (match pM cl a .opr ρ with
    | some x0 => match pM cl i .opr ρ with
      | some y => match cutF x0 with
        | some x => match subW x y with
          | some w => pfin md w
          | none => none
        | none => none
      | none => none
    | none => none) from rfl, h1, h2]
  simp only [hc, h]
theorem bi_m1 {b : Bi} {e : Ex} {x w : W} (h1 : pM cl e .opr ρ = some x) (hc : cutF x = some x) (h : biW b [x] = some w) (md : Md) : pM cl (.bi b [e]) md ρ = pfin md w := by
  rw [show pM cl (.bi b [e]) md ρ = (match pOs cl [e] ρ with
    | none => none
    | some os => match cutFs os with
      | none => none
      | some ws => match biW b ws with
        | some w => pfin md w
        | none => none) from rfl]
  simp only [pOs, h1, cutFs, hc, h]
theorem bin_m {op : Bop} {a b : Ex} {x y w : W} (h1 : pM cl a .val ρ = some x) (h2 : pM cl b .val ρ = some y) (h : binW op x.frzIn y.frzIn = some w) (md : Md) : pM cl (.bin op a b) md ρ = pfin md w := by
  rw [show pM cl (.bin op a b) md ρ = (match pM cl a .val ρ with
    | some x => match pM cl b .val ρ with
      | some y => match binW op x.frzIn y.frzIn with
        | some w => pfin md w
        | none => none
      | none => none
    | none => none) from rfl, h1, h2]
  simp only [h]
theorem call2 {f : Nat} {e1 e2 : Ex} {x y r : W} (h1 : pM cl e1 .opr ρ = some x) (h2 : pM cl e2 .opr ρ = some y) (hf : fzL [x, y] = true) (h : cl f [x, y] = some r) (md : Md) : pM cl (.call f [e1, e2]) md ρ = pfin md r := by
  rw [show pM cl (.call f [e1, e2]) md ρ = (match pOs cl [e1, e2] ρ with
    | none => none
    | some ws => if fzL ws then match cl f ws with
      | none => none
      | some r => pfin md r
      else none) from rfl]
  simp only [pOs, h1, h2, hf, if_true, h]
theorem int_ge {tab : List Fn} {i k n : Nat} (h : Asks tab i k isIntB) (hn : k ≤ n) {ρ : Env} {j : Nat} {w : W} (ha : at? ρ j = some w) (hw : Fit w) (z : Int) : pM (prun tab n) (.and (.call i [.var j]) (.cmp .GtE (.var j) (.k (.int z)))) .val ρ = B (geB z w) := by
  obtain ⟨m, rfl⟩ : ∃ m, n = m + k := ⟨n - k, by omega⟩
  exact intGe h ha hw z
end
theorem two_fz {x y : W} (h1 : x.fz = true) (h2 : y.fz = true) : fzL [x, y] = true := by simp [fzL, h1, h2]
theorem cut_of {w : W} (h : w.fz = true) : cutF w = some w := by
  cases w with
  | a x => rfl
  | n k xs =>
    simp only [W.fz, Bool.and_eq_true] at h
    simp only [cutF, h.2, if_true]
/-! ### the package's parts of ops -/
def fOpPart (iK iI iO iN iNat : Nat) : Fn := ⟨2, 3, [0, 1], [.ife (.cmp .Eq (.var 0) (.k (.str "value"))) [.ret (.call iK [.var 1])] [], .ife (.cmp .Eq (.var 0) (.k (.str "hops"))) [.ret (.and (.call iI [.var 1]) (.cmp .GtE (.var 1) (.k (.int 1))))] [], .ife (.cmp .Eq (.var 0) (.k (.str "op"))) [.ret (.call iO [.var 1, .glob (.n .tup (sW opsS))])] [], .ife (.cmp .Eq (.var 0) (.k (.str "kind"))) [.ret (.call iO [.var 1, .glob (.n .tup (sW kindsS))])] [], .ife (.cmp .Eq (.var 0) (.k (.str "label"))) [.ret (.call iN [.var 1])] [], .ife (.cmp .Eq (.var 0) (.k (.str "owns"))) [.ret (.and (.isi (.var 1) [.tuple]) (.bi .all [.comp (.call iNat [.var 2]) (.nm 2) .seq [.var 1] none [2]]))] [], .ret (.call iNat [.var 1])]⟩
section
variable {tab : List Fn} {iP iK iI iO iN iNat kK kI kN kNat : Nat} (hP : tab[iP]? = some (fOpPart iK iI iO iN iNat)) (hK : Asks tab iK kK keptB) (hI : Asks tab iI kI isIntB) (hO : tab[iO]? = some fOneOf) (hN : Asks tab iN kN isNameB) (hNat : Asks tab iNat kNat isNatB)
include hP hK hI hO hN hNat
theorem part_run {n : Nat} (hn : kK + kI + kN + kNat + 1 ≤ n) (x : Str) {w : W} (hw : Fit w) : prun tab (n + 1) iP [.a (.str x), w] = B (predN (P5 x) w) := by
  have a1 : at? [W.a (.str x), w, .a .dead] 1 = some w := by show (if w.alive then some w else none) = _; rw [if_pos hw.alive]
  have v1 : pM (prun tab n) (.var 1) .opr [W.a (.str x), w, .a .dead] = some w := by simp only [pM, a1]
  have one : ∀ ss : List Str, pM (prun tab n) (.call iO [.var 1, .glob (.n .tup (sW ss))]) .val [W.a (.str x), w, .a .dead] = B (oneB ss w) := fun ss => by
    obtain ⟨m, rfl⟩ : ∃ m, n = m + 1 := ⟨n - 1, by omega⟩
    refine (call2 v1 (y := .n .tup (sW ss)) rfl (two_fz hw.fz (by show (true && fzL (sW ss)) = true; rw [sW_fz]; rfl)) (one_asks hO ss m hw) .val).trans rfl
  have owns : pM (prun tab n) (.and (.isi (.var 1) [.tuple]) (.bi .all [.comp (.call iNat [.var 2]) (.nm 2) .seq [.var 1] none [2]])) .val [W.a (.str x), w, .a .dead] = B (natsB w) := by
    have t := isi_m v1 (isi_tup hw) .val
    rcases hw.is with rfl | ⟨_, rfl⟩ | ⟨_, rfl⟩ | ⟨_, rfl⟩ | ⟨xs, rfl⟩ | ⟨_, rfl⟩ | ⟨_, _, rfl⟩
    case inr.inr.inr.inr.inl =>
      refine and_v (by simp) (p := true) t (fun _ => ?_)
      have hl : pL (prun tab n) [.var 1] [W.a (.str x), .n .tup xs, .a .dead] = some [.n .tup xs] := by
        have hf := hw.fz
        simp only [pL, Ab.noSt, pM, a1, hf, if_true]
      refine (pM_all (items := xs) (ws := [.n .tup xs]) rfl hl ?_ hw.len (fun y hy => ?_)).trans rfl
      · show some (frzL xs) = _
        rw [Ab.frzL_fzW hw.fzl]
      · have hy := hw.sub hy
        refine ⟨[W.a (.str x), .n .tup xs, y], rfl, (call_of hNat (by omega) (w := y) ?_ hy .val).trans rfl⟩
        have a2 : at? [W.a (.str x), .n .tup xs, y] 2 = some y := by show (if y.alive then some y else none) = _; rw [if_pos hy.alive]
        simp only [pM, a2]
    all_goals exact (and_v (q := false) (by simp) t (fun q => by cases q)).trans rfl
  refine prun_rt (ρ := [W.a (.str x), w, .a .dead]) hP rfl (show 2 ≤ 3 by decide) ?_
  have e : pXs (prun tab n) (fOpPart iK iI iO iN iNat).body [W.a (.str x), w, .a .dead] = _ :=
    ife_go tst_eq (fun _ => call_of hK (by omega) v1 hw .val) fun _ =>
    ife_go tst_eq (fun _ => int_ge hI (by omega) a1 hw 1) fun _ =>
    ife_go tst_eq (fun _ => one opsS) fun _ =>
    ife_go tst_eq (fun _ => one kindsS) fun _ =>
    ife_go tst_eq (fun _ => call_of hN (by omega) v1 hw .val) fun _ =>
    ife_go tst_eq (fun _ => owns) fun _ => pXs_rt (pX_ret (call_of hNat (by omega) v1 hw .val))
  refine e.trans ?_
  unfold P5
  repeat' split
  all_goals rfl
end
end Lin.Pu

set_option Elab.async false
set_option linter.all false
set_option maxRecDepth 100000
set_option maxHeartbeats 4000000
/-! Lk, part D: ops by their form, as a whole. -/
namespace Lin.Pu
open PySem L2 Lin Lin.Ab
def opKeys : List Str := ["keep", "move", "outer", "into", "other", "work", "cell", "load", "store", "close", "call", "next", "is", "tell", "jump", "unless", "turn", "back", "end", "throw", "try", "untry", "yield"]
def opShapes : List (List Str) := [["own", "value"], ["own", "own"], ["own", "hops", "far"], ["hops", "far", "own"], ["own", "code", "far"], ["own", "op", "own", "own"], ["own"], ["own", "own", "label"], ["own", "label", "own"], ["own", "code"], ["own", "own", "owns"], ["own", "own"], ["own", "kind", "own"], ["own"], ["at"], ["own", "at"], [], ["own"], [], ["own"], ["at", "own"], [], ["own"]]
def opLetters : List Str := ["rv", "rr", "rhr", "hrr", "rrr", "rwrr", "r", "rrn", "rnr", "rr", "rrl", "rr", "rkr", "r", "r", "rr", "", "r", "", "r", "rr", "", "r"]
def opWs : List W := opShapes.map fun l => .n .tup (sW l)
theorem look_map {α : Type} {f : α → W} (s : Str) : ∀ {ks : List Str} {ts : List α}, lookK (.inr s) (ks.map .inr) (ts.map f) = ((ks.zip ts).lookup s).map f
  | [], ts => by cases ts <;> rfl
  | k :: ks, [] => rfl
  | k :: ks, t :: ts => by
    simp only [List.map_cons, lookK, List.zip_cons_cons, List.lookup_cons]
    by_cases h : k = s
    · subst h; simp
    · have h2 : (s == k) = false := by simpa using fun q : s = k => h q.symm
      rw [if_neg (fun q => h (Sum.inr.inj q)), h2]
      exact look_map s
theorem look_any {α : Type} (s : Str) : ∀ {ks : List Str} {ts : List α}, ks.length = ts.length → ((ks.zip ts).lookup s).isSome = ks.any (· == s)
  | [], [], _ => rfl
  | k :: ks, t :: ts, h => by
    simp only [List.zip_cons_cons, List.lookup_cons, List.any_cons]
    by_cases q : k = s
    · subst q; simp
    · have h2 : (s == k) = false := by simpa using fun z : s = k => q z.symm
      have h3 : (k == s) = false := by simpa using q
      rw [h2, h3]
      exact look_any s (by simpa using h)
/-- the parts, asked -/
def partsB (cs : List Nat) (xs : List W) : Bool := decide (xs.length = cs.length) && (cs.zip xs).all fun p => predN p.1 p.2
def opCodes (s : Str) : Option (List Nat) := ((opKeys.zip opShapes).lookup s).map fun l => l.map P5
def isOpB : W → Bool
  | .n .tup (.a (.str s) :: xs) => match opCodes s with
    | some cs => partsB cs xs
    | none => false
  | _ => false
def fIsOp (iO iP : Nat) : Fn := ⟨1, 4, [0], [.ife (.or (.not (.isi (.var 0) [.tuple])) (.or (.cmp .Eq (.var 0) (.tup [])) (.not (.call iO [.sub (.var 0) (.k (.int 0)), .tupK opKeys])))) [.ret (.k (.bl false))] [], .set (.nm 1) (.subK (.sub (.var 0) (.k (.int 0))) opKeys opWs), .ret (.and (.cmp .Eq (.bi .len [.var 0]) (.bin .add (.bi .len [.var 1]) (.k (.int 1)))) (.bi .all [.comp (.call iP [.var 2, .var 3]) (.tp [2, 3]) .zip [.var 1, .slice (.var 0) (some (.k (.int 1))) none] none [2, 3]]))]⟩
theorem eq_nilT (x : W) (xs : List W) : cmpW .Eq (.n .tup (x :: xs)) (.n .tup []) = some false := by
  show eqD _ _ = _
  unfold eqD
  rw [if_pos (by show min _ (0 + 1) ≤ 60; omega)]
  rfl
theorem cut_1 (x : W) (xs : List W) : cutL (x :: xs) (some 1) none = xs := by
  unfold cutL
  have e1 : HT.sIx (x :: xs).length 0 (some 1) = 1 := by
    show (if (1 : Int) < 0 then ((1 : Int) + ((x :: xs).length : Int)).toNat else min (1 : Int).toNat (x :: xs).length) = 1
    rw [if_neg (by decide)]
    simp
  have e2 : HT.sIx (x :: xs).length (x :: xs).length none = (x :: xs).length := rfl
  rw [e1, e2]
  simp
theorem zip_all {f : Str → Nat} : ∀ (l : List Str) (xs : List W), ((l.map f).zip xs).all (fun p => predN p.1 p.2) = (l.zip xs).all fun p => predN (f p.1) p.2
  | [], xs => rfl
  | s :: l, [] => rfl
  | s :: l, x :: xs => by simp only [List.map_cons, List.zip_cons_cons, List.all_cons, zip_all l xs]
def partW : W → Bool
  | .n .tup [.a (.str x), y] => predN (P5 x) y
  | _ => false
theorem zipS_all : ∀ (l : List Str) (xs : List W), (((sW l).zip xs).map fun p => W.n .tup [p.1, p.2]).all partW = (l.zip xs).all fun p => predN (P5 p.1) p.2
  | [], xs => rfl
  | s :: l, [] => rfl
  | s :: l, x :: xs => by
    show (partW (.n .tup [.a (.str s), x]) && (((sW l).zip xs).map fun p => W.n .tup [p.1, p.2]).all partW) = _
    rw [zipS_all l xs, List.zip_cons_cons, List.all_cons]
    rfl
theorem sub_0 (x : W) (xs : List W) : subW (.n .tup (x :: xs)) (.a (.int 0)) = some x := by
  show atI (x :: xs) 0 = _
  rw [atI_pos (by decide) (by rw [List.length_cons]; omega)]
  rfl
theorem Fit.tl {x : W} {xs : List W} (h : Fit (.n .tup (x :: xs))) : fzL xs = true := by
  have := h.fzl
  simp only [fzL, Bool.and_eq_true] at this
  exact this.2
section
variable {tab : List Fn} {iE iP iO kP : Nat} (hE : tab[iE]? = some (fIsOp iO iP)) (hO : tab[iO]? = some fOneOf) (hP : ∀ n, kP ≤ n → ∀ x w, Fit w → prun tab n iP [.a (.str x), w] = B (predN (P5 x) w))
include hE hO hP
theorem op_asks (hk : 1 ≤ kP) : Asks tab iE (kP + 1) isOpB := fun m w hw => by
  have hn : kP ≤ m + kP := by omega
  generalize hN : m + kP = n at hn
  rw [show m + (kP + 1) = n + 1 by omega]
  have a0 : at? [w, .a .dead, .a .dead, .a .dead] 0 = some w := at_0 hw.alive
  have v0 : pM (prun tab n) (.var 0) .opr [w, .a .dead, .a .dead, .a .dead] = some w := by simp only [pM, a0]
  have no : isOpB w = false → pM (prun tab n) (.or (.not (.isi (.var 0) [.tuple])) (.or (.cmp .Eq (.var 0) (.tup [])) (.not (.call iO [.sub (.var 0) (.k (.int 0)), .tupK opKeys])))) .tst [w, .a .dead, .a .dead, .a .dead] = B true → prun tab (n + 1) iE [w] = B (isOpB w) := fun q t => by
    rw [q]
    exact prun_rt hE rfl (show 1 ≤ 4 by decide) (pXs_rt ((pX_t t).trans (pXs_rt (pX_ret rfl))))
  have ti := isi_m v0 (isi_tup hw) .tst
  have notTup : isTupB w = false → isOpB w = false → prun tab (n + 1) iE [w] = B (isOpB w) := fun q q2 => no q2 (by
    rw [q] at ti
    exact or_t (p := true) (q := true) (not_t (p := false) ti) (fun z => by cases z))
  rcases hw.is with rfl | ⟨_, rfl⟩ | ⟨_, rfl⟩ | ⟨_, rfl⟩ | ⟨xs, rfl⟩ | ⟨_, rfl⟩ | ⟨_, _, rfl⟩
  case inr.inr.inr.inr.inl =>
    cases xs with
    | nil => exact no rfl (or_t (p := false) (q := true) (not_t (p := true) ti) fun _ => or_t (p := true) (q := true) (cmp_m v0 rfl rfl .tst) (fun z => by cases z))
    | cons x xs =>
      have hx : Fit x := hw.sub List.mem_cons_self
      have ce := cmp_m v0 (b := .tup []) (y := .n .tup []) rfl (eq_nilT x xs) .tst
      have s0 : ∀ md, pM (prun tab n) (.sub (.var 0) (.k (.int 0))) md [.n .tup (x :: xs), .a .dead, .a .dead, .a .dead] = pfin md x := fun md => sub_m v0 rfl (cut_of hw.fz) (sub_0 x xs) md
      obtain ⟨n', rfl⟩ : ∃ n', n = n' + 1 := ⟨n - 1, by omega⟩
      have co : pM (prun tab (n' + 1)) (.call iO [.sub (.var 0) (.k (.int 0)), .tupK opKeys]) .tst [.n .tup (x :: xs), .a .dead, .a .dead, .a .dead] = B (oneB opKeys x) :=
        (call2 (s0 .opr) (y := .n .tup (sW opKeys)) rfl (two_fz hx.fz (by show (true && fzL (sW opKeys)) = true; rw [sW_fz]; rfl)) (one_asks hO opKeys n' hx) .tst).trans rfl
      have cond := or_t (not_t (p := true) ti) fun _ => or_t (p := false) ce fun _ => not_t co
      cases ho : oneB opKeys x with
      | false =>
        rw [ho] at cond
        refine no ?_ cond
        rcases hx.is with rfl | ⟨_, rfl⟩ | ⟨_, rfl⟩ | ⟨s, rfl⟩ | ⟨_, rfl⟩ | ⟨_, rfl⟩ | ⟨_, _, rfl⟩ <;> try rfl
        have ho : opKeys.any (· == s) = false := ho
        rw [← look_any (ts := opShapes) s rfl] at ho
        show (match opCodes s with
          | some cs => partsB cs xs
          | none => false) = false
        unfold opCodes
        cases e : (opKeys.zip opShapes).lookup s with
        | none => rfl
        | some l => rw [e] at ho; cases ho
      | true =>
        rw [ho] at cond
        obtain ⟨s, rfl⟩ : ∃ s, x = .a (.str s) := by
          rcases hx.is with rfl | ⟨_, rfl⟩ | ⟨_, rfl⟩ | ⟨s, rfl⟩ | ⟨_, rfl⟩ | ⟨_, rfl⟩ | ⟨_, _, rfl⟩ <;> first | exact ⟨_, rfl⟩ | cases ho
        have ho : opKeys.any (· == s) = true := ho
        rw [← look_any (ts := opShapes) s rfl] at ho
        obtain ⟨l, hl⟩ := Option.isSome_iff_exists.mp ho
        have hk2 : lookK (.inr s) (opKeys.map .inr) opWs = some (.n .tup (sW l)) := by
          unfold opWs
          rw [look_map (f := fun l => W.n .tup (sW l)), hl]; rfl
        have hb : isOpB (.n .tup (.a (.str s) :: xs)) = partsB (l.map P5) xs := by
          show (match opCodes s with
            | some cs => partsB cs xs
            | none => false) = _
          unfold opCodes
          rw [hl]; rfl
        have e1 : pX (prun tab (n' + 1)) (.set (.nm 1) (.subK (.sub (.var 0) (.k (.int 0))) opKeys opWs)) [.n .tup (.a (.str s) :: xs), .a .dead, .a .dead, .a .dead] = some (none, [.n .tup (.a (.str s) :: xs), .n .tup (sW l), .a .dead, .a .dead]) := by
          refine (pX_set (w := .n .tup (sW l)) ?_).trans rfl
          have := s0 .opr
          rw [show ∀ a ks ws ρ, pM (prun tab (n' + 1)) (.subK a ks ws) .val ρ = (match pM (prun tab (n' + 1)) a .opr ρ with
            | some (.a (.str s)) => match lookK (.inr s) (ks.map .inr) ws with
              | some w => pfin .val w
              | none => none
            | _ => none) from fun a ks ws ρ => rfl, this]
          simp only [pfin, hk2]
        have b0 : at? [.n .tup (.a (.str s) :: xs), .n .tup (sW l), .a .dead, .a .dead] 0 = some (.n .tup (.a (.str s) :: xs)) := rfl
        have u0 : ∀ cl, pM cl (.var 0) .opr [.n .tup (.a (.str s) :: xs), .n .tup (sW l), .a .dead, .a .dead] = some (.n .tup (.a (.str s) :: xs)) := fun cl => rfl
        have u1 : ∀ cl, pM cl (.var 1) .opr [.n .tup (.a (.str s) :: xs), .n .tup (sW l), .a .dead, .a .dead] = some (.n .tup (sW l)) := fun cl => rfl
        have fl : (W.n .tup (sW l)).fz = true := by show (true && fzL (sW l)) = true; rw [sW_fz]; rfl
        have len : pM (prun tab (n' + 1)) (.cmp .Eq (.bi .len [.var 0]) (.bin .add (.bi .len [.var 1]) (.k (.int 1)))) .val [.n .tup (.a (.str s) :: xs), .n .tup (sW l), .a .dead, .a .dead] = B (decide (xs.length = l.length)) := by
          have l0 := bi_m1 (b := .len) (u0 (prun tab (n' + 1))) (cut_of hw.fz) (w := .a (.int ((W.a (.str s) :: xs).length))) rfl .opr
          have l1 := bi_m1 (b := .len) (u1 (prun tab (n' + 1))) (cut_of fl) (w := .a (.int (sW l).length)) rfl .val
          have l2 := bin_m l1 (b := .k (.int 1)) (y := .a (.int 1)) rfl (op := .add) (w := .a (.int ((sW l).length + 1))) rfl .opr
          refine (cmp_m l0 l2 (c := decide (xs.length = l.length)) ?_ .val).trans rfl
          rw [eq_int]
          congr 1
          have : (sW l).length = l.length := by simp [sW]
          rw [this, List.length_cons, Bool.eq_iff_iff, beq_iff_eq, decide_eq_true_eq]
          omega
        have all : xs.length = l.length → pM (prun tab (n' + 1)) (.bi .all [.comp (.call iP [.var 2, .var 3]) (.tp [2, 3]) .zip [.var 1, .slice (.var 0) (some (.k (.int 1))) none] none [2, 3]]) .val [.n .tup (.a (.str s) :: xs), .n .tup (sW l), .a .dead, .a .dead] = B ((l.zip xs).all fun p => predN (P5 p.1) p.2) := fun hxl => by
          have hs : pL (prun tab (n' + 1)) [.var 1, .slice (.var 0) (some (.k (.int 1))) none] [.n .tup (.a (.str s) :: xs), .n .tup (sW l), .a .dead, .a .dead] = some [.n .tup (sW l), .n .tup xs] := by
            have w1 : pM (prun tab (n' + 1)) (.var 1) .val [.n .tup (.a (.str s) :: xs), .n .tup (sW l), .a .dead, .a .dead] = some (.n .tup (sW l)) := by
              show (if (W.n .tup (sW l)).fz then some (W.n .tup (sW l)) else none) = _
              rw [if_pos fl]
            have w2 : pM (prun tab (n' + 1)) (.slice (.var 0) (some (.k (.int 1))) none) .val [.n .tup (.a (.str s) :: xs), .n .tup (sW l), .a .dead, .a .dead] = some (.n .tup xs) := by
              rw [show ∀ a lo hi ρ, pM (prun tab (n' + 1)) (.slice a lo hi) .val ρ = (match pM (prun tab (n' + 1)) a .opr ρ with
                | some x0 => match pO (prun tab (n' + 1)) lo ρ with
                  | some l => match pO (prun tab (n' + 1)) hi ρ with
                    | some h => match cutF x0 with
                      | some x => match sliceW x l h with
                        | some w => pfin .val w
                        | none => none
                      | none => none
                    | none => none
                  | none => none
                | none => none) from fun a lo hi ρ => rfl, u0]
              have o1 : pO (prun tab (n' + 1)) (some (.k (.int 1))) [.n .tup (.a (.str s) :: xs), .n .tup (sW l), .a .dead, .a .dead] = some (some 1) := rfl
              have o2 : pO (prun tab (n' + 1)) none [.n .tup (.a (.str s) :: xs), .n .tup (sW l), .a .dead, .a .dead] = some none := rfl
              simp only [o1, o2, cut_of hw.fz, sliceW, cut_1, pfin]
            simp only [pL, Ab.noSt, w1, w2]
          have hz : frzL [W.n .tup (sW l), .n .tup xs] = [.n .tup (sW l), .n .tup xs] := Ab.frzL_fzW (two_fz fl (by show (true && fzL xs) = true; rw [hw.tl]; rfl))
          have hlen := hw.len
          rw [List.length_cons] at hlen
          refine (pM_all (items := ((sW l).zip xs).map fun p => .n .tup [p.1, p.2]) (p := partW) rfl hs (by rw [hz]; rfl) ?_ (fun y hy => ?_)).trans ?_
          · rw [List.length_map, List.length_zip]
            omega
          · obtain ⟨⟨p, q⟩, hpq, rfl⟩ := List.mem_map.mp hy
            obtain ⟨h1, h2⟩ := List.of_mem_zip hpq
            obtain ⟨z, _, rfl⟩ := List.mem_map.mp h1
            have hq : Fit q := hw.sub (List.mem_cons_of_mem _ h2)
            have a2 : at? [.n .tup (.a (.str s) :: xs), .n .tup (sW l), .a (.str z), q] 2 = some (.a (.str z)) := rfl
            have a3 : at? [.n .tup (.a (.str s) :: xs), .n .tup (sW l), .a (.str z), q] 3 = some q := by show (if q.alive then some q else none) = _; rw [if_pos hq.alive]
            have v2 : pM (prun tab (n' + 1)) (.var 2) .opr [.n .tup (.a (.str s) :: xs), .n .tup (sW l), .a (.str z), q] = some (.a (.str z)) := by simp only [pM, a2]
            have v3 : pM (prun tab (n' + 1)) (.var 3) .opr [.n .tup (.a (.str s) :: xs), .n .tup (sW l), .a (.str z), q] = some q := by simp only [pM, a3]
            exact ⟨[.n .tup (.a (.str s) :: xs), .n .tup (sW l), .a (.str z), q], rfl, call2 v2 v3 (two_fz rfl hq.fz) (hP (n' + 1) hn z q hq) .val⟩
          · rw [zipS_all]; rfl
        rw [hb]
        refine prun_rt (ρ := [.n .tup (.a (.str s) :: xs), .n .tup (sW l), .a .dead, .a .dead]) hE rfl (show 1 ≤ 4 by decide) ?_
        refine (pXs_nx ((pX_f cond).trans rfl)).trans ((pXs_nx e1).trans (pXs_rt (pX_ret ?_)))
        refine (and_v (by simp) len fun q => all (of_decide_eq_true q)).trans ?_
        unfold partsB
        rw [zip_all, List.length_map]
  all_goals exact notTup rfl rfl
end
end Lin.Pu

set_option Elab.async false
set_option linter.all false
set_option maxRecDepth 100000
set_option maxHeartbeats 4000000
/-! Lk, part E: ops by their form: a law's own look. -/
namespace Lin.Pu
open PySem L2 Lin Lin.Ab
def P21 (c : Nat) : Nat := if c = 114 then 0 else if c = 104 then 1 else if c = 118 then 2 else if c = 110 then 3 else if c = 108 then 4 else if c = 119 then 5 else 6
def let7 : List Nat := [114, 104, 118, 110, 108, 119, 107]
def sg (c : Nat) : Str := ⟨#[c]⟩
def fLst (ss : List Str) : Fn := ⟨0, 0, [], [.ret (.lst (ss.map fun s => .k (.str s)))]⟩
theorem pL_strs {cl : Nat → List W → Option W} {ρ : Env} : ∀ ss : List Str, pL cl (ss.map fun s => .k (.str s)) ρ = some (sW ss)
  | [] => rfl
  | s :: ss => by
    show pL cl (.k (.str s) :: ss.map fun s => .k (.str s)) ρ = _
    have h : pM cl (.k (.str s)) .val ρ = some (.a (.str s)) := rfl
    simp only [pL, Ab.noSt, h, pL_strs ss]
    rfl
theorem lst_run {tab : List Fn} {i : Nat} {ss : List Str} (h : tab[i]? = some (fLst ss)) (hl : ss.length ≤ sizeLine) (m : Nat) : prun tab (m + 1) i [] = some (.n (.lst true) (sW ss)) := by
  refine prun_rt (ρ := []) h rfl (Nat.le_refl 0) (pXs_rt (pX_ret ?_))
  have e := pL_strs (cl := prun tab m) (ρ := []) ss
  have hl2 : (sW ss).length ≤ sizeLine := by simpa [sW] using hl
  show (match pL (prun tab m) (ss.map fun s => .k (.str s)) [] with
    | some ws => if ws.length ≤ sizeLine then pfin .val (.n (.lst true) ws) else none
    | none => none) = _
  rw [e]
  simp only [hl2, if_true, pfin]
def fLawPart (iI iN iW iD iP : Nat) : Fn := ⟨2, 3, [0, 1], [.ife (.cmp .In (.var 0) (.k (.str "rh"))) [.ret (.and (.call iI [.var 1]) (.cmp .GtE (.var 1) (.bi .int [.cmp .Eq (.var 0) (.k (.str "h"))])))] [], .ife (.cmp .Eq (.var 0) (.k (.str "v"))) [.ret (.or (.cmp .Is (.var 1) (.k .non)) (.or (.call iI [.var 1]) (.call iN [.var 1])))] [], .ife (.cmp .Eq (.var 0) (.k (.str "n"))) [.ret (.call iN [.var 1])] [], .ife (.cmp .Eq (.var 0) (.k (.str "l"))) [.ret (.and (.isi (.var 1) [.tuple]) (.cmp .Eq (.comp (.var 2) (.nm 2) .seq [.var 1] (some (.not (.call iP [.k (.str "r"), .var 2]))) [2]) (.lst [])))] [], .ret (.and (.isi (.var 1) [.str]) (.cmp .In (.var 1) (.ite (.cmp .Eq (.var 0) (.k (.str "w"))) (.call iW []) (.call iD []))))]⟩
theorem tst_in {cl : Nat → List W → Option W} {ρ : Env} {x s : Str} : pM cl (.cmp .In (.var 0) (.k (.str s))) .tst (.a (.str x) :: ρ) = B (subStr x s) := rfl
section
variable {tab : List Fn} {iP iI iN iW iD kI kN : Nat} (hP : tab[iP]? = some (fLawPart iI iN iW iD iP)) (hI : Asks tab iI kI isIntB) (hN : Asks tab iN kN isNameB) (hW : tab[iW]? = some (fLst opsS)) (hD : tab[iD]? = some (fLst kindsS))
include hP hI hN hW hD
omit hN hW hD in
theorem lpart_rh {n : Nat} (hn : kI ≤ n) (x : Str) (hx : subStr x "rh" = true) {w : W} (hw : Fit w) : prun tab (n + 1) iP [.a (.str x), w] = B (geB (b2z (x == "h")) w) := by
  have a1 : at? [W.a (.str x), w, .a .dead] 1 = some w := by show (if w.alive then some w else none) = _; rw [if_pos hw.alive]
  have v1 : pM (prun tab n) (.var 1) .opr [W.a (.str x), w, .a .dead] = some w := by simp only [pM, a1]
  refine prun_rt (ρ := [W.a (.str x), w, .a .dead]) hP rfl (show 2 ≤ 3 by decide) ?_
  have t : pM (prun tab n) (.cmp .In (.var 0) (.k (.str "rh"))) .tst [W.a (.str x), w, .a .dead] = B true := tst_in.trans (by rw [hx])
  have c := call_of hI hn v1 hw .val
  refine pXs_rt ((pX_t t).trans (pXs_rt (pX_ret ?_)))
  rcases hw.is with rfl | ⟨_, rfl⟩ | ⟨i, rfl⟩ | ⟨_, rfl⟩ | ⟨_, rfl⟩ | ⟨_, rfl⟩ | ⟨_, _, rfl⟩
  case inr.inr.inl =>
    refine and_v (by simp) (p := true) c fun _ => ?_
    exact (cmp_m v1 (y := .a (.int (b2z (x == "h")))) rfl (ge_int i _) .val).trans rfl
  all_goals exact (and_v (q := false) (by simp) c (fun q => by cases q)).trans rfl
theorem lpart_run {n : Nat} (hn : kI + kN + 2 ≤ n) {c : Nat} (hc : c ∈ let7) {w : W} (hw : Fit w) : prun tab (n + 1) iP [.a (.str (sg c)), w] = B (predN (P21 c) w) := by
  by_cases h0 : subStr (sg c) "rh" = true
  · rw [lpart_rh hP hI (by omega) (sg c) h0 hw]
    simp only [let7, List.mem_cons, List.not_mem_nil, or_false] at hc
    rcases hc with rfl | rfl | rfl | rfl | rfl | rfl | rfl <;> first | rfl | exact absurd h0 (by decide +kernel)
  · have h0 : subStr (sg c) "rh" = false := by simpa using h0
    generalize hx : sg c = x at h0
    have a1 : at? [W.a (.str x), w, .a .dead] 1 = some w := by show (if w.alive then some w else none) = _; rw [if_pos hw.alive]
    have v1 : pM (prun tab n) (.var 1) .opr [W.a (.str x), w, .a .dead] = some w := by simp only [pM, a1]
    have lots : pM (prun tab n) (.and (.isi (.var 1) [.tuple]) (.cmp .Eq (.comp (.var 2) (.nm 2) .seq [.var 1] (some (.not (.call iP [.k (.str "r"), .var 2]))) [2]) (.lst []))) .val [W.a (.str x), w, .a .dead] = B (natsB w) := by
      have t := isi_m v1 (isi_tup hw) .val
      rcases hw.is with rfl | ⟨_, rfl⟩ | ⟨_, rfl⟩ | ⟨_, rfl⟩ | ⟨xs, rfl⟩ | ⟨_, rfl⟩ | ⟨_, _, rfl⟩
      case inr.inr.inr.inr.inl =>
        refine and_v (by simp) (p := true) t (fun _ => ?_)
        have hl : pL (prun tab n) [.var 1] [W.a (.str x), .n .tup xs, .a .dead] = some [.n .tup xs] := by
          have hf := hw.fz
          simp only [pL, Ab.noSt, pM, a1, hf, if_true]
        refine (pM_none (items := xs) (ws := [.n .tup xs]) (g := id) (p := isNatB) rfl hl ?_ hw.len (fun y hy => ?_)).trans rfl
        · show some (frzL xs) = _
          rw [Ab.frzL_fzW hw.fzl]
        · have hy := hw.sub hy
          have a2 : at? [W.a (.str x), .n .tup xs, y] 2 = some y := by show (if y.alive then some y else none) = _; rw [if_pos hy.alive]
          have v2 : pM (prun tab n) (.var 2) .opr [W.a (.str x), .n .tup xs, y] = some y := by simp only [pM, a2]
          obtain ⟨n', rfl⟩ : ∃ n', n = n' + 1 := ⟨n - 1, by omega⟩
          have r := lpart_rh hP hI (n := n') (by omega) "r" (by decide +kernel) hy
          have cc : pM (prun tab (n' + 1)) (.call iP [.k (.str "r"), .var 2]) .tst [W.a (.str x), .n .tup xs, y] = B (isNatB y) := (call2 (x := .a (.str "r")) rfl v2 (two_fz rfl hy.fz) r .tst).trans rfl
          refine ⟨[W.a (.str x), .n .tup xs, y], rfl, not_t cc, fun _ => ?_⟩
          have hf := hy.fz
          simp only [pM, a2, hf, if_true]
          rfl
      all_goals exact (and_v (q := false) (by simp) t (fun q => by cases q)).trans rfl
    have words : pM (prun tab n) (.and (.isi (.var 1) [.str]) (.cmp .In (.var 1) (.ite (.cmp .Eq (.var 0) (.k (.str "w"))) (.call iW []) (.call iD [])))) .val [W.a (.str x), w, .a .dead] = B (oneB (if x == "w" then opsS else kindsS) w) := by
      have t := isi_m v1 (isi_str hw) .val
      obtain ⟨n', rfl⟩ : ∃ n', n = n' + 1 := ⟨n - 1, by omega⟩
      have e1 : ∀ md, pM (prun tab (n' + 1)) (.call iW []) md [W.a (.str x), w, .a .dead] = pfin md (.n (.lst true) (sW opsS)) := fun md => by
        have := lst_run hW (by decide) n'
        simp only [pM, pOs, fzL, if_true, this]
      have e2 : ∀ md, pM (prun tab (n' + 1)) (.call iD []) md [W.a (.str x), w, .a .dead] = pfin md (.n (.lst true) (sW kindsS)) := fun md => by
        have := lst_run hD (by decide) n'
        simp only [pM, pOs, fzL, if_true, this]
      have e3 : pM (prun tab (n' + 1)) (.ite (.cmp .Eq (.var 0) (.k (.str "w"))) (.call iW []) (.call iD [])) .opr [W.a (.str x), w, .a .dead] = some (.n (.lst true) (sW (if x == "w" then opsS else kindsS))) := by
        have q : pM (prun tab (n' + 1)) (.cmp .Eq (.var 0) (.k (.str "w"))) .tst [W.a (.str x), w, .a .dead] = B (x == "w") := tst_eq
        rw [show ∀ a b d ρ, pM (prun tab (n' + 1)) (.ite a b d) .opr ρ = (match pM (prun tab (n' + 1)) a .tst ρ with
          | some (.a (.bl true)) => pM (prun tab (n' + 1)) b .val ρ
          | some (.a (.bl false)) => pM (prun tab (n' + 1)) d .val ρ
          | _ => none) from fun a b d ρ => rfl, q]
        cases x == "w" with
        | true => exact e1 .val
        | false => exact e2 .val
      rcases hw.is with rfl | ⟨_, rfl⟩ | ⟨_, rfl⟩ | ⟨s, rfl⟩ | ⟨_, rfl⟩ | ⟨_, rfl⟩ | ⟨_, _, rfl⟩
      case inr.inr.inr.inl =>
        refine and_v (by simp) (p := true) t fun _ => ?_
        exact (cmp_m v1 e3 (in_lst s true _) .val).trans rfl
      all_goals exact (and_v (q := false) (by simp) t (fun q => by cases q)).trans rfl
    refine prun_rt (ρ := [W.a (.str x), w, .a .dead]) hP rfl (show 2 ≤ 3 by decide) ?_
    have e : pXs (prun tab n) (fLawPart iI iN iW iD iP).body [W.a (.str x), w, .a .dead] = _ :=
      ife_go (b := false) (w := .a .non) (tst_in.trans (by rw [h0])) (fun q => by cases q) fun _ =>
      ife_go tst_eq (fun _ => kept_val hI hN a1 hw (by omega) (by omega)) fun _ =>
      ife_go tst_eq (fun _ => call_of hN (by omega) v1 hw .val) fun _ =>
      ife_go tst_eq (fun _ => lots) fun _ => pXs_rt (pX_ret words)
    refine e.trans ?_
    subst hx
    simp only [let7, List.mem_cons, List.not_mem_nil, or_false] at hc
    rcases hc with rfl | rfl | rfl | rfl | rfl | rfl | rfl
    · exact absurd h0 (by decide +kernel)
    · exact absurd h0 (by decide +kernel)
    · rw [if_neg (by simp), if_pos (by decide +kernel)]; rfl
    · rw [if_neg (by simp), if_neg (by decide +kernel), if_pos (by decide +kernel)]; rfl
    · rw [if_neg (by simp), if_neg (by decide +kernel), if_neg (by decide +kernel), if_pos (by decide +kernel)]; rfl
    · rw [if_neg (by simp), if_neg (by decide +kernel), if_neg (by decide +kernel), if_neg (by decide +kernel), if_pos (by decide +kernel)]; rfl
    · rw [if_neg (by simp), if_neg (by decide +kernel), if_neg (by decide +kernel), if_neg (by decide +kernel), if_neg (by decide +kernel)]; rfl
end
end Lin.Pu

set_option Elab.async false
set_option linter.all false
set_option maxRecDepth 100000
set_option maxHeartbeats 4000000
/-! Lk, part F: ops by their form: a law's own look, as a whole. -/
namespace Lin.Pu
open PySem L2 Lin Lin.Ab
theorem codes_eq : opShapes.map (fun l => l.map P5) = opLetters.map (fun s => s.cps.toList.map P21) := by decide +kernel
theorem codes_ok : ∀ s ∈ opLetters, (∀ c ∈ s.cps.toList, c ∈ let7) ∧ s.length ≤ 4 := by
  have : opLetters.all (fun s => s.cps.toList.all (fun c => decide (c ∈ let7)) && decide (s.length ≤ 4)) = true := by decide +kernel
  intro s hs
  have := List.all_eq_true.mp this s hs
  rw [Bool.and_eq_true, decide_eq_true_eq, List.all_eq_true] at this
  exact ⟨fun c hc => of_decide_eq_true (this.1 c hc), this.2⟩
theorem zip_look {α β : Type} {f : α → β} (s : Str) : ∀ {ks : List Str} {ts : List α}, (ks.zip (ts.map f)).lookup s = ((ks.zip ts).lookup s).map f
  | [], ts => by cases ts <;> rfl
  | k :: ks, [] => rfl
  | k :: ks, t :: ts => by
    simp only [List.map_cons, List.zip_cons_cons, List.lookup_cons]
    cases s == k with
    | true => rfl
    | false => exact zip_look s
theorem look_mem {α : Type} {s : Str} {t : α} : ∀ {ks : List Str} {ts : List α}, (ks.zip ts).lookup s = some t → t ∈ ts
  | [], ts, h => by cases ts <;> cases h
  | k :: ks, [], h => by cases h
  | k :: ks, u :: ts, h => by
    simp only [List.zip_cons_cons, List.lookup_cons] at h
    split at h
    · cases h; exact List.mem_cons_self
    · exact List.mem_cons_of_mem _ (look_mem h)
theorem opCodes_law (s : Str) : opCodes s = ((opKeys.zip opLetters).lookup s).map fun l => l.cps.toList.map P21 := by
  unfold opCodes
  rw [← zip_look, codes_eq, zip_look]
def fShapes : Fn := ⟨0, 0, [], [.ret (.dcs opKeys opLetters)]⟩
theorem shapes_run {tab : List Fn} {i : Nat} (h : tab[i]? = some fShapes) (m : Nat) : prun tab (m + 1) i [] = some (.n (.dct true (opKeys.map .inr)) (sW opLetters)) := by
  refine prun_rt (ρ := []) h rfl (Nat.le_refl 0) (pXs_rt (pX_ret ?_))
  show (if opKeys.length = opLetters.length ∧ opKeys.Nodup then pfin .val (.n (.dct true (opKeys.map .inr)) (opLetters.map fun s => .a (.str s))) else none) = _
  rw [if_pos (by decide +kernel)]
  rfl
def fLawIsOp (iD iP : Nat) : Fn := ⟨1, 3, [0], [.ife (.or (.not (.isi (.var 0) [.tuple])) (.or (.cmp .Eq (.var 0) (.tup [])) (.not (.isi (.sub (.var 0) (.k (.int 0))) [.str])))) [.ret (.k (.bl false))] [], .set (.nm 1) (.meth .get (.call iD []) [.sub (.var 0) (.k (.int 0))]), .ife (.or (.cmp .Is (.var 1) (.k .non)) (.cmp .NotEq (.bi .len [.var 0]) (.bin .add (.bi .len [.var 1]) (.k (.int 1))))) [.ret (.k (.bl false))] [], .ret (.cmp .Eq (.comp (.var 2) (.nm 2) .rng1 [.bi .len [.var 1]] (some (.not (.call iP [.sub (.var 1) (.var 2), .sub (.var 0) (.bin .add (.var 2) (.k (.int 1)))]))) [2]) (.lst []))]⟩
theorem at_nat {α : Type} {xs : List α} {i : Nat} (h : i < xs.length) : atI xs (i : Int) = some xs[i] := by
  unfold atI ixN
  rw [if_pos (Int.natCast_nonneg i), if_pos (by omega)]
  simp [h]
/-- at a place -/
def pAt (cs : List Nat) (xs : List W) : W → Bool
  | .a (.int i) => predN (P21 (cs.getD i.toNat 0)) (xs.getD i.toNat (.a .non))
  | _ => false
theorem rng_all (cs : List Nat) (xs : List W) (h : xs.length = cs.length) : (rngW 0 cs.length).all (pAt cs xs) = ((cs.map P21).zip xs).all fun p => predN p.1 p.2 := by
  have e : (cs.map P21).zip xs = (List.range cs.length).map fun i => (P21 (cs.getD i 0), xs.getD i (.a .non)) := by
    apply List.ext_getElem
    · simp [h]
    · intro i h1 h2
      simp only [List.length_zip, List.length_map] at h1
      have h3 : i < cs.length := by omega
      have h4 : i < xs.length := by omega
      simp [h3, h4]
  rw [e]
  unfold rngW
  simp only [List.all_map]
  congr 1
  funext i
  show pAt cs xs (.a (.int (0 + (i : Int)))) = _
  simp [pAt]
section
variable {tab : List Fn} {iE iP iD kP : Nat} (hE : tab[iE]? = some (fLawIsOp iD iP)) (hD : tab[iD]? = some fShapes) (hP : ∀ n, kP ≤ n → ∀ c ∈ let7, ∀ w, Fit w → prun tab n iP [.a (.str (sg c)), w] = B (predN (P21 c) w))
include hE hD hP
theorem lop_asks (hk : 1 ≤ kP) : Asks tab iE (kP + 1) isOpB := fun m w hw => by
  have hn : kP ≤ m + kP := by omega
  generalize hN : m + kP = n at hn
  rw [show m + (kP + 1) = n + 1 by omega]
  have a0 : at? [w, .a .dead, .a .dead] 0 = some w := at_0 hw.alive
  have v0 : pM (prun tab n) (.var 0) .opr [w, .a .dead, .a .dead] = some w := by simp only [pM, a0]
  have no : isOpB w = false → pM (prun tab n) (.or (.not (.isi (.var 0) [.tuple])) (.or (.cmp .Eq (.var 0) (.tup [])) (.not (.isi (.sub (.var 0) (.k (.int 0))) [.str])))) .tst [w, .a .dead, .a .dead] = B true → prun tab (n + 1) iE [w] = B (isOpB w) := fun q t => by
    rw [q]
    exact prun_rt hE rfl (show 1 ≤ 3 by decide) (pXs_rt ((pX_t t).trans (pXs_rt (pX_ret rfl))))
  have ti := isi_m v0 (isi_tup hw) .tst
  have notTup : isTupB w = false → isOpB w = false → prun tab (n + 1) iE [w] = B (isOpB w) := fun q q2 => no q2 (by
    rw [q] at ti
    exact or_t (p := true) (q := true) (not_t (p := false) ti) (fun z => by cases z))
  rcases hw.is with rfl | ⟨_, rfl⟩ | ⟨_, rfl⟩ | ⟨_, rfl⟩ | ⟨xs, rfl⟩ | ⟨_, rfl⟩ | ⟨_, _, rfl⟩
  case inr.inr.inr.inr.inl =>
    cases xs with
    | nil => exact no rfl (or_t (p := false) (q := true) (not_t (p := true) ti) fun _ => or_t (p := true) (q := true) (cmp_m v0 rfl rfl .tst) (fun z => by cases z))
    | cons x xs =>
      have hx : Fit x := hw.sub List.mem_cons_self
      have ce := cmp_m v0 (b := .tup []) (y := .n .tup []) rfl (eq_nilT x xs) .tst
      have s0 : ∀ md, pM (prun tab n) (.sub (.var 0) (.k (.int 0))) md [.n .tup (x :: xs), .a .dead, .a .dead] = pfin md x := fun md => sub_m v0 rfl (cut_of hw.fz) (sub_0 x xs) md
      have cond := or_t (not_t (p := true) ti) fun _ => or_t (p := false) ce fun _ => not_t (isi_m (s0 .opr) (isi_str hx) .tst)
      have notStr : isStrB x = false → isOpB (.n .tup (x :: xs)) = false → prun tab (n + 1) iE [.n .tup (x :: xs)] = B (isOpB (.n .tup (x :: xs))) := fun q q2 => no q2 (by rw [q] at cond; exact cond)
      rcases hx.is with rfl | ⟨_, rfl⟩ | ⟨_, rfl⟩ | ⟨s, rfl⟩ | ⟨_, rfl⟩ | ⟨_, rfl⟩ | ⟨_, _, rfl⟩
      case inr.inr.inr.inl =>
        clear notStr no notTup
        obtain ⟨n', rfl⟩ : ∃ n', n = n' + 1 := ⟨n - 1, by omega⟩
        have hd := shapes_run hD n'
        have cond : pM (prun tab (n' + 1)) (.or (.not (.isi (.var 0) [.tuple])) (.or (.cmp .Eq (.var 0) (.tup [])) (.not (.isi (.sub (.var 0) (.k (.int 0))) [.str])))) .tst [.n .tup (.a (.str s) :: xs), .a .dead, .a .dead] = B false := cond
        have lk : lookK (.inr s) (opKeys.map .inr) (sW opLetters) = ((opKeys.zip opLetters).lookup s).map fun l => W.a (.str l) := look_map s
        have get : pM (prun tab (n' + 1)) (.meth .get (.call iD []) [.sub (.var 0) (.k (.int 0))]) .val [.n .tup (.a (.str s) :: xs), .a .dead, .a .dead] = some ((((opKeys.zip opLetters).lookup s).map fun l => W.a (.str l)).getD (.a .non)) := by
          have c1 : pM (prun tab (n' + 1)) (.call iD []) .opr [.n .tup (.a (.str s) :: xs), .a .dead, .a .dead] = some (.n (.dct true (opKeys.map .inr)) (sW opLetters)) := by
            simp only [pM, pOs, fzL, if_true, hd, pfin]
          have hf : (W.a (.str s)).fz = true := rfl
          have l1 : pL (prun tab (n' + 1)) [.sub (.var 0) (.k (.int 0))] [.n .tup (.a (.str s) :: xs), .a .dead, .a .dead] = some [.a (.str s)] := by
            have := s0 .val
            rw [show pL (prun tab (n' + 1)) [.sub (.var 0) (.k (.int 0))] [.n .tup (.a (.str s) :: xs), .a .dead, .a .dead] = (match pM (prun tab (n' + 1)) (.sub (.var 0) (.k (.int 0))) .val [.n .tup (.a (.str s) :: xs), .a .dead, .a .dead] with
              | some w => match pL (prun tab (n' + 1)) [] [.n .tup (.a (.str s) :: xs), .a .dead, .a .dead] with
                | some ws => some (w :: ws)
                | none => none
              | none => none) from rfl, this]
            rfl
          rw [show ∀ o es ρ, pM (prun tab (n' + 1)) (.meth .get o es) .val ρ = (match pM (prun tab (n' + 1)) o .opr ρ with
            | some w => if mtOk .get w then match pL (prun tab (n' + 1)) es ρ with
              | some ws => match mtW .get w ws with
                | some (r, _) => pfin .val r
                | none => none
              | none => none
              else none
            | none => none) from fun o es ρ => rfl, c1, l1]
          have hz := sW_fz opLetters
          simp only [mtOk, if_true, mtW, hz, keyW, lk, pfin]
        cases hl : (opKeys.zip opLetters).lookup s with
        | none =>
          rw [hl] at get
          have hb : isOpB (.n .tup (.a (.str s) :: xs)) = false := by
            show (match opCodes s with
              | some cs => partsB cs xs
              | none => false) = _
            rw [opCodes_law, hl]; rfl
          rw [hb]
          refine prun_rt (ρ := [.n .tup (.a (.str s) :: xs), .a .non, .a .dead]) hE rfl (show 1 ≤ 3 by decide) ?_
          refine (pXs_nx ((pX_f cond).trans rfl)).trans ((pXs_nx (pX_set get)).trans ?_)
          have c2 : pM (prun tab (n' + 1)) (.or (.cmp .Is (.var 1) (.k .non)) (.cmp .NotEq (.bi .len [.var 0]) (.bin .add (.bi .len [.var 1]) (.k (.int 1))))) .tst [.n .tup (.a (.str s) :: xs), .a .non, .a .dead] = B true := or_t (p := true) (q := true) rfl (fun z => by cases z)
          exact pXs_rt ((pX_t c2).trans (pXs_rt (pX_ret rfl)))
        | some le =>
          rw [hl] at get
          obtain ⟨h7, h4⟩ := codes_ok le (look_mem hl)
          have hle : le.length ≤ sizeLine := Nat.le_trans h4 (by decide)
          have hb : isOpB (.n .tup (.a (.str s) :: xs)) = partsB (le.cps.toList.map P21) xs := by
            show (match opCodes s with
              | some cs => partsB cs xs
              | none => false) = _
            rw [opCodes_law, hl]; rfl
          have hcl : le.cps.toList.length = le.length := rfl
          have u0 : pM (prun tab (n' + 1)) (.var 0) .opr [.n .tup (.a (.str s) :: xs), .a (.str le), .a .dead] = some (.n .tup (.a (.str s) :: xs)) := rfl
          have u1 : pM (prun tab (n' + 1)) (.var 1) .opr [.n .tup (.a (.str s) :: xs), .a (.str le), .a .dead] = some (.a (.str le)) := rfl
          have l0 := bi_m1 (b := .len) u0 (cut_of hw.fz) (w := .a (.int ((W.a (.str s) :: xs).length))) rfl .opr
          have l1 : ∀ md, pM (prun tab (n' + 1)) (.bi .len [.var 1]) md [.n .tup (.a (.str s) :: xs), .a (.str le), .a .dead] = pfin md (.a (.int le.length)) := fun md => bi_m1 (b := .len) u1 rfl (if_pos hle) md
          have l2 := bin_m (l1 .val) (b := .k (.int 1)) (y := .a (.int 1)) rfl (op := .add) (w := .a (.int (le.length + 1))) rfl .opr
          have c2 : pM (prun tab (n' + 1)) (.or (.cmp .Is (.var 1) (.k .non)) (.cmp .NotEq (.bi .len [.var 0]) (.bin .add (.bi .len [.var 1]) (.k (.int 1))))) .tst [.n .tup (.a (.str s) :: xs), .a (.str le), .a .dead] = B (!decide (xs.length = le.length)) := by
            refine (or_t (p := false) (q := !decide (xs.length = le.length)) rfl fun _ => ?_).trans (by simp)
            refine (cmp_m l0 l2 (c := !decide (xs.length = le.length)) ?_ .tst).trans rfl
            rw [ne_int]
            congr 2
            rw [List.length_cons, Bool.eq_iff_iff, beq_iff_eq, decide_eq_true_eq]
            omega
          rw [hb]
          have fin : ∀ r, pXs (prun tab (n' + 1)) ((fLawIsOp iD iP).body.drop 2) [.n .tup (.a (.str s) :: xs), .a (.str le), .a .dead] = some (some r, [.n .tup (.a (.str s) :: xs), .a (.str le), .a .dead]) → prun tab (n' + 1 + 1) iE [.n .tup (.a (.str s) :: xs)] = some r := fun r q =>
            prun_rt (ρ := [.n .tup (.a (.str s) :: xs), .a (.str le), .a .dead]) hE rfl (show 1 ≤ 3 by decide) ((pXs_nx ((pX_f cond).trans rfl)).trans ((pXs_nx (pX_set get)).trans q))
          refine fin _ ?_
          by_cases hxl : xs.length = le.length
          · have c3 : pM (prun tab (n' + 1)) (.or (.cmp .Is (.var 1) (.k .non)) (.cmp .NotEq (.bi .len [.var 0]) (.bin .add (.bi .len [.var 1]) (.k (.int 1))))) .tst [.n .tup (.a (.str s) :: xs), .a (.str le), .a .dead] = B false := c2.trans (by simp [hxl])
            refine (pXs_nx ((pX_f c3).trans rfl)).trans (pXs_rt (pX_ret ?_))
            have hr : pL (prun tab (n' + 1)) [.bi .len [.var 1]] [.n .tup (.a (.str s) :: xs), .a (.str le), .a .dead] = some [.a (.int le.length)] := by
              rw [show pL (prun tab (n' + 1)) [.bi .len [.var 1]] [.n .tup (.a (.str s) :: xs), .a (.str le), .a .dead] = (match pM (prun tab (n' + 1)) (.bi .len [.var 1]) .val [.n .tup (.a (.str s) :: xs), .a (.str le), .a .dead] with
                | some w => match pL (prun tab (n' + 1)) [] [.n .tup (.a (.str s) :: xs), .a (.str le), .a .dead] with
                  | some ws => some (w :: ws)
                  | none => none
                | none => none) from rfl, l1 .val]
              rfl
            have ho : okB (le.length : Int) = true := by
              unfold okB
              simp only [Bool.and_eq_true, decide_eq_true_eq]
              have : (4 : Int) < 2 ^ 62 := by decide
              have h5 : (le.length : Int) ≤ 4 := by exact_mod_cast h4
              constructor <;> omega
            have hx0 : xs.length = le.cps.toList.length := hxl
            refine (pM_none (items := rngW 0 le.cps.toList.length) (ws := [.a (.int le.length)]) (p := pAt le.cps.toList xs) (g := id) rfl hr ?_ ?_ (fun y hy => ?_)).trans ?_
            · show (if okB (le.length : Int) then some (rngW 0 (le.length : Int).toNat) else none) = _
              rw [if_pos ho]; rfl
            · simp only [rngW, List.length_map, List.length_range]; exact hle
            · obtain ⟨i, hi, rfl⟩ := List.mem_map.mp hy
              have hi : i < le.cps.toList.length := List.mem_range.mp hi
              have hi2 : i < xs.length := by omega
              rw [show ((0 : Int) + (i : Nat)) = (i : Int) by omega]
              have hq : Fit xs[i] := hw.sub (List.mem_cons_of_mem _ (List.getElem_mem hi2))
              have v2 : ∀ md, md ≠ .tst → pM (prun tab (n' + 1)) (.var 2) md [.n .tup (.a (.str s) :: xs), .a (.str le), .a (.int i)] = some (.a (.int i)) := fun md hm => by cases md <;> first | rfl | exact absurd rfl hm
              have w1 : pM (prun tab (n' + 1)) (.var 1) .opr [.n .tup (.a (.str s) :: xs), .a (.str le), .a (.int i)] = some (.a (.str le)) := rfl
              have w0 : pM (prun tab (n' + 1)) (.var 0) .opr [.n .tup (.a (.str s) :: xs), .a (.str le), .a (.int i)] = some (.n .tup (.a (.str s) :: xs)) := rfl
              have g1 := sub_m w1 (v2 .opr (by simp)) rfl (w := .a (.str (sg (le.cps.toList[i])))) (by
                show (if le.length ≤ sizeLine then (atI le.cps.toList (i : Int)).map fun c => W.a (.str ⟨#[c]⟩) else none) = _
                rw [if_pos hle, at_nat hi]
                rfl) .opr
              have g2 := bin_m (v2 .val (by simp)) (b := .k (.int 1)) (y := .a (.int 1)) rfl (op := .add) (w := .a (.int ((i : Int) + 1))) rfl .opr
              have g3 := sub_m w0 g2 (cut_of hw.fz) (w := xs[i]) (by
                show atI (W.a (.str s) :: xs) ((i : Int) + 1) = _
                rw [atI_pos (by omega) (by rw [List.length_cons]; omega), show ((i : Int) + 1).toNat = i + 1 by omega, List.getElem?_cons_succ, List.getElem?_eq_getElem hi2]) .opr
              have hp := hP (n' + 1) hn (le.cps.toList[i]) (h7 _ (List.getElem_mem hi)) xs[i] hq
              have cc := call2 g1 g3 (two_fz rfl hq.fz) hp .tst
              have ep : pAt le.cps.toList xs (.a (.int i)) = predN (P21 (le.cps.toList[i])) xs[i] := by
                show predN (P21 (le.cps.toList.getD (i : Int).toNat 0)) (xs.getD (i : Int).toNat (.a .non)) = _
                rw [Int.toNat_natCast, List.getD_eq_getElem?_getD, List.getD_eq_getElem?_getD, List.getElem?_eq_getElem hi, List.getElem?_eq_getElem hi2]
                rfl
              rw [ep]
              exact ⟨[.n .tup (.a (.str s) :: xs), .a (.str le), .a (.int i)], rfl, not_t (cc.trans rfl), fun _ => v2 .val (by simp)⟩
            · rw [rng_all _ _ hx0]
              unfold partsB
              rw [List.length_map, decide_eq_true hx0]
              rfl
          · have c3 : pM (prun tab (n' + 1)) (.or (.cmp .Is (.var 1) (.k .non)) (.cmp .NotEq (.bi .len [.var 0]) (.bin .add (.bi .len [.var 1]) (.k (.int 1))))) .tst [.n .tup (.a (.str s) :: xs), .a (.str le), .a .dead] = B true := c2.trans (by simp [hxl])
            refine pXs_rt ((pX_t c3).trans (pXs_rt (pX_ret ?_)))
            unfold partsB
            rw [List.length_map, hcl, decide_eq_false hxl]
            rfl
      all_goals exact notStr rfl rfl
  all_goals exact notTup rfl rfl
end
end Lin.Pu

set_option Elab.async false
set_option linter.all false
set_option maxRecDepth 100000
set_option maxHeartbeats 4000000
/-! Lk, part G: the package's look and the law's own one tell the same. -/
namespace Lin.Pu
open PySem L2 Lin Lin.Ab
def fAlike : Fn := ⟨2, 2, [0, 1], [.ret (.and (.cmp .Eq (.var 0) (.var 1)) (.cmp .Eq (.bi .repr [.var 0]) (.bi .repr [.var 1])))]⟩
theorem repr_m {cl : Nat → List W → Option W} {ρ : Env} {e : Ex} {w : W} {t : Str} (h : pM cl e .opr ρ = some w) (hf : w.fz = true) (ht : reprW w = some t) (md : Md) : pM cl (.bi .repr [e]) md ρ = pfin md (.a (.str t)) :=
  bi_m1 h (cut_of hf) (by show (reprW w).map _ = _; rw [ht]; rfl) md
theorem alike_run {tab : List Fn} {i : Nat} (h : tab[i]? = some fAlike) (n : Nat) {w : W} {t : Str} (hf : w.fz = true) (ha : w.alive = true) (he : cmpW .Eq w w = some true) (ht : reprW w = some t) : prun tab (n + 1) i [w, w] = B true := by
  have a0 : at? [w, w] 0 = some w := by show (if w.alive then some w else none) = _; rw [if_pos ha]
  have a1 : at? [w, w] 1 = some w := by show (if w.alive then some w else none) = _; rw [if_pos ha]
  have v0 : pM (prun tab n) (.var 0) .opr [w, w] = some w := by simp only [pM, a0]
  have v1 : pM (prun tab n) (.var 1) .opr [w, w] = some w := by simp only [pM, a1]
  refine prun_rt (ρ := [w, w]) h rfl (Nat.le_refl 2) (pXs_rt (pX_ret ?_))
  refine (and_v (by simp) (p := true) (q := true) (cmp_m v0 v1 he .val) fun _ => ?_)
  exact cmp_m (repr_m v0 hf ht .opr) (repr_m v1 hf ht .opr) (by rw [eq_str]; simp) .val
theorem repr_bool (b : Bool) : ∃ t, reprW (.a (.bl b)) = some t := by
  cases b with
  | true => exact ⟨_, rfl⟩
  | false => exact ⟨_, rfl⟩
/-- is_right: what is looked at stays -/
def fRight (iA iE iL : Nat) : Fn := ⟨1, 2, [0], [.set (.nm 1) (.bi .repr [.var 0]), .ret (.and (.call iA [.call iE [.var 0], .call iL [.var 0]]) (.cmp .Eq (.bi .repr [.var 0]) (.var 1)))]⟩
theorem right_run {tab : List Fn} {i iA iE iL kE kL : Nat} {p : W → Bool} (h : tab[i]? = some (fRight iA iE iL)) (hA : tab[iA]? = some fAlike) (hE : Asks tab iE kE p) (hL : Asks tab iL kL p) {n : Nat} (hn : kE + kL + 1 ≤ n) {w : W} (hw : Fit w) {t : Str} (ht : reprW w = some t) : prun tab (n + 1) i [w] = B true := by
  have a0 : ∀ x, at? [w, x] 0 = some w := fun x => by show (if w.alive then some w else none) = _; rw [if_pos hw.alive]
  have v0 : ∀ x, pM (prun tab n) (.var 0) .opr [w, x] = some w := fun x => by simp only [pM, a0]
  have r := fun x md => repr_m (v0 x) hw.fz ht md
  have e0 : pX (prun tab n) (.set (.nm 1) (.bi .repr [.var 0])) [w, .a .dead] = some (none, [w, .a (.str t)]) := (pX_set (r (.a .dead) .val)).trans rfl
  have v1 : pM (prun tab n) (.var 1) .opr [w, .a (.str t)] = some (.a (.str t)) := rfl
  have c1 := call_of hE (by omega) (v0 (.a (.str t))) hw .opr
  have c2 := call_of hL (by omega) (v0 (.a (.str t))) hw .opr
  obtain ⟨n', rfl⟩ : ∃ n', n = n' + 1 := ⟨n - 1, by omega⟩
  obtain ⟨z, hz⟩ := repr_bool (p w)
  have al := alike_run hA n' (w := .a (.bl (p w))) rfl rfl (by show some (p w == p w) = _; simp) hz
  have c3 := call2 c1 c2 (two_fz rfl rfl) al .val
  refine prun_rt (ρ := [w, .a (.str t)]) h rfl (show 1 ≤ 2 by decide) ((pXs_nx e0).trans (pXs_rt (pX_ret ?_)))
  exact and_v (by simp) (p := true) (q := true) c3 fun _ => cmp_m (r _ .opr) v1 (by rw [eq_str]; simp) .val
theorem bk_len : ∀ (n : Nat) (P : Nat → Bool) (ρ : Env), (bk P n ρ).length = n
  | 0, P, ρ => rfl
  | n + 1, P, [] => by show (_ :: bk _ n []).length = _; rw [List.length_cons, bk_len n]
  | n + 1, P, w :: ρ => by show (_ :: bk _ n ρ).length = _; rw [List.length_cons, bk_len n]
theorem run_len {tab : List Fn} {n f : Nat} {ws ws' : List W} {w : W} {F : Fn} (hF : tab[f]? = some F) (h : run tab n f ws = some (ws', w)) : ws'.length = F.np := by
  cases n with
  | zero => cases h
  | succ n =>
    simp only [run, hF] at h
    split at h
    · split at h
      · cases h; exact bk_len _ _ _
      · cases h; exact bk_len _ _ _
      · cases h
    · cases h
/-- what a look tells, as a promise -/
theorem tr_look {π : Nat → W → Prop} {bag : W → Prop} {tab : List Fn} {i m d s b : Nat} {r : AV} {F : Fn} (hF : tab[i]? = some F) (hn : F.np = 1) (h : ∀ w, Good d s b w → ∃ u, prun tab m i [w] = some u ∧ gm π bag r u) : POk π bag (run tab m) (trOne i [.good d s b] [.top] r) :=
  trOne_ok fun ws hw => by
    obtain ⟨w, ws1, rfl, h1, h2⟩ := hw
    rw [show ws1 = [] from h2]
    obtain ⟨u, e, g⟩ := h w h1
    obtain ⟨ws', e2⟩ := prun_ok tab m i [w] u e
    have hl := run_len hF e2
    rw [hn] at hl
    match ws', hl with
    | [v], _ => exact ⟨[v], u, e2, ⟨v, [], rfl, trivial, rfl⟩, g⟩
end Lin.Pu

set_option Elab.async false
set_option linter.all false
set_option maxRecDepth 1000000
set_option maxHeartbeats 4000000
/-! K30: its defs in the language; they are what stands in the row. -/
namespace K30
open PySem L2 Lin
/-! ### the defs -/
def top (i : Nat) : Stmt := PySem.Challenge.pw_reachkept_k30_ops_by_their_form.main.body.getD i (.Pass ⟨0, 0, 0, 0⟩)
def k_OP_SHAPES : List Str := ["keep", "move", "outer", "into", "other", "work", "cell", "load", "store", "close", "call", "next", "is", "tell", "jump", "unless", "turn", "back", "end", "throw", "try", "untry", "yield"]
def w_OP_SHAPES : List W := [.n .tup [.a (.str "own"), .a (.str "value")], .n .tup [.a (.str "own"), .a (.str "own")], .n .tup [.a (.str "own"), .a (.str "hops"), .a (.str "far")], .n .tup [.a (.str "hops"), .a (.str "far"), .a (.str "own")], .n .tup [.a (.str "own"), .a (.str "code"), .a (.str "far")], .n .tup [.a (.str "own"), .a (.str "op"), .a (.str "own"), .a (.str "own")], .n .tup [.a (.str "own")], .n .tup [.a (.str "own"), .a (.str "own"), .a (.str "label")], .n .tup [.a (.str "own"), .a (.str "label"), .a (.str "own")], .n .tup [.a (.str "own"), .a (.str "code")], .n .tup [.a (.str "own"), .a (.str "own"), .a (.str "owns")], .n .tup [.a (.str "own"), .a (.str "own")], .n .tup [.a (.str "own"), .a (.str "kind"), .a (.str "own")], .n .tup [.a (.str "own")], .n .tup [.a (.str "at")], .n .tup [.a (.str "own"), .a (.str "at")], .n .tup [], .n .tup [.a (.str "own")], .n .tup [], .n .tup [.a (.str "own")], .n .tup [.a (.str "at"), .a (.str "own")], .n .tup [], .n .tup [.a (.str "own")]]
def g_LETTERS : W := .a (.str "abcdefghijklmnopqrstuvwxyz")
def g_LONGEST : W := .a (.int 8)
def g_RESERVED : W := .n .tup [.a (.str "add"), .a (.str "back"), .a (.str "call"), .a (.str "cell"), .a (.str "do"), .a (.str "field"), .a (.str "function"), .a (.str "generator"), .a (.str "if"), .a (.str "im\x70ort"), .a (.str "integer"), .a (.str "is"), .a (.str "less"), .a (.str "let"), .a (.str "make"), .a (.str "maker"), .a (.str "module"), .a (.str "mul"), .a (.str "next"), .a (.str "nothing"), .a (.str "put"), .a (.str "quo"), .a (.str "rest"), .a (.str "same"), .a (.str "store"), .a (.str "sub"), .a (.str "tell"), .a (.str "throw"), .a (.str "try"), .a (.str "while"), .a (.str "word"), .a (.str "yield")]
def g_OPS : W := .n .tup [.a (.str "add"), .a (.str "sub"), .a (.str "mul"), .a (.str "quo"), .a (.str "rest"), .a (.str "less"), .a (.str "same")]
def g_KINDS : W := .n .tup [.a (.str "cell"), .a (.str "function"), .a (.str "generator"), .a (.str "integer"), .a (.str "nothing"), .a (.str "word")]
def f0 : Fn := ⟨1, 1, [0], [.ret (.and (.isi (.var 0) [.int]) (.not (.isi (.var 0) [.bool])))]⟩ -- is_integer
def f1 : Fn := ⟨1, 1, [0], [.ret (.and (.call 0 [.var 0]) (.cmp .GtE (.var 0) (.k (.int 0))))]⟩ -- is_natural
def f2 : Fn := ⟨1, 2, [0], [.ife (.or (.not (.isi (.var 0) [.str])) (.or (.not (.chain .LtE .LtE (.k (.int 1)) (.bi .len [.var 0]) (.glob g_LONGEST))) (.cmp .In (.var 0) (.glob g_RESERVED)))) [.ret (.k (.bl false))] [], .ret (.bi .all [.comp (.cmp .In (.var 1) (.glob g_LETTERS)) (.nm 1) .seq [.var 0] none [1]])]⟩ -- is_name
def f3 : Fn := ⟨2, 2, [0, 1], [.ret (.and (.isi (.var 0) [.str]) (.cmp .In (.var 0) (.var 1)))]⟩ -- is_one_of
def f4 : Fn := ⟨1, 1, [0], [.ret (.or (.cmp .Is (.var 0) (.k .non)) (.or (.call 0 [.var 0]) (.call 2 [.var 0])))]⟩ -- is_kept
def f5 : Fn := ⟨2, 3, [0, 1], [.ife (.cmp .Eq (.var 0) (.k (.str "value"))) [.ret (.call 4 [.var 1])] [], .ife (.cmp .Eq (.var 0) (.k (.str "hops"))) [.ret (.and (.call 0 [.var 1]) (.cmp .GtE (.var 1) (.k (.int 1))))] [], .ife (.cmp .Eq (.var 0) (.k (.str "op"))) [.ret (.call 3 [.var 1, .glob g_OPS])] [], .ife (.cmp .Eq (.var 0) (.k (.str "kind"))) [.ret (.call 3 [.var 1, .glob g_KINDS])] [], .ife (.cmp .Eq (.var 0) (.k (.str "label"))) [.ret (.call 2 [.var 1])] [], .ife (.cmp .Eq (.var 0) (.k (.str "owns"))) [.ret (.and (.isi (.var 1) [.tuple]) (.bi .all [.comp (.call 1 [.var 2]) (.nm 2) .seq [.var 1] none [2]]))] [], .ret (.call 1 [.var 1])]⟩ -- is_op_part
def f6 : Fn := ⟨1, 4, [0], [.ife (.or (.not (.isi (.var 0) [.tuple])) (.or (.cmp .Eq (.var 0) (.tup [])) (.not (.call 3 [.sub (.var 0) (.k (.int 0)), .tupK k_OP_SHAPES])))) [.ret (.k (.bl false))] [], .set (.nm 1) (.subK (.sub (.var 0) (.k (.int 0))) k_OP_SHAPES w_OP_SHAPES), .ret (.and (.cmp .Eq (.bi .len [.var 0]) (.bin .add (.bi .len [.var 1]) (.k (.int 1)))) (.bi .all [.comp (.call 5 [.var 2, .var 3]) (.tp [2, 3]) .zip [.var 1, .slice (.var 0) (some (.k (.int 1))) none] none [2, 3]]))]⟩ -- is_op
def f7 : Fn := ⟨1, 1, [0], [.ret (.or (.call 2 [.var 0]) (.call 0 [.var 0]))]⟩ -- is_field
def f8 : Fn := ⟨1, 2, [0], [.ret (.comp (.sub (.var 1) (.k (.int 1))) (.nm 1) .seq [.var 0] (some (.isi (.var 1) [.tuple])) [1])]⟩ -- cells_named
def f9 : Fn := ⟨1, 2, [0], [.ret (.lst [.k (.int 0), .k (.int 1234567891), .k (.int 0), .frz (.comp (.bi .abs [.var 1]) (.nm 1) .seq [.slice (.var 0) none (some (.k (.int 63)))] none [1])])]⟩ -- _law_bag
def f10 : Fn := ⟨2, 7, [0, 1], [.ife (.cmp .Eq (.sub (.var 0) (.k (.int 0))) (.k (.int 0))) [.set (.nm 4) (.k (.int 0)), .ife (.cmp .Lt (.sub (.var 0) (.k (.int 2))) (.bi .len [.sub (.var 0) (.k (.int 3))])) [.set (.nm 4) (.sub (.sub (.var 0) (.k (.int 3))) (.sub (.var 0) (.k (.int 2))))] [], .augS 0 .add (.k (.int 2)) (.k (.int 1)), .ife (.cmp .GtE (.var 4) (.k (.int 1000000000000000000))) [.setS 0 (.k (.int 0)) (.var 4)] [], .set (.nm 5) (.bin .add (.bin .add (.bin .mul (.sub (.var 0) (.k (.int 1))) (.k (.int 48271))) (.bin .mod (.bi .int [.var 4]) (.k (.int 2147483647)))) (.bin .mul (.k (.int 7919)) (.sub (.var 0) (.k (.int 2))))), .setS 0 (.k (.int 1)) (.bin .mod (.bi .int [.var 5]) (.k (.int 2147483647)))] [], .ife (.cmp .Gt (.sub (.var 0) (.k (.int 0))) (.k (.int 0))) [.set (.nm 6) (.bin .mod (.bi .int [.sub (.var 0) (.k (.int 0))]) (.var 1)), .setS 0 (.k (.int 0)) (.bin .fdiv (.bi .int [.sub (.var 0) (.k (.int 0))]) (.var 1)), .retm 6] [], .set (.nm 2) (.bin .mod (.bi .int [.bin .mul (.bin .add (.sub (.var 0) (.k (.int 1))) (.k (.int 1))) (.k (.int 39373))]) (.k (.int 1000000007))), .set (.nm 3) (.bin .mod (.bi .int [.bin .mul (.bin .mod (.bi .int [.bin .mul (.var 2) (.var 2)]) (.k (.int 998244353))) (.k (.int 30011))]) (.k (.int 998244353))), .ret (.bin .mod (.bi .int [.bin .fdiv (.var 3) (.k (.int 7))]) (.var 1))]⟩ -- _law_take
def f11 : Fn := ⟨2, 2, [0, 1], [.ret (.sub (.var 1) (.call 10 [.var 0, .bi .len [.var 1]]))]⟩ -- _law_one
def f12 : Fn := ⟨2, 4, [0, 1], [.set (.nm 2) (.lst []), .for (.nm 3) .seq [.var 1] [.ex (.meth .insert (.var 2) [.call 10 [.var 0, .bin .add (.bi .len [.var 2]) (.k (.int 1))], .var 3])], .retm 2]⟩ -- _law_mixed
def f13 : Fn := ⟨2, 2, [0, 1], [.ret (.and (.cmp .Eq (.var 0) (.var 1)) (.cmp .Eq (.bi .repr [.var 0]) (.bi .repr [.var 1])))]⟩ -- _law_alike
def f14 : Fn := ⟨1, 1, [0], [.ret (.and (.isi (.var 0) [.int]) (.not (.isi (.var 0) [.bool])))]⟩ -- _law_whole
def f15 : Fn := ⟨0, 1, [], [.set (.nm 0) (.k (.str "add back call cell do field function generator if im\x70ort integer is less let make maker module mul next")), .ret (.meth .split (.bin .add (.var 0) (.k (.str " nothing put quo rest same store sub tell throw try while word yield"))) [.k (.str " ")])]⟩ -- _law_words
def f16 : Fn := ⟨1, 2, [0], [.ife (.or (.not (.isi (.var 0) [.str])) (.or (.not (.chain .Lt .Lt (.k (.int 0)) (.bi .len [.var 0]) (.k (.int 9)))) (.cmp .In (.var 0) (.call 15 [])))) [.ret (.k (.bl false))] [], .ret (.cmp .Eq (.comp (.var 1) (.nm 1) .seq [.var 0] (some (.cmp .NotIn (.var 1) (.k (.str "abcdefghijklmnopqrstuvwxyz")))) [1]) (.lst []))]⟩ -- _law_name
def f17 : Fn := ⟨0, 0, [], [.ret (.lst [.k (.str "add"), .k (.str "sub"), .k (.str "mul"), .k (.str "quo"), .k (.str "rest"), .k (.str "less"), .k (.str "same")])]⟩ -- _law_works
def f18 : Fn := ⟨0, 0, [], [.ret (.lst [.k (.str "cell"), .k (.str "function"), .k (.str "generator"), .k (.str "integer"), .k (.str "nothing"), .k (.str "word")])]⟩ -- _law_kinds
def f19 : Fn := ⟨2, 3, [0, 1], [.set (.nm 2) (.k (.str "a b c x zz zzzzzzzz top lib count box say deep over lack kind great nought main order root frame w v f g")), .ret (.slice (.call 12 [.var 0, .meth .split (.var 2) [.k (.str " ")]]) none (some (.var 1)))]⟩ -- _law_names
def f20 : Fn := ⟨0, 0, [], [.ret (.dcs ["keep", "move", "outer", "into", "other", "work", "cell", "load", "store", "close", "call", "next", "is", "tell", "jump", "unless", "turn", "back", "end", "throw", "try", "untry", "yield"] ["rv", "rr", "rhr", "hrr", "rrr", "rwrr", "r", "rrn", "rnr", "rr", "rrl", "rr", "rkr", "r", "r", "rr", "", "r", "", "r", "rr", "", "r"])]⟩ -- _law_shapes
def f21 : Fn := ⟨2, 3, [0, 1], [.ife (.cmp .In (.var 0) (.k (.str "rh"))) [.ret (.and (.call 14 [.var 1]) (.cmp .GtE (.var 1) (.bi .int [.cmp .Eq (.var 0) (.k (.str "h"))])))] [], .ife (.cmp .Eq (.var 0) (.k (.str "v"))) [.ret (.or (.cmp .Is (.var 1) (.k .non)) (.or (.call 14 [.var 1]) (.call 16 [.var 1])))] [], .ife (.cmp .Eq (.var 0) (.k (.str "n"))) [.ret (.call 16 [.var 1])] [], .ife (.cmp .Eq (.var 0) (.k (.str "l"))) [.ret (.and (.isi (.var 1) [.tuple]) (.cmp .Eq (.comp (.var 2) (.nm 2) .seq [.var 1] (some (.not (.call 21 [.k (.str "r"), .var 2]))) [2]) (.lst [])))] [], .ret (.and (.isi (.var 1) [.str]) (.cmp .In (.var 1) (.ite (.cmp .Eq (.var 0) (.k (.str "w"))) (.call 17 []) (.call 18 []))))]⟩ -- _law_is_part
def f22 : Fn := ⟨1, 3, [0], [.ife (.or (.not (.isi (.var 0) [.tuple])) (.or (.cmp .Eq (.var 0) (.tup [])) (.not (.isi (.sub (.var 0) (.k (.int 0))) [.str])))) [.ret (.k (.bl false))] [], .set (.nm 1) (.meth .get (.call 20 []) [.sub (.var 0) (.k (.int 0))]), .ife (.or (.cmp .Is (.var 1) (.k .non)) (.cmp .NotEq (.bi .len [.var 0]) (.bin .add (.bi .len [.var 1]) (.k (.int 1))))) [.ret (.k (.bl false))] [], .ret (.cmp .Eq (.comp (.var 2) (.nm 2) .rng1 [.bi .len [.var 1]] (some (.not (.call 21 [.sub (.var 1) (.var 2), .sub (.var 0) (.bin .add (.var 2) (.k (.int 1)))]))) [2]) (.lst []))]⟩ -- _law_is_op
def f23 : Fn := ⟨4, 5, [0, 1, 2, 3], [.ife (.cmp .Eq (.var 1) (.k (.str "r"))) [.ret (.bin .add (.call 10 [.var 0, .bi .max [.k (.int 1), .var 2]]) (.bin .mul (.bi .int [.cmp .Eq (.call 10 [.var 0, .k (.int 16)]) (.k (.int 0))]) (.call 10 [.var 0, .k (.int 3)])))] [], .ife (.cmp .Eq (.var 1) (.k (.str "h"))) [.ret (.call 11 [.var 0, .frz (.lst [.k (.int 1), .k (.int 1), .k (.int 1), .k (.int 2), .k (.int 3)])])] [], .ife (.cmp .Eq (.var 1) (.k (.str "v"))) [.ret (.call 11 [.var 0, .frz (.lst [.k .non, .k (.int 0), .k (.int 1), .neg (.k (.int 1)), .k (.int 7), .bin .pow (.k (.int 10)) (.k (.int 9)), .neg (.bin .pow (.k (.int 10)) (.k (.int 9))), .sub (.var 3) (.k (.int 0)), .sub (.var 3) (.neg (.k (.int 1)))])])] [], .ife (.cmp .Eq (.var 1) (.k (.str "n"))) [.ret (.call 11 [.var 0, .var 3])] [], .ife (.cmp .Eq (.var 1) (.k (.str "l"))) [.ret (.bi .tuple [.comp (.call 23 [.var 0, .k (.str "r"), .var 2, .var 3]) (.nm 4) .rng1 [.call 10 [.var 0, .k (.int 3)]] none [4]])] [], .ret (.call 11 [.var 0, .ite (.cmp .Eq (.var 1) (.k (.str "w"))) (.call 17 []) (.call 18 [])])]⟩ -- _law_part_drawn
def f24 : Fn := ⟨5, 9, [0, 1, 2, 3, 4], [.set (.nm 5) (.call 11 [.var 0, .bi .sorted [.call 20 []]]), .set (.nm 6) (.comp (.call 23 [.var 0, .var 8, .var 1, .var 4]) (.nm 8) .seq [.sub (.call 20 []) (.var 5)] none [8]), .set (.nm 7) (.dct [.inr "jump", .inr "unless", .inr "try"] [.k (.int 0), .k (.int 1), .k (.int 0)]), .ife (.cmp .In (.var 5) (.var 7)) [.setS 6 (.sub (.var 7) (.var 5)) (.call 10 [.var 0, .bin .add (.var 2) (.bi .int [.cmp .Eq (.call 10 [.var 0, .k (.int 10)]) (.k (.int 0))])])] [], .ife (.cmp .In (.var 5) (.tup [.k (.str "close"), .k (.str "other")])) [.setS 6 (.k (.int 1)) (.call 10 [.var 0, .bin .add (.var 3) (.bi .int [.cmp .Eq (.call 10 [.var 0, .k (.int 10)]) (.k (.int 0))])])] [], .ret (.bin .add (.tup [.var 5]) (.bi .tuple [.var 6]))]⟩ -- _law_any_op
def f25 : Fn := ⟨1, 6, [0], [.set (.nm 1) (.call 11 [.var 0, .frz (.lst [.frz (.lst []), .tup [], .k (.str "a"), .frz (.dct [] [])])]), .for (.nm 2) .rng1 [.k (.int 8)] [.set (.nm 1) (.ite (.cmp .Eq (.call 10 [.var 0, .k (.int 2)]) (.k (.int 0))) (.frz (.lst [.var 1])) (.tup [.var 1]))], .set (.nm 3) (.lst [.k .non, .k (.bl true), .k (.bl false), .k (.int 0), .k (.int 1), .neg (.k (.int 1)), .bin .pow (.k (.int 10)) (.k (.int 39)), .k (.str ""), .k (.str "a"), .k (.str "A"), .k (.str "ninesigns"), .k (.str "a b"), .frz (.lst []), .tup [], .frz (.dct [] []), .frz (.lst [.k (.str "a")]), .tup [.k (.str "a")], .var 1]), .set (.nm 3) (.bin .add (.var 3) (.lst [.tup [.k (.str "end")], .frz (.lst [.k (.str "end")]), .tup [.k (.str "end"), .k (.int 0)], .tup [.k (.str "turn")], .tup [.k (.str "keep"), .k (.int 0), .k .non], .tup [.k (.str "keep"), .k (.int 0), .k (.bl true)], .tup [.k (.str "keep"), .k (.int 0), .k (.str "let")]])), .set (.nm 3) (.bin .add (.var 3) (.lst [.tup [.k (.str "jump"), .k (.int 0)], .tup [.k (.str "jump"), .neg (.k (.int 1))], .tup [.k (.str "call"), .k (.int 0), .k (.int 0), .frz (.lst [])], .tup [.k (.str "call"), .k (.int 0), .k (.int 0), .tup [.k (.int 0), .k (.bl true)]], .tup [.k (.str "is"), .k (.int 0), .k (.str "make"), .k (.int 0)]])), .set (.nm 3) (.bin .add (.var 3) (.lst [.tup [.k (.str "work"), .k (.int 0), .k (.str "same"), .k (.int 0), .k (.int 0)], .tup [.k (.str "work"), .k (.int 0), .k (.str "end"), .k (.int 0), .k (.int 0)], .tup [.k (.str "outer"), .k (.int 0), .k (.int 0), .k (.int 0)], .tup [.k (.str "into"), .k (.int 1), .k (.int 0), .k (.int 0)]])), .set (.tp [4, 5]) (.tup [.tup [.k (.int 0), .k (.int 0), .k (.str "module"), .k .non, .tup [.tup [.k (.str "end")]]], .tup [.k (.int 0), .k (.int 0), .k (.str "module"), .k .non, .tup []]]), .set (.nm 3) (.bin .add (.var 3) (.lst [.tup [.tup [], .tup []], .tup [.tup [.var 4], .tup [.k (.int 0)]], .tup [.tup [.var 5], .tup [.k (.int 0)]], .bin .mul (.lst [.k (.int 0)]) (.k (.int 400)), .tup [.tup [.var 4], .tup []], .tup [.tup [.var 4], .tup [.k (.int 0), .k (.int 0)]], .tup [.tup [.var 4], .frz (.lst [.k (.int 0)])]])), .set (.nm 3) (.bin .add (.var 3) (.lst [.tup [.tup [.bin .add (.tup [.k (.int 1), .k (.int 1)]) (.slice (.var 4) (some (.k (.int 2))) none)], .tup [.k (.int 0)]], .tup [.tup [.tup [.k (.int 0), .k (.int 0), .k (.str "make"), .k (.int 0), .tup [.tup [.k (.str "end")]]]], .tup [.k (.int 0)]], .tup [.k (.str "untry"), .k (.int 0)], .frz (.dct [.inr "a"] [.tup [.k (.str "a"), .k (.int 1)]])])), .ret (.call 11 [.var 0, .bin .add (.var 3) (.lst [.tup [.frz (.lst [.var 4]), .tup [.k (.int 0)]], .tup [.tup [.var 4, .var 4], .tup [.k (.int 1), .k (.int 0)]], .tup [.tup [.var 4], .tup [.k (.bl true)]], .tup [.tup [.var 4], .tup [.k (.int 1)]]])])]⟩ -- _law_odd
def f26 : Fn := ⟨2, 5, [0, 1], [.set (.nm 2) (.call 10 [.var 0, .k (.int 7)]), .ife (.or (.not (.isi (.var 1) [.list, .tuple])) (.or (.cmp .Eq (.bi .len [.var 1]) (.k (.int 0))) (.cmp .Eq (.var 2) (.k (.int 5))))) [.ife (.and (.isi (.var 1) [.str]) (.cmp .Lt (.var 2) (.k (.int 3)))) [.ret (.sub (.lst [.bin .add (.var 1) (.k (.str "a")), .slice (.var 1) none (some (.neg (.k (.int 1)))), .k (.str "end")]) (.var 2))] [], .ife (.and (.call 14 [.var 1]) (.cmp .Lt (.var 2) (.k (.int 4)))) [.ret (.sub (.lst [.bin .add (.var 1) (.k (.int 1)), .bin .sub (.var 1) (.k (.int 1)), .cmp .Eq (.var 1) (.k (.int 1)), .neg (.var 1)]) (.var 2))] [], .ret (.call 25 [.var 0])] [], .set (.tp [3, 4]) (.tup [.call 10 [.var 0, .bi .len [.var 1]], .bi .list [.var 1]]), .ife (.cmp .Eq (.var 2) (.k (.int 0))) [.ex (.meth .popAt (.var 4) [.var 3])] [.ife (.cmp .Eq (.var 2) (.k (.int 1))) [.ex (.meth .insert (.var 4) [.var 3, .sub (.var 1) (.var 3)])] [.ife (.cmp .Eq (.var 2) (.k (.int 2))) [.ret (.ite (.isi (.var 1) [.tuple]) (.var 4) (.bi .tuple [.var 4]))] [.setS 4 (.var 3) (.call 26 [.var 0, .sub (.var 4) (.var 3)])]]], .ret (.ite (.isi (.var 1) [.tuple]) (.bi .tuple [.var 4]) (.var 4))]⟩ -- _law_bent
def f27 : Fn := ⟨1, 2, [0], [.set (.nm 1) (.bi .repr [.var 0]), .ret (.and (.call 13 [.call 6 [.var 0], .call 22 [.var 0]]) (.cmp .Eq (.bi .repr [.var 0]) (.var 1)))]⟩ -- _law_is_right
def f28 : Fn := ⟨1, 8, [0], [.set (.nm 1) (.call 9 [.var 0]), .set (.nm 2) (.bin .add (.call 19 [.var 1, .k (.int 3)]) (.lst [.k (.str "let"), .k (.str "A"), .k (.str "ninesigns"), .k (.str "")])), .set (.nm 3) (.lst [.tup [.k (.str "keep"), .k (.int 0), .k .non], .tup [.k (.str "keep"), .k (.int 0), .k (.bl true)], .tup [.k (.str "keep"), .k (.int 0), .tup [.k (.str "at"), .k (.int 0)]], .tup [.k (.str "keep"), .k (.int 0), .bin .pow (.k (.int 10)) (.k (.int 39))], .tup [.k (.str "keep"), .k (.int 0), .tup []], .tup [.k (.str "turn")]]), .set (.nm 3) (.bin .add (.var 3) (.lst [.tup [.k (.str "outer"), .k (.int 0), .k (.int 1), .k (.int 0)], .tup [.k (.str "outer"), .k (.int 0), .k (.int 0), .k (.int 0)], .tup [.k (.str "into"), .k (.int 1), .k (.int 0), .k (.int 0)], .tup [.k (.str "into"), .k (.int 0), .k (.int 1), .k (.int 0)], .tup [.k (.str "into"), .k (.bl true), .k (.int 0), .k (.int 0)]])), .set (.nm 3) (.bin .add (.var 3) (.lst [.tup [.k (.str "call"), .k (.int 0), .k (.int 0), .tup []], .tup [.k (.str "call"), .k (.int 0), .k (.int 0), .tup [.k (.int 0), .k (.int 0)]], .tup [.k (.str "call"), .k (.int 0), .k (.int 0), .frz (.lst [.k (.int 0)])], .tup [.k (.str "call"), .k (.int 0), .k (.int 0), .tup [.neg (.k (.int 1))]], .tup [.k (.str "call"), .k (.int 0), .k (.int 0)]])), .set (.nm 3) (.bin .add (.var 3) (.lst [.tup [.k (.str "load"), .k (.int 0), .k (.int 0), .k (.str "a")], .tup [.k (.str "load"), .k (.int 0), .k (.int 0), .k (.int 0)], .tup [.k (.str "load"), .k (.int 0), .k (.int 0), .k (.str "cell")], .tup [.k (.str "store"), .k (.int 0), .k (.str "a"), .k (.int 0)], .tup [.k (.str "store"), .k (.int 0), .k (.int 0), .k (.str "a")]])), .set (.nm 3) (.bin .add (.var 3) (.lst [.tup [.k (.str "is"), .k (.int 0), .k (.str "word"), .k (.int 0)], .tup [.k (.str "is"), .k (.int 0), .k (.str "make"), .k (.int 0)], .tup [.k (.str "is"), .k (.int 0), .k .non, .k (.int 0)], .tup [.k (.str "work"), .k (.int 0), .k (.str "less"), .k (.int 0), .k (.int 0)], .tup [.k (.str "end"), .k .non]])), .set (.nm 3) (.bin .add (.var 3) (.lst [.tup [.k (.str "work"), .k (.int 0), .frz (.lst [.k (.str "add")]), .k (.int 0), .k (.int 0)], .tup [.k (.str "work"), .k (.int 0), .k (.str "equal"), .k (.int 0), .k (.int 0)], .k (.str "end"), .frz (.lst [.k (.str "end")]), .tup [.k (.str "End")], .tup [.k .non], .tup [.tup []], .tup [.k (.str "untry")]])), .ife (.cmp .In (.k (.bl false)) (.comp (.call 27 [.var 5]) (.nm 5) .seq [.var 3] none [5])) [.ret (.k (.bl false))] [], .set (.nm 4) (.opq), .for (.nm 5) .seq [.tup [.var 4, .tup [.var 4], .tup [.k (.str "keep"), .k (.int 0), .var 4], .tup [.var 4, .k (.int 0), .k (.int 0)], .tup [.k (.str "call"), .k (.int 0), .k (.int 0), .tup [.var 4]], .tup [.k (.str "is"), .k (.int 0), .var 4, .k (.int 0)]]] [.ife (.isb true (.call 6 [.var 5]) (.k (.bl false))) [.ret (.k (.bl false))] []], .for (.nm 6) .rng1 [.k (.int 40)] [.set (.nm 5) (.call 24 [.var 1, .k (.int 4), .k (.int 5), .k (.int 3), .var 2]), .for (.nm 7) .rng1 [.sub (.lst [.k (.int 0), .k (.int 0), .k (.int 1), .k (.int 1), .k (.int 2)]) (.call 10 [.var 1, .k (.int 5)])] [.set (.nm 5) (.call 26 [.var 1, .var 5])], .ife (.or (.not (.call 27 [.var 5])) (.not (.call 27 [.call 25 [.var 1]]))) [.ret (.k (.bl false))] []], .ret (.k (.bl true))]⟩ -- law
def ds : List Df := [
  ⟨top 5, ["thing"], ["thing"], f0⟩,
  ⟨top 6, ["thing"], ["thing"], f1⟩,
  ⟨top 7, ["thing", "letter"], ["thing"], f2⟩,
  ⟨top 11, ["thing", "words"], ["thing", "words"], f3⟩,
  ⟨top 14, ["thing"], ["thing"], f4⟩,
  ⟨top 15, ["shape", "thing", "one"], ["shape", "thing"], f5⟩,
  ⟨top 16, ["thing", "shapes", "shape", "one"], ["thing"], f6⟩,
  ⟨top 22, ["thing"], ["thing"], f7⟩,
  ⟨top 23, ["values", "value"], ["values"], f8⟩,
  ⟨top 26, ["_law_script", "_law_cell"], ["_law_script"], f9⟩,
  ⟨top 27, ["_law_bag_here", "_law_upto", "_law_early", "_law_second", "_law_cell", "_law_mixed_here", "_law_drawn"], ["_law_bag_here", "_law_upto"], f10⟩,
  ⟨top 28, ["_law_bag_here", "_law_some"], ["_law_bag_here", "_law_some"], f11⟩,
  ⟨top 29, ["_law_bag_here", "_law_things", "_law_found", "_law_thing"], ["_law_bag_here", "_law_things"], f12⟩,
  ⟨top 30, ["_law_found", "_law_due"], ["_law_found", "_law_due"], f13⟩,
  ⟨top 31, ["_law_thing"], ["_law_thing"], f14⟩,
  ⟨top 32, ["_law_text"], [], f15⟩,
  ⟨top 33, ["_law_thing", "_law_sign"], ["_law_thing"], f16⟩,
  ⟨top 34, [], [], f17⟩,
  ⟨top 35, [], [], f18⟩,
  ⟨top 36, ["_law_bag_here", "_law_size", "_law_menu"], ["_law_bag_here", "_law_size"], f19⟩,
  ⟨top 37, [], [], f20⟩,
  ⟨top 38, ["_law_sort", "_law_thing", "_law_one_here"], ["_law_sort", "_law_thing"], f21⟩,
  ⟨top 39, ["_law_thing", "_law_shape", "_law_at"], ["_law_thing"], f22⟩,
  ⟨top 40, ["_law_bag_here", "_law_sort", "_law_size", "_law_names_here", "_law_k"], ["_law_bag_here", "_law_sort", "_law_size", "_law_names_here"], f23⟩,
  ⟨top 41, ["_law_bag_here", "_law_size", "_law_length", "_law_total", "_law_names_here", "_law_word", "_law_parts", "_law_spots", "_law_sort"], ["_law_bag_here", "_law_size", "_law_length", "_law_total", "_law_names_here"], f24⟩,
  ⟨top 42, ["_law_bag_here", "_law_deep", "_law_k", "_law_some", "_law_home", "_law_bare"], ["_law_bag_here"], f25⟩,
  ⟨top 43, ["_law_bag_here", "_law_thing", "_law_way", "_law_at", "_law_some"], ["_law_bag_here", "_law_thing"], f26⟩,
  ⟨top 44, ["_law_thing", "_law_shown"], ["_law_thing"], f27⟩,
  ⟨top 45, ["_law_script", "_law_bag_here", "_law_names_here", "_law_fixed", "_law_heap", "_law_thing", "_law_turn", "_law_bend"], ["_law_script"], f28⟩]
def names : List Str := ["is_integer", "is_natural", "is_name", "is_one_of", "is_kept", "is_op_part", "is_op", "is_field", "cells_named", "_law_bag", "_law_take", "_law_one", "_law_mixed", "_law_alike", "_law_whole", "_law_words", "_law_name", "_law_works", "_law_kinds", "_law_names", "_law_shapes", "_law_is_part", "_law_is_op", "_law_part_drawn", "_law_any_op", "_law_odd", "_law_bent", "_law_is_right", "law"]
def scG : Sc := { sc := ⟨.function, [], false, false, []⟩, N := [], st := [], fns := names, gls := [("LETTERS", g_LETTERS), ("LONGEST", g_LONGEST), ("RESERVED", g_RESERVED), ("OPS", g_OPS), ("KINDS", g_KINDS)], opq := "Heap", oq := true, kds := [("OP_SHAPES", k_OP_SHAPES, w_OP_SHAPES)] }
theorem ck0 : ds.all (ckDef scG 60) = true := by decide +kernel
end K30

set_option Elab.async false
set_option linter.all false
set_option maxRecDepth 100000
set_option maxHeartbeats 4000000
/-! k30: what is drawn; the looks; the law. -/
namespace K30
open PySem L2 Lin Lin.Ab Lin.Pu
abbrev tab : List Fn := ds.map Df.fn
def pm0 : Kd → List AV → AV := fun k as => .tree k as
def pi0 : Nat → W → Prop := fun _ _ => False
theorem pmk {bag : W → Prop} : PmOk pi0 bag pm0 := pm0_ok
def b0 : Tr := tOr (trTake 10) (trSome 11)
def gOdd : AV := .good 9 2003 129
theorem c25 : chk pm0 b0 tab 60 3 25 [.bg] [.bg] gOdd = true := by decide +kernel
def b1 : Tr := tOr (trOne 25 [.bg] [.bg] gOdd) b0
def nms : AV := .seq (.lst true) 4 29 (.str 0 10)
def P1 : Tr := aRun pm0 b1 tab 60 4
theorem c24 : chkSp pm0 P1 60 1 5 f24 [.bg, .int 4 4, .int 5 5, .int 3 3, nms] [.bg, .top, .top, .top, nms] (.good 3 600 130) = true := by decide +kernel
def leafS : List Sm := match f26.body with
  | _ :: .ife _ b _ :: _ => b
  | _ => []
def V : BV := ⟨[.list, .tuple], 7, 5, 0, 1, 2, leafS⟩
theorem vOk : V.Ok := ⟨.inr rfl, by decide⟩
def lf (a : AV) (d s b : Nat) : Bool := chkLf pm0 P1 60 V.leaf a V.u d s b
theorem l11 : lf (.str 0 (600 / 10)) 9 2003 131 = true := by decide +kernel
theorem l12 : lf (.int (-(2 ^ (130 + 1))) (2 ^ (130 + 1))) 9 2003 131 = true := by decide +kernel
theorem l13 : lf (.fin [.a (.bl true), .a (.bl false)]) 9 2003 131 = true := by decide +kernel
theorem l21 : lf (.str 0 (5100 / 10)) 9 6000 133 = true := by decide +kernel
theorem l22 : lf (.int (-(2 ^ (131 + 1))) (2 ^ (131 + 1))) 9 6000 133 = true := by decide +kernel
theorem l23 : lf (.fin [.a (.bl true), .a (.bl false)]) 9 6000 133 = true := by decide +kernel
def big : AV := .good 60 1000000 1900
def b2 : Tr := tOr (trOne 24 [.bg, .int 4 4, .int 5 5, .int 3 3, nms] [.bg, .top, .top, .top, nms] (.good 3 600 130)) (tOr (trBent 26 3 600 130 9 2003 131) (tOr (trBent 26 12 5100 131 9 6000 133) (tOr (trOne 27 [big] [.top] (.fin [.a (.bl true)])) b1)))
def P2 : Tr := aRun pm0 b2 tab 60 8
def rest : List Sm := f28.body.drop 1
theorem cRest : chkRest pm0 P2 60 8 rest = true := by decide +kernel
/-! ### the looks -/
theorem qInt : Asks tab 0 1 isIntB := int_asks rfl
theorem qNat : Asks tab 1 2 isNatB := nat_asks (j := 0) rfl qInt
theorem qName : Asks tab 2 1 isNameB := name_asks rfl
theorem qKept : Asks tab 4 2 keptB := kept_asks (iI := 0) (iN := 2) rfl qInt qName
theorem qPart (n : Nat) (hn : 8 ≤ n) (x : Str) (w : W) (hw : Fit w) : prun tab n 5 [.a (.str x), w] = B (predN (P5 x) w) := by
  obtain ⟨m, rfl⟩ : ∃ m, n = m + 1 := ⟨n - 1, by omega⟩
  exact part_run (iP := 5) (iK := 4) (iI := 0) (iO := 3) (iN := 2) (iNat := 1) rfl qKept qInt rfl qName qNat (by omega) x hw
theorem qOp : Asks tab 6 9 isOpB := op_asks (iE := 6) (iO := 3) (iP := 5) rfl rfl qPart (by decide)
theorem qWhole : Asks tab 14 1 isIntB := int_asks rfl
theorem qLName : Asks tab 16 2 isNameB := lname_asks (iW := 15) rfl rfl
theorem qLPart (n : Nat) (hn : 6 ≤ n) (c : Nat) (hc : c ∈ let7) (w : W) (hw : Fit w) : prun tab n 21 [.a (.str (sg c)), w] = B (predN (P21 c) w) := by
  obtain ⟨m, rfl⟩ : ∃ m, n = m + 1 := ⟨n - 1, by omega⟩
  exact lpart_run (iP := 21) (iI := 14) (iN := 16) (iW := 17) (iD := 18) rfl qWhole qLName rfl rfl (by omega) hc hw
theorem qLOp : Asks tab 22 7 isOpB := lop_asks (iE := 22) (iD := 20) (iP := 21) rfl rfl qLPart (by decide)
theorem qRight (m : Nat) (hm : 18 ≤ m) (w : W) (hw : Good 60 1000000 1900 w) : prun tab m 27 [w] = B true := by
  obtain ⟨n, rfl⟩ : ∃ n, m = n + 1 := ⟨m - 1, by omega⟩
  obtain ⟨t, ht⟩ := reprW_good hw (by decide) (by decide) (by decide)
  exact right_run (iA := 13) (iE := 6) (iL := 22) rfl rfl qOp qLOp (by omega) ⟨_, _, _, hw, by decide⟩ ht
/-! ### the drawing defs -/
section
variable {l : List Int} (hl : l.length ≤ 63)
include hl
theorem dT : Drw tab 10 l := drw2 rfl hl
theorem b0_ok : ∀ m, 2 ≤ m → POk pi0 (Bg l) (Lin.run tab m) b0 := fun m hm => tOr_ok (trTake_ok (dT hl) (by omega)) (trSome_ok (iT := 10) (dT hl) rfl hm)
theorem b1_ok : ∀ m, 5 ≤ m → POk pi0 (Bg l) (Lin.run tab m) b1 := fun m hm => tOr_ok (trOne_ok fun ws hw => chk_ok (bagOk l) pmk (b0_ok hl) c25 m (by omega) ws hw) (b0_ok hl m (by omega))
theorem P1_ok : ∀ m, 9 ≤ m → POk pi0 (Bg l) (Lin.run tab m) P1 := fun m hm => aRun_ok (bagOk l) pmk (b1_ok hl) 60 4 m (by omega)
/-- neither a text nor a number: an odd one comes -/
theorem leaf_odd {m d s b : Nat} (hm : 10 ≤ m) (hg : ∀ w, Good 9 2003 129 w → Good d s b w) {D S Bb : Nat} (t : W) (ht : Good D S Bb t) (hk : t = .a .non ∨ ∃ k xs, t = .n k xs) : LeafOk V (Lin.run tab m) l t (Good d s b) := fun w r hw h0 hu => by
  have hS : isTys t [.str] = some false := by
    rcases hk with rfl | ⟨k, xs, rfl⟩
    · rfl
    · cases k with
      | ro => exact absurd ht.ok (by simp [okW, okKd])
      | _ => rfl
  have hI : isTys t [.int] = some false := by
    rcases hk with rfl | ⟨k, xs, rfl⟩
    · rfl
    · cases k with
      | ro => exact absurd ht.ok (by simp [okW, okKd])
      | _ => rfl
  obtain ⟨m', rfl⟩ : ∃ m', m = m' + 1 := ⟨m - 1, by omega⟩
  have at1 : at? [w, t, .a (.int r), dd, dd] 1 = some t := by show (if t.alive then some t else none) = _; rw [if_pos ht.alive]
  have h14 : Lin.run tab (m' + 1) 14 [t] = some ([t], .a (.bl false)) := by
    have a0 : at? [t] 0 = some t := by show (if t.alive then some t else none) = _; rw [if_pos ht.alive]
    rw [run_at (F := f14) rfl rfl (by decide)]
    have e : exs (Lin.run tab m') f14.body ([t] ++ List.replicate (f14.ns - f14.np) (.a .dead)) = some (.rt (.a (.bl false)), [t]) := by
      show exs (Lin.run tab m') [.ret (.and (.isi (.var 0) [.int]) (.not (.isi (.var 0) [.bool])))] [t] = _
      refine exs_rt (ret_v ?_)
      simp only [evm, a0, res, hI, fin, tru]
    rw [e]
    rfl
  obtain ⟨ws', u, e25, g1, g2⟩ := chk_ok (bagOk l) pmk (b0_ok hl) c25 (m' + 1) (by omega) [w] ⟨w, _, rfl, hw, rfl⟩
  obtain ⟨w', ws1, rfl, hw', h1⟩ := g1
  rw [show ws1 = [] from h1] at e25
  have al : at? [w, t, .a (.int r), dd, dd] 0 = some w := by
    obtain ⟨a, b, c, _, _, rfl⟩ := hw
    rfl
  have nf : w.fz = false := by obtain ⟨a, b, c, _, _, rfl⟩ := hw; rfl
  have nd : at? [dd, t, .a (.int r), dd, dd] 0 = none := rfl
  refine ⟨w', t, u, [w', t, .a (.int r), dd, dd], hw', ?_, rfl, hg u g2⟩
  show exs (Lin.run tab (m' + 1)) leafS [w, t, .a (.int r), dd, dd] = _
  have c1 : evm (Lin.run tab (m' + 1)) (.and (.isi (.var 1) [.str]) (.cmp .Lt (.var 2) (.k (.int 3)))) .tst [w, t, .a (.int r), dd, dd] = some (.bo false, [w, t, .a (.int r), dd, dd]) := by
    simp only [evm, at1, res, hS, fin, tru]
  have c2 : evm (Lin.run tab (m' + 1)) (.and (.call 14 [.var 1]) (.cmp .Lt (.var 2) (.k (.int 4)))) .tst [w, t, .a (.int r), dd, dd] = some (.bo false, [w, t, .a (.int r), dd, dd]) := by
    have hf := ht.fz
    simp only [evm, opL, at1, takeA, hf, if_true, h14, putA, Option.isSome_some, fin, tru]
  have c3 : evm (Lin.run tab (m' + 1)) (.call 25 [.var 0]) .val [w, t, .a (.int r), dd, dd] = some (.tm u, [w', t, .a (.int r), dd, dd]) := by
    have es : ([w, t, .a (.int r), dd, dd] : List W).set 0 (.a .dead) = [dd, t, .a (.int r), dd, dd] := rfl
    simp only [evm, opL, al, takeA, nf, Bool.false_eq_true, if_false, es, e25, putA, nd, Option.isSome_none, fin]
    rfl
  exact exs_c ((ife_f c1).trans rfl) (exs_c ((ife_f c2).trans rfl) (exs_rt (ret_v c3)))
theorem lk1 (m : Nat) (hm : 10 ≤ m) : ∀ t, Good 3 600 130 t → LeafOk V (Lin.run tab m) l t (Good 9 2003 131) := leaf_cases pmk (P1_ok hl m (by omega)) l11 l12 l13 fun t ht hk => leaf_odd hl hm (fun w g => g.mono (by decide) (by decide) (by decide)) t ht hk
theorem lk2 (m : Nat) (hm : 10 ≤ m) : ∀ t, Good 12 5100 131 t → LeafOk V (Lin.run tab m) l t (Good 9 6000 133) := leaf_cases pmk (P1_ok hl m (by omega)) l21 l22 l23 fun t ht hk => leaf_odd hl hm (fun w g => g.mono (by decide) (by decide) (by decide)) t ht hk
theorem b2_ok : ∀ m, 30 ≤ m → POk pi0 (Bg l) (Lin.run tab m) b2 := fun m hm => by
  obtain ⟨n, rfl⟩ : ∃ n, m = n + 1 := ⟨m - 1, by omega⟩
  refine tOr_ok (trOne_ok fun ws hw => chkSp_ok (bagOk l) pmk (F := f24) rfl (P1_ok hl n (by omega)) c24 ws hw) ?_
  refine tOr_ok (trBent_ok (V := V) (M := 10) vOk (dT hl) rfl (by decide) (fun m hm t ht => lk1 hl m hm t ht) (by omega)) ?_
  refine tOr_ok (trBent_ok (V := V) (M := 10) vOk (dT hl) rfl (by decide) (fun m hm t ht => lk2 hl m hm t ht) (by omega)) ?_
  refine tOr_ok (tr_look (F := f27) rfl rfl fun w hw => ⟨_, qRight (n + 1) (by omega) w hw, ⟨List.mem_cons_self, rfl, rfl⟩⟩) (b1_ok hl (n + 1) (by omega))
end
theorem law_right : ∀ ns : List Int, ns.length ≤ 63 → ∃ ws', Lin.run (ds.map Df.fn) 58 28 [scriptW ns] = some (ws', .a (.bl true)) :=
  law_glue (iB := 9) (F := f28) (rest := rest) (m := 56) (n := 6) rfl rfl rfl rfl rfl (fun bag => pmk) (fun l hl => aRun_ok (bagOk l) pmk (b2_ok hl) 60 8 57 (by decide)) cRest
end K30

set_option Elab.async false
set_option linter.all false
set_option maxRecDepth 1000000
set_option maxHeartbeats 4000000
/-! K30: the end. -/
namespace K30
open PySem L2 Lin
abbrev sIni : Stmt := inClass (top 24) 0
abbrev sEq : Stmt := inClass (top 24) 2
theorem all_mk {P : Program} {w : World} {K : PySem.W.Frag} {h : Heap} {mg : Str → Option Value} {fa C fJ fQ : Addr} (X : K.In h) (G : h.Ns mainGlobals mg) (hfa : mg "law" = some (.ref fa))
    {f0 : Addr}    {oc0 kV0 dc0 pm0 cd0 ct0 : Value} {od0 an0 : Option Addr} {sl0 : Array (Option Value)}
    (l0 : K.lookup f0 = some ⟨oc0, od0, .func (PySem.W.fnOf "is_integer" "is_integer" (defArgs (top 5)) (defBody (top 5)) (defScope (top 5)) .none kV0 dc0 pm0 an0 cd0 ct0), sl0⟩) (c0 : PySem.W.codeIn K cd0 "is_integer" = true) (k0 : PySem.W.keepIn K (.ref f0) = true)
    (a0 : PySem.W.nsIn K mainGlobals "is_integer" = some (some (.ref f0)))
    {f1 : Addr}    {oc1 kV1 dc1 pm1 cd1 ct1 : Value} {od1 an1 : Option Addr} {sl1 : Array (Option Value)}
    (l1 : K.lookup f1 = some ⟨oc1, od1, .func (PySem.W.fnOf "is_natural" "is_natural" (defArgs (top 6)) (defBody (top 6)) (defScope (top 6)) .none kV1 dc1 pm1 an1 cd1 ct1), sl1⟩) (c1 : PySem.W.codeIn K cd1 "is_natural" = true) (k1 : PySem.W.keepIn K (.ref f1) = true)
    (a1 : PySem.W.nsIn K mainGlobals "is_natural" = some (some (.ref f1)))
    {f2 : Addr}    {oc2 kV2 dc2 pm2 cd2 ct2 : Value} {od2 an2 : Option Addr} {sl2 : Array (Option Value)}
    (l2 : K.lookup f2 = some ⟨oc2, od2, .func (PySem.W.fnOf "is_name" "is_name" (defArgs (top 7)) (defBody (top 7)) (defScope (top 7)) .none kV2 dc2 pm2 an2 cd2 ct2), sl2⟩) (c2 : PySem.W.codeIn K cd2 "is_name" = true) (k2 : PySem.W.keepIn K (.ref f2) = true)
    (a2 : PySem.W.nsIn K mainGlobals "is_name" = some (some (.ref f2)))
    {f3 : Addr}    {oc3 kV3 dc3 pm3 cd3 ct3 : Value} {od3 an3 : Option Addr} {sl3 : Array (Option Value)}
    (l3 : K.lookup f3 = some ⟨oc3, od3, .func (PySem.W.fnOf "is_one_of" "is_one_of" (defArgs (top 11)) (defBody (top 11)) (defScope (top 11)) .none kV3 dc3 pm3 an3 cd3 ct3), sl3⟩) (c3 : PySem.W.codeIn K cd3 "is_one_of" = true) (k3 : PySem.W.keepIn K (.ref f3) = true)
    (a3 : PySem.W.nsIn K mainGlobals "is_one_of" = some (some (.ref f3)))
    {f4 : Addr}    {oc4 kV4 dc4 pm4 cd4 ct4 : Value} {od4 an4 : Option Addr} {sl4 : Array (Option Value)}
    (l4 : K.lookup f4 = some ⟨oc4, od4, .func (PySem.W.fnOf "is_kept" "is_kept" (defArgs (top 14)) (defBody (top 14)) (defScope (top 14)) .none kV4 dc4 pm4 an4 cd4 ct4), sl4⟩) (c4 : PySem.W.codeIn K cd4 "is_kept" = true) (k4 : PySem.W.keepIn K (.ref f4) = true)
    (a4 : PySem.W.nsIn K mainGlobals "is_kept" = some (some (.ref f4)))
    {f5 : Addr}    {oc5 kV5 dc5 pm5 cd5 ct5 : Value} {od5 an5 : Option Addr} {sl5 : Array (Option Value)}
    (l5 : K.lookup f5 = some ⟨oc5, od5, .func (PySem.W.fnOf "is_op_part" "is_op_part" (defArgs (top 15)) (defBody (top 15)) (defScope (top 15)) .none kV5 dc5 pm5 an5 cd5 ct5), sl5⟩) (c5 : PySem.W.codeIn K cd5 "is_op_part" = true) (k5 : PySem.W.keepIn K (.ref f5) = true)
    (a5 : PySem.W.nsIn K mainGlobals "is_op_part" = some (some (.ref f5)))
    {f6 : Addr}    {oc6 kV6 dc6 pm6 cd6 ct6 : Value} {od6 an6 : Option Addr} {sl6 : Array (Option Value)}
    (l6 : K.lookup f6 = some ⟨oc6, od6, .func (PySem.W.fnOf "is_op" "is_op" (defArgs (top 16)) (defBody (top 16)) (defScope (top 16)) .none kV6 dc6 pm6 an6 cd6 ct6), sl6⟩) (c6 : PySem.W.codeIn K cd6 "is_op" = true) (k6 : PySem.W.keepIn K (.ref f6) = true)
    (a6 : PySem.W.nsIn K mainGlobals "is_op" = some (some (.ref f6)))
    {f7 : Addr}    {oc7 kV7 dc7 pm7 cd7 ct7 : Value} {od7 an7 : Option Addr} {sl7 : Array (Option Value)}
    (l7 : K.lookup f7 = some ⟨oc7, od7, .func (PySem.W.fnOf "is_field" "is_field" (defArgs (top 22)) (defBody (top 22)) (defScope (top 22)) .none kV7 dc7 pm7 an7 cd7 ct7), sl7⟩) (c7 : PySem.W.codeIn K cd7 "is_field" = true) (k7 : PySem.W.keepIn K (.ref f7) = true)
    (a7 : PySem.W.nsIn K mainGlobals "is_field" = some (some (.ref f7)))
    {f8 : Addr}    {oc8 kV8 dc8 pm8 cd8 ct8 : Value} {od8 an8 : Option Addr} {sl8 : Array (Option Value)}
    (l8 : K.lookup f8 = some ⟨oc8, od8, .func (PySem.W.fnOf "cells_named" "cells_named" (defArgs (top 23)) (defBody (top 23)) (defScope (top 23)) .none kV8 dc8 pm8 an8 cd8 ct8), sl8⟩) (c8 : PySem.W.codeIn K cd8 "cells_named" = true) (k8 : PySem.W.keepIn K (.ref f8) = true)
    (a8 : PySem.W.nsIn K mainGlobals "cells_named" = some (some (.ref f8)))
    {f9 : Addr}    {oc9 kV9 dc9 pm9 cd9 ct9 : Value} {od9 an9 : Option Addr} {sl9 : Array (Option Value)}
    (l9 : K.lookup f9 = some ⟨oc9, od9, .func (PySem.W.fnOf "_law_bag" "_law_bag" (defArgs (top 26)) (defBody (top 26)) (defScope (top 26)) .none kV9 dc9 pm9 an9 cd9 ct9), sl9⟩) (c9 : PySem.W.codeIn K cd9 "_law_bag" = true) (k9 : PySem.W.keepIn K (.ref f9) = true)
    (a9 : PySem.W.nsIn K mainGlobals "_law_bag" = some (some (.ref f9)))
    {f10 : Addr}    {oc10 kV10 dc10 pm10 cd10 ct10 : Value} {od10 an10 : Option Addr} {sl10 : Array (Option Value)}
    (l10 : K.lookup f10 = some ⟨oc10, od10, .func (PySem.W.fnOf "_law_take" "_law_take" (defArgs (top 27)) (defBody (top 27)) (defScope (top 27)) .none kV10 dc10 pm10 an10 cd10 ct10), sl10⟩) (c10 : PySem.W.codeIn K cd10 "_law_take" = true) (k10 : PySem.W.keepIn K (.ref f10) = true)
    (a10 : PySem.W.nsIn K mainGlobals "_law_take" = some (some (.ref f10)))
    {f11 : Addr}    {oc11 kV11 dc11 pm11 cd11 ct11 : Value} {od11 an11 : Option Addr} {sl11 : Array (Option Value)}
    (l11 : K.lookup f11 = some ⟨oc11, od11, .func (PySem.W.fnOf "_law_one" "_law_one" (defArgs (top 28)) (defBody (top 28)) (defScope (top 28)) .none kV11 dc11 pm11 an11 cd11 ct11), sl11⟩) (c11 : PySem.W.codeIn K cd11 "_law_one" = true) (k11 : PySem.W.keepIn K (.ref f11) = true)
    (a11 : PySem.W.nsIn K mainGlobals "_law_one" = some (some (.ref f11)))
    {f12 : Addr}    {oc12 kV12 dc12 pm12 cd12 ct12 : Value} {od12 an12 : Option Addr} {sl12 : Array (Option Value)}
    (l12 : K.lookup f12 = some ⟨oc12, od12, .func (PySem.W.fnOf "_law_mixed" "_law_mixed" (defArgs (top 29)) (defBody (top 29)) (defScope (top 29)) .none kV12 dc12 pm12 an12 cd12 ct12), sl12⟩) (c12 : PySem.W.codeIn K cd12 "_law_mixed" = true) (k12 : PySem.W.keepIn K (.ref f12) = true)
    (a12 : PySem.W.nsIn K mainGlobals "_law_mixed" = some (some (.ref f12)))
    {f13 : Addr}    {oc13 kV13 dc13 pm13 cd13 ct13 : Value} {od13 an13 : Option Addr} {sl13 : Array (Option Value)}
    (l13 : K.lookup f13 = some ⟨oc13, od13, .func (PySem.W.fnOf "_law_alike" "_law_alike" (defArgs (top 30)) (defBody (top 30)) (defScope (top 30)) .none kV13 dc13 pm13 an13 cd13 ct13), sl13⟩) (c13 : PySem.W.codeIn K cd13 "_law_alike" = true) (k13 : PySem.W.keepIn K (.ref f13) = true)
    (a13 : PySem.W.nsIn K mainGlobals "_law_alike" = some (some (.ref f13)))
    {f14 : Addr}    {oc14 kV14 dc14 pm14 cd14 ct14 : Value} {od14 an14 : Option Addr} {sl14 : Array (Option Value)}
    (l14 : K.lookup f14 = some ⟨oc14, od14, .func (PySem.W.fnOf "_law_whole" "_law_whole" (defArgs (top 31)) (defBody (top 31)) (defScope (top 31)) .none kV14 dc14 pm14 an14 cd14 ct14), sl14⟩) (c14 : PySem.W.codeIn K cd14 "_law_whole" = true) (k14 : PySem.W.keepIn K (.ref f14) = true)
    (a14 : PySem.W.nsIn K mainGlobals "_law_whole" = some (some (.ref f14)))
    {f15 : Addr}    {oc15 kV15 dc15 pm15 cd15 ct15 : Value} {od15 an15 : Option Addr} {sl15 : Array (Option Value)}
    (l15 : K.lookup f15 = some ⟨oc15, od15, .func (PySem.W.fnOf "_law_words" "_law_words" (defArgs (top 32)) (defBody (top 32)) (defScope (top 32)) .none kV15 dc15 pm15 an15 cd15 ct15), sl15⟩) (c15 : PySem.W.codeIn K cd15 "_law_words" = true) (k15 : PySem.W.keepIn K (.ref f15) = true)
    (a15 : PySem.W.nsIn K mainGlobals "_law_words" = some (some (.ref f15)))
    {f16 : Addr}    {oc16 kV16 dc16 pm16 cd16 ct16 : Value} {od16 an16 : Option Addr} {sl16 : Array (Option Value)}
    (l16 : K.lookup f16 = some ⟨oc16, od16, .func (PySem.W.fnOf "_law_name" "_law_name" (defArgs (top 33)) (defBody (top 33)) (defScope (top 33)) .none kV16 dc16 pm16 an16 cd16 ct16), sl16⟩) (c16 : PySem.W.codeIn K cd16 "_law_name" = true) (k16 : PySem.W.keepIn K (.ref f16) = true)
    (a16 : PySem.W.nsIn K mainGlobals "_law_name" = some (some (.ref f16)))
    {f17 : Addr}    {oc17 kV17 dc17 pm17 cd17 ct17 : Value} {od17 an17 : Option Addr} {sl17 : Array (Option Value)}
    (l17 : K.lookup f17 = some ⟨oc17, od17, .func (PySem.W.fnOf "_law_works" "_law_works" (defArgs (top 34)) (defBody (top 34)) (defScope (top 34)) .none kV17 dc17 pm17 an17 cd17 ct17), sl17⟩) (c17 : PySem.W.codeIn K cd17 "_law_works" = true) (k17 : PySem.W.keepIn K (.ref f17) = true)
    (a17 : PySem.W.nsIn K mainGlobals "_law_works" = some (some (.ref f17)))
    {f18 : Addr}    {oc18 kV18 dc18 pm18 cd18 ct18 : Value} {od18 an18 : Option Addr} {sl18 : Array (Option Value)}
    (l18 : K.lookup f18 = some ⟨oc18, od18, .func (PySem.W.fnOf "_law_kinds" "_law_kinds" (defArgs (top 35)) (defBody (top 35)) (defScope (top 35)) .none kV18 dc18 pm18 an18 cd18 ct18), sl18⟩) (c18 : PySem.W.codeIn K cd18 "_law_kinds" = true) (k18 : PySem.W.keepIn K (.ref f18) = true)
    (a18 : PySem.W.nsIn K mainGlobals "_law_kinds" = some (some (.ref f18)))
    {f19 : Addr}    {oc19 kV19 dc19 pm19 cd19 ct19 : Value} {od19 an19 : Option Addr} {sl19 : Array (Option Value)}
    (l19 : K.lookup f19 = some ⟨oc19, od19, .func (PySem.W.fnOf "_law_names" "_law_names" (defArgs (top 36)) (defBody (top 36)) (defScope (top 36)) .none kV19 dc19 pm19 an19 cd19 ct19), sl19⟩) (c19 : PySem.W.codeIn K cd19 "_law_names" = true) (k19 : PySem.W.keepIn K (.ref f19) = true)
    (a19 : PySem.W.nsIn K mainGlobals "_law_names" = some (some (.ref f19)))
    {f20 : Addr}    {oc20 kV20 dc20 pm20 cd20 ct20 : Value} {od20 an20 : Option Addr} {sl20 : Array (Option Value)}
    (l20 : K.lookup f20 = some ⟨oc20, od20, .func (PySem.W.fnOf "_law_shapes" "_law_shapes" (defArgs (top 37)) (defBody (top 37)) (defScope (top 37)) .none kV20 dc20 pm20 an20 cd20 ct20), sl20⟩) (c20 : PySem.W.codeIn K cd20 "_law_shapes" = true) (k20 : PySem.W.keepIn K (.ref f20) = true)
    (a20 : PySem.W.nsIn K mainGlobals "_law_shapes" = some (some (.ref f20)))
    {f21 : Addr}    {oc21 kV21 dc21 pm21 cd21 ct21 : Value} {od21 an21 : Option Addr} {sl21 : Array (Option Value)}
    (l21 : K.lookup f21 = some ⟨oc21, od21, .func (PySem.W.fnOf "_law_is_part" "_law_is_part" (defArgs (top 38)) (defBody (top 38)) (defScope (top 38)) .none kV21 dc21 pm21 an21 cd21 ct21), sl21⟩) (c21 : PySem.W.codeIn K cd21 "_law_is_part" = true) (k21 : PySem.W.keepIn K (.ref f21) = true)
    (a21 : PySem.W.nsIn K mainGlobals "_law_is_part" = some (some (.ref f21)))
    {f22 : Addr}    {oc22 kV22 dc22 pm22 cd22 ct22 : Value} {od22 an22 : Option Addr} {sl22 : Array (Option Value)}
    (l22 : K.lookup f22 = some ⟨oc22, od22, .func (PySem.W.fnOf "_law_is_op" "_law_is_op" (defArgs (top 39)) (defBody (top 39)) (defScope (top 39)) .none kV22 dc22 pm22 an22 cd22 ct22), sl22⟩) (c22 : PySem.W.codeIn K cd22 "_law_is_op" = true) (k22 : PySem.W.keepIn K (.ref f22) = true)
    (a22 : PySem.W.nsIn K mainGlobals "_law_is_op" = some (some (.ref f22)))
    {f23 : Addr}    {oc23 kV23 dc23 pm23 cd23 ct23 : Value} {od23 an23 : Option Addr} {sl23 : Array (Option Value)}
    (l23 : K.lookup f23 = some ⟨oc23, od23, .func (PySem.W.fnOf "_law_part_drawn" "_law_part_drawn" (defArgs (top 40)) (defBody (top 40)) (defScope (top 40)) .none kV23 dc23 pm23 an23 cd23 ct23), sl23⟩) (c23 : PySem.W.codeIn K cd23 "_law_part_drawn" = true) (k23 : PySem.W.keepIn K (.ref f23) = true)
    (a23 : PySem.W.nsIn K mainGlobals "_law_part_drawn" = some (some (.ref f23)))
    {f24 : Addr}    {oc24 kV24 dc24 pm24 cd24 ct24 : Value} {od24 an24 : Option Addr} {sl24 : Array (Option Value)}
    (l24 : K.lookup f24 = some ⟨oc24, od24, .func (PySem.W.fnOf "_law_any_op" "_law_any_op" (defArgs (top 41)) (defBody (top 41)) (defScope (top 41)) .none kV24 dc24 pm24 an24 cd24 ct24), sl24⟩) (c24 : PySem.W.codeIn K cd24 "_law_any_op" = true) (k24 : PySem.W.keepIn K (.ref f24) = true)
    (a24 : PySem.W.nsIn K mainGlobals "_law_any_op" = some (some (.ref f24)))
    {f25 : Addr}    {oc25 kV25 dc25 pm25 cd25 ct25 : Value} {od25 an25 : Option Addr} {sl25 : Array (Option Value)}
    (l25 : K.lookup f25 = some ⟨oc25, od25, .func (PySem.W.fnOf "_law_odd" "_law_odd" (defArgs (top 42)) (defBody (top 42)) (defScope (top 42)) .none kV25 dc25 pm25 an25 cd25 ct25), sl25⟩) (c25 : PySem.W.codeIn K cd25 "_law_odd" = true) (k25 : PySem.W.keepIn K (.ref f25) = true)
    (a25 : PySem.W.nsIn K mainGlobals "_law_odd" = some (some (.ref f25)))
    {f26 : Addr}    {oc26 kV26 dc26 pm26 cd26 ct26 : Value} {od26 an26 : Option Addr} {sl26 : Array (Option Value)}
    (l26 : K.lookup f26 = some ⟨oc26, od26, .func (PySem.W.fnOf "_law_bent" "_law_bent" (defArgs (top 43)) (defBody (top 43)) (defScope (top 43)) .none kV26 dc26 pm26 an26 cd26 ct26), sl26⟩) (c26 : PySem.W.codeIn K cd26 "_law_bent" = true) (k26 : PySem.W.keepIn K (.ref f26) = true)
    (a26 : PySem.W.nsIn K mainGlobals "_law_bent" = some (some (.ref f26)))
    {f27 : Addr}    {oc27 kV27 dc27 pm27 cd27 ct27 : Value} {od27 an27 : Option Addr} {sl27 : Array (Option Value)}
    (l27 : K.lookup f27 = some ⟨oc27, od27, .func (PySem.W.fnOf "_law_is_right" "_law_is_right" (defArgs (top 44)) (defBody (top 44)) (defScope (top 44)) .none kV27 dc27 pm27 an27 cd27 ct27), sl27⟩) (c27 : PySem.W.codeIn K cd27 "_law_is_right" = true) (k27 : PySem.W.keepIn K (.ref f27) = true)
    (a27 : PySem.W.nsIn K mainGlobals "_law_is_right" = some (some (.ref f27)))
    {f28 : Addr}    {oc28 kV28 dc28 pm28 cd28 ct28 : Value} {od28 an28 : Option Addr} {sl28 : Array (Option Value)}
    (l28 : K.lookup f28 = some ⟨oc28, od28, .func (PySem.W.fnOf "law" "law" (defArgs (top 45)) (defBody (top 45)) (defScope (top 45)) .none kV28 dc28 pm28 an28 cd28 ct28), sl28⟩) (c28 : PySem.W.codeIn K cd28 "law" = true) (k28 : PySem.W.keepIn K (.ref f28) = true)
    (a28 : PySem.W.nsIn K mainGlobals "law" = some (some (.ref f28)))
    (aC : PySem.W.nsIn K mainGlobals "Heap" = some (some (.ref C))) (bI : PySem.W.findIn K (.ref C) "__init__" = some (some (.ref fJ))) (bE : PySem.W.findIn K (.ref C) "__eq__" = some (some (.ref fQ)))
    {ocJ kVJ dcJ pmJ cdJ ctJ : Value} {odJ anJ : Option Addr} {slJ : Array (Option Value)}
    (lJ : K.lookup fJ = some ⟨ocJ, odJ, .func (PySem.W.fnOf "__init__" "Heap.__init__" (defArgs sIni) (defBody sIni) (defScope sIni) .none kVJ dcJ pmJ anJ cdJ ctJ), slJ⟩) (cJ : PySem.W.codeIn K cdJ "Heap.__init__" = true) (kJ : PySem.W.keepIn K (.ref fJ) = true)
    {ocQ kVQ dcQ pmQ cdQ ctQ : Value} {odQ anQ : Option Addr} {slQ : Array (Option Value)}
    (lQ : K.lookup fQ = some ⟨ocQ, odQ, .func (PySem.W.fnOf "__eq__" "Heap.__eq__" (defArgs sEq) (defBody sEq) (defScope sEq) .none kVQ dcQ pmQ anQ cdQ ctQ), slQ⟩) (cQ : PySem.W.codeIn K cdQ "Heap.__eq__" = true) (kQ : PySem.W.keepIn K (.ref fQ) = true)
    {tkLETTERS : Tok}
    {tkLONGEST : Tok}
    {rRESERVED : Addr} {dRESERVED : Option Addr} {iRESERVED : Array Value} {mRESERVED : Nat} {sRESERVED : Array (Option Value)}
    {rOPS : Addr} {dOPS : Option Addr} {iOPS : Array Value} {mOPS : Nat} {sOPS : Array (Option Value)}
    {rKINDS : Addr} {dKINDS : Option Addr} {iKINDS : Array Value} {mKINDS : Nat} {sKINDS : Array (Option Value)}
    {rOP_SHAPES : Addr} {eOP_SHAPES : Array DictEntry} {nOP_SHAPES : Nat}
    {rOP_SHAPES_0 : Addr} {dOP_SHAPES_0 : Option Addr} {iOP_SHAPES_0 : Array Value} {mOP_SHAPES_0 : Nat} {sOP_SHAPES_0 : Array (Option Value)}
    {rOP_SHAPES_1 : Addr} {dOP_SHAPES_1 : Option Addr} {iOP_SHAPES_1 : Array Value} {mOP_SHAPES_1 : Nat} {sOP_SHAPES_1 : Array (Option Value)}
    {rOP_SHAPES_2 : Addr} {dOP_SHAPES_2 : Option Addr} {iOP_SHAPES_2 : Array Value} {mOP_SHAPES_2 : Nat} {sOP_SHAPES_2 : Array (Option Value)}
    {rOP_SHAPES_3 : Addr} {dOP_SHAPES_3 : Option Addr} {iOP_SHAPES_3 : Array Value} {mOP_SHAPES_3 : Nat} {sOP_SHAPES_3 : Array (Option Value)}
    {rOP_SHAPES_4 : Addr} {dOP_SHAPES_4 : Option Addr} {iOP_SHAPES_4 : Array Value} {mOP_SHAPES_4 : Nat} {sOP_SHAPES_4 : Array (Option Value)}
    {rOP_SHAPES_5 : Addr} {dOP_SHAPES_5 : Option Addr} {iOP_SHAPES_5 : Array Value} {mOP_SHAPES_5 : Nat} {sOP_SHAPES_5 : Array (Option Value)}
    {rOP_SHAPES_6 : Addr} {dOP_SHAPES_6 : Option Addr} {iOP_SHAPES_6 : Array Value} {mOP_SHAPES_6 : Nat} {sOP_SHAPES_6 : Array (Option Value)}
    {rOP_SHAPES_7 : Addr} {dOP_SHAPES_7 : Option Addr} {iOP_SHAPES_7 : Array Value} {mOP_SHAPES_7 : Nat} {sOP_SHAPES_7 : Array (Option Value)}
    {rOP_SHAPES_8 : Addr} {dOP_SHAPES_8 : Option Addr} {iOP_SHAPES_8 : Array Value} {mOP_SHAPES_8 : Nat} {sOP_SHAPES_8 : Array (Option Value)}
    {rOP_SHAPES_9 : Addr} {dOP_SHAPES_9 : Option Addr} {iOP_SHAPES_9 : Array Value} {mOP_SHAPES_9 : Nat} {sOP_SHAPES_9 : Array (Option Value)}
    {rOP_SHAPES_10 : Addr} {dOP_SHAPES_10 : Option Addr} {iOP_SHAPES_10 : Array Value} {mOP_SHAPES_10 : Nat} {sOP_SHAPES_10 : Array (Option Value)}
    {rOP_SHAPES_11 : Addr} {dOP_SHAPES_11 : Option Addr} {iOP_SHAPES_11 : Array Value} {mOP_SHAPES_11 : Nat} {sOP_SHAPES_11 : Array (Option Value)}
    {rOP_SHAPES_12 : Addr} {dOP_SHAPES_12 : Option Addr} {iOP_SHAPES_12 : Array Value} {mOP_SHAPES_12 : Nat} {sOP_SHAPES_12 : Array (Option Value)}
    {rOP_SHAPES_13 : Addr} {dOP_SHAPES_13 : Option Addr} {iOP_SHAPES_13 : Array Value} {mOP_SHAPES_13 : Nat} {sOP_SHAPES_13 : Array (Option Value)}
    {rOP_SHAPES_14 : Addr} {dOP_SHAPES_14 : Option Addr} {iOP_SHAPES_14 : Array Value} {mOP_SHAPES_14 : Nat} {sOP_SHAPES_14 : Array (Option Value)}
    {rOP_SHAPES_15 : Addr} {dOP_SHAPES_15 : Option Addr} {iOP_SHAPES_15 : Array Value} {mOP_SHAPES_15 : Nat} {sOP_SHAPES_15 : Array (Option Value)}
    {rOP_SHAPES_16 : Addr} {dOP_SHAPES_16 : Option Addr} {iOP_SHAPES_16 : Array Value} {mOP_SHAPES_16 : Nat} {sOP_SHAPES_16 : Array (Option Value)}
    {rOP_SHAPES_17 : Addr} {dOP_SHAPES_17 : Option Addr} {iOP_SHAPES_17 : Array Value} {mOP_SHAPES_17 : Nat} {sOP_SHAPES_17 : Array (Option Value)}
    {rOP_SHAPES_18 : Addr} {dOP_SHAPES_18 : Option Addr} {iOP_SHAPES_18 : Array Value} {mOP_SHAPES_18 : Nat} {sOP_SHAPES_18 : Array (Option Value)}
    {rOP_SHAPES_19 : Addr} {dOP_SHAPES_19 : Option Addr} {iOP_SHAPES_19 : Array Value} {mOP_SHAPES_19 : Nat} {sOP_SHAPES_19 : Array (Option Value)}
    {rOP_SHAPES_20 : Addr} {dOP_SHAPES_20 : Option Addr} {iOP_SHAPES_20 : Array Value} {mOP_SHAPES_20 : Nat} {sOP_SHAPES_20 : Array (Option Value)}
    {rOP_SHAPES_21 : Addr} {dOP_SHAPES_21 : Option Addr} {iOP_SHAPES_21 : Array Value} {mOP_SHAPES_21 : Nat} {sOP_SHAPES_21 : Array (Option Value)}
    {rOP_SHAPES_22 : Addr} {dOP_SHAPES_22 : Option Addr} {iOP_SHAPES_22 : Array Value} {mOP_SHAPES_22 : Nat} {sOP_SHAPES_22 : Array (Option Value)}
    (iJ : PySem.W.isFn K (.ref fJ) = true)
    (iQ : PySem.W.isFn K (.ref fQ) = true)
    (mk : PySem.W.makesIn K C = true)
    (kc : PySem.W.keepIn K (.ref C) = true)
    (pg : PySem.W.plainGet K C Str.empty = true)
    (hd : PySem.W.hasDictIn K C = true)
    (po : PySem.W.plainOver K C = true)
    (sa : PySem.W.findIn K (.ref C) "__setattr__" = some (some (.builtin "object.__setattr__")))
    (n1 : PySem.W.findIn K (.ref C) "its_cells" = some none)
    (n2 : PySem.W.findIn K (.ref C) "its_next" = some none)
    (ha : PySem.W.findIn K (.ref C) "__class__" = some (some (.builtin "object.__class__")))
    (hn : PySem.W.specialIn K (.builtin "object.__class__") "__get__" = some (some (.builtin "getset_descriptor.__get__")))
    (htk : PySem.W.takesIn K (.builtin "object.__class__") = some true)
    (hm : PySem.W.mroIn K C (.type "object") = some true)
    (nf : PySem.W.notFirst K C (.type "str") = true)
    (ks : PySem.W.subIn K (.type "str") (.ref C) = some false)
    (ic : PySem.W.isClsIn K C = true)
    (tc : PySem.W.typeIn K (.ref C) = some (.type "type"))
    (tint : PySem.W.subIn K (.ref C) (.type "int") = some false)
    (tbool : PySem.W.subIn K (.ref C) (.type "bool") = some false)
    (tstr : PySem.W.subIn K (.ref C) (.type "str") = some false)
    (ttuple : PySem.W.subIn K (.ref C) (.type "tuple") = some false)
    (tlist : PySem.W.subIn K (.ref C) (.type "list") = some false)
    (tdict : PySem.W.subIn K (.ref C) (.type "dict") = some false)
    (z0 : PySem.W.nsIn K mainGlobals "len" = some none)
    (z1 : PySem.W.nsIn K mainGlobals "int" = some none)
    (z2 : PySem.W.nsIn K mainGlobals "str" = some none)
    (z3 : PySem.W.nsIn K mainGlobals "repr" = some none)
    (z4 : PySem.W.nsIn K mainGlobals "list" = some none)
    (z5 : PySem.W.nsIn K mainGlobals "tuple" = some none)
    (z6 : PySem.W.nsIn K mainGlobals "all" = some none)
    (z7 : PySem.W.nsIn K mainGlobals "any" = some none)
    (z8 : PySem.W.nsIn K mainGlobals "abs" = some none)
    (z9 : PySem.W.nsIn K mainGlobals "sum" = some none)
    (z10 : PySem.W.nsIn K mainGlobals "max" = some none)
    (z11 : PySem.W.nsIn K mainGlobals "min" = some none)
    (z12 : PySem.W.nsIn K mainGlobals "isinstance" = some none)
    (z13 : PySem.W.nsIn K mainGlobals "range" = some none)
    (z14 : PySem.W.nsIn K mainGlobals "enumerate" = some none)
    (z15 : PySem.W.nsIn K mainGlobals "zip" = some none)
    (z16 : PySem.W.nsIn K mainGlobals "sorted" = some none)
    (z17 : PySem.W.nsIn K mainGlobals "bool" = some none)
    (z18 : PySem.W.nsIn K mainGlobals "dict" = some none)
    (gLETTERS : PySem.W.nsIn K mainGlobals "LETTERS" = some (some (.str "abcdefghijklmnopqrstuvwxyz" tkLETTERS)))
    (gLONGEST : PySem.W.nsIn K mainGlobals "LONGEST" = some (some (.int 8 tkLONGEST)))
    (gRESERVED : PySem.W.nsIn K mainGlobals "RESERVED" = some (some (.ref rRESERVED)))
    (qRESERVED : K.lookup rRESERVED = some ⟨.type "tuple", dRESERVED, .seq iRESERVED mRESERVED, sRESERVED⟩)
    (vRESERVED : Vals ((["add", "back", "call", "cell", "do", "field", "function", "generator", "if", "im\x70ort", "integer", "is", "less", "let", "make", "maker", "module", "mul", "next", "nothing", "put", "quo", "rest", "same", "store", "sub", "tell", "throw", "try", "while", "word", "yield"] : List Str).map V.str) iRESERVED.toList ∧ iRESERVED.size ≤ sizeLine)
    (gOPS : PySem.W.nsIn K mainGlobals "OPS" = some (some (.ref rOPS)))
    (qOPS : K.lookup rOPS = some ⟨.type "tuple", dOPS, .seq iOPS mOPS, sOPS⟩)
    (vOPS : Vals ((["add", "sub", "mul", "quo", "rest", "less", "same"] : List Str).map V.str) iOPS.toList ∧ iOPS.size ≤ sizeLine)
    (gKINDS : PySem.W.nsIn K mainGlobals "KINDS" = some (some (.ref rKINDS)))
    (qKINDS : K.lookup rKINDS = some ⟨.type "tuple", dKINDS, .seq iKINDS mKINDS, sKINDS⟩)
    (vKINDS : Vals ((["cell", "function", "generator", "integer", "nothing", "word"] : List Str).map V.str) iKINDS.toList ∧ iKINDS.size ≤ sizeLine)
    (gOP_SHAPES : PySem.W.nsIn K mainGlobals "OP_SHAPES" = some (some (.ref rOP_SHAPES)))
    (qOP_SHAPES : K.lookup rOP_SHAPES = some ⟨.type "dict", none, .dict eOP_SHAPES nOP_SHAPES, #[]⟩)
    (uOP_SHAPES : PySem.W.KeysLit w.params eOP_SHAPES.toList ∧ (rOP_SHAPES == sysModules) = false ∧ EntsAre eOP_SHAPES.toList [("keep", .ref rOP_SHAPES_0), ("move", .ref rOP_SHAPES_1), ("outer", .ref rOP_SHAPES_2), ("into", .ref rOP_SHAPES_3), ("other", .ref rOP_SHAPES_4), ("work", .ref rOP_SHAPES_5), ("cell", .ref rOP_SHAPES_6), ("load", .ref rOP_SHAPES_7), ("store", .ref rOP_SHAPES_8), ("close", .ref rOP_SHAPES_9), ("call", .ref rOP_SHAPES_10), ("next", .ref rOP_SHAPES_11), ("is", .ref rOP_SHAPES_12), ("tell", .ref rOP_SHAPES_13), ("jump", .ref rOP_SHAPES_14), ("unless", .ref rOP_SHAPES_15), ("turn", .ref rOP_SHAPES_16), ("back", .ref rOP_SHAPES_17), ("end", .ref rOP_SHAPES_18), ("throw", .ref rOP_SHAPES_19), ("try", .ref rOP_SHAPES_20), ("untry", .ref rOP_SHAPES_21), ("yield", .ref rOP_SHAPES_22)])
    (qOP_SHAPES_0 : K.lookup rOP_SHAPES_0 = some ⟨.type "tuple", dOP_SHAPES_0, .seq iOP_SHAPES_0 mOP_SHAPES_0, sOP_SHAPES_0⟩)
    (vOP_SHAPES_0 : Vals ((["own", "value"] : List Str).map V.str) iOP_SHAPES_0.toList ∧ iOP_SHAPES_0.size ≤ sizeLine)
    (qOP_SHAPES_1 : K.lookup rOP_SHAPES_1 = some ⟨.type "tuple", dOP_SHAPES_1, .seq iOP_SHAPES_1 mOP_SHAPES_1, sOP_SHAPES_1⟩)
    (vOP_SHAPES_1 : Vals ((["own", "own"] : List Str).map V.str) iOP_SHAPES_1.toList ∧ iOP_SHAPES_1.size ≤ sizeLine)
    (qOP_SHAPES_2 : K.lookup rOP_SHAPES_2 = some ⟨.type "tuple", dOP_SHAPES_2, .seq iOP_SHAPES_2 mOP_SHAPES_2, sOP_SHAPES_2⟩)
    (vOP_SHAPES_2 : Vals ((["own", "hops", "far"] : List Str).map V.str) iOP_SHAPES_2.toList ∧ iOP_SHAPES_2.size ≤ sizeLine)
    (qOP_SHAPES_3 : K.lookup rOP_SHAPES_3 = some ⟨.type "tuple", dOP_SHAPES_3, .seq iOP_SHAPES_3 mOP_SHAPES_3, sOP_SHAPES_3⟩)
    (vOP_SHAPES_3 : Vals ((["hops", "far", "own"] : List Str).map V.str) iOP_SHAPES_3.toList ∧ iOP_SHAPES_3.size ≤ sizeLine)
    (qOP_SHAPES_4 : K.lookup rOP_SHAPES_4 = some ⟨.type "tuple", dOP_SHAPES_4, .seq iOP_SHAPES_4 mOP_SHAPES_4, sOP_SHAPES_4⟩)
    (vOP_SHAPES_4 : Vals ((["own", "code", "far"] : List Str).map V.str) iOP_SHAPES_4.toList ∧ iOP_SHAPES_4.size ≤ sizeLine)
    (qOP_SHAPES_5 : K.lookup rOP_SHAPES_5 = some ⟨.type "tuple", dOP_SHAPES_5, .seq iOP_SHAPES_5 mOP_SHAPES_5, sOP_SHAPES_5⟩)
    (vOP_SHAPES_5 : Vals ((["own", "op", "own", "own"] : List Str).map V.str) iOP_SHAPES_5.toList ∧ iOP_SHAPES_5.size ≤ sizeLine)
    (qOP_SHAPES_6 : K.lookup rOP_SHAPES_6 = some ⟨.type "tuple", dOP_SHAPES_6, .seq iOP_SHAPES_6 mOP_SHAPES_6, sOP_SHAPES_6⟩)
    (vOP_SHAPES_6 : Vals ((["own"] : List Str).map V.str) iOP_SHAPES_6.toList ∧ iOP_SHAPES_6.size ≤ sizeLine)
    (qOP_SHAPES_7 : K.lookup rOP_SHAPES_7 = some ⟨.type "tuple", dOP_SHAPES_7, .seq iOP_SHAPES_7 mOP_SHAPES_7, sOP_SHAPES_7⟩)
    (vOP_SHAPES_7 : Vals ((["own", "own", "label"] : List Str).map V.str) iOP_SHAPES_7.toList ∧ iOP_SHAPES_7.size ≤ sizeLine)
    (qOP_SHAPES_8 : K.lookup rOP_SHAPES_8 = some ⟨.type "tuple", dOP_SHAPES_8, .seq iOP_SHAPES_8 mOP_SHAPES_8, sOP_SHAPES_8⟩)
    (vOP_SHAPES_8 : Vals ((["own", "label", "own"] : List Str).map V.str) iOP_SHAPES_8.toList ∧ iOP_SHAPES_8.size ≤ sizeLine)
    (qOP_SHAPES_9 : K.lookup rOP_SHAPES_9 = some ⟨.type "tuple", dOP_SHAPES_9, .seq iOP_SHAPES_9 mOP_SHAPES_9, sOP_SHAPES_9⟩)
    (vOP_SHAPES_9 : Vals ((["own", "code"] : List Str).map V.str) iOP_SHAPES_9.toList ∧ iOP_SHAPES_9.size ≤ sizeLine)
    (qOP_SHAPES_10 : K.lookup rOP_SHAPES_10 = some ⟨.type "tuple", dOP_SHAPES_10, .seq iOP_SHAPES_10 mOP_SHAPES_10, sOP_SHAPES_10⟩)
    (vOP_SHAPES_10 : Vals ((["own", "own", "owns"] : List Str).map V.str) iOP_SHAPES_10.toList ∧ iOP_SHAPES_10.size ≤ sizeLine)
    (qOP_SHAPES_11 : K.lookup rOP_SHAPES_11 = some ⟨.type "tuple", dOP_SHAPES_11, .seq iOP_SHAPES_11 mOP_SHAPES_11, sOP_SHAPES_11⟩)
    (vOP_SHAPES_11 : Vals ((["own", "own"] : List Str).map V.str) iOP_SHAPES_11.toList ∧ iOP_SHAPES_11.size ≤ sizeLine)
    (qOP_SHAPES_12 : K.lookup rOP_SHAPES_12 = some ⟨.type "tuple", dOP_SHAPES_12, .seq iOP_SHAPES_12 mOP_SHAPES_12, sOP_SHAPES_12⟩)
    (vOP_SHAPES_12 : Vals ((["own", "kind", "own"] : List Str).map V.str) iOP_SHAPES_12.toList ∧ iOP_SHAPES_12.size ≤ sizeLine)
    (qOP_SHAPES_13 : K.lookup rOP_SHAPES_13 = some ⟨.type "tuple", dOP_SHAPES_13, .seq iOP_SHAPES_13 mOP_SHAPES_13, sOP_SHAPES_13⟩)
    (vOP_SHAPES_13 : Vals ((["own"] : List Str).map V.str) iOP_SHAPES_13.toList ∧ iOP_SHAPES_13.size ≤ sizeLine)
    (qOP_SHAPES_14 : K.lookup rOP_SHAPES_14 = some ⟨.type "tuple", dOP_SHAPES_14, .seq iOP_SHAPES_14 mOP_SHAPES_14, sOP_SHAPES_14⟩)
    (vOP_SHAPES_14 : Vals ((["at"] : List Str).map V.str) iOP_SHAPES_14.toList ∧ iOP_SHAPES_14.size ≤ sizeLine)
    (qOP_SHAPES_15 : K.lookup rOP_SHAPES_15 = some ⟨.type "tuple", dOP_SHAPES_15, .seq iOP_SHAPES_15 mOP_SHAPES_15, sOP_SHAPES_15⟩)
    (vOP_SHAPES_15 : Vals ((["own", "at"] : List Str).map V.str) iOP_SHAPES_15.toList ∧ iOP_SHAPES_15.size ≤ sizeLine)
    (qOP_SHAPES_16 : K.lookup rOP_SHAPES_16 = some ⟨.type "tuple", dOP_SHAPES_16, .seq iOP_SHAPES_16 mOP_SHAPES_16, sOP_SHAPES_16⟩)
    (vOP_SHAPES_16 : Vals (([] : List Str).map V.str) iOP_SHAPES_16.toList ∧ iOP_SHAPES_16.size ≤ sizeLine)
    (qOP_SHAPES_17 : K.lookup rOP_SHAPES_17 = some ⟨.type "tuple", dOP_SHAPES_17, .seq iOP_SHAPES_17 mOP_SHAPES_17, sOP_SHAPES_17⟩)
    (vOP_SHAPES_17 : Vals ((["own"] : List Str).map V.str) iOP_SHAPES_17.toList ∧ iOP_SHAPES_17.size ≤ sizeLine)
    (qOP_SHAPES_18 : K.lookup rOP_SHAPES_18 = some ⟨.type "tuple", dOP_SHAPES_18, .seq iOP_SHAPES_18 mOP_SHAPES_18, sOP_SHAPES_18⟩)
    (vOP_SHAPES_18 : Vals (([] : List Str).map V.str) iOP_SHAPES_18.toList ∧ iOP_SHAPES_18.size ≤ sizeLine)
    (qOP_SHAPES_19 : K.lookup rOP_SHAPES_19 = some ⟨.type "tuple", dOP_SHAPES_19, .seq iOP_SHAPES_19 mOP_SHAPES_19, sOP_SHAPES_19⟩)
    (vOP_SHAPES_19 : Vals ((["own"] : List Str).map V.str) iOP_SHAPES_19.toList ∧ iOP_SHAPES_19.size ≤ sizeLine)
    (qOP_SHAPES_20 : K.lookup rOP_SHAPES_20 = some ⟨.type "tuple", dOP_SHAPES_20, .seq iOP_SHAPES_20 mOP_SHAPES_20, sOP_SHAPES_20⟩)
    (vOP_SHAPES_20 : Vals ((["at", "own"] : List Str).map V.str) iOP_SHAPES_20.toList ∧ iOP_SHAPES_20.size ≤ sizeLine)
    (qOP_SHAPES_21 : K.lookup rOP_SHAPES_21 = some ⟨.type "tuple", dOP_SHAPES_21, .seq iOP_SHAPES_21 mOP_SHAPES_21, sOP_SHAPES_21⟩)
    (vOP_SHAPES_21 : Vals (([] : List Str).map V.str) iOP_SHAPES_21.toList ∧ iOP_SHAPES_21.size ≤ sizeLine)
    (qOP_SHAPES_22 : K.lookup rOP_SHAPES_22 = some ⟨.type "tuple", dOP_SHAPES_22, .seq iOP_SHAPES_22 mOP_SHAPES_22, sOP_SHAPES_22⟩)
    (vOP_SHAPES_22 : Vals ((["own"] : List Str).map V.str) iOP_SHAPES_22.toList ∧ iOP_SHAPES_22.size ≤ sizeLine)
    : ∀ base : Heap, K.In base → base.Ns mainGlobals mg → (∃ o, base.get? sysModules = some o) → FnG P w K mg base 60 fa (rCl K (run (ds.map Df.fn) 58 28)) := by
  intro base kb nb sb
  have oc : OpqC K C := ⟨⟨pg, hd, po, sa⟩, ha, hn, htk, hm, fun t => by
    cases t
    · exact kitOwn tint (by decide +kernel)
    · exact kitOwn tbool (by decide +kernel)
    · exact kitOwn tstr (by decide +kernel)
    · exact kitOwn ttuple (by decide +kernel)
    · exact kitOwn tlist (by decide +kernel)
    · exact kitOwn tdict (by decide +kernel), aC⟩
  have hC := PySem.W.mg_of X G aC
  have FJ := fun_mk (st := sIni) lJ cJ kJ
  have FQ := fun_mk (st := sEq) lQ cQ kQ
  have bJ := FJ.binds (ps := ["self"]) fun _ _ _ _ _ _ us hl => match us, hl with | [_], _ => rfl
  have bQ := FQ.binds (ps := ["self", "other"]) fun _ _ _ _ _ _ us hl => match us, hl with | [_, _], _ => rfl
  have D : Dfs K mg names ds := ⟨def_mk X G a0 l0 c0 k0 (fun us hl => match us, hl with | [_], _ => rfl), def_mk X G a1 l1 c1 k1 (fun us hl => match us, hl with | [_], _ => rfl), def_mk X G a2 l2 c2 k2 (fun us hl => match us, hl with | [_], _ => rfl), def_mk X G a3 l3 c3 k3 (fun us hl => match us, hl with | [_, _], _ => rfl), def_mk X G a4 l4 c4 k4 (fun us hl => match us, hl with | [_], _ => rfl), def_mk X G a5 l5 c5 k5 (fun us hl => match us, hl with | [_, _], _ => rfl), def_mk X G a6 l6 c6 k6 (fun us hl => match us, hl with | [_], _ => rfl), def_mk X G a7 l7 c7 k7 (fun us hl => match us, hl with | [_], _ => rfl), def_mk X G a8 l8 c8 k8 (fun us hl => match us, hl with | [_], _ => rfl), def_mk X G a9 l9 c9 k9 (fun us hl => match us, hl with | [_], _ => rfl), def_mk X G a10 l10 c10 k10 (fun us hl => match us, hl with | [_, _], _ => rfl), def_mk X G a11 l11 c11 k11 (fun us hl => match us, hl with | [_, _], _ => rfl), def_mk X G a12 l12 c12 k12 (fun us hl => match us, hl with | [_, _], _ => rfl), def_mk X G a13 l13 c13 k13 (fun us hl => match us, hl with | [_, _], _ => rfl), def_mk X G a14 l14 c14 k14 (fun us hl => match us, hl with | [_], _ => rfl), def_mk X G a15 l15 c15 k15 (fun us hl => match us, hl with | [], _ => rfl), def_mk X G a16 l16 c16 k16 (fun us hl => match us, hl with | [_], _ => rfl), def_mk X G a17 l17 c17 k17 (fun us hl => match us, hl with | [], _ => rfl), def_mk X G a18 l18 c18 k18 (fun us hl => match us, hl with | [], _ => rfl), def_mk X G a19 l19 c19 k19 (fun us hl => match us, hl with | [_, _], _ => rfl), def_mk X G a20 l20 c20 k20 (fun us hl => match us, hl with | [], _ => rfl), def_mk X G a21 l21 c21 k21 (fun us hl => match us, hl with | [_, _], _ => rfl), def_mk X G a22 l22 c22 k22 (fun us hl => match us, hl with | [_], _ => rfl), def_mk X G a23 l23 c23 k23 (fun us hl => match us, hl with | [_, _, _, _], _ => rfl), def_mk X G a24 l24 c24 k24 (fun us hl => match us, hl with | [_, _, _, _, _], _ => rfl), def_mk X G a25 l25 c25 k25 (fun us hl => match us, hl with | [_], _ => rfl), def_mk X G a26 l26 c26 k26 (fun us hl => match us, hl with | [_, _], _ => rfl), def_mk X G a27 l27 c27 k27 (fun us hl => match us, hl with | [_], _ => rfl), def_mk X G a28 l28 c28 k28 (fun us hl => match us, hl with | [_], _ => rfl), trivial⟩
  refine tabG (k := 60) (G := scG) (ds := ds) ⟨D.len, fun i x d hx hd => (D.at i x d hx hd).ex, ?_, ?_, ?_, sb, ?_, ?_⟩ ck0 57 28 "law" fa rfl hfa
  · intro x hx
    simp only [blts, List.mem_cons, List.not_mem_nil, or_false] at hx
    rcases hx with rfl | rfl | rfl | rfl | rfl | rfl | rfl | rfl | rfl | rfl | rfl | rfl | rfl | rfl | rfl | rfl | rfl | rfl | rfl
    · exact PySem.W.mg_none_of X G z0
    · exact PySem.W.mg_none_of X G z1
    · exact PySem.W.mg_none_of X G z2
    · exact PySem.W.mg_none_of X G z3
    · exact PySem.W.mg_none_of X G z4
    · exact PySem.W.mg_none_of X G z5
    · exact PySem.W.mg_none_of X G z6
    · exact PySem.W.mg_none_of X G z7
    · exact PySem.W.mg_none_of X G z8
    · exact PySem.W.mg_none_of X G z9
    · exact PySem.W.mg_none_of X G z10
    · exact PySem.W.mg_none_of X G z11
    · exact PySem.W.mg_none_of X G z12
    · exact PySem.W.mg_none_of X G z13
    · exact PySem.W.mg_none_of X G z14
    · exact PySem.W.mg_none_of X G z15
    · exact PySem.W.mg_none_of X G z16
    · exact PySem.W.mg_none_of X G z17
    · exact PySem.W.mg_none_of X G z18
  · intro x t ht
    simp only [scG, List.mem_cons, List.not_mem_nil, or_false, Prod.mk.injEq] at ht
    rcases ht with ⟨rfl, rfl⟩ | ⟨rfl, rfl⟩ | ⟨rfl, rfl⟩ | ⟨rfl, rfl⟩ | ⟨rfl, rfl⟩
    · exact ⟨.str "abcdefghijklmnopqrstuvwxyz", _, PySem.W.mg_of X G gLETTERS, ⟨_, rfl⟩, fun _ _ => ⟨rfl, rfl⟩⟩
    · exact ⟨.int 8, _, PySem.W.mg_of X G gLONGEST, ⟨_, rfl⟩, fun _ _ => ⟨rfl, rfl⟩⟩
    · exact ⟨.ref rRESERVED, _, PySem.W.mg_of X G gRESERVED, rfl, fun F H => tup_strs qRESERVED vRESERVED.1 vRESERVED.2 F H⟩
    · exact ⟨.ref rOPS, _, PySem.W.mg_of X G gOPS, rfl, fun F H => tup_strs qOPS vOPS.1 vOPS.2 F H⟩
    · exact ⟨.ref rKINDS, _, PySem.W.mg_of X G gKINDS, rfl, fun F H => tup_strs qKINDS vKINDS.1 vKINDS.2 F H⟩
  · intro x ks ws ht
    simp only [scG, List.mem_cons, List.not_mem_nil, or_false, Prod.mk.injEq] at ht
    rcases ht with ⟨rfl, rfl, rfl⟩
    · have t : KTab K w rOP_SHAPES [("keep", .ref rOP_SHAPES_0), ("move", .ref rOP_SHAPES_1), ("outer", .ref rOP_SHAPES_2), ("into", .ref rOP_SHAPES_3), ("other", .ref rOP_SHAPES_4), ("work", .ref rOP_SHAPES_5), ("cell", .ref rOP_SHAPES_6), ("load", .ref rOP_SHAPES_7), ("store", .ref rOP_SHAPES_8), ("close", .ref rOP_SHAPES_9), ("call", .ref rOP_SHAPES_10), ("next", .ref rOP_SHAPES_11), ("is", .ref rOP_SHAPES_12), ("tell", .ref rOP_SHAPES_13), ("jump", .ref rOP_SHAPES_14), ("unless", .ref rOP_SHAPES_15), ("turn", .ref rOP_SHAPES_16), ("back", .ref rOP_SHAPES_17), ("end", .ref rOP_SHAPES_18), ("throw", .ref rOP_SHAPES_19), ("try", .ref rOP_SHAPES_20), ("untry", .ref rOP_SHAPES_21), ("yield", .ref rOP_SHAPES_22)] := ⟨⟨_, _, ⟨qOP_SHAPES, uOP_SHAPES.1, uOP_SHAPES.2.1⟩, uOP_SHAPES.2.2⟩, (show k_OP_SHAPES.Nodup by decide +kernel)⟩
      exact ⟨_, _, PySem.W.mg_of X G gOP_SHAPES, t, rfl, (show k_OP_SHAPES.length ≤ sizeLine by decide), khas_of t ⟨⟨.ref rOP_SHAPES_0, rfl, fun F H => tup_strs qOP_SHAPES_0 vOP_SHAPES_0.1 vOP_SHAPES_0.2 F H⟩, ⟨.ref rOP_SHAPES_1, rfl, fun F H => tup_strs qOP_SHAPES_1 vOP_SHAPES_1.1 vOP_SHAPES_1.2 F H⟩, ⟨.ref rOP_SHAPES_2, rfl, fun F H => tup_strs qOP_SHAPES_2 vOP_SHAPES_2.1 vOP_SHAPES_2.2 F H⟩, ⟨.ref rOP_SHAPES_3, rfl, fun F H => tup_strs qOP_SHAPES_3 vOP_SHAPES_3.1 vOP_SHAPES_3.2 F H⟩, ⟨.ref rOP_SHAPES_4, rfl, fun F H => tup_strs qOP_SHAPES_4 vOP_SHAPES_4.1 vOP_SHAPES_4.2 F H⟩, ⟨.ref rOP_SHAPES_5, rfl, fun F H => tup_strs qOP_SHAPES_5 vOP_SHAPES_5.1 vOP_SHAPES_5.2 F H⟩, ⟨.ref rOP_SHAPES_6, rfl, fun F H => tup_strs qOP_SHAPES_6 vOP_SHAPES_6.1 vOP_SHAPES_6.2 F H⟩, ⟨.ref rOP_SHAPES_7, rfl, fun F H => tup_strs qOP_SHAPES_7 vOP_SHAPES_7.1 vOP_SHAPES_7.2 F H⟩, ⟨.ref rOP_SHAPES_8, rfl, fun F H => tup_strs qOP_SHAPES_8 vOP_SHAPES_8.1 vOP_SHAPES_8.2 F H⟩, ⟨.ref rOP_SHAPES_9, rfl, fun F H => tup_strs qOP_SHAPES_9 vOP_SHAPES_9.1 vOP_SHAPES_9.2 F H⟩, ⟨.ref rOP_SHAPES_10, rfl, fun F H => tup_strs qOP_SHAPES_10 vOP_SHAPES_10.1 vOP_SHAPES_10.2 F H⟩, ⟨.ref rOP_SHAPES_11, rfl, fun F H => tup_strs qOP_SHAPES_11 vOP_SHAPES_11.1 vOP_SHAPES_11.2 F H⟩, ⟨.ref rOP_SHAPES_12, rfl, fun F H => tup_strs qOP_SHAPES_12 vOP_SHAPES_12.1 vOP_SHAPES_12.2 F H⟩, ⟨.ref rOP_SHAPES_13, rfl, fun F H => tup_strs qOP_SHAPES_13 vOP_SHAPES_13.1 vOP_SHAPES_13.2 F H⟩, ⟨.ref rOP_SHAPES_14, rfl, fun F H => tup_strs qOP_SHAPES_14 vOP_SHAPES_14.1 vOP_SHAPES_14.2 F H⟩, ⟨.ref rOP_SHAPES_15, rfl, fun F H => tup_strs qOP_SHAPES_15 vOP_SHAPES_15.1 vOP_SHAPES_15.2 F H⟩, ⟨.ref rOP_SHAPES_16, rfl, fun F H => tup_strs qOP_SHAPES_16 vOP_SHAPES_16.1 vOP_SHAPES_16.2 F H⟩, ⟨.ref rOP_SHAPES_17, rfl, fun F H => tup_strs qOP_SHAPES_17 vOP_SHAPES_17.1 vOP_SHAPES_17.2 F H⟩, ⟨.ref rOP_SHAPES_18, rfl, fun F H => tup_strs qOP_SHAPES_18 vOP_SHAPES_18.1 vOP_SHAPES_18.2 F H⟩, ⟨.ref rOP_SHAPES_19, rfl, fun F H => tup_strs qOP_SHAPES_19 vOP_SHAPES_19.1 vOP_SHAPES_19.2 F H⟩, ⟨.ref rOP_SHAPES_20, rfl, fun F H => tup_strs qOP_SHAPES_20 vOP_SHAPES_20.1 vOP_SHAPES_20.2 F H⟩, ⟨.ref rOP_SHAPES_21, rfl, fun F H => tup_strs qOP_SHAPES_21 vOP_SHAPES_21.1 vOP_SHAPES_21.2 F H⟩, ⟨.ref rOP_SHAPES_22, rfl, fun F H => tup_strs qOP_SHAPES_22 vOP_SHAPES_22.1 vOP_SHAPES_22.2 F H⟩, trivial⟩⟩
  · intro _ Y e1 e2 e3 e4 e5 hr
    subst e1 e2 e3 e4 e5
    refine op_oq (C₀ := C) (fun C2 o2 => ?_) (eq_ok FQ (ckScope_ok (by decide +kernel)) rfl hC (PySem.W.mg_none_of X G z12) (by decide +kernel) (by decide +kernel) (by decide) (kitTo ic tc ks)) bE iQ nf bQ (hr.mono (by decide))
    have e := o2.nm
    rw [aC] at e
    cases e
    rfl
  · intro Y e1 e2 e3 e4 e5 hr p pos hgl
    subst e1 e2 e3 e4 e5
    exact opq_make ⟨mk, bI, iJ, kc⟩ (ini_ok FJ (ckScope_ok (by decide +kernel)) rfl) hr hgl hC bJ (by decide) oc n1 n2
end K30
open PySem PySem.W PyProof.Rows in
set_option maxRecDepth 100000 in
set_option maxHeartbeats 0 in
theorem PySem.Challenge.cw_reachkept_k30_ops_by_their_form_holds : PySem.Challenge.rw_reachkept_k30_ops_by_their_form.Holds := by
  w_on; o_law; k_head; (case hw => w_witness2)
  k_fill
  refine Lin.lin_walk (l := PySem.Challenge.rw_reachkept_k30_ops_by_their_form) (n := 63) (k := 60) (g := Lin.run (K30.ds.map Lin.Df.fn) 58 28) rfl (by decide) rfl (by decide +kernel) ⟨rfl, by decide, by decide⟩ (fun w h Y => PySem.W.kIn_of Y) ?F K30.law_right
  case F =>
    intro w mg fa h KX G hmg
    refine' K30.all_mk KX G hmg ?l0 ?c0 ?k0 ?a0 ?l1 ?c1 ?k1 ?a1 ?l2 ?c2 ?k2 ?a2 ?l3 ?c3 ?k3 ?a3 ?l4 ?c4 ?k4 ?a4 ?l5 ?c5 ?k5 ?a5 ?l6 ?c6 ?k6 ?a6 ?l7 ?c7 ?k7 ?a7 ?l8 ?c8 ?k8 ?a8 ?l9 ?c9 ?k9 ?a9 ?l10 ?c10 ?k10 ?a10 ?l11 ?c11 ?k11 ?a11 ?l12 ?c12 ?k12 ?a12 ?l13 ?c13 ?k13 ?a13 ?l14 ?c14 ?k14 ?a14 ?l15 ?c15 ?k15 ?a15 ?l16 ?c16 ?k16 ?a16 ?l17 ?c17 ?k17 ?a17 ?l18 ?c18 ?k18 ?a18 ?l19 ?c19 ?k19 ?a19 ?l20 ?c20 ?k20 ?a20 ?l21 ?c21 ?k21 ?a21 ?l22 ?c22 ?k22 ?a22 ?l23 ?c23 ?k23 ?a23 ?l24 ?c24 ?k24 ?a24 ?l25 ?c25 ?k25 ?a25 ?l26 ?c26 ?k26 ?a26 ?l27 ?c27 ?k27 ?a27 ?l28 ?c28 ?k28 ?a28 ?aC ?bI ?bE ?lJ ?cJ ?kJ ?lQ ?cQ ?kQ ?iJ ?iQ ?mk ?kc ?pg ?hd ?po ?sa ?n1 ?n2 ?ha ?hn ?htk ?hm ?nf ?ks ?ic ?tc ?tint ?tbool ?tstr ?ttuple ?tlist ?tdict ?z0 ?z1 ?z2 ?z3 ?z4 ?z5 ?z6 ?z7 ?z8 ?z9 ?z10 ?z11 ?z12 ?z13 ?z14 ?z15 ?z16 ?z17 ?z18 ?gLETTERS ?gLONGEST ?gRESERVED ?qRESERVED ?vRESERVED ?gOPS ?qOPS ?vOPS ?gKINDS ?qKINDS ?vKINDS ?gOP_SHAPES ?qOP_SHAPES ?uOP_SHAPES ?qOP_SHAPES_0 ?vOP_SHAPES_0 ?qOP_SHAPES_1 ?vOP_SHAPES_1 ?qOP_SHAPES_2 ?vOP_SHAPES_2 ?qOP_SHAPES_3 ?vOP_SHAPES_3 ?qOP_SHAPES_4 ?vOP_SHAPES_4 ?qOP_SHAPES_5 ?vOP_SHAPES_5 ?qOP_SHAPES_6 ?vOP_SHAPES_6 ?qOP_SHAPES_7 ?vOP_SHAPES_7 ?qOP_SHAPES_8 ?vOP_SHAPES_8 ?qOP_SHAPES_9 ?vOP_SHAPES_9 ?qOP_SHAPES_10 ?vOP_SHAPES_10 ?qOP_SHAPES_11 ?vOP_SHAPES_11 ?qOP_SHAPES_12 ?vOP_SHAPES_12 ?qOP_SHAPES_13 ?vOP_SHAPES_13 ?qOP_SHAPES_14 ?vOP_SHAPES_14 ?qOP_SHAPES_15 ?vOP_SHAPES_15 ?qOP_SHAPES_16 ?vOP_SHAPES_16 ?qOP_SHAPES_17 ?vOP_SHAPES_17 ?qOP_SHAPES_18 ?vOP_SHAPES_18 ?qOP_SHAPES_19 ?vOP_SHAPES_19 ?qOP_SHAPES_20 ?vOP_SHAPES_20 ?qOP_SHAPES_21 ?vOP_SHAPES_21 ?qOP_SHAPES_22 ?vOP_SHAPES_22
    (case a0 => k_is)
    (case l0 => k_is)
    (case c0 => k_is)
    (case k0 => k_is)
    (case a1 => k_is)
    (case l1 => k_is)
    (case c1 => k_is)
    (case k1 => k_is)
    (case a2 => k_is)
    (case l2 => k_is)
    (case c2 => k_is)
    (case k2 => k_is)
    (case a3 => k_is)
    (case l3 => k_is)
    (case c3 => k_is)
    (case k3 => k_is)
    (case a4 => k_is)
    (case l4 => k_is)
    (case c4 => k_is)
    (case k4 => k_is)
    (case a5 => k_is)
    (case l5 => k_is)
    (case c5 => k_is)
    (case k5 => k_is)
    (case a6 => k_is)
    (case l6 => k_is)
    (case c6 => k_is)
    (case k6 => k_is)
    (case a7 => k_is)
    (case l7 => k_is)
    (case c7 => k_is)
    (case k7 => k_is)
    (case a8 => k_is)
    (case l8 => k_is)
    (case c8 => k_is)
    (case k8 => k_is)
    (case a9 => k_is)
    (case l9 => k_is)
    (case c9 => k_is)
    (case k9 => k_is)
    (case a10 => k_is)
    (case l10 => k_is)
    (case c10 => k_is)
    (case k10 => k_is)
    (case a11 => k_is)
    (case l11 => k_is)
    (case c11 => k_is)
    (case k11 => k_is)
    (case a12 => k_is)
    (case l12 => k_is)
    (case c12 => k_is)
    (case k12 => k_is)
    (case a13 => k_is)
    (case l13 => k_is)
    (case c13 => k_is)
    (case k13 => k_is)
    (case a14 => k_is)
    (case l14 => k_is)
    (case c14 => k_is)
    (case k14 => k_is)
    (case a15 => k_is)
    (case l15 => k_is)
    (case c15 => k_is)
    (case k15 => k_is)
    (case a16 => k_is)
    (case l16 => k_is)
    (case c16 => k_is)
    (case k16 => k_is)
    (case a17 => k_is)
    (case l17 => k_is)
    (case c17 => k_is)
    (case k17 => k_is)
    (case a18 => k_is)
    (case l18 => k_is)
    (case c18 => k_is)
    (case k18 => k_is)
    (case a19 => k_is)
    (case l19 => k_is)
    (case c19 => k_is)
    (case k19 => k_is)
    (case a20 => k_is)
    (case l20 => k_is)
    (case c20 => k_is)
    (case k20 => k_is)
    (case a21 => k_is)
    (case l21 => k_is)
    (case c21 => k_is)
    (case k21 => k_is)
    (case a22 => k_is)
    (case l22 => k_is)
    (case c22 => k_is)
    (case k22 => k_is)
    (case a23 => k_is)
    (case l23 => k_is)
    (case c23 => k_is)
    (case k23 => k_is)
    (case a24 => k_is)
    (case l24 => k_is)
    (case c24 => k_is)
    (case k24 => k_is)
    (case a25 => k_is)
    (case l25 => k_is)
    (case c25 => k_is)
    (case k25 => k_is)
    (case a26 => k_is)
    (case l26 => k_is)
    (case c26 => k_is)
    (case k26 => k_is)
    (case a27 => k_is)
    (case l27 => k_is)
    (case c27 => k_is)
    (case k27 => k_is)
    (case a28 => k_is)
    (case l28 => k_is)
    (case c28 => k_is)
    (case k28 => k_is)
    (case aC => k_is)
    (case bI => k_is)
    (case bE => k_is)
    (case lJ => k_is)
    (case cJ => k_is)
    (case kJ => k_is)
    (case lQ => k_is)
    (case cQ => k_is)
    (case kQ => k_is)
    (case iJ => k_is)
    (case iQ => k_is)
    (case mk => k_is)
    (case kc => k_is)
    (case pg => k_is)
    (case hd => k_is)
    (case po => k_is)
    (case sa => k_is)
    (case n1 => k_is)
    (case n2 => k_is)
    (case ha => k_is)
    (case hn => k_is)
    (case htk => k_is)
    (case hm => k_is)
    (case nf => k_is)
    (case ks => k_is)
    (case ic => k_is)
    (case tc => k_is)
    (case tint => k_is)
    (case tbool => k_is)
    (case tstr => k_is)
    (case ttuple => k_is)
    (case tlist => k_is)
    (case tdict => k_is)
    (case z0 => k_is)
    (case z1 => k_is)
    (case z2 => k_is)
    (case z3 => k_is)
    (case z4 => k_is)
    (case z5 => k_is)
    (case z6 => k_is)
    (case z7 => k_is)
    (case z8 => k_is)
    (case z9 => k_is)
    (case z10 => k_is)
    (case z11 => k_is)
    (case z12 => k_is)
    (case z13 => k_is)
    (case z14 => k_is)
    (case z15 => k_is)
    (case z16 => k_is)
    (case z17 => k_is)
    (case z18 => k_is)
    (case gLETTERS => k_is)
    (case gLONGEST => k_is)
    (case gRESERVED => k_is)
    (case qRESERVED => k_is)
    (case vRESERVED => exact ⟨by repeat (first | exact Paired.nil | refine Paired.cons ⟨_, rfl⟩ ?_), by decide⟩)
    (case gOPS => k_is)
    (case qOPS => k_is)
    (case vOPS => exact ⟨by repeat (first | exact Paired.nil | refine Paired.cons ⟨_, rfl⟩ ?_), by decide⟩)
    (case gKINDS => k_is)
    (case qKINDS => k_is)
    (case vKINDS => exact ⟨by repeat (first | exact Paired.nil | refine Paired.cons ⟨_, rfl⟩ ?_), by decide⟩)
    (case gOP_SHAPES => k_is)
    (case qOP_SHAPES => k_is)
    (case uOP_SHAPES => exact ⟨by repeat (first | exact trivial | refine ⟨⟨_, _, rfl, rfl⟩, ?_⟩), by decide, by repeat (first | exact trivial | refine ⟨⟨_, rfl⟩, rfl, ?_⟩)⟩)
    (case qOP_SHAPES_0 => k_is)
    (case vOP_SHAPES_0 => exact ⟨by repeat (first | exact Paired.nil | refine Paired.cons ⟨_, rfl⟩ ?_), by decide⟩)
    (case qOP_SHAPES_1 => k_is)
    (case vOP_SHAPES_1 => exact ⟨by repeat (first | exact Paired.nil | refine Paired.cons ⟨_, rfl⟩ ?_), by decide⟩)
    (case qOP_SHAPES_2 => k_is)
    (case vOP_SHAPES_2 => exact ⟨by repeat (first | exact Paired.nil | refine Paired.cons ⟨_, rfl⟩ ?_), by decide⟩)
    (case qOP_SHAPES_3 => k_is)
    (case vOP_SHAPES_3 => exact ⟨by repeat (first | exact Paired.nil | refine Paired.cons ⟨_, rfl⟩ ?_), by decide⟩)
    (case qOP_SHAPES_4 => k_is)
    (case vOP_SHAPES_4 => exact ⟨by repeat (first | exact Paired.nil | refine Paired.cons ⟨_, rfl⟩ ?_), by decide⟩)
    (case qOP_SHAPES_5 => k_is)
    (case vOP_SHAPES_5 => exact ⟨by repeat (first | exact Paired.nil | refine Paired.cons ⟨_, rfl⟩ ?_), by decide⟩)
    (case qOP_SHAPES_6 => k_is)
    (case vOP_SHAPES_6 => exact ⟨by repeat (first | exact Paired.nil | refine Paired.cons ⟨_, rfl⟩ ?_), by decide⟩)
    (case qOP_SHAPES_7 => k_is)
    (case vOP_SHAPES_7 => exact ⟨by repeat (first | exact Paired.nil | refine Paired.cons ⟨_, rfl⟩ ?_), by decide⟩)
    (case qOP_SHAPES_8 => k_is)
    (case vOP_SHAPES_8 => exact ⟨by repeat (first | exact Paired.nil | refine Paired.cons ⟨_, rfl⟩ ?_), by decide⟩)
    (case qOP_SHAPES_9 => k_is)
    (case vOP_SHAPES_9 => exact ⟨by repeat (first | exact Paired.nil | refine Paired.cons ⟨_, rfl⟩ ?_), by decide⟩)
    (case qOP_SHAPES_10 => k_is)
    (case vOP_SHAPES_10 => exact ⟨by repeat (first | exact Paired.nil | refine Paired.cons ⟨_, rfl⟩ ?_), by decide⟩)
    (case qOP_SHAPES_11 => k_is)
    (case vOP_SHAPES_11 => exact ⟨by repeat (first | exact Paired.nil | refine Paired.cons ⟨_, rfl⟩ ?_), by decide⟩)
    (case qOP_SHAPES_12 => k_is)
    (case vOP_SHAPES_12 => exact ⟨by repeat (first | exact Paired.nil | refine Paired.cons ⟨_, rfl⟩ ?_), by decide⟩)
    (case qOP_SHAPES_13 => k_is)
    (case vOP_SHAPES_13 => exact ⟨by repeat (first | exact Paired.nil | refine Paired.cons ⟨_, rfl⟩ ?_), by decide⟩)
    (case qOP_SHAPES_14 => k_is)
    (case vOP_SHAPES_14 => exact ⟨by repeat (first | exact Paired.nil | refine Paired.cons ⟨_, rfl⟩ ?_), by decide⟩)
    (case qOP_SHAPES_15 => k_is)
    (case vOP_SHAPES_15 => exact ⟨by repeat (first | exact Paired.nil | refine Paired.cons ⟨_, rfl⟩ ?_), by decide⟩)
    (case qOP_SHAPES_16 => k_is)
    (case vOP_SHAPES_16 => exact ⟨by repeat (first | exact Paired.nil | refine Paired.cons ⟨_, rfl⟩ ?_), by decide⟩)
    (case qOP_SHAPES_17 => k_is)
    (case vOP_SHAPES_17 => exact ⟨by repeat (first | exact Paired.nil | refine Paired.cons ⟨_, rfl⟩ ?_), by decide⟩)
    (case qOP_SHAPES_18 => k_is)
    (case vOP_SHAPES_18 => exact ⟨by repeat (first | exact Paired.nil | refine Paired.cons ⟨_, rfl⟩ ?_), by decide⟩)
    (case qOP_SHAPES_19 => k_is)
    (case vOP_SHAPES_19 => exact ⟨by repeat (first | exact Paired.nil | refine Paired.cons ⟨_, rfl⟩ ?_), by decide⟩)
    (case qOP_SHAPES_20 => k_is)
    (case vOP_SHAPES_20 => exact ⟨by repeat (first | exact Paired.nil | refine Paired.cons ⟨_, rfl⟩ ?_), by decide⟩)
    (case qOP_SHAPES_21 => k_is)
    (case vOP_SHAPES_21 => exact ⟨by repeat (first | exact Paired.nil | refine Paired.cons ⟨_, rfl⟩ ?_), by decide⟩)
    (case qOP_SHAPES_22 => k_is)
    (case vOP_SHAPES_22 => exact ⟨by repeat (first | exact Paired.nil | refine Paired.cons ⟨_, rfl⟩ ?_), by decide⟩)

