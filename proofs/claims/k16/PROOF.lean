import PyProof.Rows.All
import Wide.All
import OpenK.AllK
import Wide.FinOn
import HandS.ForMost
import HandS.Exc
import HandS.TryOnly
import HandS.ExcOwn
import HandS.WordsExc
import HandS.TupAny
import HandS.Deep
import HandS.Style
import HandS.IsInst
import HandS.WordsDict
import HandS.Walk
import HandS.Zip
import PyProof.StrOps2
import HandS.TupLe
import HandS.TupMul
import HandS.SortInts
import HandS.TupLen
import KE.GoesMore
import KE.GoesZip
import KE.GoesEnum
import HandS.SetKeys
import HandS.Small
import HandS.StrMore
import HandS.Codes
import HandS.ExcIs
import HandS.TryMany
import HandS.EndBits
import PySem.Challenge.RW_gloss_k16_whole_read_again
set_option Elab.async false
set_option linter.all false
set_option maxRecDepth 100000
set_option maxHeartbeats 4000000
/-! GL1: data and the evaluator of the small language into which the defs are read. -/
namespace GL
abbrev Tx := List Nat
/-- data. ro: a list (true) or tuple (false) of the module or the script, only read; dct: keys intsD and texts (false), tuples of such (true); obj: an object by its kind and what it holds -/
inductive D where
  | non | bl (b : Bool) | int (i : Int) | str (t : Tx)
  | tup (xs : List D) | lst (xs : List D) | dct (t : Bool) (ks vs : List D) | ro (l : Bool) (xs : List D) | obj (c : Nat) (xs : List D)
deriving Inhabited
mutual
def D.eqb : D → D → Bool
  | .non, .non => true
  | .bl a, .bl b => a == b
  | .int a, .int b => decide (a = b)
  | .str a, .str b => decide (a = b)
  | .tup a, .tup b => D.eqbs a b
  | .lst a, .lst b => D.eqbs a b
  | .dct t a b, .dct u c d => t == u && D.eqbs a c && D.eqbs b d
  | .ro t a, .ro u b => t == u && D.eqbs a b
  | .obj t a, .obj u b => decide (t = u) && D.eqbs a b
  | _, _ => false
def D.eqbs : List D → List D → Bool
  | [], [] => true
  | x :: xs, y :: ys => D.eqb x y && D.eqbs xs ys
  | _, _ => false
end
mutual
theorem D.eqb_eq : ∀ a b : D, D.eqb a b = true ↔ a = b
  | .non, b => by cases b <;> simp [D.eqb]
  | .bl a, b => by cases b <;> simp [D.eqb]
  | .int a, b => by cases b <;> simp [D.eqb]
  | .str a, b => by cases b <;> simp [D.eqb]
  | .tup a, b => by cases b <;> simp [D.eqb, D.eqbs_eq a]
  | .lst a, b => by cases b <;> simp [D.eqb, D.eqbs_eq a]
  | .dct t a c, b => by cases b <;> simp [D.eqb, D.eqbs_eq a, D.eqbs_eq c, and_assoc]
  | .ro t a, b => by cases b <;> simp [D.eqb, D.eqbs_eq a]
  | .obj t a, b => by cases b <;> simp [D.eqb, D.eqbs_eq a]
theorem D.eqbs_eq : ∀ a b : List D, D.eqbs a b = true ↔ a = b
  | [], b => by cases b <;> simp [D.eqbs]
  | x :: xs, b => by cases b <;> simp [D.eqbs, D.eqb_eq x, D.eqbs_eq xs]
end
instance : DecidableEq D := fun a b => decidable_of_iff (D.eqb a b = true) (D.eqb_eq a b)
mutual
/-- == of Python -/
def D.peq : D → D → Bool
  | .non, .non => true
  | .bl a, .bl b => a == b
  | .bl a, .int j => decide ((if a then 1 else 0) = j)
  | .int i, .bl b => decide (i = (if b then 1 else 0))
  | .int a, .int b => decide (a = b)
  | .str a, .str b => decide (a = b)
  | .tup a, .tup b => D.peqs a b
  | .lst a, .lst b => D.peqs a b
  | _, _ => false
def D.peqs : List D → List D → Bool
  | [], [] => true
  | x :: xs, y :: ys => D.peq x y && D.peqs xs ys
  | _, _ => false
end
mutual
/-- none, bools, intsD, texts, tuples and lists of such, at most n deep -/
def D.flat : Nat → D → Bool
  | _, .non | _, .bl _ | _, .int _ | _, .str _ => true
  | n, .tup xs => match n with | 0 => false | n + 1 => D.flats n xs
  | n, .lst xs => match n with | 0 => false | n + 1 => D.flats n xs
  | _, _ => false
def D.flats : Nat → List D → Bool
  | _, [] => true
  | n, x :: xs => D.flat n x && D.flats n xs
end
mutual
/-- nothing in it that may change -/
def D.imm : D → Bool
  | .non | .bl _ | .int _ | .str _ => true
  | .tup xs => D.imms xs
  | _ => false
def D.imms : List D → Bool
  | [] => true
  | x :: xs => D.imm x && D.imms xs
end
def D.scal : D → Bool
  | .non | .bl _ | .int _ | .str _ => true
  | _ => false
/-- may leave a call that was handed an owned thing -/
def D.safe (n : Nat) : D → Bool
  | .lst xs => n == 1 && xs.all D.imm
  | .dct _ _ vs => n == 1 && vs.all D.imm
  | d => D.imm d
abbrev LINE : Nat := 16777216
abbrev Sl := Option (D × Nat)
abbrev Env := List Sl
/-- what a def hands back: a value, owned n deep, and what its changed parameters hold then -/
inductive RR where
  | ok (d : D) (n : Nat) (outs : List (D × Nat))
  | ex (c : Nat) (fs : List D)
  | bad
abbrev Fn := Nat → List (D × Nat) → RR
inductive Op | add | sub | mul | fdiv | mod | pow
deriving DecidableEq
inductive Cm | eq | ne | lt | le | gt | ge | is_ | isnot | in_ | notin
deriving DecidableEq
/-- built-in functions and methods -/
inductive Bi | len | tuple | list | int | str | min2 | max2 | min1 | max1 | maxd | sorted | sum | dict
deriving DecidableEq
inductive Ty | bool | int | str | tuple | list | dict
deriving DecidableEq
def Ty.name : Ty → String
  | .bool => "bool" | .int => "int" | .str => "str" | .tuple => "tuple" | .list => "list" | .dict => "dict"
inductive Me | join | split | partition | endswith | replace | upper | index | get1 | get2
deriving DecidableEq
mutual
inductive CE where
  | var (i : Nat)
  | cst (d : D)
  | glo (x : String) (d : D)
  | tup (es : CEs) | lst (n : Nat) (es : CEs) | dnew (t : Bool) (n : Nat)
  | bin (o : Op) (a b : CE) | neg (a : CE)
  | cmp (o : Cm) (a b : CE) | chain (o p : Cm) (a b c : CE)
  | and (a b : CE) | or (a b : CE) | not (a : CE)
  | idx (a b : CE) | sll (a lo : CE) | slu (a hi : CE) | slb (a lo hi : CE) | srev (a : CE)
  | call (f : Nat) (x : String) (es : CEs)
  | blt (b : Bi) (es : CEs)
  | mth (m : Me) (a : CE) (es : CEs)
  | isi (a : CE) (t : Ty)
  | comp (n : Nat) (tg : List Nat) (it : CI) (cs : CEs) (e : CE)
  | exis (cs : List Nat) | exval | exfld (j : Nat)
  | mk (f : Nat) (x : String) (es : CEs) | eatc (f : Nat) (x : String) (es : CEs) | mcall (f : Nat) (x : String) (c : Nat) (a : CE) (es : CEs)
inductive CEs where
  | nil
  | cons (e : CE) (es : CEs)
inductive CI where
  | val (e : CE) | rng1 (a : CE) | rng2 (a b : CE) | enum (a : CE) | zip (a b : CE) | rev (a : CE)
end
/-- a place in an owned thing -/
inductive CP where
  | var (i : Nat)
  | idx (p : CP) (e : CE)
/-- an expression that may change what is owned -/
inductive CX where
  | pure (e : CE)
  | pop (p : CP) | pop0 (p : CP)
  | tuple (x : CX)
  | tup3 (a b c : CX) | tup2 (a b : CX)
  | cio (f : Nat) (x : String) (is : List (Nat × Bool))
inductive SR where
  | nx (Γ : Env)
  | rt (d : D) (n : Nat) (Γ : Env)
  | ex (c : Nat) (fs : List D) (Γ : Env)
  | bad
mutual
inductive CS where
  | asg (i : Nat) (e : CX)
  | asgT (is : List Nat) (e : CX)
  | app (p : CP) (e : CX) | ext (p : CP) (e : CE) | setI (p : CP) (k v : CE)
  | sdapp (i : Nat) (k e : CE)
  | clr (p : CP)
  | ifs (c : CE) (a b : CSs)
  | for_ (tg : List Nat) (it : CI) (keep : List Nat) (b : CSs)
  | whl (fuel : Nat) (c : CE) (keep : List Nat) (b : CSs)
  | ret (e : CX) | retv (i : Nat) | retN
  | rse (c : Nat) (x : String) (es : CEs)
  | expr (e : CX)
  | frz (i : Nat)
  | pass
  | try_ (ks : List Nat) (b : CSs) (c : Nat) (v : Option Nat) (h : CSs)
  | prim (g : Env → SR) | eat (i : Nat) | tryP (b : CSs)
inductive CSs where
  | nil
  | cons (s : CS) (ss : CSs)
end
/-- its value is a new thing, or owns nothing -/
def CE.fresh : CE → Bool
  | .var _ | .idx _ _ | .mth .get1 _ _ | .mth .get2 _ _ => false
  | _ => true
/-! ### what operations do -/
inductive R where
  | ok (d : D) (n : Nat)
  | ex (c : Nat) (fs : List D)
  | bad
def R.bind (r : R) (k : D → Nat → R) : R := match r with
  | .ok d n => k d n
  | .ex c fs => .ex c fs
  | .bad => .bad
/-- values, how deep owned, whether new -/
inductive RA where
  | ok (vs : List (D × Nat × Bool))
  | ex (c : Nat) (fs : List D)
  | bad
/-- the items of a walk -/
inductive RI where
  | ok (ds : List D) (bor : Bool)
  | ex (c : Nat) (fs : List D)
  | bad
def mulOk (i j : Int) : Bool := (decide (-18446744073709551616 < j) && decide (j < 18446744073709551616)) || (decide (-18446744073709551616 < i) && decide (i < 18446744073709551616))
def opBin : Op → D → Nat → D → Nat → R
  | .add, .int a, _, .int b, _ => .ok (.int (a + b)) 0
  | .sub, .int a, _, .int b, _ => .ok (.int (a - b)) 0
  | .mul, .int a, _, .int b, _ => if mulOk a b then .ok (.int (a * b)) 0 else .bad
  | .mul, .tup a, _, .int k, _ => if 1 ≤ k ∧ k ≤ 1000 ∧ a ≠ [] ∧ a.length ≤ 1000 then .ok (.tup (List.replicate k.toNat a).flatten) 0 else .bad
  | .mul, .str a, _, .int k, _ => if (2 ≤ k ∧ k ≤ 1000) ∧ 1 ≤ a.length ∧ a.length ≤ 1000 then .ok (.str (List.replicate k.toNat a).flatten) 0 else .bad
  | .fdiv, .int a, _, .int b, _ => if 0 < b ∧ b < 1073741824 then .ok (.int (a / b)) 0 else .bad
  | .mod, .int a, _, .int b, _ => if 0 < b then .ok (.int (a % b)) 0 else .bad
  | .pow, .int a, _, .int b, _ => if 0 ≤ b ∧ b ≤ 1000000 ∧ a.natAbs < 18446744073709551616 then .ok (.int (a ^ b.toNat)) 0 else .bad
  | .add, .str a, _, .str b, _ => if a.length + b.length ≤ LINE then .ok (.str (a ++ b)) 0 else .bad
  | .add, .tup a, _, .tup b, _ => if a.length + b.length ≤ LINE then .ok (.tup (a ++ b)) 0 else .bad
  | .add, .lst a, n, .lst b, m => if n ≤ 1 ∧ m ≤ 1 ∧ a.length + b.length ≤ LINE then .ok (.lst (a ++ b)) 1 else .bad
  | _, _, _, _, _ => .bad
def sIx (n d : Nat) : Option Int → Nat
  | none => d
  | some v => if v < 0 then (v + (n : Int)).toNat else min v.toNat n
def cut {α : Type} (xs : List α) (lo hi : Option Int) : List α := (xs.drop (sIx xs.length 0 lo)).take (sIx xs.length xs.length hi - sIx xs.length 0 lo)
def ixN (n : Nat) (i : Int) : Option Nat := if 0 ≤ i then (if i < n then some i.toNat else none) else if -(n : Int) ≤ i then some (i + n).toNat else none
def atI {α : Type} (xs : List α) (i : Int) : Option α := (ixN xs.length i).bind fun j => xs[j]?
def tlt : Tx → Tx → Bool := fun a b => decide (a < b)
def isKey : D → Bool
  | .int _ | .str _ => true
  | _ => false
def isKeyT : D → Bool
  | .tup xs => xs.all isKey
  | _ => false
def isKeyOf (t : Bool) (d : D) : Bool := if t then isKeyT d else isKey d
def dlook (k : D) : List D → List D → Option D
  | a :: ks, v :: vs => if a = k then some v else dlook k ks vs
  | _, _ => none
def dput (k v : D) : List D → List D → List D × List D
  | a :: ks, b :: vs => if a = k then (a :: ks, v :: vs) else let r := dput k v ks vs; (a :: r.1, b :: r.2)
  | _, _ => ([k], [v])
def opIn (a b : D) : Option Bool := match b with
  | .str t => match a with
    | .str [c] => some (decide (c ∈ t))
    | _ => none
  | .lst xs => if a.flat 64 && D.flats 63 xs then some (xs.any fun z => z.peq a) else none
  | .tup xs => if a.scal && xs.all D.scal then some (xs.any fun z => z.peq a) else none
  | .ro _ xs => if a.scal && xs.all D.scal then some (xs.any fun z => z.peq a) else none
  | .dct t ks vs => if isKeyOf t a then some (dlook a ks vs).isSome else none
  | _ => none
def D.isObj : D → Bool
  | .obj _ _ => true
  | _ => false
def D.isNon : D → Bool
  | .non => true
  | _ => false
def opCmp : Cm → D → D → Option Bool
  | .eq, a, b => if a.flat 64 && b.flat 64 then some (a.peq b) else none
  | .ne, a, b => if a.flat 64 && b.flat 64 then some (!(a.peq b)) else none
  | .lt, .int a, .int b => some (decide (a < b))
  | .le, .int a, .int b => some (decide (a ≤ b))
  | .gt, .int a, .int b => some (decide (b < a))
  | .ge, .int a, .int b => some (decide (b ≤ a))
  | .lt, .str a, .str b => some (tlt a b)
  | .le, .str a, .str b => some (!(tlt b a))
  | .gt, .str a, .str b => some (tlt b a)
  | .ge, .str a, .str b => some (!(tlt a b))
  | .is_, .bl a, .bl b => some (decide (a = b))
  | .isnot, .bl a, .bl b => some (!decide (a = b))
  | .is_, a, .non => if a.isObj then none else some a.isNon
  | .isnot, a, .non => if a.isObj then none else some (!a.isNon)
  | .in_, a, b => opIn a b
  | .notin, a, b => (opIn a b).map fun x => !x
  | _, _, _ => none
def rB (o : Option Bool) : R := match o with
  | some b => .ok (.bl b) 0
  | none => .bad
def rO (n : Nat) (o : Option D) : R := match o with
  | some d => .ok d n
  | none => .bad
def opIdx (a : D) (n : Nat) (b : D) : R := match a, b with
  | .lst xs, .int i => rO (n - 1) (atI xs i)
  | .tup xs, .int i => rO 0 (atI xs i)
  | .ro _ xs, .int i => rO 0 (atI xs i)
  | .str t, .int i => if t.length ≤ LINE then rO 0 ((atI t i).map fun c => .str [c]) else .bad
  | .dct t ks vs, k => if isKeyOf t k then rO (n - 1) (dlook k ks vs) else .bad
  | _, _ => .bad
def opSl (a : D) (n : Nat) (lo hi : Option Int) : R := match a with
  | .str t => if t.length ≤ LINE then .ok (.str (cut t lo hi)) 0 else .bad
  | .tup xs => .ok (.tup (cut xs lo hi)) 0
  | .lst xs => if n ≤ 1 then .ok (.lst (cut xs lo hi)) 1 else .bad
  | .ro true xs => if n = 0 then .ok (.lst (cut xs lo hi)) 1 else .bad
  | _ => .bad
def D.int? : D → Option Int
  | .int i => some i
  | _ => none

/-- asked to be owned n deep, or (0) to be fixed -/
def own (n : Nat) (f : Bool) (r : R) : R := match r with
  | .ok d m => match n with
    | 0 => if m = 0 ∨ f = true then .ok d 0 else .bad
    | n + 1 => if f = true ∧ n + 1 = m then .ok d (n + 1) else .bad
  | r => r
def fixed (vs : List (D × Nat × Bool)) : Bool := vs.all fun v => v.2.1 == 0 || v.2.2
def deep (n : Nat) (vs : List (D × Nat × Bool)) : Bool := match n with
  | 0 => fixed vs
  | n + 1 => vs.all fun v => v.2.2 && decide (v.2.1 = n + 1)
def itemsOf (d : D) : Option (List D) := match d with
  | .lst xs => some xs
  | .tup xs => some xs
  | .ro _ xs => some xs
  | .str t => if t.length ≤ LINE then some (t.map fun c => .str [c]) else none
  | _ => none
def strsD : List D → Option (List Tx)
  | [] => some []
  | .str t :: r => (strsD r).map fun q => t :: q
  | _ => none
def intsD : List D → Option (List Int)
  | [] => some []
  | .int i :: r => (intsD r).map fun q => i :: q
  | _ => none
def joinT (s : Tx) : List Tx → Tx
  | [] => []
  | [a] => a
  | a :: b :: r => a ++ (s ++ joinT s (b :: r))
/-- ints in order -/
def insI (i : Int) : List Int → List Int
  | [] => [i]
  | j :: r => if i ≤ j then i :: j :: r else j :: insI i r
def sortI (l : List Int) : List Int := l.foldr insI []
def intsOf : List D → Option (List Int)
  | [] => some []
  | .int i :: r => (intsOf r).map (i :: ·)
  | _ => none
def opBi : Bi → List (D × Nat × Bool) → R
  | .len, [(.lst xs, _)] => .ok (.int xs.length) 0
  | .len, [(.tup xs, _)] => .ok (.int xs.length) 0
  | .len, [(.ro _ xs, _)] => .ok (.int xs.length) 0
  | .len, [(.str t, _)] => if t.length ≤ LINE then .ok (.int t.length) 0 else .bad
  | .len, [(.dct false ks _, _)] => .ok (.int ks.length) 0
  | .len, [(.dct true ks _, _)] => .ok (.int ks.length) 0
  | .tuple, [(.lst xs, n, _)] => if n ≤ 1 then .ok (.tup xs) 0 else .bad
  | .tuple, [(.tup xs, _)] => .ok (.tup xs) 0
  | .list, [(.lst xs, n, _)] => if n ≤ 1 then .ok (.lst xs) 1 else .bad
  | .list, [(.tup xs, _)] => .ok (.lst xs) 1
  | .int, [(.int i, _)] => .ok (.int i) 0
  | .int, [(.bl b, _)] => .ok (.int (if b then 1 else 0)) 0
  | .min2, [(.int i, _), (.int j, _)] => .ok (.int (if j < i then j else i)) 0
  | .max2, [(.int i, _), (.int j, _)] => .ok (.int (if j > i then j else i)) 0
  | .sorted, [(.lst xs, n, _)] => if n ≤ 1 then (match intsOf xs with
    | some ns => .ok (.lst ((sortI ns).map .int)) 1
    | none => .bad) else .bad
  | _, _ => .bad
/-- a text cut at a sign -/
def splitC (c : Nat) : Tx → List Tx
  | [] => [[]]
  | a :: r => if a = c then [] :: splitC c r else match splitC c r with
    | [] => [[a]]
    | x :: xs => (a :: x) :: xs
def preB : Tx → Tx → Bool
  | [], _ => true
  | s :: S, c :: r => decide (s = c) && preB S r
  | _ :: _, [] => false
/-- what stands before the first S, and behind it -/
def parT (S : Tx) : Tx → Tx → Option (Tx × Tx)
  | _, [] => none
  | acc, c :: r => if preB S (c :: r) = true then some (acc, (c :: r).drop S.length) else parT S (acc ++ [c]) r
def opMe : Me → (D × Nat × Bool) → List (D × Nat × Bool) → R
  | .join, (.str s, _), [(.lst xs, _)] => match strsD xs with
    | some ts => if (ts.map List.length).sum + ts.length * s.length ≤ LINE then .ok (.str (joinT s ts)) 0 else .bad
    | none => .bad
  | .join, (.str s, _), [(.tup xs, _)] => match strsD xs with
    | some ts => if (ts.map List.length).sum + ts.length * s.length ≤ LINE then .ok (.str (joinT s ts)) 0 else .bad
    | none => .bad
  | .split, (.str s, _), [(.str [c], _)] => if c < 128 ∧ s.length + 2 ≤ LINE then .ok (.lst ((splitC c s).map .str)) 1 else .bad
  | .partition, (.str s, _), [(.str t, _)] => if t ≠ [] ∧ s.length ≤ LINE then (match parT t [] s with
    | some (p, q) => .ok (.tup [.str p, .str t, .str q]) 0
    | none => .ok (.tup [.str s, .str [], .str []]) 0) else .bad
  | .index, (.str s, _), [(.str [c], _)] => if c ∈ s then .ok (.int (s.idxOf c : Nat)) 0 else .bad
  | .endswith, (.str s, _), [(.str t, _)] => .ok (.bl (decide (t.length ≤ s.length) && decide (s.drop (s.length - t.length) = t))) 0
  | .get2, (.dct t ks vs, n, _), [(k, _), (d, m, f)] => if isKeyOf t k then (match dlook k ks vs with
      | some v => .ok v (n - 1)
      | none => if m = 0 ∨ f = true then .ok d 0 else .bad) else .bad
  | .get1, (.dct t ks vs, n, _), [(k, _)] => if isKeyOf t k then (match dlook k ks vs with
      | some v => .ok v (n - 1)
      | none => .ok .non 0) else .bad
  | _, _, _ => .bad
/-- what a method is asked of -/
def meOk : Me → D → Bool
  | .get1, .dct _ _ _ => true
  | .get2, .dct _ _ _ => true
  | .get1, _ => false
  | .get2, _ => false
  | _, .str _ => true
  | _, _ => false
def isiOf (t : Ty) : D → Option Bool
  | .bl _ => some (t == .bool || t == .int)
  | .int _ => some (t == .int)
  | .str _ => some (t == .str)
  | .tup _ => some (t == .tuple)
  | .lst _ => some (t == .list)
  | .dct _ _ _ => some (t == .dict)
  | .non => some false
  | _ => none
def rngD (a : Int) (n : Nat) : List D := (List.range n).map fun (k : Nat) => .int (a + (k : Int))
def enumD : Nat → List D → List D
  | _, [] => []
  | k, x :: xs => .tup [.int (k : Int), x] :: enumD (k + 1) xs
def zipD : List D → List D → List D
  | x :: xs, y :: ys => .tup [x, y] :: zipD xs ys
  | _, _ => []
/-- a target of one name or of several -/
def setT (Γ : Env) (is : List Nat) (d : D) : Option Env := match is with
  | [i] => some (Γ.set i (some (d, 0)))
  | is => match d with
    | .tup ds => if ds.length = is.length then some ((is.zip ds).foldl (fun g p => g.set p.1 (some (p.2, 0))) Γ) else none
    | _ => none
/-- several slots are forgotten -/
def wipeG (Γ : Env) : List Nat → Env
  | [] => Γ
  | i :: is => (wipeG Γ is).set i none
/-- a comprehension's loop: conditions, then the element -/
def compL (n : Nat) (f : Bool) (tg : List Nat) (Γ : Env) (t e : Env → R) : List D → List D → R
  | [], acc => .ok (.lst acc) n
  | x :: xs, acc => match setT Γ tg x with
    | none => .bad
    | some Γ' => match t Γ' with
      | .ok (.bl false) _ => compL n f tg Γ t e xs acc
      | .ok (.bl true) _ => (match own (n - 1) f (e Γ') with
        | .ok d _ => if acc.length < LINE then compL n f tg Γ t e xs (acc ++ [d]) else .bad
        | _ => .bad)
      | _ => .bad
/-- the exception that is handled, asked of F -/
def EXF : Nat := 1000000
def withEx (F : Fn) (k : Nat) (fs : List D) : Fn := fun f args => if f = EXF then .ok (.tup (.int (k : Int) :: fs)) 0 [] else F f args
/-- k is c or under it -/
def subEx (k c : Nat) : Bool := c == 0 || k == c
mutual
def ev (F : Fn) : CE → Env → R
  | .var i, Γ => match Γ[i]? with
    | some (some p) => .ok p.1 p.2
    | _ => .bad
  | .cst d, _ => .ok d 0
  | .glo _ d, _ => .ok d 0
  | .tup es, Γ => match evA F es Γ with
    | .ok vs => if fixed vs then .ok (.tup (vs.map (·.1))) 0 else .bad
    | .ex c fs => .ex c fs
    | .bad => .bad
  | .lst n es, Γ => match evA F es Γ with
    | .ok vs => if deep (n - 1) vs then .ok (.lst (vs.map (·.1))) n else .bad
    | .ex c fs => .ex c fs
    | .bad => .bad
  | .dnew t n, _ => .ok (.dct t [] []) n
  | .bin o a b, Γ => (ev F a Γ).bind fun x n => (ev F b Γ).bind fun y m => opBin o x n y m
  | .neg a, Γ => (ev F a Γ).bind fun x _ => match x with
    | .int i => .ok (.int (-i)) 0
    | _ => .bad
  | .cmp o a b, Γ => (ev F a Γ).bind fun x _ => (ev F b Γ).bind fun y _ => rB (opCmp o x y)
  | .chain o p a b c, Γ => (ev F a Γ).bind fun x _ => (ev F b Γ).bind fun y _ => match opCmp o x y with
    | some true => (ev F c Γ).bind fun z _ => rB (opCmp p y z)
    | some false => .ok (.bl false) 0
    | none => .bad
  | .and a b, Γ => (ev F a Γ).bind fun x _ => match x with
    | .bl true => (ev F b Γ).bind fun y _ => match y with
      | .bl c => .ok (.bl c) 0
      | _ => .bad
    | .bl false => .ok (.bl false) 0
    | _ => .bad
  | .or a b, Γ => (ev F a Γ).bind fun x _ => match x with
    | .bl false => (ev F b Γ).bind fun y _ => match y with
      | .bl c => .ok (.bl c) 0
      | _ => .bad
    | .bl true => .ok (.bl true) 0
    | _ => .bad
  | .not a, Γ => (ev F a Γ).bind fun x _ => match x with
    | .bl c => .ok (.bl (!c)) 0
    | _ => .bad
  | .idx a b, Γ => (ev F a Γ).bind fun x n => (ev F b Γ).bind fun y _ => opIdx x n y
  | .sll a lo, Γ => (ev F a Γ).bind fun x n => (ev F lo Γ).bind fun y _ => match y with
    | .int i => opSl x n (some i) none
    | _ => .bad
  | .slu a hi, Γ => (ev F a Γ).bind fun x n => (ev F hi Γ).bind fun y _ => match y with
    | .int i => opSl x n none (some i)
    | _ => .bad
  | .slb a lo hi, Γ => (ev F a Γ).bind fun x n => (ev F lo Γ).bind fun y _ => match y with
    | .int i => (ev F hi Γ).bind fun z _ => (match z with
      | .int j => opSl x n (some i) (some j)
      | _ => .bad)
    | _ => .bad
  | .srev a, Γ => (ev F a Γ).bind fun x n => match x with
    | .lst xs => if n ≤ 1 then .ok (.lst xs.reverse) 1 else .bad
    | _ => .bad
  | .call f _ es, Γ => match evA F es Γ with
    | .ok vs => (match F f (vs.map fun v => (v.1, 0)) with
      | .ok d n _ => if fixed vs || d.safe n then .ok d n else .bad
      | .ex c fs => if fixed vs || D.imms fs then .ex c fs else .bad
      | .bad => .bad)
    | .ex c fs => .ex c fs
    | .bad => .bad
  | .blt b es, Γ => match evA F es Γ with
    | .ok vs => opBi b vs
    | .ex c fs => .ex c fs
    | .bad => .bad
  | .mth m a es, Γ => (ev F a Γ).bind fun x n => if meOk m x then (match evA F es Γ with
    | .ok vs => opMe m (x, n, a.fresh) vs
    | .ex c fs => .ex c fs
    | .bad => .bad) else .bad
  | .isi a t, Γ => (ev F a Γ).bind fun x _ => rB (isiOf t x)
  | .comp n tg it cs e, Γ => match evI F it Γ with
    | .ok xs _ => compL n e.fresh tg (wipeG Γ tg) (evT F cs) (ev F e) xs []
    | .ex c fs => .ex c fs
    | .bad => .bad
  | .exis cs, _ => match F EXF [] with
    | .ok (.tup (.int k :: _)) _ _ => .ok (.bl (cs.any fun c => subEx k.toNat c)) 0
    | _ => .bad
  | .exval, _ => match F EXF [] with
    | .ok (.tup (.int _ :: _)) _ _ => .ok (.bl true) 0
    | _ => .bad
  | .exfld j, _ => match F EXF [] with
    | .ok (.tup (.int _ :: fs)) _ _ => rO 0 fs[j]?
    | _ => .bad
  | .mk f _ es, Γ => match evA F es Γ with
    | .ok vs => (match F f (vs.map fun v => (v.1, 0)) with
      | .ok d 0 _ => .ok d 0
      | _ => .bad)
    | .ex c fs => .ex c fs
    | .bad => .bad
  | .eatc f _ es, Γ => match evA F es Γ with
    | .ok ((d, n, fr) :: vs) => if fr = true ∧ vs.all (fun v => v.1.scal) = true then (match F f ((d, n) :: vs.map fun v => (v.1, 0)) with
      | .ok d n _ => .ok d n
      | .ex c fs => if D.imms fs then .ex c fs else .bad
      | .bad => .bad) else .bad
    | .ex c fs => .ex c fs
    | _ => .bad
  | .mcall f _ c a es, Γ => match ev F a Γ with
    | .ok (.obj c' ds) _ => if c' = c then (match evA F es Γ with
      | .ok vs => if fixed vs then (match F f ((.obj c' ds, 0) :: vs.map fun v => (v.1, 0)) with
        | .ok d 0 _ => .ok d 0
        | _ => .bad) else .bad
      | .ex c fs => .ex c fs
      | .bad => .bad) else .bad
    | .ex c fs => .ex c fs
    | _ => .bad
/-- an argument list, from the left -/
def evA (F : Fn) : CEs → Env → RA
  | .nil, _ => .ok []
  | .cons e es, Γ => match ev F e Γ with
    | .ok d n => (match evA F es Γ with
      | .ok vs => .ok ((d, n, e.fresh) :: vs)
      | r => r)
    | .ex c fs => .ex c fs
    | .bad => .bad
/-- a comprehension's test: none or one -/
def evT (F : Fn) : CEs → Env → R
  | .nil, _ => .ok (.bl true) 0
  | .cons e _, Γ => ev F e Γ
def evI (F : Fn) : CI → Env → RI
  | .val e, Γ => match ev F e Γ with
    | .ok d n => if n ≤ 1 ∨ e.fresh = true then (match itemsOf d with
      | some xs => .ok xs (!(n == 0 || e.fresh))
      | none => .bad) else .bad
    | .ex c fs => .ex c fs
    | .bad => .bad
  | .rng1 a, Γ => match ev F a Γ with
    | .ok (.int n) _ => if -1000000000 ≤ n ∧ n ≤ 1000000000 then .ok (rngD 0 n.toNat) false else .bad
    | .ex c fs => .ex c fs
    | _ => .bad
  | .rng2 a b, Γ => match ev F a Γ with
    | .ok (.int m) _ => (match ev F b Γ with
      | .ok (.int n) _ => if -1000000000 ≤ n ∧ n ≤ 1000000000 ∧ -1000000000 ≤ m ∧ m ≤ 1000000000 then .ok (rngD m (n - m).toNat) false else .bad
      | .ex c fs => .ex c fs
      | _ => .bad)
    | .ex c fs => .ex c fs
    | _ => .bad
  | .enum a, Γ => match ev F a Γ with
    | .ok (.lst xs) n => if n ≤ 1 ∨ a.fresh = true then .ok (enumD 0 xs) (!(n == 0 || a.fresh)) else .bad
    | .ex c fs => .ex c fs
    | _ => .bad
  | .zip a b, Γ => match ev F a Γ with
    | .ok (.lst xs) n => if n ≤ 1 ∨ a.fresh = true then (match ev F b Γ with
      | .ok (.lst ys) m => if m ≤ 1 ∨ b.fresh = true then .ok (zipD xs ys) (!((n == 0 || a.fresh) && (m == 0 || b.fresh))) else .bad
      | .ex c fs => .ex c fs
      | _ => .bad) else .bad
    | .ok (.tup xs) _ => (match ev F b Γ with
      | .ok (.tup ys) _ => .ok (zipD xs ys) false
      | .ok (.lst ys) m => if m ≤ 1 ∨ b.fresh = true then .ok (zipD xs ys) (!(m == 0 || b.fresh)) else .bad
      | .ex c fs => .ex c fs
      | _ => .bad)
    | .ex c fs => .ex c fs
    | _ => .bad
  | .rev a, Γ => match ev F a Γ with
    | .ok (.lst xs) n => if n ≤ 1 ∨ a.fresh = true then .ok xs.reverse (!(n == 0 || a.fresh)) else .bad
    | .ex c fs => .ex c fs
    | _ => .bad
end
/-! ### places -/
def path (F : Fn) (Γ : Env) : CP → Option (Nat × List D)
  | .var i => some (i, [])
  | .idx p e => match path F Γ p, ev F e Γ with
    | some (i, ks), .ok k _ => some (i, ks ++ [k])
    | _, _ => none
def CP.slot : CP → Nat
  | .var i => i
  | .idx p _ => p.slot
/-- the thing at a place is changed: by f, from what it is and how deep owned to the same; nothing else -/
def modP (f : D → Nat → Option D) : List D → D → Nat → Option D
  | [], d, n => f d n
  | .int i :: ks, .lst xs, n + 1 => match ixN xs.length i with
    | some j => (match xs[j]? with
      | some x => (modP f ks x n).map fun y => .lst (xs.set j y)
      | none => none)
    | none => none
  | k :: ks, .dct t as vs, n + 1 => if isKeyOf t k then (match dlook k as vs with
      | some x => (modP f ks x n).map fun y => .dct t as (dput k y as vs).2
      | none => none) else none
  | _, _, _ => none
def modS (f : D → Nat → Option D) (ks : List D) (s : Option Sl) : Option Sl := match s with
  | some (some (d, n)) => (modP f ks d n).map fun y => some (y, n)
  | _ => none
def modE (f : D → Nat → Option D) (ik : Option (Nat × List D)) (Γ : Env) : Option Env := match ik with
  | some (i, ks) => (modS f ks Γ[i]?).map fun s => Γ.set i s
  | none => none
def getP : List D → D → Nat → Option (D × Nat)
  | [], d, n => some (d, n)
  | .int i :: ks, .lst xs, n + 1 => (atI xs i).bind fun x => getP ks x n
  | k :: ks, .dct t as vs, n + 1 => if isKeyOf t k then (dlook k as vs).bind fun x => getP ks x n else none
  | _, _, _ => none
def getE (ik : Option (Nat × List D)) (Γ : Env) : Option (D × Nat) := match ik with
  | some (i, ks) => (match Γ[i]? with
    | some (some (d, n)) => getP ks d n
    | _ => none)
  | none => none
/-! ### expressions that change -/
inductive RX where
  | ok (d : D) (n : Nat) (Γ : Env)
  | ex (c : Nat) (fs : List D)
  | bad
def lastD (d : D) (n : Nat) : Option (D × Nat) := match d, n with
  | .lst xs, n + 1 => (xs[xs.length - 1]?).map fun x => (x, n)
  | _, _ => none
def dropD (d : D) (n : Nat) : Option D := match d, n with
  | .lst xs, _ + 1 => some (.lst xs.dropLast)
  | _, _ => none
def headD (d : D) (n : Nat) : Option (D × Nat) := match d, n with
  | .lst (x :: _), n + 1 => some (x, n)
  | _, _ => none
def tailD (d : D) (n : Nat) : Option D := match d, n with
  | .lst (_ :: xs), _ + 1 => some (.lst xs)
  | _, _ => none
def argsIO (Γ : Env) : List (Nat × Bool) → Option (List (D × Nat))
  | [] => some []
  | (i, io) :: r => match Γ[i]? with
    | some (some (d, n)) => (argsIO Γ r).bind fun q => if io then some ((d, n) :: q) else if n = 0 then some ((d, 0) :: q) else none
    | _ => none
def putsIO (Γ : Env) : List (Nat × Bool) → List (D × Nat) → Option Env
  | [], [] => some Γ
  | (i, true) :: r, o :: os => putsIO (Γ.set i (some o)) r os
  | (_, false) :: r, os => putsIO Γ r os
  | _, _ => none
/-- the slots that are handed to be changed -/
def trues (is : List (Nat × Bool)) : List Nat := (is.filter (·.2)).map (·.1)
/-- frozen -/
def fx (r : RX) : RX := match r with
  | .ok d _ Γ => .ok d 0 Γ
  | r => r
def evX (F : Fn) : CX → Env → RX
  | .pure e, Γ => match own 0 e.fresh (ev F e Γ), ev F e Γ with
    | .ok d _, .ok _ n => .ok d n Γ
    | .ex c fs, _ => .ex c fs
    | _, _ => .bad
  | .pop p, Γ => match getE (path F Γ p) Γ with
    | some (d, n) => (match lastD d n, modE dropD (path F Γ p) Γ with
      | some (x, m), some Γ' => .ok x m Γ'
      | _, _ => .bad)
    | none => .bad
  | .pop0 p, Γ => match getE (path F Γ p) Γ with
    | some (d, n) => (match headD d n, modE tailD (path F Γ p) Γ with
      | some (x, m), some Γ' => .ok x m Γ'
      | _, _ => .bad)
    | none => .bad
  | .tuple x, Γ => match evX F x Γ with
    | .ok (.lst xs) n Γ' => if n ≤ 1 then .ok (.tup xs) 0 Γ' else .bad
    | .ex c fs => .ex c fs
    | _ => .bad
  | .tup2 a b, Γ => match evX F a Γ with
    | .ok x _ Γ1 => (match evX F b Γ1 with
      | .ok y _ Γ2 => .ok (.tup [x, y]) 0 Γ2
      | _ => .bad)
    | r => r
  | .tup3 a b c, Γ => match evX F a Γ with
    | .ok x _ Γ1 => (match evX F b Γ1 with
      | .ok y _ Γ2 => (match evX F c Γ2 with
        | .ok z _ Γ3 => .ok (.tup [x, y, z]) 0 Γ3
        | _ => .bad)
      | _ => .bad)
    | r => r
  | .cio f _ is, Γ => match argsIO Γ is with
    | some vs => (match F f vs with
      | .ok d n os => (match putsIO (wipeG Γ (trues is)) is os with
        | some Γ' => .ok d n Γ'
        | none => .bad)
      | .ex c fs => if is.all fun p => !p.2 then .ex c fs else .bad
      | .bad => .bad)
    | none => .bad
/-- the slots that it changes -/
def CX.slots : CX → List Nat
  | .pure _ => []
  | .pop p => [p.slot]
  | .pop0 p => [p.slot]
  | .tuple x => x.slots
  | .tup2 a b => a.slots ++ b.slots
  | .tup3 a b c => a.slots ++ b.slots ++ c.slots
  | .cio _ _ is => trues is
/-! ### statements -/
def rsA (keep : List Nat) : Nat → Env → Env
  | _, [] => []
  | k, s :: r => (if k ∈ keep then s else none) :: rsA keep (k + 1) r
def rs (keep : List Nat) (Γ : Env) : Env := rsA keep 0 Γ
def forL (body : Env → SR) (tg keep : List Nat) : List D → Env → SR
  | [], Γ => .nx Γ
  | x :: xs, Γ => match setT Γ tg x with
    | none => .bad
    | some Γ' => match body Γ' with
      | .nx Γ2 => forL body tg keep xs (rs keep Γ2)
      | r => r
def whlL (c : Env → R) (body : Env → SR) (keep : List Nat) : Nat → Env → SR
  | 0, _ => .bad
  | k + 1, Γ => match c Γ with
    | .ok (.bl true) _ => (match body Γ with
      | .nx Γ2 => whlL c body keep k (rs keep Γ2)
      | r => r)
    | .ok (.bl false) _ => .nx Γ
    | .ex x fs => .ex x fs Γ
    | _ => .bad
def appD (x : D) (m : Nat) (f : Bool) (d : D) (n : Nat) : Option D := match d, n with
  | .lst xs, n + 1 => (match own n f (.ok x m) with
    | .ok y _ => if xs.length < LINE then some (.lst (xs ++ [y])) else none
    | _ => none)
  | _, _ => none
def extD (ys : List D) (d : D) (n : Nat) : Option D := match d, n with
  | .lst xs, 1 => if xs.length + ys.length ≤ LINE then some (.lst (xs ++ ys)) else none
  | _, _ => none
def clrD (d : D) (n : Nat) : Option D := match d, n with
  | .lst _, 1 => some (.lst [])
  | _, _ => none
def setD (k : D) (x : D) (m : Nat) (f : Bool) (d : D) (n : Nat) : Option D := match d, n with
  | .lst xs, n + 1 => (match k, own n f (.ok x m) with
    | .int i, .ok y _ => (ixN xs.length i).map fun j => .lst (xs.set j y)
    | _, _ => none)
  | .dct t ks vs, n + 1 => (match own n f (.ok x m) with
    | .ok y _ => if isKeyOf t k ∧ ks.length < LINE then some (.dct t (dput k y ks vs).1 (dput k y ks vs).2) else none
    | _ => none)
  | _, _ => none
/-- d.setdefault(k, []) -/
def sdD (q : D) (d : D) (n : Nat) : Option D := match d, n with
  | .dct false ks vs, _ + 2 => if isKey q ∧ ks.length < LINE then (match dlook q ks vs with
      | some _ => some (.dct false ks vs)
      | none => some (.dct false (dput q (.lst []) ks vs).1 (dput q (.lst []) ks vs).2)) else none
  | _, _ => none
def nxO (o : Option Env) : SR := match o with
  | some Γ => .nx Γ
  | none => .bad
def CX.fresh : CX → Bool
  | .pure e => e.fresh
  | _ => true
/-- the values that an exception of a class keeps -/
def bare (c : Nat) : Bool := !(c == 3 || c == 8 || c == 9 || c == 11)
def exFs (c : Nat) (vs : List D) : List D := if bare c then [] else vs
mutual
def evS (F : Fn) : CS → Env → SR
  | .asg i x, Γ => match evX F x Γ with
    | .ok d n Γ' => .nx (Γ'.set i (some (d, if x.fresh then n else 0)))
    | .ex c fs => .ex c fs Γ
    | .bad => .bad
  | .asgT is x, Γ => match evX F x Γ with
    | .ok d _ Γ' => nxO (setT Γ' is d)
    | .ex c fs => .ex c fs Γ
    | .bad => .bad
  | .app p x, Γ => match getE (path F Γ p) Γ with
    | some (.lst _, _ + 1) => (match evX F x Γ with
      | .ok d n Γ' => if p.slot ∈ x.slots then .bad else nxO (modE (appD d n x.fresh) (path F Γ p) Γ')
      | .ex c fs => .ex c fs Γ
      | .bad => .bad)
    | _ => .bad
  | .ext p e, Γ => match getE (path F Γ p) Γ with
    | some (.lst _, _ + 1) => (match ev F e Γ with
      | .ok (.lst ys) n => if n ≤ 1 ∨ e.fresh = true then nxO (modE (extD ys) (path F Γ p) Γ) else .bad
      | .ex c fs => .ex c fs Γ
      | _ => .bad)
    | _ => .bad
  | .clr p, Γ => match getE (path F Γ p) Γ with
    | some (.lst _, _ + 1) => nxO (modE clrD (path F Γ p) Γ)
    | _ => .bad
  | .setI p k v, Γ => match ev F v Γ with
    | .ok d n => (match getE (path F Γ p) Γ with
      | some (_, _ + 1) => (match ev F k Γ with
        | .ok q _ => nxO (modE (setD q d n v.fresh) (path F Γ p) Γ)
        | .ex c fs => .ex c fs Γ
        | .bad => .bad)
      | _ => .bad)
    | .ex c fs => .ex c fs Γ
    | .bad => .bad
  | .sdapp i k e, Γ => match getE (some (i, [])) Γ with
    | some (.dct false _ _, _ + 2) => (match ev F k Γ with
      | .ok q _ => (match modE (sdD q) (some (i, [])) Γ with
        | some Γ1 => (match getE (some (i, [q])) Γ1 with
          | some (.lst _, _ + 1) => (match evX F (.pure e) Γ1 with
            | .ok d n Γ2 => nxO (modE (appD d n e.fresh) (some (i, [q])) Γ2)
            | .ex c fs => .ex c fs Γ1
            | .bad => .bad)
          | _ => .bad)
        | none => .bad)
      | .ex c fs => .ex c fs Γ
      | .bad => .bad)
    | _ => .bad
  | .ifs c a b, Γ => match ev F c Γ with
    | .ok (.bl true) _ => evSs F a Γ
    | .ok (.bl false) _ => evSs F b Γ
    | .ex c fs => .ex c fs Γ
    | _ => .bad
  | .for_ tg it keep b, Γ => match evI F it Γ with
    | .ok xs false => forL (evSs F b) tg keep xs (rs keep Γ)
    | .ex c fs => .ex c fs Γ
    | _ => .bad
  | .whl fuel c keep b, Γ => whlL (ev F c) (evSs F b) keep fuel (rs keep Γ)
  | .ret x, Γ => match evX F x Γ with
    | .ok d n Γ' => .rt d (if x.fresh then n else 0) Γ'
    | .ex c fs => .ex c fs Γ
    | .bad => .bad
  | .retv i, Γ => match Γ[i]? with
    | some (some (d, n)) => .rt d n (Γ.set i none)
    | _ => .bad
  | .retN, Γ => .rt .non 0 Γ
  | .rse c _ es, Γ => match evA F es Γ with
    | .ok vs => if fixed vs then .ex c (exFs c (vs.map (·.1))) Γ else .bad
    | .ex c fs => .ex c fs Γ
    | .bad => .bad
  | .expr x, Γ => match evX F x Γ with
    | .ok _ _ Γ' => .nx Γ'
    | .ex c fs => .ex c fs Γ
    | .bad => .bad
  | .frz i, Γ => match Γ[i]? with
    | some (some (d, _)) => .nx (Γ.set i (some (d, 0)))
    | _ => .nx Γ
  | .pass, Γ => .nx Γ
  | .try_ ks b c v h, Γ => match evSs F b Γ with
    | .ex k fs Γ' => if k ∈ ks then (if subEx k c then (match evSs (withEx F k fs) h (match v with | some i => Γ'.set i none | none => Γ') with
        | .nx Γ2 => .nx (match v with | some i => Γ2.set i none | none => Γ2)
        | .rt d n Γ2 => .rt d n Γ2
        | _ => .bad) else .ex k fs Γ') else .bad
    | r => r
  | .tryP b, Γ => match evSs F b Γ with
    | .ex _ _ _ => .bad
    | r => r
  | .prim g, Γ => g Γ
  | .eat _, Γ => .nx Γ
def evSs (F : Fn) : CSs → Env → SR
  | .nil, Γ => .nx Γ
  | .cons s ss, Γ => match evS F s Γ with
    | .nx Γ' => evSs F ss Γ'
    | r => r
end
/-- a def: parameters, slots in all, the parameters that it may change, its body -/
structure Code where
  np : Nat
  ns : Nat
  io : List Nat
  body : CSs
def outs (Γ : Env) : List Nat → Option (List (D × Nat))
  | [] => some []
  | i :: r => match Γ[i]? with
    | some (some p) => (outs Γ r).map fun q => p :: q
    | _ => none
def fits (io : List Nat) : Nat → List (D × Nat) → Bool
  | _, [] => true
  | k, (_, n) :: r => (n == 0 || decide (k ∈ io)) && fits io (k + 1) r
def rr (d : D) (n : Nat) (o : Option (List (D × Nat))) : RR := match o with
  | some os => .ok d n os
  | none => .bad
def start (c : Code) (args : List (D × Nat)) : Env := args.map some ++ List.replicate (c.ns - c.np) none
def eats (c : Code) : List Nat := match c.body with
  | .cons (.eat i) _ => [i]
  | _ => []
def run (F : Fn) (c : Code) (args : List (D × Nat)) : RR :=
  if args.length = c.np ∧ fits (c.io ++ eats c) 0 args = true then
    match evSs F c.body (start c args) with
    | .nx Γ => rr .non 0 (outs Γ c.io)
    | .rt d n Γ => rr d n (outs Γ c.io)
    | .ex k fs _ => .ex k fs
    | .bad => .bad
  else .bad
end GL

/-! GL2: how data lie in the heap. -/
namespace GL
open PySem L2 PyProof.Rows

/-- nothing is lost -/
def Ex (H H' : Hp) : Prop := ∀ a o, H a = some o → H' a = some o
theorem Ex.refl (H : Hp) : Ex H H := fun _ _ h => h
theorem Ex.trans {H H1 H2 : Hp} (a : Ex H H1) (b : Ex H1 H2) : Ex H H2 := fun x o h => b x o (a x o h)
theorem Ex.new {H : Hp} {p : Addr} {o : HO} (h : H p = none) : Ex H (upd H p o) := fun a u e => by
  rw [upd_ne (ne_of_none e h)]
  exact e
theorem Ex.free {H H' : Hp} (e : Ex H H') {p : Addr} (h : H' p = none) : H p = none := by
  cases q : H p with
  | none => rfl
  | some o => rw [e p o q] at h; cases h

/-- the world of a law: the written part, what objects are, the exceptions' classes and fields -/
structure Wd where
  K : PySem.W.Frag
  bf : Hp
  pn : Nat → Option V
  OB : Nat → List D → V → Hp → Prop
  mono : ∀ c ds v H H', Ex H H' → OB c ds v H → OB c ds v H'
  cls : Nat → Addr
  flds : Nat → List Str

theorem ex_rd {H H' : Hp} {a : Addr} {u : HO} (e : Ex H H') (h : Rd H a u) : Rd H' a u := by
  rcases h with h | ⟨o, h⟩
  · exact Or.inl (e a _ h)
  · exact Or.inr ⟨o, e a _ h⟩
theorem ex_l {K : PySem.W.Frag} {H H' : Hp} {a : Addr} {xs : List V} (e : Ex H H') (h : SqL K H a xs) : SqL K H' a xs := h.imp (ex_rd e) id
theorem ex_t {K : PySem.W.Frag} {H H' : Hp} {a : Addr} {xs : List V} (e : Ex H H') (h : SqT K H a xs) : SqT K H' a xs := h.imp (ex_rd e) id

abbrev toS (t : Tx) : Str := ⟨t.toArray⟩
def keyD : Key → D
  | .inl i => .int i
  | .inr s => .str s.cps.toList
theorem toS_tl (s : Str) : toS s.cps.toList = s := by cases s; rfl
theorem tl_toS (t : Tx) : (toS t).cps.toList = t := rfl
theorem toS_inj {s t : Tx} (h : toS s = toS t) : s = t := by
  have := congrArg (fun x : Str => x.cps.toList) h
  exact this
theorem toS_len (t : Tx) : (toS t).length = t.length := by simp [Str.length]
theorem keyD_inj {a b : Key} (h : keyD a = keyD b) : a = b := by
  cases a <;> cases b <;> simp only [keyD] at h
  · cases h; rfl
  · cases h
  · cases h
  · rename_i s t
    have e : s.cps.toList = t.cps.toList := D.str.inj h
    rw [← toS_tl s, ← toS_tl t, e]
/-- signs that there are -/
def tok (t : Tx) : Prop := ∀ c ∈ t, c < 1114112
def ktok : Key → Prop
  | .inl _ => True
  | .inr s => tok s.cps.toList
/-- the dict at a: its keys, its values -/
def DctAt (H : Hp) (a : Addr) (t : Bool) (ks : List D) (us : List V) : Prop := match t with
  | false => ∃ kk : List Key, kk.length = us.length ∧ H a = some (.dK (kk.zip us)) ∧ ks = kk.map keyD ∧ kk.Nodup ∧ ∀ k ∈ kk, ktok k
  | true => ∃ kk : List (List Key), kk.length = us.length ∧ H a = some (.dT (kk.zip us)) ∧ ks = kk.map (fun k => .tup (k.map keyD)) ∧ kk.Nodup ∧ ∀ k ∈ kk, ∀ j ∈ k, ktok j
mutual
/-- v is d, read in H -/
def Fro (W : Wd) (H : Hp) : D → V → Prop
  | .non, v => v = .non
  | .bl b, v => v = .bl b
  | .int i, v => v = .int i
  | .str t, v => v = .str (toS t) ∧ tok t
  | .tup ds, v => ∃ a xs, v = .ref a ∧ H a = some (.tup xs) ∧ Fros W H ds xs
  | .lst ds, v => ∃ a xs, v = .ref a ∧ H a = some (.lst xs) ∧ Fros W H ds xs
  | .dct t ks ds, v => ∃ a us, v = .ref a ∧ DctAt H a t ks us ∧ Fros W H ds us
  | .ro l ds, v => ∃ a xs, v = .ref a ∧ (match l with | true => SqL W.K H a xs | false => SqT W.K H a xs) ∧ Fros W H ds xs
  | .obj c ds, v => W.OB c ds v H
def Fros (W : Wd) (H : Hp) : List D → List V → Prop
  | [], vs => vs = []
  | d :: ds, vs => ∃ v r, vs = v :: r ∧ Fro W H d v ∧ Fros W H ds r
end
theorem DctAt.mono {H H' : Hp} {a : Addr} {t : Bool} {ks : List D} {us : List V} (e : Ex H H') (h : DctAt H a t ks us) : DctAt H' a t ks us := by
  cases t <;> (obtain ⟨kk, h1, h2, h3⟩ := h; exact ⟨kk, h1, e _ _ h2, h3⟩)
mutual
theorem Fro.mono {W : Wd} {H H' : Hp} (e : Ex H H') : ∀ {d : D} {v : V}, Fro W H d v → Fro W H' d v
  | .non, _, h => h
  | .bl _, _, h => h
  | .int _, _, h => h
  | .str _, _, h => h
  | .tup _, _, ⟨a, xs, e1, e2, h⟩ => ⟨a, xs, e1, e _ _ e2, Fros.mono e h⟩
  | .lst _, _, ⟨a, xs, e1, e2, h⟩ => ⟨a, xs, e1, e _ _ e2, Fros.mono e h⟩
  | .dct _ _ _, _, ⟨a, us, e1, e2, h⟩ => ⟨a, us, e1, e2.mono e, Fros.mono e h⟩
  | .ro l _, _, ⟨a, xs, e1, e2, h⟩ => ⟨a, xs, e1, by cases l; exact ex_t e e2; exact ex_l e e2, Fros.mono e h⟩
  | .obj _ _, _, h => W.mono _ _ _ _ _ e h
theorem Fros.mono {W : Wd} {H H' : Hp} (e : Ex H H') : ∀ {ds : List D} {vs : List V}, Fros W H ds vs → Fros W H' ds vs
  | [], _, h => h
  | _ :: _, _, ⟨v, r, e1, h1, h2⟩ => ⟨v, r, e1, Fro.mono e h1, Fros.mono e h2⟩
end
mutual
theorem fro_pn {W : Wd} {b : Hp} {q : Nat → Option V} {H : Hp} : ∀ {d : D} {v : V}, Fro { W with bf := b, pn := q } H d v ↔ Fro W H d v
  | .non, _ => Iff.rfl
  | .bl _, _ => Iff.rfl
  | .int _, _ => Iff.rfl
  | .str _, _ => Iff.rfl
  | .tup _, _ => ⟨fun ⟨a, xs, e1, e2, h⟩ => ⟨a, xs, e1, e2, fros_pn.mp h⟩, fun ⟨a, xs, e1, e2, h⟩ => ⟨a, xs, e1, e2, fros_pn.mpr h⟩⟩
  | .lst _, _ => ⟨fun ⟨a, xs, e1, e2, h⟩ => ⟨a, xs, e1, e2, fros_pn.mp h⟩, fun ⟨a, xs, e1, e2, h⟩ => ⟨a, xs, e1, e2, fros_pn.mpr h⟩⟩
  | .dct _ _ _, _ => ⟨fun ⟨a, xs, e1, e2, h⟩ => ⟨a, xs, e1, e2, fros_pn.mp h⟩, fun ⟨a, xs, e1, e2, h⟩ => ⟨a, xs, e1, e2, fros_pn.mpr h⟩⟩
  | .ro _ _, _ => ⟨fun ⟨a, xs, e1, e2, h⟩ => ⟨a, xs, e1, e2, fros_pn.mp h⟩, fun ⟨a, xs, e1, e2, h⟩ => ⟨a, xs, e1, e2, fros_pn.mpr h⟩⟩
  | .obj _ _, _ => Iff.rfl
theorem fros_pn {W : Wd} {b : Hp} {q : Nat → Option V} {H : Hp} : ∀ {ds : List D} {vs : List V}, Fros { W with bf := b, pn := q } H ds vs ↔ Fros W H ds vs
  | [], _ => Iff.rfl
  | _ :: _, _ => ⟨fun ⟨v, r, e1, h1, h2⟩ => ⟨v, r, e1, fro_pn.mp h1, fros_pn.mp h2⟩, fun ⟨v, r, e1, h1, h2⟩ => ⟨v, r, e1, fro_pn.mpr h1, fros_pn.mpr h2⟩⟩
end
theorem Fros.length {W : Wd} {H : Hp} : ∀ {ds : List D} {vs : List V}, Fros W H ds vs → ds.length = vs.length
  | [], _, h => by cases h; rfl
  | _ :: _, _, ⟨v, r, e1, h1, h2⟩ => by subst e1; simp [Fros.length h2]
theorem Fros.get {W : Wd} {H : Hp} : ∀ {ds : List D} {vs : List V} {i : Nat} {d : D}, Fros W H ds vs → ds[i]? = some d → ∃ v, vs[i]? = some v ∧ Fro W H d v
  | [], _, _, _, _, e => by simp at e
  | _ :: _, _, 0, d, ⟨v, r, e1, h1, h2⟩, e => by
    subst e1; simp only [List.getElem?_cons_zero, Option.some.injEq] at e ⊢; subst e; exact ⟨v, rfl, h1⟩
  | _ :: _, _, i + 1, d, ⟨v, r, e1, h1, h2⟩, e => by
    subst e1
    obtain ⟨u, hu, q⟩ := Fros.get h2 (i := i) (by simpa using e)
    exact ⟨u, by simpa using hu, q⟩
theorem Fros.append {W : Wd} {H : Hp} : ∀ {ds es : List D} {vs us : List V}, Fros W H ds vs → Fros W H es us → Fros W H (ds ++ es) (vs ++ us)
  | [], _, _, _, h, g => by cases h; exact g
  | _ :: _, _, _, _, ⟨v, r, e1, h1, h2⟩, g => by subst e1; exact ⟨v, r ++ _, rfl, h1, Fros.append h2 g⟩
theorem Fros.drop {W : Wd} {H : Hp} : ∀ {ds : List D} {vs : List V} (n : Nat), Fros W H ds vs → Fros W H (ds.drop n) (vs.drop n)
  | _, _, 0, h => h
  | [], _, _ + 1, h => by cases h; rfl
  | _ :: _, _, n + 1, ⟨v, r, e1, h1, h2⟩ => by subst e1; exact Fros.drop n h2
theorem Fros.take {W : Wd} {H : Hp} : ∀ {ds : List D} {vs : List V} (n : Nat), Fros W H ds vs → Fros W H (ds.take n) (vs.take n)
  | _, _, 0, h => by simp [Fros]
  | [], _, _ + 1, h => by cases h; rfl
  | _ :: _, _, n + 1, ⟨v, r, e1, h1, h2⟩ => by subst e1; exact ⟨v, r.take n, rfl, h1, Fros.take n h2⟩
theorem Fros.set {W : Wd} {H : Hp} {d : D} {v : V} (q : Fro W H d v) : ∀ {ds : List D} {vs : List V} (n : Nat), Fros W H ds vs → Fros W H (ds.set n d) (vs.set n v)
  | [], _, _, h => by cases h; rfl
  | _ :: _, _, 0, ⟨u, r, e1, h1, h2⟩ => by subst e1; exact ⟨v, r, rfl, q, h2⟩
  | _ :: _, _, n + 1, ⟨u, r, e1, h1, h2⟩ => by subst e1; exact ⟨u, r.set n v, rfl, h1, Fros.set q n h2⟩
theorem Fros.snoc {W : Wd} {H : Hp} {ds : List D} {vs : List V} {d : D} {v : V} (h : Fros W H ds vs) (q : Fro W H d v) : Fros W H (ds ++ [d]) (vs ++ [v]) := h.append ⟨v, [], rfl, q, rfl⟩
theorem Fros.reverse {W : Wd} {H : Hp} : ∀ {ds : List D} {vs : List V}, Fros W H ds vs → Fros W H ds.reverse vs.reverse
  | [], _, h => by cases h; rfl
  | _ :: _, _, ⟨u, r, e1, h1, h2⟩ => by subst e1; rw [List.reverse_cons, List.reverse_cons]; exact (Fros.reverse h2).snoc h1

/-! ### owned things -/
inductive All3 (R : D → V → List Addr → Prop) : List D → List V → List (List Addr) → Prop
  | nil : All3 R [] [] []
  | cons {d : D} {v : V} {A : List Addr} {ds : List D} {vs : List V} {As : List (List Addr)} : R d v A → All3 R ds vs As → All3 R (d :: ds) (v :: vs) (A :: As)
/-- v is d, owned n deep, the owned objects at A; what is fixed is read in Hf -/
def Own (W : Wd) (Hf H : Hp) : Nat → D → V → List Addr → Prop
  | 0, d, v, A => A = [] ∧ Fro W Hf d v
  | n + 1, .lst ds, v, A => ∃ p xs As, v = .ref p ∧ H p = some (.lst xs) ∧ A = p :: As.flatten ∧ All3 (Own W Hf H n) ds xs As
  | n + 1, .dct t ks ds, v, A => ∃ p us As, v = .ref p ∧ DctAt H p t ks us ∧ A = p :: As.flatten ∧ All3 (Own W Hf H n) ds us As
  | _ + 1, d, v, A => A = [] ∧ Fro W Hf d v
theorem All3.length {R : D → V → List Addr → Prop} {ds : List D} {vs : List V} {As : List (List Addr)} (h : All3 R ds vs As) : ds.length = vs.length ∧ ds.length = As.length := by
  induction h with
  | nil => exact ⟨rfl, rfl⟩
  | cons _ _ ih => simp [ih.1, ← ih.2]
theorem All3.get {R : D → V → List Addr → Prop} {ds : List D} {vs : List V} {As : List (List Addr)} (h : All3 R ds vs As) : ∀ {i : Nat} {d : D}, ds[i]? = some d → ∃ v A, vs[i]? = some v ∧ As[i]? = some A ∧ R d v A := by
  induction h with
  | nil => intro i d e; simp at e
  | cons r _ ih =>
    intro i d e
    cases i with
    | zero => simp only [List.getElem?_cons_zero, Option.some.injEq] at e; subst e; exact ⟨_, _, rfl, rfl, r⟩
    | succ i =>
      obtain ⟨v, A, h1, h2, h3⟩ := ih (i := i) (d := d) (by simpa using e)
      exact ⟨v, A, by simpa using h1, by simpa using h2, h3⟩
theorem All3.imp {R R' : D → V → List Addr → Prop} {ds : List D} {vs : List V} {As : List (List Addr)} (h : All3 R ds vs As) (f : ∀ d v A, A ∈ As → R d v A → R' d v A) : All3 R' ds vs As := by
  induction h with
  | nil => exact .nil
  | cons r _ ih => exact .cons (f _ _ _ List.mem_cons_self r) (ih fun d v A hA => f d v A (List.mem_cons_of_mem _ hA))
theorem All3.fros {W : Wd} {H : Hp} {R : D → V → List Addr → Prop} {ds : List D} {vs : List V} {As : List (List Addr)} (h : All3 R ds vs As) (f : ∀ d v A, A ∈ As → R d v A → Fro W H d v) : Fros W H ds vs := by
  induction h with
  | nil => rfl
  | cons r _ ih => exact ⟨_, _, rfl, f _ _ _ List.mem_cons_self r, ih fun d v A hA => f d v A (List.mem_cons_of_mem _ hA)⟩
theorem All3.append {R : D → V → List Addr → Prop} {ds es : List D} {vs us : List V} {As Bs : List (List Addr)} (h : All3 R ds vs As) (g : All3 R es us Bs) : All3 R (ds ++ es) (vs ++ us) (As ++ Bs) := by
  induction h with
  | nil => exact g
  | cons r _ ih => exact .cons r ih
theorem All3.of_fros {W : Wd} {Hf H : Hp} : ∀ {ds : List D} {vs : List V}, Fros W Hf ds vs → All3 (Own W Hf H 0) ds vs (List.replicate ds.length [])
  | [], _, h => by cases h; exact .nil
  | _ :: _, _, ⟨v, r, e1, h1, h2⟩ => by subst e1; exact .cons ⟨rfl, h1⟩ (All3.of_fros h2)
theorem flat_nils (n : Nat) : (List.replicate n ([] : List Addr)).flatten = [] := by
  induction n with
  | zero => rfl
  | succ n ih => simp [List.replicate_succ, ih]
/-- a list, a dict of fixed things -/
theorem Own.lst1 {W : Wd} {Hf H : Hp} {p : Addr} {ds : List D} {xs : List V} (h : H p = some (.lst xs)) (f : Fros W Hf ds xs) : Own W Hf H 1 (.lst ds) (.ref p) [p] :=
  ⟨p, xs, _, rfl, h, by rw [flat_nils], All3.of_fros f⟩
theorem All3.zero {W : Wd} {Hf H : Hp} {ds : List D} {vs : List V} {As : List (List Addr)} (h : All3 (Own W Hf H 0) ds vs As) : Fros W Hf ds vs ∧ As.flatten = [] := by
  induction h with
  | nil => exact ⟨rfl, rfl⟩
  | cons r _ ih => obtain ⟨rfl, f⟩ := r; exact ⟨⟨_, _, rfl, f, ih.1⟩, by simp [ih.2]⟩
/-- what is owned, read where all of it is seen -/
theorem Own.fro {W : Wd} {Hf H Hg : Hp} : ∀ {n : Nat} {d : D} {v : V} {A : List Addr}, Own W Hf H n d v A → Ex Hf Hg → (∀ p ∈ A, ∀ o, H p = some o → Hg p = some o) → Fro W Hg d v
  | 0, _, _, _, ⟨_, h⟩, e, _ => h.mono e
  | n + 1, .lst ds, v, A, ⟨p, xs, As, e1, e2, e3, h⟩, e, g => by
    subst e1 e3
    refine ⟨p, xs, rfl, g p List.mem_cons_self _ e2, h.fros fun d v A hA r => ?_⟩
    exact Own.fro r e fun q hq => g q (List.mem_cons_of_mem _ (List.mem_flatten.mpr ⟨A, hA, hq⟩))
  | n + 1, .dct t ks ds, v, A, ⟨p, us, As, e1, e2, e3, h⟩, e, g => by
    subst e1 e3
    refine ⟨p, us, rfl, ?_, h.fros fun d v A hA r => ?_⟩
    · cases t <;> (obtain ⟨kk, h1, h2, h3⟩ := e2; exact ⟨kk, h1, g p List.mem_cons_self _ h2, h3⟩)
    · exact Own.fro r e fun q hq => g q (List.mem_cons_of_mem _ (List.mem_flatten.mpr ⟨A, hA, hq⟩))
  | _ + 1, .non, _, _, ⟨_, h⟩, e, _ => h.mono e
  | _ + 1, .bl _, _, _, ⟨_, h⟩, e, _ => h.mono e
  | _ + 1, .int _, _, _, ⟨_, h⟩, e, _ => h.mono e
  | _ + 1, .str _, _, _, ⟨_, h⟩, e, _ => h.mono e
  | _ + 1, .tup _, _, _, ⟨_, h⟩, e, _ => h.mono e
  | _ + 1, .ro _ _, _, _, ⟨_, h⟩, e, _ => h.mono e
  | _ + 1, .obj _ _, _, _, ⟨_, h⟩, e, _ => h.mono e
/-- the owned objects stay, what is fixed stays -/
theorem Own.mono {W : Wd} {Hf H Hg H' : Hp} : ∀ {n : Nat} {d : D} {v : V} {A : List Addr}, Own W Hf H n d v A → Ex Hf Hg → (∀ p ∈ A, ∀ o, H p = some o → H' p = some o) → Own W Hg H' n d v A
  | 0, _, _, _, ⟨e0, h⟩, e, _ => ⟨e0, h.mono e⟩
  | n + 1, .lst ds, v, A, ⟨p, xs, As, e1, e2, e3, h⟩, e, g => by
    subst e1 e3
    refine ⟨p, xs, As, rfl, g p List.mem_cons_self _ e2, rfl, h.imp fun d v A hA r => ?_⟩
    exact Own.mono r e fun q hq => g q (List.mem_cons_of_mem _ (List.mem_flatten.mpr ⟨A, hA, hq⟩))
  | n + 1, .dct t ks ds, v, A, ⟨p, us, As, e1, e2, e3, h⟩, e, g => by
    subst e1 e3
    refine ⟨p, us, As, rfl, ?_, rfl, h.imp fun d v A hA r => ?_⟩
    · cases t <;> (obtain ⟨kk, h1, h2, h3⟩ := e2; exact ⟨kk, h1, g p List.mem_cons_self _ h2, h3⟩)
    · exact Own.mono r e fun q hq => g q (List.mem_cons_of_mem _ (List.mem_flatten.mpr ⟨A, hA, hq⟩))
  | _ + 1, .non, _, _, ⟨e0, h⟩, e, _ => ⟨e0, h.mono e⟩
  | _ + 1, .bl _, _, _, ⟨e0, h⟩, e, _ => ⟨e0, h.mono e⟩
  | _ + 1, .int _, _, _, ⟨e0, h⟩, e, _ => ⟨e0, h.mono e⟩
  | _ + 1, .str _, _, _, ⟨e0, h⟩, e, _ => ⟨e0, h.mono e⟩
  | _ + 1, .tup _, _, _, ⟨e0, h⟩, e, _ => ⟨e0, h.mono e⟩
  | _ + 1, .ro _ _, _, _, ⟨e0, h⟩, e, _ => ⟨e0, h.mono e⟩
  | _ + 1, .obj _ _, _, _, ⟨e0, h⟩, e, _ => ⟨e0, h.mono e⟩
theorem own_pn {W : Wd} {b : Hp} {q : Nat → Option V} {Hf H : Hp} : ∀ {n : Nat} {d : D} {v : V} {A : List Addr}, Own { W with bf := b, pn := q } Hf H n d v A ↔ Own W Hf H n d v A
  | 0, _, _, _ => ⟨fun ⟨e, h⟩ => ⟨e, fro_pn.mp h⟩, fun ⟨e, h⟩ => ⟨e, fro_pn.mpr h⟩⟩
  | n + 1, .lst _, _, _ => ⟨fun ⟨p, xs, As, e1, e2, e3, h⟩ => ⟨p, xs, As, e1, e2, e3, h.imp fun _ _ _ _ r => own_pn.mp r⟩, fun ⟨p, xs, As, e1, e2, e3, h⟩ => ⟨p, xs, As, e1, e2, e3, h.imp fun _ _ _ _ r => own_pn.mpr r⟩⟩
  | n + 1, .dct _ _ _, _, _ => ⟨fun ⟨p, xs, As, e1, e2, e3, h⟩ => ⟨p, xs, As, e1, e2, e3, h.imp fun _ _ _ _ r => own_pn.mp r⟩, fun ⟨p, xs, As, e1, e2, e3, h⟩ => ⟨p, xs, As, e1, e2, e3, h.imp fun _ _ _ _ r => own_pn.mpr r⟩⟩
  | _ + 1, .non, _, _ => ⟨fun ⟨e, h⟩ => ⟨e, fro_pn.mp h⟩, fun ⟨e, h⟩ => ⟨e, fro_pn.mpr h⟩⟩
  | _ + 1, .bl _, _, _ => ⟨fun ⟨e, h⟩ => ⟨e, fro_pn.mp h⟩, fun ⟨e, h⟩ => ⟨e, fro_pn.mpr h⟩⟩
  | _ + 1, .int _, _, _ => ⟨fun ⟨e, h⟩ => ⟨e, fro_pn.mp h⟩, fun ⟨e, h⟩ => ⟨e, fro_pn.mpr h⟩⟩
  | _ + 1, .str _, _, _ => ⟨fun ⟨e, h⟩ => ⟨e, fro_pn.mp h⟩, fun ⟨e, h⟩ => ⟨e, fro_pn.mpr h⟩⟩
  | _ + 1, .tup _, _, _ => ⟨fun ⟨e, h⟩ => ⟨e, fro_pn.mp h⟩, fun ⟨e, h⟩ => ⟨e, fro_pn.mpr h⟩⟩
  | _ + 1, .ro _ _, _, _ => ⟨fun ⟨e, h⟩ => ⟨e, fro_pn.mp h⟩, fun ⟨e, h⟩ => ⟨e, fro_pn.mpr h⟩⟩
  | _ + 1, .obj _ _, _, _ => ⟨fun ⟨e, h⟩ => ⟨e, fro_pn.mp h⟩, fun ⟨e, h⟩ => ⟨e, fro_pn.mpr h⟩⟩
def isTup : HO → Bool
  | .tup _ => true
  | _ => false
/-- what is owned is there, and no tuple -/
theorem Own.there {W : Wd} {Hf H : Hp} : ∀ {n : Nat} {d : D} {v : V} {A : List Addr}, Own W Hf H n d v A → ∀ p ∈ A, ∃ o, H p = some o ∧ isTup o = false
  | 0, _, _, _, ⟨e0, _⟩ => by subst e0; intro p hp; cases hp
  | n + 1, .lst ds, v, A, ⟨p, xs, As, e1, e2, e3, h⟩ => by
    subst e1 e3
    intro q hq
    rcases List.mem_cons.mp hq with rfl | hq
    · exact ⟨_, e2, rfl⟩
    · obtain ⟨A, hA, hq⟩ := List.mem_flatten.mp hq
      have : ∀ {ds vs As}, All3 (Own W Hf H n) ds vs As → ∀ A ∈ As, ∀ q ∈ A, ∃ o, H q = some o ∧ isTup o = false := fun h => by
        induction h with
        | nil => intro A hA; cases hA
        | cons r _ ih =>
          intro A hA q hq
          rcases List.mem_cons.mp hA with rfl | hA
          · exact Own.there r q hq
          · exact ih A hA q hq
      exact this h A hA q hq
  | n + 1, .dct t ks ds, v, A, ⟨p, us, As, e1, e2, e3, h⟩ => by
    subst e1 e3
    intro q hq
    rcases List.mem_cons.mp hq with rfl | hq
    · cases t <;> (obtain ⟨kk, h1, h2, h3⟩ := e2; exact ⟨_, h2, rfl⟩)
    · obtain ⟨A, hA, hq⟩ := List.mem_flatten.mp hq
      have : ∀ {ds vs As}, All3 (Own W Hf H n) ds vs As → ∀ A ∈ As, ∀ q ∈ A, ∃ o, H q = some o ∧ isTup o = false := fun h => by
        induction h with
        | nil => intro A hA; cases hA
        | cons r _ ih =>
          intro A hA q hq
          rcases List.mem_cons.mp hA with rfl | hA
          · exact Own.there r q hq
          · exact ih A hA q hq
      exact this h A hA q hq
  | _ + 1, .non, _, _, ⟨e0, _⟩ => by subst e0; intro p hp; cases hp
  | _ + 1, .bl _, _, _, ⟨e0, _⟩ => by subst e0; intro p hp; cases hp
  | _ + 1, .int _, _, _, ⟨e0, _⟩ => by subst e0; intro p hp; cases hp
  | _ + 1, .str _, _, _, ⟨e0, _⟩ => by subst e0; intro p hp; cases hp
  | _ + 1, .tup _, _, _, ⟨e0, _⟩ => by subst e0; intro p hp; cases hp
  | _ + 1, .ro _ _, _, _, ⟨e0, _⟩ => by subst e0; intro p hp; cases hp
  | _ + 1, .obj _ _, _, _, ⟨e0, _⟩ => by subst e0; intro p hp; cases hp
mutual
/-- what holds nothing that may change is read wherever the tuples are -/
theorem imm_fro {W : Wd} {H H' : Hp} (e : ∀ a xs, H a = some (.tup xs) → H' a = some (.tup xs)) : ∀ {d : D} {v : V}, d.imm = true → Fro W H d v → Fro W H' d v
  | .non, _, _, h => h
  | .bl _, _, _, h => h
  | .int _, _, _, h => h
  | .str _, _, _, h => h
  | .tup ds, _, i, ⟨a, xs, e1, e2, h⟩ => ⟨a, xs, e1, e _ _ e2, imms_fros e (by simpa [D.imm] using i) h⟩
  | .lst _, _, i, _ => by simp [D.imm] at i
  | .dct _ _ _, _, i, _ => by simp [D.imm] at i
  | .ro _ _, _, i, _ => by simp [D.imm] at i
  | .obj _ _, _, i, _ => by simp [D.imm] at i
theorem imms_fros {W : Wd} {H H' : Hp} (e : ∀ a xs, H a = some (.tup xs) → H' a = some (.tup xs)) : ∀ {ds : List D} {vs : List V}, D.imms ds = true → Fros W H ds vs → Fros W H' ds vs
  | [], _, _, h => h
  | _ :: _, _, i, ⟨v, r, e1, h1, h2⟩ => by
    simp only [D.imms, Bool.and_eq_true] at i
    exact ⟨v, r, e1, imm_fro e i.1 h1, imms_fros e i.2 h2⟩
end
theorem all_imms : ∀ {ds : List D}, ds.all D.imm = true → D.imms ds = true
  | [], _ => rfl
  | d :: ds, h => by
    simp only [List.all_cons, Bool.and_eq_true] at h
    simp only [D.imms, Bool.and_eq_true]
    exact ⟨h.1, all_imms h.2⟩
theorem safe_own {W : Wd} {Hf Hg H : Hp} {n : Nat} {d : D} {v : V} {A : List Addr} (s : d.safe n = true) (e : ∀ a xs, Hf a = some (.tup xs) → Hg a = some (.tup xs)) (h : Own W Hf H n d v A) : Own W Hg H n d v A := by
  cases d with
  | lst ds =>
    simp only [D.safe, Bool.and_eq_true, beq_iff_eq] at s
    obtain ⟨rfl, s⟩ := s
    obtain ⟨p, xs, As, e1, e2, e3, h⟩ := h
    obtain ⟨f, e4⟩ := h.zero
    have := Own.lst1 (W := W) (Hf := Hg) e2 (imms_fros e (all_imms s) f)
    rw [e1, e3, e4]; exact this
  | dct t ks ds =>
    simp only [D.safe, Bool.and_eq_true, beq_iff_eq] at s
    obtain ⟨rfl, s⟩ := s
    obtain ⟨p, us, As, e1, e2, e3, h⟩ := h
    obtain ⟨f, e4⟩ := h.zero
    exact ⟨p, us, _, e1, e2, by rw [e3, e4, flat_nils], All3.of_fros (imms_fros e (all_imms s) f)⟩
  | non => cases n <;> exact ⟨h.1, imm_fro e s h.2⟩
  | bl _ => cases n <;> exact ⟨h.1, imm_fro e s h.2⟩
  | int _ => cases n <;> exact ⟨h.1, imm_fro e s h.2⟩
  | str _ => cases n <;> exact ⟨h.1, imm_fro e s h.2⟩
  | tup _ => cases n <;> exact ⟨h.1, imm_fro e s h.2⟩
  | ro _ _ => simp [D.safe, D.imm] at s
  | obj _ _ => simp [D.safe, D.imm] at s
end GL

/-! GL3: a def's state; readings of expressions. -/
namespace GL
open PySem L2 PyProof.Rows

open Classical in
/-- the heap without what is owned -/
noncomputable def hid (H : Hp) (T : Addr → Prop) : Hp := fun a => if T a then none else H a
theorem hid_ex {H H' : Hp} {T : Addr → Prop} (e : Ex H H') : Ex (hid H T) (hid H' T) := fun a o h => by
  unfold hid at h ⊢
  by_cases t : T a
  · rw [if_pos t] at h; cases h
  · rw [if_neg t] at h ⊢; exact e a o h
theorem hid_le {H : Hp} {T T' : Addr → Prop} (s : ∀ a, T a → T' a) : Ex (hid H T') (hid H T) := fun a o h => by
  unfold hid at h ⊢
  by_cases t : T' a
  · rw [if_pos t] at h; cases h
  · rw [if_neg t] at h; rw [if_neg fun z => t (s a z)]; exact h
theorem hid_full {H : Hp} {T : Addr → Prop} : Ex (hid H T) H := fun a o h => by
  unfold hid at h
  by_cases t : T a
  · rw [if_pos t] at h; cases h
  · rw [if_neg t] at h; exact h
theorem hid_at {H : Hp} {T : Addr → Prop} {a : Addr} (t : ¬ T a) : hid H T a = H a := by unfold hid; rw [if_neg t]
theorem hid_not {H : Hp} {T : Addr → Prop} {a : Addr} {o : HO} (h : hid H T a = some o) : ¬ T a ∧ H a = some o := by
  unfold hid at h
  by_cases t : T a
  · rw [if_pos t] at h; cases h
  · rw [if_neg t] at h; exact ⟨t, h⟩

/-- a def's run: the heap at its start, what it must leave alone, what it was handed to change -/
structure Ac where
  H0 : Hp
  S : Addr → Prop
  A0 : List Addr
  Hf : Hp
def tot (ac : Ac) (As : List (List Addr)) : Addr → Prop := fun a => ac.S a ∨ a ∈ As.flatten
structure StOk (W : Wd) (ac : Ac) (H : Hp) (σ : L2.St) (Γ : Env) (As : List (List Addr)) : Prop where
  len : As.length = Γ.length
  len2 : σ.length = Γ.length
  pres : ∀ a o, a ∉ ac.A0 → ac.H0 a = some o → H a = some o
  nd : As.flatten.Nodup
  own : ∀ p ∈ As.flatten, (p ∈ ac.A0 ∨ ac.H0 p = none) ∧ ¬ ac.S p
  frn : ∀ a, ac.S a → ∃ o, H a = some o
  slot : ∀ (i : Nat) (d : D) (n : Nat), Γ[i]? = some (some (d, n)) → ∃ v A, σ[i]? = some (some v) ∧ As[i]? = some A ∧ Own W (hid H (tot ac As)) H n d v A
  bare : ∀ (i : Nat) (A : List Addr), Γ[i]? = some none → As[i]? = some A → A = []
  a0 : ∀ a ∈ ac.A0, ∃ o, H a = some o
  fz : Ex ac.Hf (hid H (tot ac As))
  fb : Ex W.bf ac.Hf
  pin : ∀ i v, W.pn i = some v → σ[i]? = some (some v)
section
variable {W : Wd} {ac : Ac} {H H' : Hp} {σ : L2.St} {Γ : Env} {As : List (List Addr)}
theorem StOk.mono (s : StOk W ac H σ Γ As) (e : Ex H H') : StOk W ac H' σ Γ As where
  len := s.len
  len2 := s.len2
  pres := fun a o n h => e a o (s.pres a o n h)
  nd := s.nd
  own := s.own
  frn := fun a h => let ⟨o, q⟩ := s.frn a h; ⟨o, e a o q⟩
  slot := fun i d n h => let ⟨v, A, h1, h2, h3⟩ := s.slot i d n h; ⟨v, A, h1, h2, h3.mono (hid_ex e) fun p _ o q => e p o q⟩
  bare := s.bare
  a0 := fun a h => let ⟨o, q⟩ := s.a0 a h; ⟨o, e a o q⟩
  fz := s.fz.trans (hid_ex e)
  fb := s.fb
  pin := s.pin
theorem StOk.thereA (s : StOk W ac H σ Γ As) {i : Nat} {A : List Addr} (hA : As[i]? = some A) : ∀ p ∈ A, ∃ o, H p = some o ∧ isTup o = false := by
  intro p hp
  have hi : i < Γ.length := by rw [← s.len]; exact (List.getElem?_eq_some_iff.mp hA).1
  cases hg : Γ[i]? with
  | none => rw [List.getElem?_eq_none_iff] at hg; omega
  | some sl =>
    cases sl with
    | none => rw [s.bare i A hg hA] at hp; cases hp
    | some dn =>
      obtain ⟨d, n⟩ := dn
      obtain ⟨v, A', h1, h2, h3⟩ := s.slot i d n hg
      rw [hA] at h2; cases h2
      exact h3.there p hp
theorem StOk.thereF (s : StOk W ac H σ Γ As) : ∀ p ∈ As.flatten, ∃ o, H p = some o ∧ isTup o = false := fun p hp => by
  obtain ⟨A, hA, hp⟩ := List.mem_flatten.mp hp
  obtain ⟨i, hi, e⟩ := List.getElem_of_mem hA
  exact s.thereA (i := i) (by rw [List.getElem?_eq_getElem hi, e]) p hp
theorem StOk.there (s : StOk W ac H σ Γ As) {a : Addr} (h : tot ac As a) : ∃ o, H a = some o := by
  rcases h with h | h
  · exact s.frn a h
  · obtain ⟨o, q, _⟩ := s.thereF a h; exact ⟨o, q⟩
theorem StOk.nt (s : StOk W ac H σ Γ As) {p : Addr} (h : H p = none) : ¬ tot ac As p := fun t => by
  obtain ⟨o, q⟩ := s.there t
  rw [h] at q; cases q

/-- new things are left alone from now on -/
theorem StOk.ext (s : StOk W ac H σ Γ As) (e : Ex H H') {A : List Addr} (fr : ∀ p ∈ A, H p = none) (th : ∀ p ∈ A, ∃ o, H' p = some o) : StOk W { ac with S := fun a => ac.S a ∨ a ∈ A } H' σ Γ As where
  len := s.len
  len2 := s.len2
  pres := fun a o n h => e a o (s.pres a o n h)
  nd := s.nd
  own := fun p hp => ⟨(s.own p hp).1, fun q => q.elim (s.own p hp).2 fun q => by
    obtain ⟨o, z, _⟩ := s.thereF p hp
    rw [fr p q] at z; cases z⟩
  frn := fun a h => h.elim (fun h => let ⟨o, q⟩ := s.frn a h; ⟨o, e a o q⟩) (th a)
  slot := fun i d n h => let ⟨v, A', h1, h2, h3⟩ := s.slot i d n h
    ⟨v, A', h1, h2, h3.mono (fun a o q => by
      obtain ⟨t, q⟩ := hid_not q
      rw [hid_at]
      · exact e a o q
      · rintro ((z | z) | z)
        · exact t (.inl z)
        · rw [fr a z] at q; cases q
        · exact t (.inr z)) fun p _ o q => e p o q⟩
  bare := s.bare
  a0 := fun a h => let ⟨o, q⟩ := s.a0 a h; ⟨o, e a o q⟩
  fz := s.fz.trans fun a o q => by
    obtain ⟨t, q⟩ := hid_not q
    rw [hid_at]
    · exact e a o q
    · rintro ((z | z) | z)
      · exact t (.inl z)
      · rw [fr a z] at q; cases q
      · exact t (.inr z)
  fb := s.fb
  pin := s.pin

/-- what an expression hands back: read with the state (it may be the state's own), or new -/
def RsB (W : Wd) (T : Addr → Prop) (H' : Hp) (n : Nat) (d : D) (v : V) : Prop := ∃ A, Own W (hid H' T) H' n d v A
def RsF (W : Wd) (T : Addr → Prop) (H H' : Hp) (n : Nat) (d : D) (v : V) : Prop := ∃ A : List Addr, A.Nodup ∧ (∀ p ∈ A, H p = none) ∧ Own W (hid H' fun a => T a ∨ a ∈ A) H' n d v A
def Rs (f : Bool) (W : Wd) (T : Addr → Prop) (H H' : Hp) (n : Nat) (d : D) (v : V) : Prop := match f with
  | true => RsF W T H H' n d v
  | false => RsB W T H' n d v
variable {T : Addr → Prop} {n : Nat} {d : D} {v : V} {f : Bool}
theorem RsF.b (h : RsF W T H H' n d v) : RsB W T H' n d v := let ⟨A, _, _, o⟩ := h; ⟨A, o.mono (hid_le fun a t => Or.inl t) fun _ _ _ q => q⟩
theorem Rs.b (h : Rs f W T H H' n d v) : RsB W T H' n d v := by
  cases f
  · exact h
  · exact RsF.b h
theorem RsB.mono {H2 : Hp} (h : RsB W T H' n d v) (e : Ex H' H2) : RsB W T H2 n d v := let ⟨A, o⟩ := h; ⟨A, o.mono (hid_ex e) fun p _ o q => e p o q⟩
theorem RsB.fro (h : RsB W T H' n d v) : Fro W H' d v := let ⟨A, o⟩ := h; o.fro hid_full fun _ _ _ q => q
theorem RsB.zero (h : RsB W T H' 0 d v) : Fro W (hid H' T) d v := let ⟨A, _, o⟩ := h; o
theorem Rs.zero (h : Rs f W T H H' 0 d v) : Fro W (hid H' T) d v := h.b.zero
theorem Rs.of0 (h : Fro W (hid H' T) d v) : Rs f W T H H' 0 d v := by
  cases f
  · exact ⟨[], rfl, h⟩
  · exact ⟨[], .nil, (fun p hp => by cases hp), rfl, h.mono (hid_le fun a t => Or.elim t id fun z => by cases z)⟩
/-- fixed: it may lie anywhere now -/
theorem Rs.fix (h : Rs f W T H H' n d v) (ht : ∀ a, T a → ∃ o, H a = some o) (z : n = 0 ∨ f = true) : Fro W (hid H' T) d v := by
  rcases z with rfl | rfl
  · exact h.zero
  · obtain ⟨A, nd, fr, o⟩ := h
    refine o.fro (hid_le fun a t => Or.inl t) fun p hp o q => ?_
    rw [hid_at fun t => ?_]
    · exact q
    · obtain ⟨u, hu⟩ := ht p t
      rw [fr p hp] at hu; cases hu
theorem scal_fro {H H' : Hp} (s : d.scal = true) (h : Fro W H d v) : Fro W H' d v := by
  cases d <;> first | exact h | simp [D.scal] at s
/-- a list: where it stands, its items -/
theorem RsB.lst {ds : List D} (h : RsB W T H' n (.lst ds) v) : ∃ p xs, v = .ref p ∧ H' p = some (.lst xs) ∧ Fros W H' ds xs := by
  obtain ⟨p, xs, e1, e2, h⟩ := h.fro
  exact ⟨p, xs, e1, e2, h⟩
/-- .. of fixed things -/
theorem RsB.lst1 {ds : List D} (h : RsB W T H' n (.lst ds) v) (hn : n ≤ 1) : ∃ p xs, v = .ref p ∧ H' p = some (.lst xs) ∧ Fros W (hid H' T) ds xs := by
  match n, hn with
  | 0, _ =>
    obtain ⟨p, xs, e1, e2, h⟩ := h.zero
    exact ⟨p, xs, e1, hid_full _ _ e2, h⟩
  | 1, _ =>
    obtain ⟨A, p, xs, As, e1, e2, e3, h⟩ := h
    exact ⟨p, xs, e1, e2, h.zero.1⟩
theorem RsB.nonc (h : RsB W T H' n d v) (c : (match d with | .lst _ => false | .dct _ _ _ => false | _ => true) = true) : Fro W (hid H' T) d v := by
  obtain ⟨A, o⟩ := h
  cases d <;> first | (cases n <;> exact o.2) | simp at c
theorem RsB.tup {ds : List D} (h : RsB W T H' n (.tup ds) v) : ∃ p xs, v = .ref p ∧ H' p = some (.tup xs) ∧ ¬ T p ∧ Fros W (hid H' T) ds xs := by
  obtain ⟨p, xs, e1, e2, h⟩ := h.nonc rfl
  exact ⟨p, xs, e1, (hid_not e2).2, (hid_not e2).1, h⟩
theorem RsB.int {i : Int} (h : RsB W T H' n (.int i) v) : v = .int i := h.fro
theorem RsB.bl {i : Bool} (h : RsB W T H' n (.bl i) v) : v = .bl i := h.fro
theorem RsB.str {t : Tx} (h : RsB W T H' n (.str t) v) : v = .str (toS t) := h.fro.1
theorem RsB.tok {t : Tx} (h : RsB W T H' n (.str t) v) : tok t := h.fro.2
theorem RsB.non (h : RsB W T H' n .non v) : v = .non := h.fro
/-- what is fixed stays so in a greater heap -/
theorem Rs.tup {ds : List D} {p : Addr} {xs : List V} (h : H p = none) (ht : ∀ a, T a → ∃ o, H a = some o) (f' : Fros W (hid H T) ds xs) {H0 : Hp} (e : Ex H0 H) : Rs f W T H0 (upd H p (.tup xs)) 0 (.tup ds) (.ref p) := by
  refine Rs.of0 ⟨p, xs, rfl, ?_, f'.mono (hid_ex (Ex.new h))⟩
  rw [hid_at, upd_same]
  intro t
  obtain ⟨o, q⟩ := ht p t
  rw [h] at q; cases q
theorem Rs.lst {ds : List D} {p : Addr} {xs : List V} (h : H p = none) (f' : Fros W (hid H T) ds xs) {H0 : Hp} (e : Ex H0 H) : Rs f W T H0 (upd H p (.lst xs)) 1 (.lst ds) (.ref p) := by
  have q : Fros W (hid (upd H p (.lst xs)) fun a => T a ∨ a ∈ [p]) ds xs := f'.mono fun a o z => by
    obtain ⟨t, z⟩ := hid_not z
    have ne : a ≠ p := fun y => by rw [y, h] at z; cases z
    rw [hid_at (fun y => y.elim t fun y => ne (List.mem_singleton.mp y)), upd_ne ne]; exact z
  cases f
  · exact ⟨[p], Own.lst1 upd_same (q.mono (hid_le fun a t => Or.inl t))⟩
  · exact ⟨[p], by simp, fun a ha => by rw [List.mem_singleton.mp ha]; exact e.free h, Own.lst1 upd_same q⟩
theorem Rs.mono {H2 : Hp} (h : Rs f W T H H' n d v) (e : Ex H' H2) (ht : ∀ a, T a → ∃ o, H a = some o) : Rs f W T H H2 n d v := by
  cases f
  · exact RsB.mono h e
  · obtain ⟨A, nd, fr, o⟩ := h
    exact ⟨A, nd, fr, o.mono (hid_ex e) fun p _ o q => e p o q⟩
/-- the start may lie further back -/
theorem Rs.back {H2 : Hp} (h : Rs f W T H2 H' n d v) (e : Ex H H2) : Rs f W T H H' n d v := by
  cases f
  · exact h
  · obtain ⟨A, nd, fr, o⟩ := h
    exact ⟨A, nd, fun p hp => e.free (fr p hp), o⟩
end
/-- an exception of the k-th class with these values -/
def ExR (W : Wd) (Hf : Hp) (k : Nat) (fs : List D) (cls : Value) (od : Option Addr) (H : Hp) : Prop := cls = .ref (W.cls k) ∧ match W.flds k with
  | [] => od = none
  | n :: ns => ∃ dd vs, od = some dd ∧ H dd = some (.xd ((n :: ns).zip vs)) ∧ (n :: ns).length = vs.length ∧ Fros W Hf fs vs
/-- the reading of an expression: the state is known, and what is wanted follows from what the evaluator says -/
def rE (W : Wd) (wx : WX) (σ : L2.St) (H : Hp) (Q : VK) (f : Bool) (T : Addr → Prop) (r : R) : Prop := match r with
  | .ok d n => ∀ v H', Ex H H' → Rs f W T H H' n d v → Q v H'
  | .ex k fs => ∀ cls od H', Ex H H' → ExR W (hid H' T) k fs cls od H' → wx cls od σ H'
  | .bad => False
def tE (W : Wd) (F : Fn) (wx : WX) (c : CE) : TE := fun σ H Q => ∃ ac Γ As, StOk W ac H σ Γ As ∧ rE W wx σ H Q c.fresh (tot ac As) (ev F c Γ)
theorem PE.imp {X : Cx} {e : Expr} {t t' : TE} (h : PE X e t) (i : ∀ σ H Q, t' σ H Q → t σ H Q) : PE X e t' := ⟨fun pins s σ H Q I q => h.run pins s σ H Q I (i σ H Q q)⟩
theorem PT.imp {X : Cx} {e : Expr} {t t' : TT} (h : PT X e t) (i : ∀ σ H Q, t' σ H Q → t σ H Q) : PT X e t' := ⟨fun pins s σ H Q I q => h.run pins s σ H Q I (i σ H Q q)⟩
theorem PW.imp {X : Cx} {e : Expr} {t t' : TT} (h : PW X e t) (i : ∀ σ H Q, t' σ H Q → t σ H Q) : PW X e t' := ⟨fun wh pins s σ H Q I q => h.run wh pins s σ H Q I (i σ H Q q)⟩
theorem PA.imp {X : Cx} {es : List Expr} {t t' : TA} (h : PA X es t) (i : ∀ σ H Q, t' σ H Q → t σ H Q) : PA X es t' := ⟨fun pos pins s σ H Q I q => h.run pos pins s σ H Q I (i σ H Q q)⟩
theorem PS.imp {X : Cx} {e : Stmt} {t t' : TS} (h : PS X e t) (i : ∀ D σ H, t' D σ H → t D σ H) : PS X e t' := ⟨fun pins s σ H D I q => h.run pins s σ H D I (i D σ H q)⟩
theorem PSs.imp {X : Cx} {e : List Stmt} {t t' : TS} (h : PSs X e t) (i : ∀ D σ H, t' D σ H → t D σ H) : PSs X e t' := ⟨fun pins s σ H D I q => h.run pins s σ H D I (i D σ H q)⟩
/-- reading one expression ahead of the rest -/
theorem rE.bind {W : Wd} {F : Fn} {wx : WX} {σ : L2.St} {H : Hp} {c : CE} {ac : Ac} {Γ : Env} {As : List (List Addr)} (s : StOk W ac H σ Γ As) {k : D → Nat → R} {f : Bool} {Q : VK} {P : VK}
    (h : rE W wx σ H Q f (tot ac As) ((ev F c Γ).bind k)) (g : ∀ d n v H', ev F c Γ = .ok d n → Ex H H' → StOk W ac H' σ Γ As → Rs c.fresh W (tot ac As) H H' n d v → rE W wx σ H Q f (tot ac As) (k d n) → P v H') : tE W F wx c σ H P := by
  refine ⟨ac, Γ, As, s, ?_⟩
  cases e : ev F c Γ with
  | ok d n =>
    rw [e] at h
    exact fun v H' x r => g d n v H' e x (s.mono x) r h
  | ex c fs =>
    rw [e] at h
    exact h
  | bad => rw [e] at h; exact h
/-- the end lies further on -/
theorem rE.on {W : Wd} {wx : WX} {σ : L2.St} {H H' : Hp} {f : Bool} {T : Addr → Prop} {r : R} {Q : VK} (h : rE W wx σ H Q f T r) (e : Ex H H') : rE W wx σ H' Q f T r := by
  cases r with
  | ok d n => exact fun v H2 x r => h v H2 (e.trans x) (r.back e)
  | ex k fs => exact fun cls od H2 x r => h cls od H2 (e.trans x) r
  | bad => exact h
end GL

/-! GL4: operations. -/
namespace GL
open PySem L2 PyProof.Rows
/-! ### == -/
mutual
def toPy : D → PyData
  | .non => .none
  | .bl b => .bool b
  | .int i => .int i
  | .str t => .str (toS t)
  | .tup xs => .tuple (toPys xs)
  | .lst xs => .list (toPys xs)
  | _ => .none
def toPys : List D → List PyData
  | [] => []
  | x :: xs => toPy x :: toPys xs
end
mutual
theorem flat_dp {W : Wd} {K : PySem.W.Frag} {H : Hp} : ∀ {d : D} {n : Nat} {v : V}, d.flat n = true → Fro W H d v → Dp K H v (toPy d)
  | .non, _, _, _, h => by cases h; exact .non
  | .bl b, _, _, _, h => by cases h; exact .bl b
  | .int i, _, _, _, h => by cases h; exact .int i
  | .str t, _, _, _, ⟨h, _⟩ => by cases h; exact .str _
  | .tup xs, n, _, f, ⟨a, us, e1, e2, h⟩ => by
    subst e1
    cases n with
    | zero => simp [D.flat] at f
    | succ n => exact .tup (SqT.of e2) (flats_dp (n := n) (by simpa [D.flat] using f) h)
  | .lst xs, n, _, f, ⟨a, us, e1, e2, h⟩ => by
    subst e1
    cases n with
    | zero => simp [D.flat] at f
    | succ n => exact .lst (SqL.of e2) (flats_dp (n := n) (by simpa [D.flat] using f) h)
  | .dct _ _ _, n, _, f, _ => by cases n <;> simp [D.flat] at f
  | .ro _ _, n, _, f, _ => by cases n <;> simp [D.flat] at f
  | .obj _ _, n, _, f, _ => by cases n <;> simp [D.flat] at f
theorem flats_dp {W : Wd} {K : PySem.W.Frag} {H : Hp} : ∀ {ds : List D} {n : Nat} {vs : List V}, D.flats n ds = true → Fros W H ds vs → DpAll K H vs (toPys ds)
  | [], _, _, _, h => by cases h; exact .nil
  | d :: ds, n, _, f, ⟨v, r, e1, h1, h2⟩ => by
    subst e1
    simp only [D.flats, Bool.and_eq_true] at f
    exact .cons (flat_dp f.1 h1) (flats_dp f.2 h2)
end
theorem tok_strOk {t : Tx} (h : tok t) : PyData.strOk (toS t) = true := by
  unfold PyData.strOk
  rw [Array.all_eq_true']
  intro x hx
  exact decide_eq_true (h x (by simpa using hx))
mutual
theorem flat_lay {W : Wd} {H : Hp} : ∀ {d : D} {n : Nat} {v : V}, d.flat n = true → Fro W H d v → (toPy d).canLay0 = true
  | .non, _, _, _, h => rfl
  | .bl b, _, _, _, h => rfl
  | .int i, _, _, _, h => rfl
  | .str t, _, _, _, ⟨_, h⟩ => by simp only [toPy, PyData.canLay0]; exact tok_strOk h
  | .tup xs, n, _, f, ⟨a, us, e1, e2, h⟩ => by
    cases n with
    | zero => simp [D.flat] at f
    | succ n => simp only [toPy, PyData.canLay0]; exact flats_lay (n := n) (by simpa [D.flat] using f) h
  | .lst xs, n, _, f, ⟨a, us, e1, e2, h⟩ => by
    cases n with
    | zero => simp [D.flat] at f
    | succ n => simp only [toPy, PyData.canLay0]; exact flats_lay (n := n) (by simpa [D.flat] using f) h
  | .dct _ _ _, n, _, f, _ => by cases n <;> simp [D.flat] at f
  | .ro _ _, n, _, f, _ => by cases n <;> simp [D.flat] at f
  | .obj _ _, n, _, f, _ => by cases n <;> simp [D.flat] at f
theorem flats_lay {W : Wd} {H : Hp} : ∀ {ds : List D} {n : Nat} {vs : List V}, D.flats n ds = true → Fros W H ds vs → PyData.canLayAll0 (toPys ds) = true
  | [], _, _, _, h => rfl
  | d :: ds, n, _, f, ⟨v, r, e1, h1, h2⟩ => by
    simp only [D.flats, Bool.and_eq_true] at f
    simp only [toPys, PyData.canLayAll0, Bool.and_eq_true]
    exact ⟨flat_lay f.1 h1, flats_lay f.2 h2⟩
end
mutual
theorem flat_dep : ∀ {d : D} {n : Nat}, d.flat n = true → (toPy d).depth ≤ n
  | .non, _, _ => Nat.zero_le _
  | .bl b, _, _ => Nat.zero_le _
  | .int i, _, _ => Nat.zero_le _
  | .str t, _, _ => Nat.zero_le _
  | .tup xs, n, f => by
    cases n with
    | zero => simp [D.flat] at f
    | succ n => simp only [toPy, PyData.depth]; exact Nat.succ_le_succ (flats_dep (n := n) (by simpa [D.flat] using f))
  | .lst xs, n, f => by
    cases n with
    | zero => simp [D.flat] at f
    | succ n => simp only [toPy, PyData.depth]; exact Nat.succ_le_succ (flats_dep (n := n) (by simpa [D.flat] using f))
  | .dct _ _ _, n, f => by cases n <;> simp [D.flat] at f
  | .ro _ _, n, f => by cases n <;> simp [D.flat] at f
  | .obj _ _, n, f => by cases n <;> simp [D.flat] at f
theorem flats_dep : ∀ {ds : List D} {n : Nat}, D.flats n ds = true → PyData.depthAll (toPys ds) ≤ n
  | [], _, _ => Nat.zero_le _
  | d :: ds, n, f => by
    simp only [D.flats, Bool.and_eq_true] at f
    simp only [toPys, PyData.depthAll]
    exact Nat.max_le.mpr ⟨flat_dep f.1, flats_dep f.2⟩
end
theorem flat_shaped {W : Wd} {H : Hp} {d : D} {v : V} (f : d.flat 64 = true) (h : Fro W H d v) : SeqAt.shaped (toPy d) = true := by
  unfold SeqAt.shaped
  rw [flat_lay f h, Bool.true_and]
  exact decide_eq_true (flat_dep f)
theorem beq_toS (a b : Tx) : (toS a == toS b) = decide (a = b) := by
  by_cases e : a = b
  · subst e; simp
  · rw [decide_eq_false e]
    exact beq_eq_false_iff_ne.mpr fun q => e (toS_inj q)
theorem beq_int (a b : Int) : (a == b) = decide (a = b) := by
  by_cases e : a = b
  · subst e; simp
  · rw [decide_eq_false e]; exact beq_eq_false_iff_ne.mpr e
mutual
theorem peq_eqv : ∀ {a b : D} {n m : Nat}, a.flat n = true → b.flat m = true → PyData.eqv (toPy a) (toPy b) = a.peq b
  | .non, b, _, m, _, g => by cases b <;> first | rfl | (cases m <;> simp [D.flat] at g)
  | .bl x, b, _, m, _, g => by cases b <;> first | rfl | (simp only [toPy, PyData.eqv, D.peq]; exact beq_int _ _) | (cases m <;> simp [D.flat] at g)
  | .int x, b, _, m, _, g => by cases b <;> first | rfl | (simp only [toPy, PyData.eqv, D.peq]; exact beq_int _ _) | (cases m <;> simp [D.flat] at g)
  | .str x, b, _, m, _, g => by cases b <;> first | rfl | (simp only [toPy, PyData.eqv, D.peq]; exact beq_toS _ _) | (cases m <;> simp [D.flat] at g)
  | .tup xs, b, n, m, f, g => by
    cases b with
    | tup ys =>
      cases n with
      | zero => simp [D.flat] at f
      | succ n =>
        cases m with
        | zero => simp [D.flat] at g
        | succ m => simp only [toPy, PyData.eqv, D.peq]; exact peqs_eqv (n := n) (m := m) (by simpa [D.flat] using f) (by simpa [D.flat] using g)
    | _ => first | rfl | (cases m <;> simp [D.flat] at g)
  | .lst xs, b, n, m, f, g => by
    cases b with
    | lst ys =>
      cases n with
      | zero => simp [D.flat] at f
      | succ n =>
        cases m with
        | zero => simp [D.flat] at g
        | succ m => simp only [toPy, PyData.eqv, D.peq]; exact peqs_eqv (n := n) (m := m) (by simpa [D.flat] using f) (by simpa [D.flat] using g)
    | _ => first | rfl | (cases m <;> simp [D.flat] at g)
  | .dct _ _ _, _, n, _, f, _ => by cases n <;> simp [D.flat] at f
  | .ro _ _, _, n, _, f, _ => by cases n <;> simp [D.flat] at f
  | .obj _ _, _, n, _, f, _ => by cases n <;> simp [D.flat] at f
theorem peqs_eqv : ∀ {a b : List D} {n m : Nat}, D.flats n a = true → D.flats m b = true → PyData.eqvAll (toPys a) (toPys b) = D.peqs a b
  | [], [], _, _, _, _ => rfl
  | [], _ :: _, _, _, _, _ => rfl
  | _ :: _, [], _, _, _, _ => rfl
  | x :: xs, y :: ys, n, m, f, g => by
    simp only [D.flats, Bool.and_eq_true] at f g
    simp only [toPys, PyData.eqvAll, D.peqs]
    rw [peq_eqv f.1 g.1, peqs_eqv f.2 g.2]
end
theorem any_eqv {n m : Nat} {a : D} (f : a.flat n = true) : ∀ {xs : List D}, D.flats m xs = true → ((toPys xs).any fun z => PyData.eqv z (toPy a)) = xs.any fun z => z.peq a
  | [], _ => rfl
  | x :: xs, g => by
    simp only [D.flats, Bool.and_eq_true] at g
    simp only [toPys, List.any_cons, peq_eqv g.1 f, any_eqv f g.2]
/-! ### flat things -/
theorem scal_flat {W : Wd} {H : Hp} {d : D} {v : V} (s : d.scal = true) (h : Fro W H d v) : flatV v = true := by
  cases d <;> first | (obtain ⟨rfl, _⟩ := h; rfl) | (cases h; rfl) | simp [D.scal] at s
theorem scals_flat {W : Wd} {H : Hp} : ∀ {ds : List D} {vs : List V}, ds.all D.scal = true → Fros W H ds vs → vs.all flatV = true
  | [], _, _, h => by cases h; rfl
  | d :: ds, _, s, ⟨v, r, e1, h1, h2⟩ => by
    subst e1
    simp only [List.all_cons, Bool.and_eq_true] at s ⊢
    exact ⟨scal_flat s.1 h1, scals_flat s.2 h2⟩
theorem scal_eqV {W : Wd} {H : Hp} {d e : D} {v u : V} (s : d.scal = true) (t : e.scal = true) (h : Fro W H d v) (g : Fro W H e u) : eqV v u = d.peq e := by
  cases d <;> first | simp [D.scal] at s | skip
  all_goals (cases e <;> first | simp [D.scal] at t | skip)
  all_goals first | (obtain ⟨rfl, _⟩ := h) | cases h
  all_goals first | (obtain ⟨rfl, _⟩ := g) | cases g
  all_goals first | rfl | (simp only [eqV, D.peq]; first | exact beq_int _ _ | exact beq_toS _ _) | skip
theorem scals_inV {W : Wd} {H : Hp} {d : D} {v : V} (s : d.scal = true) (h : Fro W H d v) : ∀ {ds : List D} {vs : List V}, ds.all D.scal = true → Fros W H ds vs → inV v vs = ds.any fun z => z.peq d
  | [], _, _, g => by cases g; rfl
  | e :: ds, _, t, ⟨u, r, e1, h1, h2⟩ => by
    subst e1
    simp only [List.all_cons, Bool.and_eq_true] at t
    have ih := scals_inV s h t.2 h2
    unfold inV at ih ⊢
    simp only [List.any_cons, ih, scal_eqV t.1 s h1 h]
end GL

/-! GL5: the rules of operations, each with all its kinds; what the evaluator says suffices. -/
namespace L2
open PySem PySem.Spec PyProof.Rows
theorem tuple_mul1 (l : Addr) (items : Array Value) (n : Nat) (dd : Option Addr) (sl : Array (Option Value)) (u : Tok) :
    Meets (Builtin.«tuple.__mul__» ⟨[.ref l, .int 1 u], []⟩) (fun _ R s => s.heap.get? l = some { cls := .type "tuple", dict := dd, data := .seq items n, slots := sl } ∧ R (.ok (.ret (Value.ref l))) s) :=
  .of_wp fun prog w A R s h => by
    obtain ⟨hp, g, d, tk, os⟩ := s
    obtain ⟨hl, h⟩ := h
    have f1 := AutoSeq1.idx_int
    have c0 : (decide ((1 : Int) < -(2 ^ 63)) || decide ((1 : Int) ≥ 2 ^ 63)) = false := by decide
    have c1 : (items.isEmpty || (1 : Int) == 1) = true := by simp
    wp_walk using wpAny_loadPart' hl
    exact ⟨_, rfl, h⟩
def rRep1 (K : PySem.W.Frag) : R2 := fun x y H Q => ∃ l xs, x = .ref l ∧ y = .int 1 ∧ SqT K H l xs ∧ Q (.ref l) H
theorem op_rep1 {X : Cx} : OpR X (binaryOp .Mult) (rRep1 X.K) := by
  intro pins s σ H x y v u Q I rx ry h
  obtain ⟨l, xs, rfl, rfl, hT, q⟩ := h
  cases rx
  obtain ⟨t, rfl⟩ := ry
  obtain ⟨its, r, ⟨⟨cls, dd, data, sl⟩, ho, hc, n, hd⟩, hs⟩ := I.tuple hT
  simp only at hc hd
  subst hc hd
  refine wpAny_binaryOp_repeat_ref (T := "tuple") (U := "int") (by decide) ⟨_, ho, rfl⟩ (fun s' => typeIs_int s' 1 t) noFill_tuple_mul F.fills_int_mul F.slot_int_rmul repeat_tuple F.slot_int_index.lookup
    (call_meets F.slot_int_rmul (typeIs_int s 1 t) F.entry_int_rmul (F.args_int_rmul_2 _ _) (int_rmul_tuple 1 t l its.toArray n dd sl)
      ⟨ho, rfl, ⟨_, ho, rfl⟩, call_meets F.slot_tuple_mul ⟨_, ho, rfl⟩ F.entry_tuple_mul (F.args_tuple_mul_2 _ _) (tuple_mul1 l its.toArray n dd sl t) ⟨ho, ?_⟩⟩)
  exact ⟨.ref l, _, I, rfl, q⟩
end L2
namespace GL
open PySem L2 PyProof.Rows
def opB : Op → Operator
  | .add => .Add | .sub => .Sub | .mul => .Mult | .fdiv => .FloorDiv | .mod => .Mod | .pow => .Pow
/-- a text so many times -/
def rRepS : R2 := fun x y H Q => ∃ i k, x = .str i ∧ y = .int k ∧ (2 ≤ k ∧ k ≤ 1000) ∧ (1 ≤ i.length ∧ i.length ≤ 1000) ∧ Q (.str ⟨(List.replicate k.toNat i.cps).foldl (· ++ ·) #[]⟩) H
theorem size_rep (c : Array Nat) : ∀ (k : Nat) (a : Array Nat), ((List.replicate k c).foldl (· ++ ·) a).size = a.size + k * c.size
  | 0, a => by simp
  | k + 1, a => by
    rw [List.replicate_succ, List.foldl_cons, size_rep c k, Array.size_append, Nat.add_mul]; omega
theorem op_repS {X : Cx} : OpR X (binaryOp .Mult) rRepS := by
  intro pins s σ H x y v u Q I rx ry h
  obtain ⟨i, k, rfl, rfl, ⟨k1, k2⟩, ⟨z1, z2⟩, q⟩ := h
  obtain ⟨t, rfl⟩ := rx
  obtain ⟨t', rfl⟩ := ry
  have e1 : (k == 1 || i.length == 0) = false := by
    simp only [Bool.or_eq_false_iff, beq_eq_false_iff_ne]
    omega
  have hb : i.length * k.toNat ≤ 1000 * 1000 := Nat.mul_le_mul z2 (by omega)
  refine P.mul_str (by simp only [Bool.or_eq_false_iff, decide_eq_false_iff_not]; omega) (fun _ _ => ?_) (fun _ _ => ?_) ?_
  · have : (1000 : Int) ≤ (2 ^ 63 - 1) / k := by
      rw [Int.le_ediv_iff_mul_le (by omega)]; omega
    omega
  · unfold Builtin.Str.tooLong
    rw [sizeLine_eq]
    exact decide_eq_false (by omega)
  · rw [if_neg (by omega), e1]
    refine ⟨?_, ?_⟩
    · show ((List.replicate k.toNat i.cps).foldl (· ++ ·) #[]).size ≤ sizeLine
      rw [size_rep, sizeLine_eq]
      have hi : i.cps.size = i.length := rfl
      have hc : k.toNat * i.length = i.length * k.toNat := Nat.mul_comm _ _
      rw [hi, hc, Array.size_empty]
      omega
    · exact ⟨.str _, H, I.tok _, ⟨_, rfl⟩, q⟩
def rBin (K : PySem.W.Frag) : Op → R2
  | .add => fun x y H Q => rI0 (fun i j => .int (i + j)) x y H Q ∨ (∃ i j, x = .str i ∧ y = .str j ∧ i.length + j.length ≤ sizeLine ∧ Q (.str (i ++ j)) H) ∨ rCatA K x y H Q ∨ rCat x y H Q
  | .sub => rI0 fun i j => .int (i - j)
  | .mul => fun x y H Q => rI CMul (fun i j => .int (i * j)) x y H Q ∨ rRep1 K x y H Q ∨ rRepT K x y H Q ∨ rRepS x y H Q
  | .fdiv => rI CDiv fun i j => .int (i / j)
  | .mod => rI (fun _ j => 0 < j) fun i j => .int (i % j)
  | .pow => rI CPow fun i j => .int (i ^ j.toNat)
theorem op_bin {X : Cx} : ∀ o : Op, OpR X (binaryOp (opB o)) (rBin X.K o)
  | .add => op_add.or (op_add_str.or (op_catA.or op_cat))
  | .sub => op_sub
  | .mul => op_mul.or (op_rep1.or (op_repT.or op_repS))
  | .fdiv => op_fdiv
  | .mod => op_mod
  | .pow => op_pow
theorem line_eq : sizeLine = LINE := by rw [sizeLine_eq]
theorem toS_app (a b : Tx) : toS a ++ toS b = toS (a ++ b) := by
  refine Str.ext' ?_
  show (toS a).cps ++ (toS b).cps = _
  simp
theorem tok_app {a b : Tx} (h : tok a) (g : tok b) : tok (a ++ b) := fun c hc => (List.mem_append.mp hc).elim (h c) (g c)
theorem rep_toS (a : Tx) : ∀ (k : Nat) (b : Tx), (⟨(List.replicate k (toS a).cps).foldl (· ++ ·) (toS b).cps⟩ : Str) = toS (b ++ (List.replicate k a).flatten)
  | 0, b => by simp
  | k + 1, b => by
    rw [List.replicate_succ, List.foldl_cons, List.replicate_succ, List.flatten_cons, ← List.append_assoc, ← rep_toS a k (b ++ a), ← toS_app]; rfl
theorem tok_rep {a : Tx} (h : tok a) : ∀ k : Nat, tok (List.replicate k a).flatten
  | 0 => fun c hc => by cases hc
  | k + 1 => by rw [List.replicate_succ, List.flatten_cons]; exact tok_app h (tok_rep h k)
section
variable {W : Wd} {wx : WX} {σ : L2.St} {H : Hp} {Q : VK} {T : Addr → Prop} {x y : V} {d e : D} {n m : Nat} {f : Bool}
theorem rE.int {i : Int} {k : Nat} (h : rE W wx σ H Q f T (.ok (.int i) 0)) : Q (.int i) H := h _ _ (Ex.refl H) (Rs.of0 rfl)
theorem rE.bl {i : Bool} (h : rE W wx σ H Q f T (.ok (.bl i) 0)) : Q (.bl i) H := h _ _ (Ex.refl H) (Rs.of0 rfl)
theorem rE.str {t : Tx} (h : rE W wx σ H Q f T (.ok (.str t) 0)) (k : tok t) : Q (.str (toS t)) H := h _ _ (Ex.refl H) (Rs.of0 ⟨rfl, k⟩)
theorem fros_rep {W : Wd} {H : Hp} {ds : List D} {vs : List V} (h : Fros W H ds vs) : ∀ k : Nat, Fros W H (List.replicate k ds).flatten (List.replicate k vs).flatten
  | 0 => rfl
  | k + 1 => by
    rw [List.replicate_succ, List.replicate_succ, List.flatten_cons, List.flatten_cons]
    exact h.append (fros_rep h k)
theorem bin_ok {K : PySem.W.Frag} {o : Op} (ht : ∀ a, T a → ∃ o, H a = some o) (hx : RsB W T H n d x) (hy : RsB W T H m e y) (h : rE W wx σ H Q f T (opBin o d n e m)) : rBin K o x y H Q := by
  cases o <;> cases d <;> cases e <;> simp only [opBin] at h <;> first | exact h.elim | skip
  · rw [hx.int, hy.int]; exact .inl ⟨_, _, rfl, rfl, rE.int (k := 0) h⟩
  · rw [hx.str, hy.str]
    split at h
    · refine .inr (.inl ⟨_, _, rfl, rfl, by rw [toS_len, toS_len, line_eq]; assumption, ?_⟩)
      rw [toS_app]; exact rE.str h (tok_app hx.tok hy.tok)
    · exact h.elim
  · split at h
    · rename_i xs ys hz
      obtain ⟨p, us, rfl, hp, tp, fu⟩ := hx.tup
      obtain ⟨q, ws, rfl, hq, tq, fw⟩ := hy.tup
      refine .inr (.inr (.inl ⟨p, q, us, ws, rfl, rfl, SqT.of hp, SqT.of hq, by rw [← fu.length, ← fw.length, line_eq]; assumption, fun e => ?_, fun _ e => ?_, fun _ _ r hr => ?_⟩))
      · subst e
        have : xs = [] := List.eq_nil_of_length_eq_zero fu.length
        subst this
        exact h _ _ (Ex.refl H) (Rs.of0 ⟨q, ws, rfl, by rw [hid_at tq]; exact hq, fw⟩)
      · subst e
        have : ys = [] := List.eq_nil_of_length_eq_zero fw.length
        subst this
        refine h _ _ (Ex.refl H) (Rs.of0 ⟨p, us, rfl, by rw [hid_at tp]; exact hp, by rw [List.append_nil]; exact fu⟩)
      · exact h _ _ (Ex.new hr) (Rs.tup hr ht (fu.append fw) (Ex.refl H))
    · exact h.elim
  · split at h
    · rename_i xs ys hz
      obtain ⟨p, us, rfl, hp, fu⟩ := hx.lst1 hz.1
      obtain ⟨q, ws, rfl, hq, fw⟩ := hy.lst1 hz.2.1
      exact .inr (.inr (.inr ⟨p, q, us, ws, rfl, rfl, hp, hq, by rw [← fu.length, ← fw.length, line_eq]; exact hz.2.2, fun r hr => h _ _ (Ex.new hr) (Rs.lst hr (fu.append fw) (Ex.refl H))⟩))
    · exact h.elim
  · rw [hx.int, hy.int]; exact ⟨_, _, rfl, rfl, rE.int (k := 0) h⟩
  · split at h
    · rename_i i j hm
      rw [hx.int, hy.int]
      refine .inl ⟨_, _, rfl, rfl, ?_, rE.int (k := 0) h⟩
      simp only [mulOk, Bool.or_eq_true, Bool.and_eq_true, decide_eq_true_eq] at hm
      rcases hm with q | q
      · exact .inr q
      · exact .inl q
    · exact h.elim
  · split at h
    · rename_i a k hz
      rw [hx.str, hy.int]
      have tk := hx.tok
      refine .inr (.inr (.inr ⟨toS a, k, rfl, rfl, hz.1, by rw [toS_len]; exact hz.2, ?_⟩))
      have e := rep_toS a k.toNat []
      have e2 : (toS ([] : Tx)).cps = #[] := rfl
      rw [e2, List.nil_append] at e
      rw [e]
      exact h _ _ (Ex.refl H) (Rs.of0 ⟨rfl, tok_rep tk _⟩)
    · exact h.elim
  · split at h
    · rename_i xs k hz
      obtain ⟨h1, h2, h3, h4⟩ := hz
      obtain ⟨p, us, rfl, hp, tp, fu⟩ := hx.tup
      rw [hy.int]
      by_cases hk : k = 1
      · subst hk
        refine .inr (.inl ⟨p, us, rfl, rfl, SqT.of hp, h _ _ (Ex.refl H) (Rs.of0 ⟨p, us, rfl, by rw [hid_at tp]; exact hp, ?_⟩)⟩)
        simpa using fu
      · refine .inr (.inr (.inl ⟨p, k, us, rfl, rfl, SqT.of hp, fun e => ?_, by omega, h2, by rw [← fu.length]; exact h4, fun r hr => h _ _ (Ex.new hr) (Rs.tup hr ht (fros_rep fu k.toNat) (Ex.refl H))⟩))
        subst e
        exact h3 (List.eq_nil_of_length_eq_zero fu.length)
    · exact h.elim
  · split at h
    · rw [hx.int, hy.int]; rename_i hc; exact ⟨_, _, rfl, rfl, hc, rE.int (k := 0) h⟩
    · exact h.elim
  · split at h
    · rw [hx.int, hy.int]; rename_i hc; exact ⟨_, _, rfl, rfl, hc, rE.int (k := 0) h⟩
    · exact h.elim
  · split at h
    · rw [hx.int, hy.int]; rename_i hc; exact ⟨_, _, rfl, rfl, hc, rE.int (k := 0) h⟩
    · exact h.elim
end
/-! ### comparisons -/
def opC : Cm → CmpOp
  | .eq => .Eq | .ne => .NotEq | .lt => .Lt | .le => .LtE | .gt => .Gt | .ge => .GtE | .is_ => .Is | .isnot => .IsNot | .in_ => .In | .notin => .NotIn
def rDin (neg : Bool) : R2 := fun y x H Q => ∃ a o, x = .ref a ∧ DGet H a y o ∧ Q (.bl (if neg then !o.isSome else o.isSome)) H
theorem op_din {X : Cx} (hu : X.A.units + 1 < cLine) : OpR X (compareOp .In) (rDin false) := by
  intro pins s σ H y x v u Q I ry rx h
  obtain ⟨a, o, ex, g, q⟩ := h
  subst ex
  obtain rfl : u = Value.ref a := rx
  exact d_in hu I g ry fun s3 I3 => ⟨.bl o.isSome, H, I3, rfl, q⟩
theorem op_dnotin {X : Cx} (hu : X.A.units + 1 < cLine) : OpR X (compareOp .NotIn) (rDin true) := by
  intro pins s σ H y x v u Q I ry rx h
  obtain ⟨a, o, ex, g, q⟩ := h
  subst ex
  obtain rfl : u = Value.ref a := rx
  exact d_notIn hu I g ry fun s3 I3 => ⟨.bl (!o.isSome), H, I3, rfl, q⟩
def rSt (g : Str → Str → Bool) : R2 := fun x y H Q => ∃ i j, x = .str i ∧ y = .str j ∧ Q (.bl (g i j)) H
def rSign (neg : Bool) : R2 := fun x y H Q => ∃ (c : Nat) (z : Str), x = .str ⟨#[c]⟩ ∧ y = .str z ∧ Q (.bl (if neg then !decide (c ∈ z.cps.toList) else decide (c ∈ z.cps.toList))) H
def rCm (K : PySem.W.Frag) : Cm → R2
  | .eq => rEqD K
  | .ne => rNeD K
  | .lt => fun x y H Q => rI0 (fun i j => .bl (decide (i < j))) x y H Q ∨ rSt (fun i j => decide (i.cps.toList < j.cps.toList)) x y H Q
  | .le => fun x y H Q => rI0 (fun i j => .bl (decide (i ≤ j))) x y H Q ∨ rSt (fun i j => !decide (j.cps.toList < i.cps.toList)) x y H Q
  | .gt => fun x y H Q => rI0 (fun i j => .bl (decide (j < i))) x y H Q ∨ rSt (fun i j => decide (j.cps.toList < i.cps.toList)) x y H Q
  | .ge => fun x y H Q => rI0 (fun i j => .bl (decide (j ≤ i))) x y H Q ∨ rSt (fun i j => !decide (i.cps.toList < j.cps.toList)) x y H Q
  | .is_ => fun x y H Q => (y = .non ∧ Q (.bl (decide (x = .non))) H) ∨ ∃ a b, x = .bl a ∧ y = .bl b ∧ Q (.bl (decide (a = b))) H
  | .isnot => fun x y H Q => (y = .non ∧ Q (.bl (!decide (x = .non))) H) ∨ ∃ a b, x = .bl a ∧ y = .bl b ∧ Q (.bl (!decide (a = b))) H
  | .in_ => fun x y H Q => rSign false x y H Q ∨ rInD K x y H Q ∨ rIn K false x y H Q ∨ rDin false x y H Q
  | .notin => fun x y H Q => rSign true x y H Q ∨ rNotInD K x y H Q ∨ rIn K true x y H Q ∨ rDin true x y H Q
theorem op_cm {X : Cx} (hu : X.A.units + 65 < cLine) : ∀ o : Cm, OpR X (compareOp (opC o)) (rCm X.K o)
  | .eq => op_eqD (by omega)
  | .ne => op_neD (by omega)
  | .lt => op_lt.or op_lt_str
  | .le => op_le.or op_le_str
  | .gt => op_gt.or op_gt_str
  | .ge => op_ge.or op_ge_str
  | .is_ => op_isN.or op_is_bl
  | .isnot => op_notN.or op_isnot_bl
  | .in_ => op_in_sign.or ((op_inD hu).or (op_in_seq.or (op_din (by omega))))
  | .notin => op_notIn_sign.or ((op_notInD hu).or (op_notIn_seq.or (op_dnotin (by omega))))
theorem fro_non {W : Wd} {H : Hp} {d : D} {x : V} (hx : Fro W H d x) (ho : d.isObj = false) : decide (x = .non) = d.isNon := by
  cases d with
  | non => cases hx; rfl
  | bl _ => cases hx; rfl
  | int _ => cases hx; rfl
  | str _ => obtain ⟨rfl, _⟩ := hx; rfl
  | tup _ => obtain ⟨a, xs, rfl, _⟩ := hx; rfl
  | lst _ => obtain ⟨a, xs, rfl, _⟩ := hx; rfl
  | dct _ _ _ => obtain ⟨a, xs, rfl, _⟩ := hx; rfl
  | ro _ _ => obtain ⟨a, xs, rfl, _⟩ := hx; rfl
  | obj c ds => cases ho
/-! ### dicts: what stands under a key -/
theorem key_of_D {W : Wd} {H : Hp} {k : D} {y : V} (hk : isKey k = true) (hy : Fro W H k y) : ∃ kk : Key, y = kV kk ∧ keyD kk = k ∧ ktok kk := by
  cases k with
  | int i => cases hy; exact ⟨.inl i, rfl, rfl, trivial⟩
  | str t => obtain ⟨rfl, h⟩ := hy; exact ⟨.inr (toS t), rfl, rfl, h⟩
  | _ => simp [isKey] at hk
theorem keys_of_D {W : Wd} {H : Hp} : ∀ {ks : List D} {ys : List V}, ks.all isKey = true → Fros W H ks ys → ∃ kk : List Key, ys = kk.map kV ∧ kk.map keyD = ks ∧ ∀ k ∈ kk, ktok k
  | [], _, _, h => by cases h; exact ⟨[], rfl, rfl, fun _ h => by cases h⟩
  | k :: ks, _, a, ⟨v, r, e1, h1, h2⟩ => by
    subst e1
    simp only [List.all_cons, Bool.and_eq_true] at a
    obtain ⟨k1, e1, e2, e3⟩ := key_of_D a.1 h1
    obtain ⟨kk, q1, q2, q3⟩ := keys_of_D a.2 h2
    exact ⟨k1 :: kk, by rw [e1, q1]; rfl, by rw [← e2, ← q2]; rfl, fun k hk => (List.mem_cons.mp hk).elim (fun e => by rw [e]; exact e3) (q3 k)⟩
theorem map_keyD_inj : ∀ {a b : List Key}, a.map keyD = b.map keyD → a = b
  | [], [], _ => rfl
  | [], _ :: _, h => by cases h
  | _ :: _, [], h => by cases h
  | x :: a, y :: b, h => by
    simp only [List.map_cons, List.cons.injEq] at h
    rw [keyD_inj h.1, map_keyD_inj h.2]
theorem dlook_val {κ : Type} [DecidableEq κ] {g : κ → D} (inj : ∀ a b, g a = g b → a = b) (k : κ) : ∀ {kk : List κ} {ds : List D} {us : List V}, kk.length = us.length → ds.length = us.length → ∀ {P : D → V → Prop}, (∀ (i : Nat) (d : D) (u : V), ds[i]? = some d → us[i]? = some u → P d u) →
    match dlook (g k) (kk.map g) ds with | some d => ∃ u, valV (kk.zip us) k = some u ∧ P d u | none => valV (kk.zip us) k = none
  | [], [], [], _, _, _, _ => rfl
  | a :: kk, d :: ds, u :: us, h1, h2, P, hp => by
    simp only [List.map_cons, dlook, List.zip_cons_cons]
    by_cases e : a = k
    · subst e
      rw [if_pos rfl, valV_pos rfl]
      exact ⟨u, rfl, hp 0 d u rfl rfl⟩
    · rw [if_neg fun q => e (inj _ _ q), valV_neg (show ¬ (a, u).1 = k from e)]
      exact dlook_val inj k (by simpa using h1) (by simpa using h2) fun i d u q1 q2 => hp (i + 1) d u (by simpa using q1) (by simpa using q2)
  | [], _ :: _, [], _, h, _, _ => by simp at h
  | _ :: _, _, [], h, _, _, _ => by simp at h
  | [], _, _ :: _, h, _, _, _ => by simp at h
  | _ :: _, [], _ :: _, _, h, _, _ => by simp at h
/-- a dict that is read, asked for a key -/
theorem dct_get {H : Hp} {a : Addr} {t : Bool} {ks ds : List D} {us : List V} {W : Wd} {Hf : Hp} {k : D} {y : V} (h : DctAt H a t ks us) (hl : ds.length = us.length) (hk : isKeyOf t k = true) (hy : Fro W H k y) {P : D → V → Prop} (hp : ∀ (i : Nat) (d : D) (u : V), ds[i]? = some d → us[i]? = some u → P d u) :
    ∃ o, DGet H a y o ∧ match dlook k ks ds with | some d => ∃ u, o = some u ∧ P d u | none => o = none := by
  cases t with
  | false =>
    obtain ⟨kk, h1, h2, rfl, h4, h5⟩ := h
    obtain ⟨k0, rfl, rfl, _⟩ := key_of_D (show isKey k = true from hk) hy
    exact ⟨_, DGet.k h2, dlook_val (fun _ _ => keyD_inj) k0 h1 hl hp⟩
  | true =>
    obtain ⟨kk, h1, h2, rfl, h4, h5⟩ := h
    have hk : isKeyT k = true := hk
    cases k with
    | tup xs =>
      obtain ⟨b, ys, rfl, hb, hf⟩ := hy
      obtain ⟨kx, rfl, rfl, _⟩ := keys_of_D (show xs.all isKey = true from hk) hf
      refine ⟨_, DGet.t h2 hb, dlook_val (g := fun k : List Key => D.tup (k.map keyD)) (fun a b e => map_keyD_inj (D.tup.inj e)) kx h1 hl hp⟩
    | _ => simp [isKeyT] at hk
section
variable {W : Wd} {wx : WX} {σ : L2.St} {H : Hp} {Q : VK} {T : Addr → Prop} {x y : V} {d e : D} {n m : Nat} {f : Bool}
theorem in_ok {K : PySem.W.Frag} {b neg : Bool} (hK : K = W.K) (hx : Fro W H d x) (hy : Fro W H e y) (h : opIn d e = some b) (hq : Q (.bl (if neg then !b else b)) H) :
    rSign neg x y H Q ∨ (if neg then rNotInD K x y H Q else rInD K x y H Q) ∨ rIn K neg x y H Q ∨ rDin neg x y H Q := by
  subst hK
  cases e with
  | str t =>
    simp only [opIn] at h
    split at h
    · rename_i c
      obtain ⟨rfl, _⟩ := hx
      obtain ⟨rfl, _⟩ := hy
      cases h
      exact .inl ⟨c, toS t, rfl, rfl, hq⟩
    · cases h
  | lst xs =>
    simp only [opIn] at h
    split at h
    · rename_i hc
      simp only [Bool.and_eq_true] at hc
      cases h
      have fl : (D.lst xs).flat 64 = true := by simpa [D.flat] using hc.2
      refine .inr (.inl ?_)
      have q1 := flat_dp (K := W.K) hc.1 hx
      have q2 := flat_dp (K := W.K) fl hy
      simp only [toPy] at q2
      have q4 := flat_shaped fl hy
      simp only [toPy] at q4
      cases neg
      · exact ⟨_, _, q1, q2, flat_shaped hc.1 hx, q4, by rw [any_eqv hc.1 hc.2]; exact hq⟩
      · exact ⟨_, _, q1, q2, flat_shaped hc.1 hx, q4, by rw [any_eqv hc.1 hc.2]; exact hq⟩
    · cases h
  | tup xs =>
    simp only [opIn] at h
    split at h
    · rename_i hc
      simp only [Bool.and_eq_true] at hc
      cases h
      obtain ⟨a, us, rfl, e2, hf⟩ := hy
      exact .inr (.inr (.inl ⟨a, us, rfl, .inr (SqT.of e2), scal_flat hc.1 hx, scals_flat hc.2 hf, by rw [scals_inV hc.1 hx hc.2 hf]; exact hq⟩))
    · cases h
  | ro l xs =>
    simp only [opIn] at h
    split at h
    · rename_i hc
      simp only [Bool.and_eq_true] at hc
      cases h
      obtain ⟨a, us, rfl, e2, hf⟩ := hy
      refine .inr (.inr (.inl ⟨a, us, rfl, ?_, scal_flat hc.1 hx, scals_flat hc.2 hf, by rw [scals_inV hc.1 hx hc.2 hf]; exact hq⟩))
      cases l
      · exact .inr e2
      · exact .inl e2
    · cases h
  | dct t ks vs =>
    simp only [opIn] at h
    split at h
    · rename_i hc
      obtain ⟨a, us, rfl, e2, hf⟩ := hy
      obtain ⟨o, g, ho⟩ := dct_get (Hf := H) e2 hf.length hc hx (P := fun _ _ => True) (fun _ _ _ _ _ => trivial)
      refine .inr (.inr (.inr ⟨a, o, rfl, g, ?_⟩))
      have : o.isSome = b := by
        cases h
        cases hl : dlook d ks vs with
        | none => rw [hl] at ho; simp only at ho; rw [ho]; rfl
        | some z => rw [hl] at ho; obtain ⟨u, hu, _⟩ := ho; rw [hu]; rfl
      rw [this]; exact hq
    · cases h
  | _ => simp [opIn] at h
theorem cm_ok {K : PySem.W.Frag} {o : Cm} {b : Bool} (hK : K = W.K) (hx : Fro W H d x) (hy : Fro W H e y) (h : opCmp o d e = some b) (hq : Q (.bl b) H) : rCm K o x y H Q := by
  cases o with
  | eq =>
    simp only [opCmp] at h
    split at h
    · rename_i hc
      simp only [Bool.and_eq_true] at hc
      cases h
      exact ⟨_, _, flat_dp hc.1 hx, flat_dp hc.2 hy, flat_shaped hc.1 hx, flat_shaped hc.2 hy, by rw [peq_eqv hc.1 hc.2]; exact hq⟩
    · cases h
  | ne =>
    simp only [opCmp] at h
    split at h
    · rename_i hc
      simp only [Bool.and_eq_true] at hc
      cases h
      exact ⟨_, _, flat_dp hc.1 hx, flat_dp hc.2 hy, flat_shaped hc.1 hx, flat_shaped hc.2 hy, by rw [peq_eqv hc.1 hc.2]; exact hq⟩
    · cases h
  | in_ =>
    have := in_ok (neg := false) (Q := Q) hK hx hy (show opIn d e = some b from h) hq
    exact this
  | notin =>
    simp only [opCmp, Option.map_eq_some_iff] at h
    obtain ⟨c, h, rfl⟩ := h
    exact in_ok (neg := true) (Q := Q) hK hx hy h hq
  | is_ =>
    cases e <;> first | (cases d <;> simp only [opCmp] at h <;> cases h; done) | skip
    · cases hy
      cases d <;> simp only [opCmp] at h <;> first | (split at h <;> first | (cases h; done) | skip) | skip
      all_goals
        rename_i ho
        cases h
        exact .inl ⟨rfl, by rw [fro_non hx (by simpa using ho)]; exact hq⟩
    · cases d <;> simp only [opCmp] at h <;> first | (cases h; done) | skip
      cases hx; cases hy; cases h
      exact .inr ⟨_, _, rfl, rfl, hq⟩
  | isnot =>
    cases e <;> first | (cases d <;> simp only [opCmp] at h <;> cases h; done) | skip
    · cases hy
      cases d <;> simp only [opCmp] at h <;> first | (split at h <;> first | (cases h; done) | skip) | skip
      all_goals
        rename_i ho
        cases h
        exact .inl ⟨rfl, by rw [fro_non hx (by simpa using ho)]; exact hq⟩
    · cases d <;> simp only [opCmp] at h <;> first | (cases h; done) | skip
      cases hx; cases hy; cases h
      exact .inr ⟨_, _, rfl, rfl, hq⟩
  | lt =>
    cases d <;> cases e <;> simp only [opCmp] at h <;> first | (cases h; done) | skip
    all_goals cases h
    · cases hx; cases hy; exact .inl ⟨_, _, rfl, rfl, hq⟩
    · obtain ⟨rfl, _⟩ := hx; obtain ⟨rfl, _⟩ := hy; exact .inr ⟨_, _, rfl, rfl, hq⟩
  | le =>
    cases d <;> cases e <;> simp only [opCmp] at h <;> first | (cases h; done) | skip
    all_goals cases h
    · cases hx; cases hy; exact .inl ⟨_, _, rfl, rfl, hq⟩
    · obtain ⟨rfl, _⟩ := hx; obtain ⟨rfl, _⟩ := hy; exact .inr ⟨_, _, rfl, rfl, hq⟩
  | gt =>
    cases d <;> cases e <;> simp only [opCmp] at h <;> first | (cases h; done) | skip
    all_goals cases h
    · cases hx; cases hy; exact .inl ⟨_, _, rfl, rfl, hq⟩
    · obtain ⟨rfl, _⟩ := hx; obtain ⟨rfl, _⟩ := hy; exact .inr ⟨_, _, rfl, rfl, hq⟩
  | ge =>
    cases d <;> cases e <;> simp only [opCmp] at h <;> first | (cases h; done) | skip
    all_goals cases h
    · cases hx; cases hy; exact .inl ⟨_, _, rfl, rfl, hq⟩
    · obtain ⟨rfl, _⟩ := hx; obtain ⟨rfl, _⟩ := hy; exact .inr ⟨_, _, rfl, rfl, hq⟩
end
end GL

/-! GL6: expressions. -/
namespace GL
open PySem L2 PyProof.Rows
/-! ### what a def promises -/
inductive AllO (W : Wd) (Hf H : Hp) : List (D × Nat) → List V → List (List Addr) → Prop
  | nil : AllO W Hf H [] [] []
  | cons {d : D} {n : Nat} {v : V} {A : List Addr} {ds : List (D × Nat)} {vs : List V} {As : List (List Addr)} : Own W Hf H n d v A → AllO W Hf H ds vs As → AllO W Hf H ((d, n) :: ds) (v :: vs) (A :: As)
theorem AllO.len {W : Wd} {Hf H : Hp} {ds : List (D × Nat)} {vs : List V} {As : List (List Addr)} (h : AllO W Hf H ds vs As) : ds.length = vs.length ∧ ds.length = As.length := by
  induction h with
  | nil => exact ⟨rfl, rfl⟩
  | cons _ _ ih => simp [ih.1, ← ih.2]
def pick (vs : List V) : List Nat → List V
  | [] => []
  | i :: r => vs.getD i .non :: pick vs r
def spOf (W : Wd) (io : List Nat) (np : Nat) (sp : List (D × Nat) → RR) : Sp := fun vs H Q E => ∃ (args : List (D × Nat)) (S : Addr → Prop) (As : List (List Addr)),
  vs.length = np ∧ (∀ a, S a → ∃ o, H a = some o) ∧ As.flatten.Nodup ∧ (∀ p ∈ As.flatten, ¬ S p) ∧ AllO W (hid H fun a => S a ∨ a ∈ As.flatten) H args vs As ∧
  match sp args with
  | .ok d n os => ∀ v H' A Bs, (∀ a o, a ∉ As.flatten → H a = some o → H' a = some o) → (∀ a ∈ As.flatten, ∃ o, H' a = some o) → (A ++ Bs.flatten).Nodup → (∀ p ∈ A ++ Bs.flatten, (p ∈ As.flatten ∨ H p = none) ∧ ¬ S p) →
      Own W (hid H' fun a => S a ∨ a ∈ A ++ Bs.flatten) H' n d v A → AllO W (hid H' fun a => S a ∨ a ∈ A ++ Bs.flatten) H' os (pick vs io) Bs → Q v H'
  | .ex k fs => ∀ cls od H', (∀ a o, a ∉ As.flatten → H a = some o → H' a = some o) → ExR W (hid H' S) k fs cls od H' → E cls od H'
  | .bad => False
/-- the name x stands for a def that does sp -/
structure FnAt (X : Cx) (W : Wd) (x : Str) (io : List Nat) (sp : List (D × Nat) → RR) : Prop where
  ex : ∃ k f fd ps, (∀ args, sp args ≠ .bad → args.length = ps.length) ∧ FnOk X.prog X.w X.K X.mg X.base (L2.CX X.prog X.w) k f fd ps (spOf W io ps.length sp) ∧ Room k X.A ∧ X.mg x = some (.ref f) ∧ PySem.W.keepIn X.K (.ref f) = true ∧ Binds X.K fd ps []
/-- arguments that nobody changes, and what comes back -/
def spFr (W : Wd) (sp : List (D × Nat) → RR) (vs : List V) (H : Hp) (Q : VK) : Prop := ∃ (ds : List D) (S : Addr → Prop), (∀ a, S a → ∃ o, H a = some o) ∧ Fros W (hid H S) ds vs ∧ match sp (ds.map fun d => (d, 0)) with
  | .ok d 0 _ => ∀ v H', Ex H H' → Fro W (hid H' S) d v → Q v H'
  | _ => False
def dom (H : Hp) : Addr → Prop := fun a => ∃ o, H a = some o
/-- what is made stands on new ground -/
def spMk (W : Wd) (sp : List (D × Nat) → RR) (vs : List V) (H : Hp) (Q : VK) : Prop := ∃ (ds : List D) (S : Addr → Prop), (∀ a, S a → ∃ o, H a = some o) ∧ Fros W (hid H S) ds vs ∧ match sp (ds.map fun d => (d, 0)) with
  | .ok d 0 _ => ∀ v H', Ex H H' → Fro W (hid H' (dom H)) d v → Q v H'
  | _ => False
/-- the name x stands for a class whose making does sp -/
structure MkAt (X : Cx) (W : Wd) (x : Str) (sp : List (D × Nat) → RR) : Prop where
  ex : ∃ k C f fd ps spi, Mk X.K C f ∧ FnOk X.prog X.w X.K X.mg X.base CX0 k f fd ps spi ∧ Room (k + 1) X.A ∧ X.mg x = some (.ref C) ∧ Binds X.K fd ps [] ∧
    ∀ vs H Q E, spMk W sp vs H Q → ∀ x dx, H x = none → H dx = none → dx ≠ x → spi (.ref x :: vs) (upd (upd H dx (.own x)) x (.ins C dx [])) (fun v H2 => v = .non ∧ Q (.ref x) H2) E
/-- what objects of the kind c do when asked m -/
structure MtAt (X : Cx) (W : Wd) (c : Nat) (m : Str) (sp : List (D × Nat) → RR) : Prop where
  ex : ∃ k C f fd ps spi, Cls X.K C ∧ Meth X.K C m f ∧ FnOk X.prog X.w X.K X.mg X.base CX0 k f fd ps spi ∧ Room k X.A ∧ Binds X.K fd ps [] ∧
    (∀ ds v H, W.OB c ds v H → ∃ a dx fs, v = .ref a ∧ H a = some (.ins C dx fs) ∧ fs.lookup m = none) ∧
    ∀ vs H Q E, spFr W sp vs H Q → spi vs H Q E
theorem spFr_pn {W : Wd} {b : Hp} {q : Nat → Option V} {sp : List (D × Nat) → RR} {vs : List V} {H : Hp} {Q : VK} (h : spFr { W with bf := b, pn := q } sp vs H Q) : spFr W sp vs H Q := by
  obtain ⟨ds, S, h1, h2, h3⟩ := h
  refine ⟨ds, S, h1, fros_pn.mp h2, ?_⟩
  split at h3
  · exact fun v H' e f => h3 v H' e (fro_pn.mpr f)
  · exact h3.elim
theorem spMk_pn {W : Wd} {b : Hp} {q : Nat → Option V} {sp : List (D × Nat) → RR} {vs : List V} {H : Hp} {Q : VK} (h : spMk { W with bf := b, pn := q } sp vs H Q) : spMk W sp vs H Q := by
  obtain ⟨ds, S, h1, h2, h3⟩ := h
  refine ⟨ds, S, h1, fros_pn.mp h2, ?_⟩
  split at h3
  · exact fun v H' e f => h3 v H' e (fro_pn.mpr f)
  · exact h3.elim
theorem MkAt.pn {X : Cx} {W : Wd} {b : Hp} {q : Nat → Option V} {x : Str} {sp : List (D × Nat) → RR} (h : MkAt X W x sp) : MkAt X { W with bf := b, pn := q } x sp := by
  obtain ⟨k, C, f, fd, ps, spi, a1, a2, a3, a4, a5, a6⟩ := h.ex
  exact ⟨k, C, f, fd, ps, spi, a1, a2, a3, a4, a5, fun vs H Q E z => a6 vs H Q E (spMk_pn z)⟩
theorem MtAt.pn {X : Cx} {W : Wd} {b : Hp} {q : Nat → Option V} {c : Nat} {x : Str} {sp : List (D × Nat) → RR} (h : MtAt X W c x sp) : MtAt X { W with bf := b, pn := q } c x sp := by
  obtain ⟨k, C, f, fd, ps, spi, a1, a2, a3, a4, a5, a6, a7⟩ := h.ex
  exact ⟨k, C, f, fd, ps, spi, a1, a2, a3, a4, a5, a6, fun vs H Q E z => a7 vs H Q E (spFr_pn z)⟩
/-! ### argument lists -/
inductive Args (W : Wd) (T : Addr → Prop) (U : List Addr) (H' : Hp) : List (D × Nat × Bool) → List V → List (List Addr) → Prop
  | nil : Args W T U H' [] [] []
  | cons {d : D} {n : Nat} {f : Bool} {v : V} {B : List Addr} {ds : List (D × Nat × Bool)} {vs : List V} {Bs : List (List Addr)} :
      (f = true → Own W (hid H' fun a => T a ∨ a ∈ U) H' n d v B) → (f = false → RsB W T H' n d v ∧ B = []) → Args W T U H' ds vs Bs → Args W T U H' ((d, n, f) :: ds) (v :: vs) (B :: Bs)
structure ArgsR (W : Wd) (T : Addr → Prop) (H H' : Hp) (vs : List (D × Nat × Bool)) (us : List V) : Prop where
  ex : ∃ Bs : List (List Addr), Bs.flatten.Nodup ∧ (∀ p ∈ Bs.flatten, H p = none) ∧ Args W T Bs.flatten H' vs us Bs
section
variable {W : Wd} {T : Addr → Prop} {U : List Addr} {H H' H2 : Hp} {vs : List (D × Nat × Bool)} {us : List V} {Bs : List (List Addr)}
theorem Args.imp {T' : Addr → Prop} {U' : List Addr} (h : Args W T U H' vs us Bs) (e1 : Ex (hid H' fun a => T a ∨ a ∈ U) (hid H2 fun a => T' a ∨ a ∈ U')) (e2 : Ex (hid H' T) (hid H2 T')) (e3 : Ex H' H2) : Args W T' U' H2 vs us Bs := by
  induction h with
  | nil => exact .nil
  | cons a b _ ih => exact .cons (fun z => (a z).mono e1 fun p _ o q => e3 p o q) (fun z => ⟨let ⟨A, o⟩ := (b z).1; ⟨A, o.mono e2 fun p _ o q => e3 p o q⟩, (b z).2⟩) ih
theorem Args.len (h : Args W T U H' vs us Bs) : vs.length = us.length := by
  induction h with
  | nil => rfl
  | cons _ _ _ ih => simp [ih]
theorem Args.rs (h : Args W T U H' vs us Bs) (hU : ∀ p ∈ U, ¬ T p) : Paired (fun (a : D × Nat × Bool) v => RsB W T H' a.2.1 a.1 v) vs us := by
  induction h with
  | nil => exact .nil
  | @cons d n f v B ds vs Bs a b _ ih =>
    refine .cons ?_ ih
    cases f
    · exact (b rfl).1
    · exact ⟨_, (a rfl).mono (hid_le fun a t => Or.inl t) fun _ _ _ q => q⟩
theorem Args.fixed (h : Args W T U H' vs us Bs) (hB : ∀ p ∈ Bs.flatten, ¬ T p) (f : fixed vs = true) : Fros W (hid H' T) (vs.map (·.1)) us := by
  induction h with
  | nil => rfl
  | @cons d n f' v B ds vs Bs a b _ ih =>
    simp only [GL.fixed, List.all_cons, Bool.and_eq_true, Bool.or_eq_true, beq_iff_eq] at f
    refine ⟨v, vs, rfl, ?_, ih (fun p hp => hB p (by simp [List.flatten_cons, hp])) f.2⟩
    cases f'
    · rcases f.1 with z | z
      · have z : n = 0 := z
        subst z
        exact (b rfl).1.zero
      · cases z
    · exact (a rfl).fro (hid_le fun a t => Or.inl t) fun p hp o q => by rw [hid_at (hB p (by simp [List.flatten_cons, hp]))]; exact q
theorem ArgsR.rs (h : ArgsR W T H H' vs us) (ht : ∀ a, T a → ∃ o, H a = some o) : Paired (fun (a : D × Nat × Bool) v => RsB W T H' a.2.1 a.1 v) vs us := by
  obtain ⟨Bs, nd, fr, a⟩ := h.ex
  exact a.rs fun p hp t => by obtain ⟨o, q⟩ := ht p t; rw [fr p hp] at q; cases q
theorem ArgsR.fixed (h : ArgsR W T H H' vs us) (ht : ∀ a, T a → ∃ o, H a = some o) (f : GL.fixed vs = true) : Fros W (hid H' T) (vs.map (·.1)) us := by
  obtain ⟨Bs, nd, fr, a⟩ := h.ex
  exact a.fixed (fun p hp t => by obtain ⟨o, q⟩ := ht p t; rw [fr p hp] at q; cases q) f
theorem ArgsR.len (h : ArgsR W T H H' vs us) : vs.length = us.length := by
  obtain ⟨Bs, nd, fr, a⟩ := h.ex
  exact a.len
/-- all owned m deep: a list of them -/
theorem Args.deep {m : Nat} (h : Args W T U H' vs us Bs) (f : deep (m + 1) vs = true) : All3 (Own W (hid H' fun a => T a ∨ a ∈ U) H' (m + 1)) (vs.map (·.1)) us Bs := by
  induction h with
  | nil => exact .nil
  | @cons d n f' v B ds vs Bs a b _ ih =>
    simp only [GL.deep, List.all_cons, Bool.and_eq_true, decide_eq_true_eq] at f
    obtain ⟨⟨z1, z2⟩, z3⟩ := f
    have z1 : f' = true := z1
    have z2 : n = m + 1 := z2
    subst z2
    exact .cons (a z1) (ih (by simpa [GL.deep] using z3))
end
/-- the reading of an argument list -/
def rA (W : Wd) (wx : WX) (σ : L2.St) (H : Hp) (Q : List V → Hp → Prop) (T : Addr → Prop) (r : RA) : Prop := match r with
  | .ok vs => ∀ us H', Ex H H' → ArgsR W T H H' vs us → Q us H'
  | .ex k fs => ∀ cls od H', Ex H H' → ExR W (hid H' T) k fs cls od H' → wx cls od σ H'
  | .bad => False
def tA (W : Wd) (F : Fn) (wx : WX) (c : CEs) : TA := fun σ H Q => ∃ ac Γ As, StOk W ac H σ Γ As ∧ rA W wx σ H Q (tot ac As) (evA F c Γ)
theorem rs_there {W : Wd} {T : Addr → Prop} {H H' : Hp} {n : Nat} {d : D} {v : V} {A : List Addr} {Hf : Hp} (o : Own W Hf H' n d v A) : ∀ p ∈ A, ∃ o, H' p = some o := fun p hp => let ⟨u, q, _⟩ := o.there p hp; ⟨u, q⟩
theorem pa_ok {X : Cx} {W : Wd} {F : Fn} {wx : WX} {e : Expr} {es : List Expr} {c : CE} {cs : CEs} (he : PE X e (tE W F wx c)) (hs : PA X es (tA W F wx cs)) (hst : starEach (e :: es) X.env = (false, eval e X.env) :: starEach es X.env) :
    PA X (e :: es) (tA W F wx (.cons c cs)) := by
  refine PA.imp (pa_cons he hs hst) fun σ H Q h => ?_
  obtain ⟨ac, Γ, As, s, h⟩ := h
  refine ⟨ac, Γ, As, s, ?_⟩
  simp only [evA] at h
  cases e1 : ev F c Γ with
  | bad => rw [e1] at h; exact h.elim
  | ex k fs => rw [e1] at h; exact h
  | ok d n =>
    rw [e1] at h
    simp only at h
    intro v H1 x1 r1
    -- what is new is left alone
    have key : ∃ A : List Addr, A.Nodup ∧ (∀ p ∈ A, H p = none) ∧ (∀ p ∈ A, ∃ o, H1 p = some o) ∧ (c.fresh = true → Own W (hid H1 fun a => tot ac As a ∨ a ∈ A) H1 n d v A) ∧ (c.fresh = false → RsB W (tot ac As) H1 n d v ∧ A = []) := by
      cases hf : c.fresh with
      | true =>
        rw [hf] at r1
        obtain ⟨A, nd, fr, o⟩ := r1
        exact ⟨A, nd, fr, rs_there (T := tot ac As) (H := H) o, fun _ => o, fun z => by cases z⟩
      | false =>
        rw [hf] at r1
        exact ⟨[], .nil, (fun p hp => by cases hp), (fun p hp => by cases hp), (fun z => by cases z), fun _ => ⟨r1, rfl⟩⟩
    obtain ⟨A, nd, fr, th, o1, o2⟩ := key
    have s1 := s.ext x1 fr th
    have tt : ∀ a, tot { ac with S := fun a => ac.S a ∨ a ∈ A } As a ↔ (tot ac As a ∨ a ∈ A) := fun a => by
      unfold tot
      constructor
      · rintro ((z | z) | z)
        · exact .inl (.inl z)
        · exact .inr z
        · exact .inl (.inr z)
      · rintro ((z | z) | z)
        · exact .inl (.inl z)
        · exact .inr z
        · exact .inl (.inr z)
    refine ⟨_, Γ, As, s1, ?_⟩
    cases e2 : evA F cs Γ with
    | bad => rw [e2] at h; exact h.elim
    | ex k fs =>
      rw [e2] at h
      intro cls od H' x2 ex
      refine h cls od H' (x1.trans x2) ?_
      obtain ⟨z1, z2⟩ := ex
      refine ⟨z1, ?_⟩
      split
      · rename_i q; rw [q] at z2; exact z2
      · rename_i q; rw [q] at z2
        obtain ⟨dd, vs, y1, y2, y3, y4⟩ := z2
        exact ⟨dd, vs, y1, y2, y3, y4.mono (hid_le fun a t => (tt a).mpr (.inl t))⟩
    | ok vs =>
      rw [e2] at h
      intro us H' x2 ar
      refine h (v :: us) H' (x1.trans x2) ?_
      obtain ⟨Bs, nd2, fr2, ar⟩ := ar.ex
      have dis : ∀ p ∈ A, p ∉ Bs.flatten := fun p hp hq => by
        obtain ⟨o, q⟩ := th p hp
        rw [fr2 p hq] at q; cases q
      refine ⟨A :: Bs, ?_, ?_, ?_⟩
      · rw [List.flatten_cons, List.nodup_append]
        exact ⟨nd, nd2, fun a ha b hb e => dis a ha (e ▸ hb)⟩
      · intro p hp
        rw [List.flatten_cons, List.mem_append] at hp
        rcases hp with hp | hp
        · exact fr p hp
        · exact x1.free (fr2 p hp)
      · rw [List.flatten_cons]
        refine .cons (fun z => (o1 z).mono (fun a o q => ?_) fun p _ o q => x2 p o q) (fun z => ⟨(o2 z).1.mono x2, (o2 z).2⟩) (ar.imp ?_ ?_ (Ex.refl H'))
        · obtain ⟨t, q⟩ := hid_not q
          rw [hid_at]
          · exact x2 a o q
          · rintro (z | z)
            · exact t (.inl z)
            · rcases List.mem_append.mp z with z | z
              · exact t (.inr z)
              · rw [fr2 a z] at q; cases q
        · refine hid_le fun a t => ?_
          rcases t with z | z
          · exact .inl ((tt a).mpr (.inl z))
          · rcases List.mem_append.mp z with z | z
            · exact .inl ((tt a).mpr (.inr z))
            · exact .inr z
        · exact hid_le fun a t => (tt a).mpr (.inl t)
theorem pa_nil_ok {X : Cx} {W : Wd} {F : Fn} {wx : WX} : PA X [] (tA W F wx .nil) := by
  refine PA.imp pa_nil fun σ H Q h => ?_
  obtain ⟨ac, Γ, As, s, h⟩ := h
  exact h [] H (Ex.refl H) ⟨⟨[], .nil, (fun p hp => by cases hp), .nil⟩⟩
end GL

/-! GL7: expressions, construct by construct. -/
namespace GL
open PySem L2 PyProof.Rows
/-! ### the text -/
def nstar : Expr → Bool
  | .Starred _ _ => false
  | _ => true
theorem star_cons {e : Expr} {es : List Expr} {env : PySem.Env} (h : nstar e = true) : starEach (e :: es) env = (false, eval e env) :: starEach es env := by
  cases e <;> first | rfl | simp [nstar] at h
theorem star_any : ∀ {es : List Expr} {env : PySem.Env} {pos : Pos}, es.all nstar = true → (backTo pos (starEach es env)).any (·.1) = false
  | [], _, _, _ => rfl
  | e :: es, env, pos, h => by
    simp only [List.all_cons, Bool.and_eq_true] at h
    rw [star_cons h.1]
    have ih := star_any (es := es) (env := env) (pos := pos) h.2
    unfold backTo at ih ⊢
    simp only [List.map_cons, List.any_cons, Bool.false_or]
    exact ih
theorem star_all : ∀ {es : List Expr} {env : PySem.Env} {pos : Pos}, es.all nstar = true → (backTo pos (starEach es env)).all (fun x => !x.1) = true
  | [], _, _, _ => rfl
  | e :: es, env, pos, h => by
    simp only [List.all_cons, Bool.and_eq_true] at h
    rw [star_cons h.1]
    have ih := star_all (es := es) (env := env) (pos := pos) h.2
    unfold backTo at ih ⊢
    simp only [List.map_cons, List.all_cons, Bool.not_false, Bool.true_and]
    exact ih
def nset : Expr → Bool
  | .Set _ _ _ => false
  | _ => true
theorem mark_of {op : CmpOp} {b : Expr} (h : nset b = true) : behindInMarks op b = false := by
  cases b <;> first | rfl | simp [nset] at h
def nslice : Expr → Bool
  | .Slice _ _ _ _ => false
  | _ => true
theorem plainIx {b : Expr} (h : nslice b = true) : PlainIx b := fun o i => by
  cases b <;> first | rfl | simp [nslice] at h
def ncall : Expr → Bool
  | .Call (.Name _ _) [] [] _ => false
  | _ => true
theorem abase {o : Expr} {m : Str} {env : PySem.Env} {whole : Sem Value} (h : ncall o = true) : attributeBase o m env whole = whole := by
  unfold attributeBase
  split
  · simp [ncall] at h
  · rfl
section
variable {X : Cx} {W : Wd} {F : Fn} {wx : WX} {pos : Pos} {a b c : Expr} {ca cb cc : CE}
theorem se_var {i : Nat} {x : Str} (hN : X.N[i]? = some x) (hv : Vis X.env.scope x) (h1 : (x == ("__debug__" : Str)) = false) (h2 : (x == ("__classdict__" : Str)) = false) : PE X (.Name x pos) (tE W F wx (.var i)) := by
  refine PE.imp (pe_var hN hv h1 h2) fun σ H Q h => ?_
  obtain ⟨ac, Γ, As, s, h⟩ := h
  simp only [ev] at h
  split at h
  · rename_i p hp
    obtain ⟨d, n⟩ := p
    obtain ⟨v, A, q1, q2, q3⟩ := s.slot i d n hp
    exact ⟨v, q1, h v H (Ex.refl H) ⟨A, q3⟩⟩
  · exact h.elim
theorem se_cst {v : V} {d : D} (he : PE X a (tC v)) (hd : ∀ H, Fro W H d v) : PE X a (tE W F wx (.cst d)) := by
  refine PE.imp he fun σ H Q h => ?_
  obtain ⟨ac, Γ, As, s, h⟩ := h
  exact h v H (Ex.refl H) (Rs.of0 (hd _))
theorem se_glo {v : V} {x : String} {d : D} (he : PE X a (tC v)) (hd : ∀ H, Fro W H d v) : PE X a (tE W F wx (.glo x d)) := by
  refine PE.imp he fun σ H Q h => ?_
  obtain ⟨ac, Γ, As, s, h⟩ := h
  exact h v H (Ex.refl H) (Rs.of0 (hd _))
theorem se_bin {o : Op} (ha : PE X a (tE W F wx ca)) (hb : PE X b (tE W F wx cb)) : PE X (.BinOp a (opB o) b pos) (tE W F wx (.bin o ca cb)) := by
  refine PE.imp (pe_op (op_bin o) ha hb) fun σ H Q h => ?_
  obtain ⟨ac, Γ, As, s, h⟩ := h
  simp only [ev] at h
  refine rE.bind s h fun d n v H1 e1 x1 s1 r1 h1 => ?_
  refine rE.bind s1 (rE.on h1 x1) fun d2 n2 u H2 e2 x2 s2 r2 h2 => ?_
  exact bin_ok (fun a t => s2.there t) (r1.b.mono x2) r2.b (rE.on h2 x2)
theorem se_neg (ha : PE X a (tE W F wx ca)) : PE X (.UnaryOp .USub a pos) (tE W F wx (.neg ca)) := by
  refine PE.imp (pe_un un_neg ha) fun σ H Q h => ?_
  obtain ⟨ac, Γ, As, s, h⟩ := h
  simp only [ev] at h
  refine rE.bind s h fun d n v H1 e1 x1 s1 r1 h1 => ?_
  split at h1
  · rw [r1.b.int]
    exact ⟨_, rfl, rE.int (k := 0) (rE.on h1 x1)⟩
  · exact h1.elim
theorem rB_ok {σ : L2.St} {H : Hp} {Q : VK} {f : Bool} {T : Addr → Prop} {o : Option Bool} (h : rE W wx σ H Q f T (rB o)) : ∃ b, o = some b ∧ Q (.bl b) H := by
  cases o with
  | none => exact h.elim
  | some b => exact ⟨b, rfl, rE.bl h⟩
theorem cmp_read {o : Cm} {σ : L2.St} {H : Hp} {Q : VK} (hK : X.K = W.K) {ac : Ac} {Γ : Env} {As : List (List Addr)} (s : StOk W ac H σ Γ As) (h : rE W wx σ H Q true (tot ac As) (ev F (.cmp o ca cb) Γ)) : tOp (rCm X.K o) (tE W F wx ca) (tE W F wx cb) σ H Q := by
  simp only [ev] at h
  refine rE.bind s h fun d n v H1 e1 x1 s1 r1 h1 => ?_
  refine rE.bind s1 (rE.on h1 x1) fun d2 n2 u H2 e2 x2 s2 r2 h2 => ?_
  obtain ⟨b, hb, q⟩ := rB_ok (rE.on h2 x2)
  exact cm_ok hK (r1.b.mono x2).fro r2.b.fro hb q
theorem se_cmp {o : Cm} (hK : X.K = W.K) (hu : X.A.units + 65 < cLine) (ha : PE X a (tE W F wx ca)) (hb : PE X b (tE W F wx cb)) (hm : nset b = true) : PE X (.Compare a [opC o] [b] pos) (tE W F wx (.cmp o ca cb)) := by
  refine PE.imp (pe_cmpR (op_cm hu o) ha hb (mark_of hm)) fun σ H Q h => ?_
  obtain ⟨ac, Γ, As, s, h⟩ := h
  exact cmp_read hK s h
theorem chain_read {o p : Cm} {σ : L2.St} {H : Hp} {Q : VK} (hK : X.K = W.K) {ac : Ac} {Γ : Env} {As : List (List Addr)} (s : StOk W ac H σ Γ As) (h : rE W wx σ H Q true (tot ac As) (ev F (.chain o p ca cb cc) Γ)) : tChain (rCm X.K o) (rCm X.K p) (tE W F wx ca) (tE W F wx cb) (tE W F wx cc) σ H Q := by
  simp only [ev] at h
  refine rE.bind s h fun d n v H1 e1 x1 s1 r1 h1 => ?_
  refine rE.bind s1 (rE.on h1 x1) fun d2 n2 u H2 e2 x2 s2 r2 h2 => ?_
  cases e3 : opCmp o d d2 with
  | none => rw [e3] at h2; exact h2.elim
  | some k =>
    rw [e3] at h2
    cases k with
    | false =>
      refine cm_ok hK (r1.b.mono x2).fro r2.b.fro e3 ⟨false, rfl, ?_⟩
      exact iteF (rE.bl (rE.on h2 x2))
    | true =>
      refine cm_ok hK (r1.b.mono x2).fro r2.b.fro e3 ⟨true, rfl, ?_⟩
      refine iteT ?_
      refine rE.bind s2 (rE.on h2 x2) fun d3 n3 w H3 e3 x3 s3 r3 h3 => ?_
      obtain ⟨b, hb, q⟩ := rB_ok (rE.on h3 x3)
      exact cm_ok hK (r2.b.mono x3).fro r3.b.fro hb q
theorem last_of {o p : CmpOp} (h1 : nset c = true) : lastMarks [o, p] [b, c] = false := by
  show behindInMarks p c = false
  exact mark_of h1
theorem se_chain {o p : Cm} (hK : X.K = W.K) (hu : X.A.units + 65 < cLine) (ha : PE X a (tE W F wx ca)) (hb : PE X b (tE W F wx cb)) (hc : PE X c (tE W F wx cc)) (hm : nset c = true) : PE X (.Compare a [opC o, opC p] [b, c] pos) (tE W F wx (.chain o p ca cb cc)) := by
  refine PE.imp (pe_chain (op_cm hu o) (op_cm hu p) ha hb hc (last_of hm)) fun σ H Q h => ?_
  obtain ⟨ac, Γ, As, s, h⟩ := h
  exact chain_read hK s h
/-! ### tests -/
def rT (W : Wd) (wx : WX) (σ : L2.St) (H : Hp) (Q : Bool → Hp → Prop) (T : Addr → Prop) (r : R) : Prop := match r with
  | .ok (.bl b) _ => ∀ H', Ex H H' → Q b H'
  | .ex k fs => ∀ cls od H', Ex H H' → ExR W (hid H' T) k fs cls od H' → wx cls od σ H'
  | _ => False
def tTs (W : Wd) (F : Fn) (wx : WX) (c : CE) : TT := fun σ H Q => ∃ ac Γ As, StOk W ac H σ Γ As ∧ rT W wx σ H Q (tot ac As) (ev F c Γ)
/-- the test's wish as an expression's -/
theorem rT.e {σ : L2.St} {H : Hp} {Q : Bool → Hp → Prop} {f : Bool} {T : Addr → Prop} {r : R} (h : rT W wx σ H Q T r) : rE W wx σ H (fun x H' => ∃ k, x = .bl k ∧ Q k H') f T r := by
  cases r with
  | ok d n =>
    cases d <;> first | exact h.elim | skip
    exact fun v H' x r => ⟨_, r.b.bl, h H' x⟩
  | ex k fs => exact h
  | bad => exact h
theorem st_val {e : Expr} {ce : CE} (h : PE X e (tE W F wx ce)) (he : ∀ whole, isTrue e X.env whole = (do let v ← whole; standAt e.pos; holding [v] (truthy v))) : PT X e (tTs W F wx ce) := by
  refine PT.imp (pt_val h he) fun σ H Q h => ?_
  obtain ⟨ac, Γ, As, s, h⟩ := h
  exact ⟨ac, Γ, As, s, h.e⟩
theorem st_cmp {o : Cm} (hK : X.K = W.K) (hu : X.A.units + 65 < cLine) (ha : PE X a (tE W F wx ca)) (hb : PE X b (tE W F wx cb)) (hm : nset b = true) : PT X (.Compare a [opC o] [b] pos) (tTs W F wx (.cmp o ca cb)) := by
  refine PT.imp (pt_cmpR (op_cm hu o) ha hb (mark_of hm)) fun σ H Q h => ?_
  obtain ⟨ac, Γ, As, s, h⟩ := h
  exact cmp_read hK s h.e
theorem st_chain {o p : Cm} (hK : X.K = W.K) (hu : X.A.units + 65 < cLine) (ha : PE X a (tE W F wx ca)) (hb : PE X b (tE W F wx cb)) (hc : PE X c (tE W F wx cc)) (hm : nset c = true) : PT X (.Compare a [opC o, opC p] [b, c] pos) (tTs W F wx (.chain o p ca cb cc)) := by
  refine PT.imp (pt_chain (op_cm hu o) (op_cm hu p) ha hb hc (last_of hm)) fun σ H Q h => ?_
  obtain ⟨ac, Γ, As, s, h⟩ := h
  exact chain_read hK s h.e
theorem rT.on {σ : L2.St} {H H' : Hp} {Q : Bool → Hp → Prop} {T : Addr → Prop} {r : R} (h : rT W wx σ H Q T r) (e : Ex H H') : rT W wx σ H' Q T r := by
  cases r with
  | ok d n =>
    cases d <;> first | exact h.elim | skip
    exact fun H2 x => h H2 (e.trans x)
  | ex k fs => exact fun cls od H2 x r => h cls od H2 (e.trans x) r
  | bad => exact h
theorem rT.bind {σ : L2.St} {H : Hp} {c : CE} {ac : Ac} {Γ : Env} {As : List (List Addr)} (s : StOk W ac H σ Γ As) {k : D → Nat → R} {Q : Bool → Hp → Prop} {P : Bool → Hp → Prop}
    (h : rT W wx σ H Q (tot ac As) ((ev F c Γ).bind k)) (nb : ∀ d n, (∀ b, d ≠ .bl b) → k d n = .bad) (g : ∀ b n H', ev F c Γ = .ok (.bl b) n → Ex H H' → StOk W ac H' σ Γ As → rT W wx σ H Q (tot ac As) (k (.bl b) n) → P b H') : tTs W F wx c σ H P := by
  refine ⟨ac, Γ, As, s, ?_⟩
  cases e : ev F c Γ with
  | ok d n =>
    rw [e] at h
    cases d with
    | bl b => exact fun H' x => g b n H' e x (s.mono x) h
    | _ => simp only [R.bind] at h; rw [nb _ _ (fun b z => by cases z)] at h; exact h.elim
  | ex c fs =>
    rw [e] at h
    exact h
  | bad => rw [e] at h; exact h
theorem and_bind (x : R) : (x.bind fun y _ => match y with | .bl c => R.ok (.bl c) 0 | _ => .bad) = x.bind fun y _ => match y with | .bl c => R.ok (.bl c) 0 | _ => .bad := rfl
theorem sw_and1 (ha : PT X a (tTs W F wx ca)) : PW X (.BoolOp .And [a] pos) (tTs W F wx ca) := pw_and1 ha
theorem sw_or1 (ha : PT X a (tTs W F wx ca)) : PW X (.BoolOp .Or [a] pos) (tTs W F wx ca) := pw_or1 ha
/-- the second of two, its answer as it is -/
theorem rT.last {σ : L2.St} {H : Hp} {Q : Bool → Hp → Prop} {T : Addr → Prop} {r : R} (h : rT W wx σ H Q T (r.bind fun y _ => match y with | .bl c => R.ok (.bl c) 0 | _ => .bad)) : rT W wx σ H Q T r := by
  cases r with
  | ok d n => cases d <;> first | exact h.elim | exact h
  | ex k fs => exact h
  | bad => exact h
theorem sw_and {rest : List Expr} (ha : PT X a (tTs W F wx ca)) (hb : PW X (.BoolOp .And (b :: rest) pos) (tTs W F wx cb)) : PW X (.BoolOp .And (a :: b :: rest) pos) (tTs W F wx (.and ca cb)) := by
  refine PW.imp (pw_and ha hb) fun σ H Q h => ?_
  obtain ⟨ac, Γ, As, s, h⟩ := h
  simp only [ev] at h
  refine rT.bind s h (fun d n z => by cases d <;> first | rfl | exact absurd rfl (z _)) fun k n H1 e1 x1 s1 h1 => ?_
  cases k with
  | false => exact iteF (h1 _ x1)
  | true => exact iteT ⟨ac, Γ, As, s1, (rT.last h1).on x1⟩
theorem sw_or {rest : List Expr} (ha : PT X a (tTs W F wx ca)) (hb : PW X (.BoolOp .Or (b :: rest) pos) (tTs W F wx cb)) : PW X (.BoolOp .Or (a :: b :: rest) pos) (tTs W F wx (.or ca cb)) := by
  refine PW.imp (pw_or ha hb) fun σ H Q h => ?_
  obtain ⟨ac, Γ, As, s, h⟩ := h
  simp only [ev] at h
  refine rT.bind s h (fun d n z => by cases d <;> first | rfl | exact absurd rfl (z _)) fun k n H1 e1 x1 s1 h1 => ?_
  cases k with
  | true => exact iteT (h1 _ x1)
  | false => exact iteF ⟨ac, Γ, As, s1, (rT.last h1).on x1⟩
theorem st_not (ha : PT X a (tTs W F wx ca)) : PT X (.UnaryOp .Not a pos) (tTs W F wx (.not ca)) := by
  refine PT.imp (pt_not ha) fun σ H Q h => ?_
  obtain ⟨ac, Γ, As, s, h⟩ := h
  simp only [ev] at h
  refine rT.bind s h (fun d n z => by cases d <;> first | rfl | exact absurd rfl (z _)) fun k n H1 e1 x1 s1 h1 => ?_
  exact h1 _ x1
/-! ### and, or, not as values -/
theorem rE.last {σ : L2.St} {H : Hp} {Q : VK} {f : Bool} {T : Addr → Prop} {r : R} (h : rE W wx σ H Q true T (r.bind fun y _ => match y with | .bl c => R.ok (.bl c) 0 | _ => .bad)) : rE W wx σ H Q f T r := by
  cases r with
  | ok d n =>
    cases d <;> first | exact h.elim | skip
    intro v H' x r
    refine h v H' x ?_
    rw [r.b.bl]
    exact Rs.of0 rfl
  | ex k fs => exact h
  | bad => exact h
theorem se_and {rest : List Expr} (ha : PE X a (tE W F wx ca)) (hb : PE X (.BoolOp .And (b :: rest) pos) (tE W F wx cb)) : PE X (.BoolOp .And (a :: b :: rest) pos) (tE W F wx (.and ca cb)) := by
  refine PE.imp (pe_and ha hb) fun σ H Q h => ?_
  obtain ⟨ac, Γ, As, s, h⟩ := h
  simp only [ev] at h
  refine rE.bind s h fun d n v H1 e1 x1 s1 r1 h1 => ?_
  split at h1
  · exact ⟨true, r1.b.bl, iteT ⟨ac, Γ, As, s1, rE.last (rE.on h1 x1)⟩⟩
  · exact ⟨false, r1.b.bl, iteF (rE.bl (rE.on h1 x1))⟩
  · exact h1.elim
theorem se_or {rest : List Expr} (ha : PE X a (tE W F wx ca)) (hb : PE X (.BoolOp .Or (b :: rest) pos) (tE W F wx cb)) : PE X (.BoolOp .Or (a :: b :: rest) pos) (tE W F wx (.or ca cb)) := by
  refine PE.imp (pe_or ha hb) fun σ H Q h => ?_
  obtain ⟨ac, Γ, As, s, h⟩ := h
  simp only [ev] at h
  refine rE.bind s h fun d n v H1 e1 x1 s1 r1 h1 => ?_
  split at h1
  · exact ⟨false, r1.b.bl, iteF ⟨ac, Γ, As, s1, rE.last (rE.on h1 x1)⟩⟩
  · exact ⟨true, r1.b.bl, iteT (rE.bl (rE.on h1 x1))⟩
  · exact h1.elim
theorem se_not (ha : PE X a (tE W F wx ca)) : PE X (.UnaryOp .Not a pos) (tE W F wx (.not ca)) := by
  refine PE.imp (pe_not ha) fun σ H Q h => ?_
  obtain ⟨ac, Γ, As, s, h⟩ := h
  simp only [ev] at h
  refine rE.bind s h fun d n v H1 e1 x1 s1 r1 h1 => ?_
  split at h1
  · exact ⟨_, r1.b.bl, rE.bl (rE.on h1 x1)⟩
  · exact h1.elim
/-! ### displays -/
theorem se_tup {es : List Expr} {cs : CEs} {k : Nat} (h : PA X es (tA W F wx cs)) (hl : es.length ≤ 1000) (hl2 : ∀ Γ vs, evA F cs Γ = .ok vs → vs.length ≤ 1000) : PE X (.Tuple es k pos) (tE W F wx (.tup cs)) := by
  refine PE.imp (pe_tup h) fun σ H Q h => ?_
  obtain ⟨ac, Γ, As, s, h⟩ := h
  simp only [ev] at h
  refine ⟨ac, Γ, As, s, ?_⟩
  cases e : evA F cs Γ with
  | bad => rw [e] at h; exact h.elim
  | ex k fs => rw [e] at h; exact h
  | ok vs =>
    rw [e] at h
    simp only at h
    split at h
    · rename_i hf
      intro us H1 x1 ar
      have := hl2 Γ vs e
      refine ⟨by rw [← ar.len, line_eq]; simp only [LINE]; omega, fun p hp => ?_⟩
      exact h _ _ (x1.trans (Ex.new hp)) (Rs.tup hp (fun a t => (s.mono x1).there t) (ar.fixed (fun a t => s.there t) hf) x1)
    · exact h.elim
theorem Args.flatU {T : Addr → Prop} {U : List Addr} {H' : Hp} {vs : List (D × Nat × Bool)} {us : List V} {Bs : List (List Addr)} (h : Args W T U H' vs us Bs) : ∀ p ∈ Bs.flatten, (∀ q ∈ Bs.flatten, q ∈ U) → ∃ o, H' p = some o := by
  induction h with
  | nil => intro p hp; cases hp
  | @cons d n f v B ds vs Bs a b _ ih =>
    intro p hp hU
    rw [List.flatten_cons, List.mem_append] at hp
    rcases hp with hp | hp
    · cases f
      · rw [(b rfl).2] at hp; cases hp
      · obtain ⟨o, q, _⟩ := (a rfl).there p hp; exact ⟨o, q⟩
    · exact ih p hp fun q hq => hU q (by rw [List.flatten_cons]; exact List.mem_append_right _ hq)
theorem se_lst {es : List Expr} {cs : CEs} {n : Nat} (h : PA X es (tA W F wx cs)) (hn : n ≠ 0) (hl2 : ∀ Γ vs, evA F cs Γ = .ok vs → vs.length ≤ 1000) : PE X (.List es pos) (tE W F wx (.lst n cs)) := by
  refine PE.imp (pe_lst h) fun σ H Q h => ?_
  obtain ⟨ac, Γ, As, s, h⟩ := h
  simp only [ev] at h
  refine ⟨ac, Γ, As, s, ?_⟩
  cases e : evA F cs Γ with
  | bad => rw [e] at h; exact h.elim
  | ex k fs => rw [e] at h; exact h
  | ok vs =>
    rw [e] at h
    simp only at h
    split at h
    · rename_i hf
      intro us H1 x1 ar
      have := hl2 Γ vs e
      refine ⟨by rw [← ar.len, line_eq]; simp only [LINE]; omega, fun p hp => ?_⟩
      refine h _ _ (x1.trans (Ex.new hp)) ?_
      match n, hn with
      | 1, _ => exact Rs.lst hp (ar.fixed (fun a t => s.there t) hf) x1
      | m + 2, _ =>
        obtain ⟨Bs, nd, fr, ar⟩ := ar.ex
        have ad := ar.deep (m := m) hf
        have np : p ∉ Bs.flatten := fun z => by
          obtain ⟨o, q⟩ := ar.flatU p z (fun _ q => q)
          rw [hp] at q; cases q
        refine ⟨p :: Bs.flatten, List.nodup_cons.mpr ⟨np, nd⟩, fun q hq => ?_, p, us, Bs, rfl, upd_same, rfl, ad.imp fun d v A hA o => ?_⟩
        · rcases List.mem_cons.mp hq with rfl | hq
          · exact x1.free hp
          · exact fr q hq
        · refine o.mono (fun a o q => ?_) fun q hq o z => ?_
          · obtain ⟨t, q⟩ := hid_not q
            have ne : a ≠ p := fun z => by rw [z, hp] at q; cases q
            rw [hid_at, upd_ne ne]
            · exact q
            · rintro (z | z)
              · exact t (.inl z)
              · rcases List.mem_cons.mp z with z | z
                · exact ne z
                · exact t (.inr z)
          · have ne : q ≠ p := fun z' => np (z' ▸ List.mem_flatten.mpr ⟨A, hA, hq⟩)
            rw [upd_ne ne]; exact z
    · exact h.elim
theorem se_dnew {t : Bool} {n : Nat} (hn : n ≠ 0) : PE X (.Dict [] [] pos) (tE W F wx (.dnew t n)) := by
  have key : ∀ (σ : L2.St) (H : Hp) (Q : VK), tE W F wx (.dnew t n) σ H Q → ∀ p, H p = none → Q (.ref p) (upd H p (if t then .dT [] else .dK [])) := fun σ H Q h p hp => by
    obtain ⟨ac, Γ, As, s, h⟩ := h
    simp only [ev] at h
    refine h _ _ (Ex.new hp) ?_
    obtain ⟨m, rfl⟩ : ∃ m, n = m + 1 := ⟨n - 1, by omega⟩
    refine ⟨[p], by simp, fun a ha => by rw [List.mem_singleton.mp ha]; exact hp, p, [], [], rfl, ?_, rfl, .nil⟩
    cases t
    · exact ⟨[], rfl, upd_same, rfl, List.nodup_nil, fun k hk => by cases hk⟩
    · exact ⟨[], rfl, upd_same, rfl, List.nodup_nil, fun k hk => by cases hk⟩
  cases t
  · exact PE.imp pe_dnewK fun σ H Q h => key σ H Q h
  · exact PE.imp pe_dnewT fun σ H Q h => key σ H Q h
end
end GL

/-! GL8: subscripts, slices, calls. -/
namespace GL
open PySem L2 PyProof.Rows
/-! ### subscripts -/
def rIxD : R2 := fun x y H Q => ∃ a v, x = .ref a ∧ DGet H a y (some v) ∧ Q v H
theorem ix_dct {X : Cx} (hu : X.A.units + 1 < cLine) : IxR X rIxD := by
  intro value slice pins s σ H x y v u Q I rx ry h hs
  obtain ⟨a, w, ex, g, q⟩ := h
  subst ex
  obtain rfl : v = Value.ref a := rx
  have hT := dict_typeIs I g
  have fin0 : wpAny (model X.prog X.w) X.A (getItem (.ref a) u) (EP X pins σ Q) X.xe s := d_getItem hu I g ry fun w' s3 I3 rw' => ⟨w, H, I3, rw', q⟩
  unfold subscriptTail
  refine wpAny_bind ?_
  rw [getitemInPython_of_ne hT.not_modules]
  refine wpAny_bind (wpAny_specialOf hT PySem.F.slot_dict_getitem.lookup ?_)
  have fin : wpAny (model X.prog X.w) X.A (subscripted slice false (.ref a) u) (fun r s₃ => wpAny (model X.prog X.w) X.A (letTemporaryGo value (.ref a) r >>= fun _ => pure r) (EP X pins σ Q) X.xe s₃) X.xe s := by
    rw [hs]
    exact wpAny_operating (wpAny_mono fin0 (fun r s₃ h₃ => wpAny_bind (wpAny_letTemporaryGo (wpAny_pure h₃))) fun _ _ x => x)
  first
    | exact wpAny_pure (wpAny_bind fin)
    | exact wpAny_bind (wpAny_pure (wpAny_bind fin))
    | exact wpAny_bind fin
def rIxA (K : PySem.W.Frag) : R2 := fun x y H Q => rIxL K x y H Q ∨ rIxT K x y H Q ∨ rIxS x y H Q ∨ rIxD x y H Q
theorem ix_all {X : Cx} (hu : X.A.units + 1 < cLine) : IxR X (rIxA X.K) := ix_list.or (ix_tup.or (ix_str.or (ix_dct hu)))
section
variable {W : Wd} {wx : WX} {σ : L2.St} {H H' : Hp} {Q : VK} {T : Addr → Prop} {x y v : V} {d e : D} {n m : Nat} {f : Bool}
/-- the items of a list that is read -/
theorem RsB.elem {ds : List D} (h : RsB W T H' n (.lst ds) v) : ∃ p xs, v = .ref p ∧ H' p = some (.lst xs) ∧ ds.length = xs.length ∧ ∀ (i : Nat) (d : D), ds[i]? = some d → ∃ u, xs[i]? = some u ∧ RsB W T H' (n - 1) d u := by
  cases n with
  | zero =>
    obtain ⟨p, xs, e1, e2, g⟩ := h.zero
    exact ⟨p, xs, e1, hid_full _ _ e2, g.length, fun i d hi => let ⟨u, hu, q⟩ := g.get hi; ⟨u, hu, [], rfl, q⟩⟩
  | succ n =>
    obtain ⟨A, p, xs, As, e1, e2, e3, g⟩ := h
    exact ⟨p, xs, e1, e2, g.length.1, fun i d hi => let ⟨u, B, hu, hB, q⟩ := g.get hi; ⟨u, hu, B, q⟩⟩
theorem RsB.delem {t : Bool} {ks ds : List D} (h : RsB W T H' n (.dct t ks ds) v) : ∃ p us, v = .ref p ∧ DctAt H' p t ks us ∧ ds.length = us.length ∧ ∀ (i : Nat) (d : D) (u : V), ds[i]? = some d → us[i]? = some u → RsB W T H' (n - 1) d u := by
  cases n with
  | zero =>
    obtain ⟨p, us, e1, e2, g⟩ := h.zero
    exact ⟨p, us, e1, e2.mono hid_full, g.length, fun i d u hi hu => let ⟨u', hu', q⟩ := g.get hi; by rw [hu] at hu'; cases hu'; exact ⟨[], rfl, q⟩⟩
  | succ n =>
    obtain ⟨A, p, us, As, e1, e2, e3, g⟩ := h
    exact ⟨p, us, e1, e2, g.length.1, fun i d u hi hu => let ⟨u', B, hu', hB, q⟩ := g.get hi; by rw [hu] at hu'; cases hu'; exact ⟨B, q⟩⟩
theorem atI_rel {α β : Type} {xs : List α} {ys : List β} {i : Int} {a : α} (hl : xs.length = ys.length) (h : GL.atI xs i = some a) : ∃ j : Nat, xs[j]? = some a ∧ ∀ b, ys[j]? = some b → L2.atI ys i = some b := by
  unfold GL.atI at h
  rw [Option.bind_eq_some_iff] at h
  obtain ⟨j, h1, h2⟩ := h
  refine ⟨j, h2, fun b hb => ?_⟩
  unfold L2.atI
  have e : L2.ixN ys.length i = some j := by rw [← hl]; exact h1
  rw [e]; exact hb
theorem ix_ok {K : PySem.W.Frag} (hK : K = W.K) (hx : RsB W T H n d x) (hy : Fro W H e y) (h : rE W wx σ H Q false T (opIdx d n e)) : rIxA K x y H Q := by
  subst hK
  unfold opIdx at h
  split at h
  · rename_i xs i
    cases hy
    obtain ⟨p, us, rfl, hp, hl, g⟩ := hx.elem
    cases hi : GL.atI xs i with
    | none => rw [hi] at h; exact h.elim
    | some z =>
      rw [hi] at h
      obtain ⟨j, h1, h2⟩ := atI_rel (ys := us) hl hi
      obtain ⟨u, hu, q⟩ := g j z h1
      exact .inl ⟨p, us, i, u, rfl, rfl, SqL.of hp, h2 u hu, h _ _ (Ex.refl H) q⟩
  · rename_i xs i
    cases hy
    obtain ⟨p, us, rfl, hp, tp, g⟩ := hx.tup
    cases hi : GL.atI xs i with
    | none => rw [hi] at h; exact h.elim
    | some z =>
      rw [hi] at h
      obtain ⟨j, h1, h2⟩ := atI_rel (ys := us) g.length hi
      obtain ⟨u, hu, q⟩ := g.get h1
      exact .inr (.inl ⟨p, us, i, u, rfl, rfl, SqT.of hp, h2 u hu, h _ _ (Ex.refl H) ⟨[], rfl, q⟩⟩)
  · rename_i l xs i
    cases hy
    obtain ⟨p, us, rfl, hp, g⟩ := hx.nonc rfl
    cases hi : GL.atI xs i with
    | none => rw [hi] at h; exact h.elim
    | some z =>
      rw [hi] at h
      obtain ⟨j, h1, h2⟩ := atI_rel (ys := us) g.length hi
      obtain ⟨u, hu, q⟩ := g.get h1
      cases l
      · exact .inr (.inl ⟨p, us, i, u, rfl, rfl, ex_t hid_full hp, h2 u hu, h _ _ (Ex.refl H) ⟨[], rfl, q⟩⟩)
      · exact .inl ⟨p, us, i, u, rfl, rfl, ex_l hid_full hp, h2 u hu, h _ _ (Ex.refl H) ⟨[], rfl, q⟩⟩
  · rename_i t i
    cases hy
    rw [hx.str]
    split at h
    · rename_i hl
      cases hi : GL.atI t i with
      | none => rw [hi] at h; exact h.elim
      | some c =>
        rw [hi] at h
        have hc : c ∈ t := by
          unfold GL.atI at hi
          rw [Option.bind_eq_some_iff] at hi
          obtain ⟨j, _, h2⟩ := hi
          exact List.mem_of_getElem? h2
        refine .inr (.inr (.inl ⟨toS t, i, c, rfl, rfl, by rw [toS_len, line_eq]; exact hl, hi, ?_⟩))
        exact h _ _ (Ex.refl H) ⟨[], rfl, rfl, fun z hz => by rw [List.mem_singleton.mp hz]; exact hx.tok c hc⟩
    · exact h.elim
  · rename_i t ks vs
    split at h
    · rename_i hk
      obtain ⟨p, us, rfl, hp, hl, g⟩ := hx.delem
      obtain ⟨o, g1, g2⟩ := dct_get (Hf := H) (P := fun d u => RsB W T H (n - 1) d u) hp hl hk hy g
      cases hd : dlook e ks vs with
      | none => rw [hd] at h; exact h.elim
      | some z =>
        rw [hd] at h g2
        obtain ⟨u, rfl, q⟩ := g2
        exact .inr (.inr (.inr ⟨p, u, rfl, g1, h _ _ (Ex.refl H) q⟩))
    · exact h.elim
  · exact h.elim
/-! ### slices -/
def rSlAll (K : PySem.W.Frag) : V → Option Int → Option Int → Hp → VK → Prop := fun x lo hi H Q => rSlS x lo hi H Q ∨ rSlA K x lo hi H Q ∨ rSlL K x lo hi H Q
theorem sl_all {X : Cx} : SlR X (rSlAll X.K) := sl_str.or (sl_tupA.or sl_list)
theorem six_eq (n d : Nat) (o : Option Int) : GL.sIx n d o = HT.sIx n d o := by cases o <;> rfl
theorem six_le (n d : Nat) (hd : d ≤ n) (o : Option Int) : GL.sIx n d o ≤ n := by rw [six_eq]; exact HT.sIx_le n d hd o
theorem sl_ok {K : PySem.W.Frag} (hK : K = W.K) {lo hi : Option Int} (ht : ∀ a, T a → ∃ o, H a = some o) (hx : RsB W T H n d x) (h : rE W wx σ H Q true T (opSl d n lo hi)) : rSlAll K x lo hi H Q := by
  unfold opSl at h
  split at h
  · rename_i t
    rw [hx.str]
    split at h
    · rename_i hl
      refine .inl ⟨toS t, rfl, by rw [toS_len, line_eq]; exact hl, ?_⟩
      have e : cutS (toS t) lo hi = toS (cut t lo hi) := by
        unfold cutS cut
        rw [six_eq, six_eq, toS_len]
      rw [e]
      exact h _ _ (Ex.refl H) (Rs.of0 ⟨rfl, fun c hc => hx.tok c (List.mem_of_mem_drop (List.mem_of_mem_take hc))⟩)
    · exact h.elim
  · rename_i xs
    obtain ⟨p, us, rfl, hp, tp, g⟩ := hx.tup
    have e : cutV us lo hi = (us.drop (GL.sIx xs.length 0 lo)).take (GL.sIx xs.length xs.length hi - GL.sIx xs.length 0 lo) := by
      unfold cutV
      rw [six_eq, six_eq, g.length]
    have q : Fros W (hid H T) (cut xs lo hi) (cutV us lo hi) := by rw [e]; exact (g.drop _).take _
    refine .inr (.inl ⟨p, us, rfl, SqT.of hp, fun hw => ?_, fun hw r hr => ?_⟩)
    · rw [← g.length, ← six_eq, ← six_eq] at hw
      have ec : cut xs lo hi = xs := by
        unfold cut
        rw [hw.1, hw.2, List.drop_zero, Nat.sub_zero, List.take_length]
      rw [ec] at h
      exact h _ _ (Ex.refl H) (Rs.of0 ⟨p, us, rfl, by rw [hid_at tp]; exact hp, g⟩)
    · exact h _ _ (Ex.new hr) (Rs.tup hr ht q (Ex.refl H))
  · rename_i xs
    split at h
    · rename_i hn
      obtain ⟨p, us, rfl, hp, g⟩ := hx.lst1 hn
      have e : cutV us lo hi = (us.drop (GL.sIx xs.length 0 lo)).take (GL.sIx xs.length xs.length hi - GL.sIx xs.length 0 lo) := by
        unfold cutV
        rw [six_eq, six_eq, g.length]
      refine .inr (.inr ⟨p, us, rfl, SqL.of hp, fun r hr => ?_⟩)
      rw [e]
      exact h _ _ (Ex.new hr) (Rs.lst hr ((g.drop _).take _) (Ex.refl H))
    · exact h.elim
  · rename_i xs
    split at h
    · rename_i hn
      subst hn
      obtain ⟨p, us, rfl, hp, g⟩ := hx.zero
      subst hK
      have e : cutV us lo hi = (us.drop (GL.sIx xs.length 0 lo)).take (GL.sIx xs.length xs.length hi - GL.sIx xs.length 0 lo) := by
        unfold cutV
        rw [six_eq, six_eq, g.length]
      refine .inr (.inr ⟨p, us, rfl, ex_l hid_full hp, fun r hr => ?_⟩)
      rw [e]
      exact h _ _ (Ex.new hr) (Rs.lst hr ((g.drop _).take _) (Ex.refl H))
    · exact h.elim
  · exact h.elim
end
section
variable {X : Cx} {W : Wd} {F : Fn} {wx : WX} {pos p2 : Pos} {a b c : Expr} {ca cb cc : CE}
theorem se_idx (hK : X.K = W.K) (hu : X.A.units + 65 < cLine) (ha : PE X a (tE W F wx ca)) (hb : PE X b (tE W F wx cb)) (hs : nslice b = true) : PE X (.Subscript a b pos) (tE W F wx (.idx ca cb)) := by
  refine PE.imp (pe_ix (ix_all (by omega)) ha hb (plainIx hs)) fun σ H Q h => ?_
  obtain ⟨ac, Γ, As, s, h⟩ := h
  simp only [ev] at h
  refine rE.bind s h fun d n v H1 e1 x1 s1 r1 h1 => ?_
  refine rE.bind s1 (rE.on h1 x1) fun d2 n2 u H2 e2 x2 s2 r2 h2 => ?_
  exact ix_ok hK (r1.b.mono x2) r2.b.fro (rE.on h2 x2)
theorem se_slu (hK : X.K = W.K) (ha : PE X a (tE W F wx ca)) (hb : PE X b (tE W F wx cb)) : PE X (.Subscript a (.Slice none (some b) none p2) pos) (tE W F wx (.slu ca cb)) := by
  refine PE.imp (pe_slice sl_all ha po_none (po_some hb)) fun σ H Q h => ?_
  obtain ⟨ac, Γ, As, s, h⟩ := h
  simp only [ev] at h
  refine rE.bind s h fun d n v H1 e1 x1 s1 r1 h1 => ?_
  refine rE.bind s1 (rE.on h1 x1) fun d2 n2 u H2 e2 x2 s2 r2 h2 => ?_
  split at h2
  · exact ⟨_, r2.b.int, sl_ok hK (fun a t => s2.there t) (r1.b.mono x2) (rE.on h2 x2)⟩
  · exact h2.elim
theorem se_sll (hK : X.K = W.K) (ha : PE X a (tE W F wx ca)) (hb : PE X b (tE W F wx cb)) : PE X (.Subscript a (.Slice (some b) none none p2) pos) (tE W F wx (.sll ca cb)) := by
  refine PE.imp (pe_slice sl_all ha (po_some hb) po_none) fun σ H Q h => ?_
  obtain ⟨ac, Γ, As, s, h⟩ := h
  simp only [ev] at h
  refine rE.bind s h fun d n v H1 e1 x1 s1 r1 h1 => ?_
  refine rE.bind s1 (rE.on h1 x1) fun d2 n2 u H2 e2 x2 s2 r2 h2 => ?_
  split at h2
  · exact ⟨_, r2.b.int, sl_ok hK (fun a t => s2.there t) (r1.b.mono x2) (rE.on h2 x2)⟩
  · exact h2.elim
theorem se_slb (hK : X.K = W.K) (ha : PE X a (tE W F wx ca)) (hb : PE X b (tE W F wx cb)) (hc : PE X c (tE W F wx cc)) : PE X (.Subscript a (.Slice (some b) (some c) none p2) pos) (tE W F wx (.slb ca cb cc)) := by
  refine PE.imp (pe_slice sl_all ha (po_some hb) (po_some hc)) fun σ H Q h => ?_
  obtain ⟨ac, Γ, As, s, h⟩ := h
  simp only [ev] at h
  refine rE.bind s h fun d n v H1 e1 x1 s1 r1 h1 => ?_
  refine rE.bind s1 (rE.on h1 x1) fun d2 n2 u H2 e2 x2 s2 r2 h2 => ?_
  split at h2
  · refine ⟨_, r2.b.int, ?_⟩
    refine rE.bind s2 (rE.on h2 x2) fun d3 n3 w H3 e3 x3 s3 r3 h3 => ?_
    split at h3
    · exact ⟨_, r3.b.int, sl_ok hK (fun a t => s3.there t) (r1.b.mono (x2.trans x3)) (rE.on h3 x3)⟩
    · exact h3.elim
  · exact h2.elim
theorem se_srev {k : Nat} {p1 p3 : Pos} (ha : PE X a (tE W F wx ca)) : PE X (.Subscript a (.Slice none none (some (.UnaryOp .USub (.Constant (.int 1) k p1) p2)) p3) pos) (tE W F wx (.srev ca)) := by
  refine PE.imp (pe_revL ha) fun σ H Q h => ?_
  obtain ⟨ac, Γ, As, s, h⟩ := h
  simp only [ev] at h
  refine rE.bind s h fun d n v H1 e1 x1 s1 r1 h1 => ?_
  split at h1
  · split at h1
    · rename_i xs hn
      obtain ⟨p, us, rfl, hp, g⟩ := r1.b.lst1 hn
      exact ⟨p, us, rfl, SqL.of hp, fun r hr => h1 _ _ (x1.trans (Ex.new hr)) (Rs.lst hr g.reverse x1)⟩
    · exact h1.elim
  · exact h1.elim
end
end GL

/-! GL9: calls. -/
namespace GL
open PySem L2 PyProof.Rows
theorem two {e : Expr} {es : List Expr} (hs : (e :: es).all nstar = true) : nstar e = true ∧ es.all nstar = true := by
  rw [List.all_cons, Bool.and_eq_true] at hs; exact hs
section
variable {W : Wd} {wx : WX} {σ : L2.St} {H H' : Hp} {Q : VK} {T : Addr → Prop} {x y v : V} {d e : D} {n m : Nat} {f : Bool}
theorem RsB.ro {l : Bool} {ds : List D} (h : RsB W T H n (.ro l ds) v) : ∃ p xs, v = .ref p ∧ (SqL W.K H p xs ∨ SqT W.K H p xs) ∧ Fros W (hid H T) ds xs := by
  obtain ⟨p, us, rfl, hp, g⟩ := h.nonc rfl
  refine ⟨p, us, rfl, ?_, g⟩
  cases l
  · exact .inr (ex_t hid_full hp)
  · exact .inl (ex_l hid_full hp)
theorem fros_allO {Hf : Hp} : ∀ {ds : List D} {vs : List V}, Fros W Hf ds vs → AllO W Hf H (ds.map fun d => (d, 0)) vs (List.replicate ds.length [])
  | [], _, h => by cases h; exact .nil
  | _ :: _, _, ⟨v, r, e1, h1, h2⟩ => by subst e1; exact .cons ⟨rfl, h1⟩ (fros_allO h2)
/-- whatever is handed on, some of it the caller's own: what it stands on is let out -/
theorem Args.lent {U : List Addr} {vs : List (D × Nat × Bool)} {us : List V} {Bs : List (List Addr)} (h : Args W T U H' vs us Bs) (hU : ∀ p ∈ Bs.flatten, ¬ T p) : ∃ L : List Addr, (∀ p ∈ L, ∃ o, H' p = some o ∧ isTup o = false) ∧ Fros W (hid H' fun a => T a ∧ a ∉ L) (vs.map (·.1)) us := by
  induction h with
  | nil => exact ⟨[], (fun p hp => by cases hp), rfl⟩
  | @cons d n f' v B ds vs Bs a b _ ih =>
    obtain ⟨L, h1, h2⟩ := ih fun p hp => hU p (by rw [List.flatten_cons]; exact List.mem_append_right _ hp)
    cases f' with
    | true =>
      have o := a rfl
      refine ⟨L, h1, v, vs, rfl, ?_, h2⟩
      refine (o.fro (Hg := hid H' T) (hid_le fun a t => Or.inl t) fun p hp o q => by rw [hid_at (hU p (by rw [List.flatten_cons]; exact List.mem_append_left _ hp))]; exact q).mono (hid_le fun a t => t.1)
    | false =>
      obtain ⟨A, o⟩ := (b rfl).1
      refine ⟨A ++ L, fun p hp => (List.mem_append.mp hp).elim (fun z => o.there p z) (h1 p), v, vs, rfl, ?_, h2.mono (hid_le fun a t => ⟨t.1, fun z => t.2 (List.mem_append_right _ z)⟩)⟩
      refine o.fro (hid_le fun a t => t.1) fun p hp o q => ?_
      rw [hid_at fun t => t.2 (List.mem_append_left _ hp)]; exact q
theorem ExR.imm {Hf Hg : Hp} {k : Nat} {fs : List D} {cls : Value} {od : Option Addr} (h : ExR W Hf k fs cls od H) (i : D.imms fs = true) (e : ∀ a xs, Hf a = some (.tup xs) → Hg a = some (.tup xs)) : ExR W Hg k fs cls od H := by
  obtain ⟨z1, z2⟩ := h
  refine ⟨z1, ?_⟩
  split
  · rename_i q; rw [q] at z2; exact z2
  · rename_i q; rw [q] at z2
    obtain ⟨dd, vs, y1, y2, y3, y4⟩ := z2
    exact ⟨dd, vs, y1, y2, y3, imms_fros e i y4⟩
theorem ExR.mono {Hf Hg : Hp} {k : Nat} {fs : List D} {cls : Value} {od : Option Addr} (h : ExR W Hf k fs cls od H) (e : Ex Hf Hg) : ExR W Hg k fs cls od H := by
  obtain ⟨z1, z2⟩ := h
  refine ⟨z1, ?_⟩
  split
  · rename_i q; rw [q] at z2; exact z2
  · rename_i q; rw [q] at z2
    obtain ⟨dd, vs, y1, y2, y3, y4⟩ := z2
    exact ⟨dd, vs, y1, y2, y3, y4.mono e⟩
/-- what the callee promises suffices -/
theorem call_ok {ac : Ac} {Γ : Env} {As : List (List Addr)} {io : List Nat} {np : Nat} {sp : List (D × Nat) → RR} {vs : List (D × Nat × Bool)} {us : List V} {H1 : Hp} (hnp : ∀ args, sp args ≠ .bad → args.length = np) (s : StOk W ac H σ Γ As) (x1 : Ex H H1) (ar : ArgsR W (tot ac As) H H1 vs us)
    (h : rE W wx σ H Q true (tot ac As) (match sp (vs.map fun v => (v.1, 0)) with
      | .ok d n _ => if fixed vs || d.safe n then .ok d n else .bad
      | .ex c fs => if fixed vs || D.imms fs then .ex c fs else .bad
      | .bad => .bad)) : spOf W io np sp us H1 Q (WE wx σ) := by
  have s1 := s.mono x1
  have hlen : sp (vs.map fun v => (v.1, 0)) ≠ .bad → us.length = np := fun z => by
    have := hnp _ z
    rw [List.length_map] at this
    rw [← ar.len]; exact this
  obtain ⟨Bs, nd, fr, ar⟩ := ar.ex
  have hU : ∀ p ∈ Bs.flatten, ¬ tot ac As p := fun p hp t => by obtain ⟨o, q⟩ := s.there t; rw [fr p hp] at q; cases q
  obtain ⟨L, hL, hF⟩ : ∃ L : List Addr, (∀ p ∈ L, ∃ o, H1 p = some o ∧ isTup o = false) ∧ Fros W (hid H1 fun a => tot ac As a ∧ a ∉ L) (vs.map (·.1)) us ∧ (fixed vs = true → L = []) := by
    cases hf : fixed vs with
    | true => exact ⟨[], (fun p hp => by cases hp), (ar.fixed hU hf).mono (hid_le fun a t => t.1), fun _ => rfl⟩
    | false =>
      obtain ⟨L, h1, h2⟩ := ar.lent hU
      exact ⟨L, h1, h2, fun z => by cases z⟩
  obtain ⟨hF, hL0⟩ := hF
  have em : (List.replicate (vs.map (·.1)).length ([] : List Addr)).flatten = [] := flat_nils _
  have all : AllO W (hid H1 fun a => (tot ac As a ∧ a ∉ L) ∨ a ∈ (List.replicate (vs.map (·.1)).length ([] : List Addr)).flatten) H1 (vs.map fun v => (v.1, 0)) us (List.replicate (vs.map (·.1)).length []) := by
    have := fros_allO (W := W) (H := H1) (hF.mono (hid_le (T' := fun a => tot ac As a ∧ a ∉ L) (T := fun a => (tot ac As a ∧ a ∉ L) ∨ a ∈ (List.replicate (vs.map (·.1)).length ([] : List Addr)).flatten) fun a t => t.elim id fun z => by rw [em] at z; cases z))
    rw [List.map_map] at this
    exact this
  cases hr : sp (vs.map fun v => (v.1, 0)) with
  | bad => rw [hr] at h; exact h.elim
  | ex k fs =>
    rw [hr] at h
    refine ⟨_, fun a => tot ac As a ∧ a ∉ L, _, hlen (by rw [hr]; simp), fun a t => s1.there t.1, by rw [em]; exact .nil, (fun p hp => by rw [em] at hp; cases hp), all, ?_⟩
    rw [hr]
    intro cls od H' pr ex
    have xx : Ex H1 H' := fun a o q => pr a o (by rw [em]; simp) q
    simp only at h
    split at h
    · rename_i hc
      refine h cls od H' (x1.trans xx) ?_
      simp only [Bool.or_eq_true] at hc
      rcases hc with hc | hc
      · refine ex.mono (hid_le fun a t => ⟨t, by rw [hL0 hc]; simp⟩)
      · refine ex.imm hc fun a xs q => ?_
        obtain ⟨t, q⟩ := hid_not q
        rw [hid_at]
        · exact q
        · intro z
          by_cases hm : a ∈ L
          · obtain ⟨o, q2, q3⟩ := hL a hm
            have := xx a o q2
            rw [q] at this; cases this; cases q3
          · exact t ⟨z, hm⟩
    · exact h.elim
  | ok d n os =>
    rw [hr] at h
    refine ⟨_, fun a => tot ac As a ∧ a ∉ L, _, hlen (by rw [hr]; simp), fun a t => s1.there t.1, by rw [em]; exact .nil, (fun p hp => by rw [em] at hp; cases hp), all, ?_⟩
    rw [hr]
    intro v H' A Bs' pr _ nd2 fr2 o _
    have xx : Ex H1 H' := fun a o q => pr a o (by rw [em]; simp) q
    have frA : ∀ p ∈ A, H1 p = none := fun p hp => by
      rcases (fr2 p (List.mem_append_left _ hp)).1 with z | z
      · rw [em] at z; cases z
      · exact z
    have ndA : A.Nodup := (List.nodup_append.mp nd2).1
    simp only at h
    split at h
    · rename_i hc
      refine h v H' (x1.trans xx) ⟨A, ndA, fun p hp => x1.free (frA p hp), ?_⟩
      simp only [Bool.or_eq_true] at hc
      rcases hc with hc | hc
      · refine o.mono (hid_le fun a t => ?_) fun _ _ _ q => q
        rcases t with t | t
        · exact .inl ⟨t, by rw [hL0 hc]; simp⟩
        · exact .inr (List.mem_append_left _ t)
      · refine safe_own hc (fun a xs q => ?_) (o.mono (hid_le (T := fun a => (tot ac As a ∧ a ∉ L) ∨ a ∈ A) fun a t => t.imp id fun t => List.mem_append_left _ t) fun _ _ _ q => q)
        obtain ⟨t, q⟩ := hid_not q
        rw [hid_at]
        · exact q
        · rintro (z | z)
          · by_cases hm : a ∈ L
            · obtain ⟨o, q2, q3⟩ := hL a hm
              have := xx a o q2
              rw [q] at this; cases this; cases q3
            · exact t (.inl ⟨z, hm⟩)
          · exact t (.inr z)
    · exact h.elim
end
section
variable {W : Wd} {wx : WX} {σ : L2.St} {H : Hp} {Q : VK}
theorem scals_allO {T : Addr → Prop} {U : List Addr} {Hf H' : Hp} : ∀ {vs : List (D × Nat × Bool)} {us : List V} {Bs : List (List Addr)}, Args W T U H' vs us Bs → vs.all (fun v => v.1.scal) = true → AllO W Hf H' (vs.map fun v => (v.1, 0)) us (List.replicate vs.length [])
  | [], _, _, .nil, _ => .nil
  | (d, n, f) :: vs, _, _, .cons a b t, h => by
    rw [List.all_cons, Bool.and_eq_true] at h
    refine .cons ⟨rfl, ?_⟩ (scals_allO t h.2)
    cases f with
    | true => exact scal_fro h.1 ((a rfl).fro hid_full fun _ _ _ q => q)
    | false => exact scal_fro h.1 (b rfl).1.fro
/-- a new thing is handed over for good -/
theorem eat_ok {ac : Ac} {Γ : Env} {As : List (List Addr)} {np : Nat} {sp : List (D × Nat) → RR} {d0 : D} {n0 : Nat} {vs : List (D × Nat × Bool)} {us : List V} {H1 : Hp} (hnp : ∀ args, sp args ≠ .bad → args.length = np) (s : StOk W ac H σ Γ As) (x1 : Ex H H1) (ar : ArgsR W (tot ac As) H H1 ((d0, n0, true) :: vs) us)
    (hs : vs.all (fun v => v.1.scal) = true)
    (h : rE W wx σ H Q true (tot ac As) (match sp ((d0, n0) :: vs.map fun v => (v.1, 0)) with
      | .ok d n _ => .ok d n
      | .ex c fs => if D.imms fs then .ex c fs else .bad
      | .bad => .bad)) : spOf W [] np sp us H1 Q (WE wx σ) := by
  have s1 := s.mono x1
  have hlen : sp ((d0, n0) :: vs.map fun v => (v.1, 0)) ≠ .bad → us.length = np := fun z => by
    have := hnp _ z
    rw [List.length_cons, List.length_map] at this
    have l := ar.len
    rw [List.length_cons] at l
    omega
  obtain ⟨Bs, nd, fr, ar⟩ := ar.ex
  cases ar with
  | @cons _ _ _ v B _ vs' Bs' a b t =>
    have own := a rfl
    rw [List.flatten_cons] at nd fr
    have hB : ∀ p ∈ B, H p = none := fun p hp => fr p (List.mem_append_left _ hp)
    have hT : ∀ p ∈ B, ¬ tot ac As p := fun p hp z => by obtain ⟨o, q⟩ := s.there z; rw [hB p hp] at q; cases q
    have em : (B :: List.replicate vs.length ([] : List Addr)).flatten = B := by rw [List.flatten_cons, flat_nils, List.append_nil]
    have own' : Own W (hid H1 fun a => tot ac As a ∨ a ∈ (B :: List.replicate vs.length ([] : List Addr)).flatten) H1 n0 d0 v B := by
      rw [em]
      exact own.mono (hid_le fun a t => t.imp id fun m => by rw [List.flatten_cons]; exact List.mem_append_left _ m) fun _ _ _ q => q
    have all : AllO W (hid H1 fun a => tot ac As a ∨ a ∈ (B :: List.replicate vs.length ([] : List Addr)).flatten) H1 ((d0, n0) :: vs.map fun v => (v.1, 0)) (v :: vs') (B :: List.replicate vs.length []) := .cons own' (scals_allO t hs)
    have grow : ∀ {H' : Hp}, (∀ a o, a ∉ (B :: List.replicate vs.length ([] : List Addr)).flatten → H1 a = some o → H' a = some o) → Ex H H' := fun pr a o q => pr a o (by rw [em]; exact fun m => by rw [hB a m] at q; cases q) (x1 a o q)
    cases hr : sp ((d0, n0) :: vs.map fun v => (v.1, 0)) with
    | bad => rw [hr] at h; exact h.elim
    | ex k fs =>
      rw [hr] at h
      refine ⟨_, tot ac As, _, hlen (by rw [hr]; simp), fun a t => s1.there t, by rw [em]; exact (List.nodup_append.mp nd).1, by rw [em]; exact hT, all, ?_⟩
      rw [hr]
      intro cls od H' pr ex
      simp only at h
      split at h
      · exact h cls od H' (grow pr) ex
      · exact h.elim
    | ok d n os =>
      rw [hr] at h
      refine ⟨_, tot ac As, _, hlen (by rw [hr]; simp), fun a t => s1.there t, by rw [em]; exact (List.nodup_append.mp nd).1, by rw [em]; exact hT, all, ?_⟩
      rw [hr]
      intro v' H' A Cs pr _ nd2 fr2 o _
      refine h v' H' (grow pr) ⟨A, (List.nodup_append.mp nd2).1, fun p hp => ?_, o.mono (hid_le fun a t => t.imp id fun m => List.mem_append_left _ m) fun _ _ _ q => q⟩
      rcases (fr2 p (List.mem_append_left _ hp)).1 with z | z
      · rw [em] at z; exact hB p z
      · exact x1.free z
end
section
variable {X : Cx} {W : Wd} {F : Fn} {wx : WX} {p pos : Pos} {e : Expr} {es : List Expr} {cs : CEs}
theorem se_call {f : Nat} {x : Str} {io : List Nat} (A : FnAt X W x io (F f)) (tk : Takes X wx) (hg : Gl X x) (ha : PA X (e :: es) (tA W F wx cs)) (hdb : (x == ("__debug__" : Str)) = false) (hs : (e :: es).all nstar = true) {x' : String} :
    PE X (.Call (.Name x p) (e :: es) [] pos) (tE W F wx (.call f x' cs)) := by
  obtain ⟨k, fa, fd, ps, hnp, F1, hr, hm, hk, hb⟩ := A.ex
  have h2 := two hs
  refine PE.imp (pe_callS F1 hr hg hm hk hb (fun σ => passAt tk σ) ha hdb (star_cons h2.1) (star_any h2.2)) fun σ H Q h => ?_
  obtain ⟨ac, Γ, As, s, h⟩ := h
  simp only [ev] at h
  refine ⟨ac, Γ, As, s, ?_⟩
  cases e1 : evA F cs Γ with
  | bad => rw [e1] at h; exact h.elim
  | ex k fs => rw [e1] at h; exact h
  | ok vs =>
    rw [e1] at h
    exact fun us H1 x1 ar => call_ok hnp s x1 ar h
theorem se_eatc {f : Nat} {x : Str} (A : FnAt X W x [] (F f)) (tk : Takes X wx) (hg : Gl X x) (ha : PA X (e :: es) (tA W F wx cs)) (hdb : (x == ("__debug__" : Str)) = false) (hs : (e :: es).all nstar = true) {x' : String} :
    PE X (.Call (.Name x p) (e :: es) [] pos) (tE W F wx (.eatc f x' cs)) := by
  obtain ⟨k, fa, fd, ps, hnp, F1, hr, hm, hk, hb⟩ := A.ex
  have h2 := two hs
  refine PE.imp (pe_callS F1 hr hg hm hk hb (fun σ => passAt tk σ) ha hdb (star_cons h2.1) (star_any h2.2)) fun σ H Q h => ?_
  obtain ⟨ac, Γ, As, s, h⟩ := h
  simp only [ev] at h
  refine ⟨ac, Γ, As, s, ?_⟩
  cases e1 : evA F cs Γ with
  | bad => rw [e1] at h; exact h.elim
  | ex k fs => rw [e1] at h; exact h
  | ok vs =>
    rw [e1] at h
    match vs, h with
    | [], h => exact h.elim
    | (d, n, fr) :: vs, h =>
      simp only at h
      by_cases c : fr = true ∧ vs.all (fun v => v.1.scal) = true
      · rw [if_pos c] at h
        obtain ⟨rfl, c2⟩ := c
        exact fun us H1 x1 ar => eat_ok hnp s x1 ar c2 h
      · rw [if_neg c] at h; exact h.elim
/-- C(..) -/
theorem se_mk {f : Nat} {x : Str} (A : MkAt X W x (F f)) (hg : Gl X x) (ha : PA X (e :: es) (tA W F wx cs)) (hdb : (x == ("__debug__" : Str)) = false) (hs : (e :: es).all nstar = true) {x' : String} :
    PE X (.Call (.Name x p) (e :: es) [] pos) (tE W F wx (.mk f x' cs)) := by
  obtain ⟨k, C, fi, fd, ps, spi, M, F1, hr, hm, hb, hsp⟩ := A.ex
  have h2 := two hs
  refine PE.imp (pe_make (E := E0) M F1 hr hg hm hb .nil pass0 ha hdb (star_cons h2.1) (star_any h2.2)) fun σ H Q h => ?_
  obtain ⟨ac, Γ, As, s, h⟩ := h
  simp only [ev] at h
  refine ⟨ac, Γ, As, s, ?_⟩
  cases e1 : evA F cs Γ with
  | bad => rw [e1] at h; exact h.elim
  | ex k fs => rw [e1] at h; exact h
  | ok vs =>
    rw [e1] at h
    intro us H1 x1 ar x dx nx ndx ne
    rw [List.append_nil]
    have s1 := s.mono x1
    simp only at h
    obtain ⟨S, hS, hF⟩ : ∃ S : Addr → Prop, (∀ a, S a → ∃ o, H1 a = some o) ∧ Fros W (hid H1 S) (vs.map (·.1)) us := by
      cases hf : fixed vs with
      | true => exact ⟨tot ac As, fun a t => s1.there t, ar.fixed (fun a t => s.there t) hf⟩
      | false =>
        obtain ⟨Bs, nd, fr, ar⟩ := ar.ex
        have hU : ∀ p ∈ Bs.flatten, ¬ tot ac As p := fun p hp t => by obtain ⟨o, q⟩ := s.there t; rw [fr p hp] at q; cases q
        obtain ⟨L, h1, h2⟩ := ar.lent hU
        exact ⟨_, fun a t => s1.there t.1, h2⟩
    refine hsp us H1 Q E0 ⟨vs.map (·.1), S, hS, hF, ?_⟩ x dx nx ndx ne
    have em : (vs.map (·.1)).map (fun d => ((d, 0) : D × Nat)) = vs.map fun v => (v.1, 0) := by rw [List.map_map]; rfl
    rw [em]
    split at h
    · rename_i d os hr'
      try rw [hr']
      exact fun v H' xx fr => h v H' (x1.trans xx) (Rs.of0 (fr.mono (hid_le fun a t => s1.there t)))
    · exact h.elim
theorem meth_ht {o : Expr} {m : Str} {apos pos : Pos} {es : List Expr} {env : PySem.Env} (hb : attributeBase o m env (eval o env) = eval o env) (hf : methodCallForm (es.length + 0) (backTo pos (starEach es env)) (backToKw pos (keywordEach [] env)) = true) (hl : (apos.endLine == pos.line) = true) :
    eval (.Call (.Attribute o m apos) es [] pos) env = (do
      let ov ← eval o env
      standAt apos.atName
      let (f, first) ← holding [ov] (getMethod ov m (do return (← importBound o env).getD true))
      callWith pos f first (backTo pos (starEach es env)) (backToKw pos (keywordEach [] env))) := by
  have e0 : eval (.Call (.Attribute o m apos) es [] pos) env = (do
      let ov ← attributeBase o m env (eval o env)
      standAt apos.atName
      methodCall o m apos pos env ov (es.length + 0) (backTo pos (starEach es env)) (backToKw pos (keywordEach [] env))) := rfl
  rw [e0, hb]
  unfold methodCall
  simp only [hf, methodCallPos, hl, Bool.not_true, Bool.or_true, if_true]
  rfl
theorem fewN {es : List Expr} {env : PySem.Env} {pos : Pos} (hs : es.all nstar = true) (hl : es.length < 30) : methodCallForm (es.length + 0) (backTo pos (starEach es env)) (backToKw pos (keywordEach [] env)) = true := by
  have h1 := star_any (env := env) (pos := pos) hs
  unfold methodCallForm
  have h2 : (backTo pos (starEach es env)).all (fun x => !x.1) = true := by
    rw [List.all_eq_true]
    intro x hx
    rw [List.any_eq_false] at h1
    have := h1 x hx
    simpa using this
  have h3 : (backToKw pos (keywordEach [] env)) = [] := rfl
  rw [h2, h3]
  simp; omega
/-- o.m(..) of an object -/
theorem se_mcall {f c : Nat} {m : Str} {o : Expr} {ca : CE} {apos : Pos} (A : MtAt X W c m (F f)) (ho : PE X o (tE W F wx ca)) (ha : PA X (e :: es) (tA W F wx cs)) (hb : attributeBase o m X.env (eval o X.env) = eval o X.env) (hl : (apos.endLine == pos.line) = true) (hn : (e :: es).length < 30) (hs : (e :: es).all nstar = true) {x' : String} :
    PE X (.Call (.Attribute o m apos) (e :: es) [] pos) (tE W F wx (.mcall f x' c ca cs)) := by
  obtain ⟨k, C, fi, fd, ps, spi, hc, hM, F1, hr, hbd, hob, hsp⟩ := A.ex
  have h2 := two hs
  refine PE.imp (pe_meth (E := E0) ho hc hM F1 hr hbd .nil pass0 ha (star_cons h2.1) (star_any h2.2) (meth_ht hb (fewN hs hn) hl)) fun σ H Q h => ?_
  obtain ⟨ac, Γ, As, s, h⟩ := h
  simp only [ev] at h
  refine ⟨ac, Γ, As, s, ?_⟩
  cases e1 : ev F ca Γ with
  | bad => rw [e1] at h; exact h.elim
  | ex k fs => rw [e1] at h; exact h
  | ok d n =>
    rw [e1] at h
    cases d <;> first | exact h.elim | skip
    rename_i c' ds
    simp only at h
    split at h
    · rename_i hcc
      subst hcc
      intro v H1 x1 r1
      have fr1 : Fro W (hid H1 (tot ac As)) (.obj c' ds) v := r1.b.nonc rfl
      have ob1 : W.OB c' ds v H1 := W.mono _ _ _ _ _ hid_full fr1
      obtain ⟨a, dx, fs, rfl, g1, g2⟩ := hob ds v H1 ob1
      refine ⟨a, dx, fs, rfl, g1, g2, ac, Γ, As, s.mono x1, ?_⟩
      cases e2 : evA F cs Γ with
      | bad => rw [e2] at h; exact h.elim
      | ex k fs => rw [e2] at h; exact fun cls od H' x2 ex => h cls od H' (x1.trans x2) ex
      | ok vs =>
        rw [e2] at h
        intro us H2 x2 ar
        rw [List.append_nil]
        have s2 := (s.mono x1).mono x2
        simp only at h
        split at h
        · rename_i hf
          refine hsp (.ref a :: us) H2 Q E0 ⟨.obj c' ds :: vs.map (·.1), tot ac As, fun a t => s2.there t, ⟨_, _, rfl, Fro.mono (hid_ex x2) fr1, ar.fixed (fun a t => (s.mono x1).there t) hf⟩, ?_⟩
          have em : (D.obj c' ds :: vs.map (·.1)).map (fun d => ((d, 0) : D × Nat)) = (.obj c' ds, 0) :: vs.map fun v => (v.1, 0) := by rw [List.map_cons, List.map_map]; rfl
          rw [em]
          split at h
          · rename_i d os hr'
            try rw [hr']
            exact fun v H' xx fr => h v H' (x1.trans (x2.trans xx)) (Rs.of0 fr)
          · exact h.elim
        · exact h.elim
    · exact h.elim
end
/-! ### built-in functions -/
def rLenA (K : PySem.W.Frag) : List V → Hp → VK → Prop := fun xs H Q => (∃ p ys, xs = [.ref p] ∧ (SqL K H p ys ∨ SqT K H p ys) ∧ Q (.int ys.length) H) ∨ (∃ z, xs = [.str z] ∧ z.length ≤ sizeLine ∧ Q (.int z.length) H) ∨ (∃ a kvs, xs = [V.ref a] ∧ H a = some (.dK kvs) ∧ Q (.int kvs.length) H) ∨ rLenT xs H Q
theorem cr_len {X : Cx} : CallR X (.builtin "len") (rLenA X.K) := call_len_seq.or (call_len_str.or (call_lenD.or call_len_dT))
section
variable {W : Wd} {wx : WX} {σ : L2.St} {H H0 : Hp} {Q : VK} {T : Addr → Prop} {f : Bool} {vs : List (D × Nat × Bool)} {us : List V}
abbrev RsAll (W : Wd) (T : Addr → Prop) (H : Hp) (vs : List (D × Nat × Bool)) (us : List V) : Prop := Paired (fun (a : D × Nat × Bool) v => RsB W T H a.2.1 a.1 v) vs us
theorem len_ok {K : PySem.W.Frag} (hK : K = W.K) (r : RsAll W T H vs us) (h : rE W wx σ H Q true T (opBi .len vs)) : rLenA K us H Q := by
  subst hK
  unfold opBi at h
  split at h <;> first | contradiction | exact h.elim | skip
  · rename_i xs n' f'
    obtain _ | ⟨r1, _ | ⟨_, _⟩⟩ := r
    obtain ⟨p, us, rfl, hp, g⟩ := r1.lst
    refine .inl ⟨p, us, rfl, .inl (SqL.of hp), ?_⟩
    rw [← g.length]; exact rE.int (k := 0) h
  · obtain _ | ⟨r1, _ | ⟨_, _⟩⟩ := r
    obtain ⟨p, us, rfl, hp, tp, g⟩ := r1.tup
    refine .inl ⟨p, us, rfl, .inr (SqT.of hp), ?_⟩
    rw [← g.length]; exact rE.int (k := 0) h
  · obtain _ | ⟨r1, _ | ⟨_, _⟩⟩ := r
    obtain ⟨p, us, rfl, hp, g⟩ := r1.ro
    refine .inl ⟨p, us, rfl, hp, ?_⟩
    rw [← g.length]; exact rE.int (k := 0) h
  · split at h
    · rename_i hl
      obtain _ | ⟨r1, _ | ⟨_, _⟩⟩ := r
      have r1 := r1.str
      subst r1
      exact .inr (.inl ⟨_, rfl, by rw [toS_len, line_eq]; exact hl, by rw [toS_len]; exact rE.int (k := 0) h⟩)
    · exact h.elim
  · obtain _ | ⟨r1, _ | ⟨_, _⟩⟩ := r
    obtain ⟨p, us, rfl, ⟨kk, h1, h2, rfl, _⟩, hl, g⟩ := r1.delem
    refine .inr (.inr (.inl ⟨p, _, rfl, h2, ?_⟩))
    rw [List.length_map] at h
    rw [List.length_zip, ← h1, Nat.min_self]; exact rE.int (k := 0) h
  · obtain _ | ⟨r1, _ | ⟨_, _⟩⟩ := r
    obtain ⟨p, us, rfl, ⟨kk, h1, h2, rfl, _⟩, hl, g⟩ := r1.delem
    refine .inr (.inr (.inr ⟨p, _, rfl, h2, ?_⟩))
    rw [List.length_map] at h
    rw [List.length_zip, ← h1, Nat.min_self]; exact rE.int (k := 0) h
def rTupA (K : PySem.W.Frag) : List V → Hp → VK → Prop := fun xs H Q => ∃ p ys, xs = [.ref p] ∧ ((SqL K H p ys ∧ ∀ l, H l = none → Q (.ref l) (upd H l (.tup ys))) ∨ (SqT K H p ys ∧ Q (.ref p) H))
theorem tuple_ok {K : PySem.W.Frag} (ht : ∀ a, T a → ∃ o, H a = some o) (r : RsAll W T H vs us) (h : rE W wx σ H Q true T (opBi .tuple vs)) : rTupA K us H Q := by
  unfold opBi at h
  split at h <;> first | contradiction | exact h.elim | skip
  · split at h
    · rename_i hn
      obtain _ | ⟨r1, _ | ⟨_, _⟩⟩ := r
      obtain ⟨p, us, rfl, hp, g⟩ := r1.lst1 hn
      exact ⟨p, us, rfl, .inl ⟨SqL.of hp, fun l hl => h _ _ (Ex.new hl) (Rs.tup hl ht g (Ex.refl H))⟩⟩
    · exact h.elim
  · obtain _ | ⟨r1, _ | ⟨_, _⟩⟩ := r
    obtain ⟨p, us, rfl, hp, tp, g⟩ := r1.tup
    exact ⟨p, us, rfl, .inr ⟨SqT.of hp, h _ _ (Ex.refl H) (Rs.of0 ⟨p, us, rfl, by rw [hid_at tp]; exact hp, g⟩)⟩⟩
def rLstA (K : PySem.W.Frag) : List V → Hp → VK → Prop := fun xs H Q => ∃ p ys, xs = [.ref p] ∧ (SqL K H p ys ∨ SqT K H p ys) ∧ ∀ l, H l = none → Q (.ref l) (upd H l (.lst ys))
theorem list_ok {K : PySem.W.Frag} (r : RsAll W T H vs us) (h : rE W wx σ H Q true T (opBi .list vs)) : rLstA K us H Q := by
  unfold opBi at h
  split at h <;> first | contradiction | exact h.elim | skip
  · split at h
    · rename_i hn
      obtain _ | ⟨r1, _ | ⟨_, _⟩⟩ := r
      obtain ⟨p, us, rfl, hp, g⟩ := r1.lst1 hn
      exact ⟨p, us, rfl, .inl (SqL.of hp), fun l hl => h _ _ (Ex.new hl) (Rs.lst hl g (Ex.refl H))⟩
    · exact h.elim
  · obtain _ | ⟨r1, _ | ⟨_, _⟩⟩ := r
    obtain ⟨p, us, rfl, hp, tp, g⟩ := r1.tup
    exact ⟨p, us, rfl, .inr (SqT.of hp), fun l hl => h _ _ (Ex.new hl) (Rs.lst hl g (Ex.refl H))⟩
def rInt1 : List V → Hp → VK → Prop := fun xs H Q => (∃ i, xs = [V.int i] ∧ Q (.int i) H) ∨ ∃ k, xs = [V.bl k] ∧ Q (.int (if k then 1 else 0)) H
def rMin2 : List V → Hp → VK → Prop := fun xs H Q => ∃ i j, xs = [V.int i, V.int j] ∧ Q (.int (if j < i then j else i)) H
def rMax2 : List V → Hp → VK → Prop := fun xs H Q => ∃ i j, xs = [V.int i, V.int j] ∧ Q (.int (if j > i then j else i)) H
theorem int_ok (r : RsAll W T H vs us) (h : rE W wx σ H Q true T (opBi .int vs)) : rInt1 us H Q := by
  unfold opBi at h
  split at h <;> first | contradiction | exact h.elim | skip
  · obtain _ | ⟨r1, _ | ⟨_, _⟩⟩ := r
    exact .inl ⟨_, by rw [r1.int], rE.int (k := 0) h⟩
  · obtain _ | ⟨r1, _ | ⟨_, _⟩⟩ := r
    exact .inr ⟨_, by rw [r1.bl], rE.int (k := 0) h⟩
theorem insI_perm (i : Int) : ∀ l : List Int, (insI i l).Perm (i :: l)
  | [] => .refl _
  | j :: r => by
    unfold insI
    split
    · exact .refl _
    · exact ((insI_perm i r).cons j).trans (List.Perm.swap i j r)
theorem insI_mem {i x : Int} {l : List Int} (h : x ∈ insI i l) : x = i ∨ x ∈ l := by
  have := (insI_perm i l).mem_iff.mp h
  exact List.mem_cons.mp this
theorem insI_ord (i : Int) : ∀ l : List Int, l.Pairwise (· ≤ ·) → (insI i l).Pairwise (· ≤ ·)
  | [], _ => by unfold insI; exact List.pairwise_singleton _ _
  | j :: r, h => by
    obtain ⟨h1, h2⟩ := List.pairwise_cons.mp h
    unfold insI
    split
    · rename_i hij
      exact List.pairwise_cons.mpr ⟨fun x hx => (List.mem_cons.mp hx).elim (fun e => e ▸ hij) fun m => Int.le_trans hij (h1 x m), h⟩
    · rename_i hij
      exact List.pairwise_cons.mpr ⟨fun x hx => (insI_mem hx).elim (fun e => by rw [e]; omega) (h1 x), insI_ord i r h2⟩
theorem sortI_perm : ∀ l : List Int, (sortI l).Perm l
  | [] => .refl _
  | i :: r => (insI_perm i _).trans ((sortI_perm r).cons i)
theorem sortI_ord : ∀ l : List Int, (sortI l).Pairwise (· ≤ ·)
  | [] => .nil
  | i :: r => insI_ord i _ (sortI_ord r)
theorem ord_uniq : ∀ {a b : List Int}, a.Perm b → a.Pairwise (· ≤ ·) → b.Pairwise (· ≤ ·) → a = b
  | [], b, h, _, _ => by rw [List.Perm.eq_nil h.symm]
  | x :: a, [], h, _, _ => by have := h.length_eq; simp at this
  | x :: a, y :: b, h, ha, hb => by
    obtain ⟨a1, a2⟩ := List.pairwise_cons.mp ha
    obtain ⟨b1, b2⟩ := List.pairwise_cons.mp hb
    have e : x = y := by
      have h1 := h.mem_iff.mp (List.mem_cons_self (a := x) (l := a))
      have h2 := h.mem_iff.mpr (List.mem_cons_self (a := y) (l := b))
      rcases List.mem_cons.mp h1 with e | m1
      · exact e
      · rcases List.mem_cons.mp h2 with e | m2
        · exact e.symm
        · exact Int.le_antisymm (a1 y m2) (b1 x m1)
    subst e
    rw [ord_uniq (List.Perm.cons_inv h) a2 b2]
theorem intsOf_eq : ∀ {xs : List D} {ns : List Int}, intsOf xs = some ns → xs = ns.map D.int
  | [], ns, h => by simp only [intsOf, Option.some.injEq] at h; subst h; rfl
  | x :: xs, ns, h => by
    cases x <;> simp only [intsOf] at h <;> first | (cases h; done) | skip
    obtain ⟨m, hm, rfl⟩ := Option.map_eq_some_iff.mp h
    rw [intsOf_eq hm]; rfl
theorem fros_intsV {Hf : Hp} : ∀ {ns : List Int} {us : List V}, Fros W Hf (ns.map D.int) us → us = ns.map V.int
  | [], _, h => by cases h; rfl
  | n :: ns, _, ⟨v, r, e1, h1, h2⟩ => by
    subst e1
    have h1 : v = V.int n := h1
    rw [h1, fros_intsV h2]; rfl
theorem intsV_fros {Hf : Hp} : ∀ ns : List Int, Fros W Hf (ns.map D.int) (ns.map V.int)
  | [] => rfl
  | n :: ns => ⟨.int n, ns.map V.int, rfl, rfl, intsV_fros ns⟩
theorem sorted_ok {K : PySem.W.Frag} (r : RsAll W T H vs us) (h : rE W wx σ H Q true T (opBi .sorted vs)) : rSortedI K us H Q := by
  unfold opBi at h
  split at h <;> first | contradiction | exact h.elim | skip
  rename_i xs n' f' _
  by_cases hn : n' ≤ 1
  · rw [if_pos hn] at h
    obtain _ | ⟨r1, _ | ⟨_, _⟩⟩ := r
    obtain ⟨p, us, rfl, hp, g⟩ := r1.lst1 hn
    cases e : intsOf xs with
    | none => rw [e] at h; exact h.elim
    | some ns =>
      rw [e] at h
      have ex := intsOf_eq e
      subst ex
      have eu := fros_intsV g
      subst eu
      refine ⟨p, ns, rfl, SqL.of hp, fun ns' q hpm hord hq => ?_⟩
      have en := ord_uniq (hpm.trans (sortI_perm ns).symm) hord (sortI_ord ns)
      subst en
      exact h _ _ (Ex.new hq) (Rs.lst hq (intsV_fros _) (Ex.refl H))
  · rw [if_neg hn] at h; exact h.elim
theorem min2_ok (r : RsAll W T H vs us) (h : rE W wx σ H Q true T (opBi .min2 vs)) : rMin2 us H Q := by
  unfold opBi at h
  split at h <;> first | contradiction | exact h.elim | skip
  obtain _ | ⟨r1, _ | ⟨r2, _ | ⟨_, _⟩⟩⟩ := r
  exact ⟨_, _, by rw [r1.int, r2.int], rE.int (k := 0) h⟩
theorem max2_ok (r : RsAll W T H vs us) (h : rE W wx σ H Q true T (opBi .max2 vs)) : rMax2 us H Q := by
  unfold opBi at h
  split at h <;> first | contradiction | exact h.elim | skip
  obtain _ | ⟨r1, _ | ⟨r2, _ | ⟨_, _⟩⟩⟩ := r
  exact ⟨_, _, by rw [r1.int, r2.int], rE.int (k := 0) h⟩
end
section
variable {X : Cx} {W : Wd} {F : Fn} {wx : WX} {p pos apos : Pos} {o e e2 : Expr} {es : List Expr} {cs : CEs} {ca : CE}
/-- from the arguments to what the built-in asks -/
theorem blt_read {b : Bi} {r : List V → Hp → VK → Prop} {σ : L2.St} {H : Hp} {Q : VK} (h : tE W F wx (.blt b cs) σ H Q) (k : ∀ (T : Addr → Prop) (vs : List (D × Nat × Bool)) (us : List V) (H1 : Hp), (∀ a, T a → ∃ o, H1 a = some o) → RsAll W T H1 vs us → rE W wx σ H1 Q true T (opBi b vs) → r us H1 Q) : tA W F wx cs σ H fun us H1 => r us H1 Q := by
  obtain ⟨ac, Γ, As, s, h⟩ := h
  simp only [ev] at h
  refine ⟨ac, Γ, As, s, ?_⟩
  cases e1 : evA F cs Γ with
  | bad => rw [e1] at h; exact h.elim
  | ex k fs => rw [e1] at h; exact h
  | ok vs =>
    rw [e1] at h
    exact fun us H1 x1 ar => k (tot ac As) vs us H1 (fun a t => (s.mono x1).there t) (ar.rs fun a t => s.there t) (rE.on h x1)
theorem se_len (hK : X.K = W.K) (hg : Gl X "len") (hm : X.mg "len" = none) (ha : PA X (e :: es) (tA W F wx cs)) (hs : (e :: es).all nstar = true) : PE X (.Call (.Name "len" p) (e :: es) [] pos) (tE W F wx (.blt .len cs)) :=
  PE.imp (pe_callB cr_len hg hm boot_len ha (by decide) (by decide) (star_cons (two hs).1) (star_any (two hs).2)) fun σ H Q h => blt_read h fun T vs us H1 ht r h => len_ok hK r h
theorem se_tuple (hg : Gl X "tuple") (hm : X.mg "tuple" = none) (ha : PA X (e :: es) (tA W F wx cs)) (hs : (e :: es).all nstar = true) : PE X (.Call (.Name "tuple" p) (e :: es) [] pos) (tE W F wx (.blt .tuple cs)) :=
  PE.imp (pe_callTy call_tuple_of hg hm boot_tuple ha (by decide) (by decide) (star_cons (two hs).1) (star_any (two hs).2)) fun σ H Q h => blt_read h fun T vs us H1 ht r h => tuple_ok ht r h
theorem se_list (hg : Gl X "list") (hm : X.mg "list" = none) (ha : PA X (e :: es) (tA W F wx cs)) (hs : (e :: es).all nstar = true) : PE X (.Call (.Name "list" p) (e :: es) [] pos) (tE W F wx (.blt .list cs)) :=
  PE.imp (pe_callTy call_list_of hg hm boot_list ha (by decide) (by decide) (star_cons (two hs).1) (star_any (two hs).2)) fun σ H Q h => blt_read h fun T vs us H1 ht r h => list_ok r h
theorem se_sorted (hg : Gl X "sorted") (hm : X.mg "sorted" = none) (ha : PA X (e :: es) (tA W F wx cs)) (hs : (e :: es).all nstar = true) : PE X (.Call (.Name "sorted" p) (e :: es) [] pos) (tE W F wx (.blt .sorted cs)) :=
  PE.imp (pe_callB cr_sortedI hg hm boot_sorted ha (by decide) (by decide) (star_cons (two hs).1) (star_any (two hs).2)) fun σ H Q h => blt_read h fun T vs us H1 ht r h => sorted_ok r h
theorem se_int (hg : Gl X "int") (hm : X.mg "int" = none) (ha : PA X (e :: es) (tA W F wx cs)) (hs : (e :: es).all nstar = true) : PE X (.Call (.Name "int" p) (e :: es) [] pos) (tE W F wx (.blt .int cs)) :=
  PE.imp (pe_callTy (r := rInt1) call_int1 hg hm boot_int ha (by decide) (by decide) (star_cons (two hs).1) (star_any (two hs).2)) fun σ H Q h => blt_read h fun T vs us H1 ht r h => int_ok r h
theorem se_min2 (hc : X.calm = true) (hg : Gl X "min") (hm : X.mg "min" = none) (ha : PA X (e :: es) (tA W F wx cs)) (hs : (e :: es).all nstar = true) : PE X (.Call (.Name "min" p) (e :: es) [] pos) (tE W F wx (.blt .min2 cs)) :=
  PE.imp (pe_callB (r := rMin2) (call_min2 hc) hg hm boot_min ha (by decide) (by decide) (star_cons (two hs).1) (star_any (two hs).2)) fun σ H Q h => blt_read h fun T vs us H1 ht r h => min2_ok r h
theorem se_max2 (hc : X.calm = true) (hg : Gl X "max") (hm : X.mg "max" = none) (ha : PA X (e :: es) (tA W F wx cs)) (hs : (e :: es).all nstar = true) : PE X (.Call (.Name "max" p) (e :: es) [] pos) (tE W F wx (.blt .max2 cs)) :=
  PE.imp (pe_callB (r := rMax2) (call_max2 hc) hg hm boot_max ha (by decide) (by decide) (star_cons (two hs).1) (star_any (two hs).2)) fun σ H Q h => blt_read h fun T vs us H1 ht r h => max2_ok r h
/-! ### isinstance -/
theorem isi_base {K : PySem.W.Frag} {H : Hp} {t : Ty} {d : D} {v : V} {b : Bool} (h : Fro W H d v) (hb : isiOf t d = some b) : ∃ n, TyX K H v (.type n) ∧ kitB n t.name = some b := by
  cases d with
  | non => cases h; cases hb; exact ⟨_, .base .non, by cases t <;> decide +kernel⟩
  | bl x => cases h; cases hb; exact ⟨_, .base (.bl _), by cases t <;> decide +kernel⟩
  | int i => cases h; cases hb; exact ⟨_, .base (.int _), by cases t <;> decide +kernel⟩
  | str x => obtain ⟨rfl, _⟩ := h; cases hb; exact ⟨_, .base (.str _), by cases t <;> decide +kernel⟩
  | tup xs => obtain ⟨a, us, rfl, h, _⟩ := h; cases hb; exact ⟨_, .base (.tup h), by cases t <;> decide +kernel⟩
  | lst xs => obtain ⟨a, us, rfl, h, _⟩ := h; cases hb; exact ⟨_, .base (.lst h), by cases t <;> decide +kernel⟩
  | dct k ks vs =>
    obtain ⟨a, us, rfl, h, _⟩ := h
    cases hb
    cases k
    · obtain ⟨kk, _, h, _⟩ := h; exact ⟨_, .base (.dK h), by cases t <;> decide +kernel⟩
    · obtain ⟨kk, _, h, _⟩ := h; exact ⟨_, .base (.dT h), by cases t <;> decide +kernel⟩
  | ro _ _ => cases hb
  | obj _ _ => cases hb
theorem boot_ty (t : Ty) : bootBuiltins (Str.ofString t.name) = some (.type t.name) := by cases t <;> decide +kernel
theorem se_isi {t : Ty} {p2 : Pos} {x : Str} (hx : x = Str.ofString t.name) (hg : Gl X "isinstance") (hm : X.mg "isinstance" = none) (hg2 : Gl X x) (hm2 : X.mg x = none) (ha : PE X e (tE W F wx ca)) (hs : nstar e = true) :
    PE X (.Call (.Name "isinstance" p) [e, .Name x p2] [] pos) (tE W F wx (.isi ca t)) := by
  subst hx
  have h2 : PE X (.Name (Str.ofString t.name) p2) (tC (.ty t.name)) := pe_bltn hg2 hm2 (boot_ty t) rfl (by cases t <;> decide) (by cases t <;> decide)
  refine PE.imp (pe_callB call_isi hg hm boot_isinstance (pa_cons ha (pa_cons h2 pa_nil) (star_cons hs)) (by decide) (by decide) (star_cons hs)) fun σ H Q h => ?_
  obtain ⟨ac, Γ, As, s, h⟩ := h
  simp only [ev] at h
  refine rE.bind s h fun d n v H1 e1 x1 s1 r1 h1 => ?_
  obtain ⟨b, hb, q⟩ := rB_ok (rE.on h1 x1)
  obtain ⟨nm, ty, kb⟩ := isi_base (K := X.K) r1.b.fro hb
  exact ⟨v, .ty t.name, _, _, b, rfl, .ty _, ty, kit_ty kb, q⟩
end
end GL

/-! GL10: slots set, forgotten; targets; what is walked; comprehensions. -/
namespace GL
open PySem L2 PyProof.Rows
theorem mem_flat_set : ∀ {As : List (List Addr)} {i : Nat} {A : List Addr} {p : Addr}, p ∈ (As.set i A).flatten → p ∈ A ∨ ∃ (j : Nat) (B : List Addr), j ≠ i ∧ As[j]? = some B ∧ p ∈ B
  | [], _, _, _, h => by simp at h
  | B :: As, 0, A, p, h => by
    rw [List.set_cons_zero, List.flatten_cons, List.mem_append] at h
    rcases h with h | h
    · exact .inl h
    · obtain ⟨C, hC, hp⟩ := List.mem_flatten.mp h
      obtain ⟨j, hj, e⟩ := List.getElem_of_mem hC
      exact .inr ⟨j + 1, C, by omega, by rw [List.getElem?_cons_succ, List.getElem?_eq_getElem hj, e], hp⟩
  | B :: As, i + 1, A, p, h => by
    rw [List.set_cons_succ, List.flatten_cons, List.mem_append] at h
    rcases h with h | h
    · exact .inr ⟨0, B, by omega, rfl, h⟩
    · rcases mem_flat_set h with z | ⟨j, C, z1, z2, z3⟩
      · exact .inl z
      · exact .inr ⟨j + 1, C, by omega, by simpa using z2, z3⟩
theorem mem_flat_of {As : List (List Addr)} {i : Nat} {A : List Addr} {p : Addr} (h : As[i]? = some A) (hp : p ∈ A) : p ∈ As.flatten := List.mem_flatten.mpr ⟨A, List.mem_of_getElem? h, hp⟩
theorem mem_flat_set_of {As : List (List Addr)} {i : Nat} {A : List Addr} {p : Addr} (hi : i < As.length) (hp : p ∈ A) : p ∈ (As.set i A).flatten := mem_flat_of (i := i) (by rw [List.getElem?_set_self hi]) hp
theorem flat_sep : ∀ {As : List (List Addr)}, As.flatten.Nodup → ∀ {i j : Nat} {A B : List Addr}, i ≠ j → As[i]? = some A → As[j]? = some B → ∀ p ∈ A, p ∉ B
  | [], _, i, _, _, _, _, h, _ => by simp at h
  | C :: As, nd, i, j, A, B, ne, hA, hB => by
    rw [List.flatten_cons, List.nodup_append] at nd
    obtain ⟨n1, n2, n3⟩ := nd
    intro p hp hq
    cases i with
    | zero =>
      cases j with
      | zero => exact ne rfl
      | succ j =>
        simp only [List.getElem?_cons_zero, Option.some.injEq] at hA
        subst hA
        exact n3 p hp p (mem_flat_of (i := j) (by simpa using hB) hq) rfl
    | succ i =>
      cases j with
      | zero =>
        simp only [List.getElem?_cons_zero, Option.some.injEq] at hB
        subst hB
        exact n3 p hq p (mem_flat_of (i := i) (by simpa using hA) hp) rfl
      | succ j => exact flat_sep n2 (i := i) (j := j) (by omega) (by simpa using hA) (by simpa using hB) p hp hq
theorem flat_one : ∀ {As : List (List Addr)}, As.flatten.Nodup → ∀ {i : Nat} {A : List Addr}, As[i]? = some A → A.Nodup
  | [], _, i, _, h => by simp at h
  | C :: As, nd, i, A, hA => by
    rw [List.flatten_cons, List.nodup_append] at nd
    cases i with
    | zero => simp only [List.getElem?_cons_zero, Option.some.injEq] at hA; subst hA; exact nd.1
    | succ i => exact flat_one nd.2.1 (i := i) (by simpa using hA)
theorem nodup_set : ∀ {As : List (List Addr)} {i : Nat} {A : List Addr}, As.flatten.Nodup → A.Nodup → (∀ p ∈ A, ∀ (j : Nat) (B : List Addr), j ≠ i → As[j]? = some B → p ∉ B) → (As.set i A).flatten.Nodup
  | [], _, _, _, _, _ => by simp
  | C :: As, 0, A, nd, na, h => by
    rw [List.set_cons_zero, List.flatten_cons, List.nodup_append]
    rw [List.flatten_cons, List.nodup_append] at nd
    refine ⟨na, nd.2.1, fun a ha b hb e => ?_⟩
    subst e
    obtain ⟨B, hB, hp⟩ := List.mem_flatten.mp hb
    obtain ⟨j, hj, e⟩ := List.getElem_of_mem hB
    exact h a ha (j + 1) B (by omega) (by rw [List.getElem?_cons_succ, List.getElem?_eq_getElem hj, e]) hp
  | C :: As, i + 1, A, nd, na, h => by
    rw [List.set_cons_succ, List.flatten_cons, List.nodup_append]
    rw [List.flatten_cons, List.nodup_append] at nd
    obtain ⟨n1, n2, n3⟩ := nd
    refine ⟨n1, nodup_set n2 na fun p hp j B ne hB => h p hp (j + 1) B (by omega) (by simpa using hB), fun a ha b hb e => ?_⟩
    subst e
    rcases mem_flat_set hb with z | ⟨j, B, z1, z2, z3⟩
    · exact h a z 0 C (by omega) rfl ha
    · exact n3 a ha a (mem_flat_of z2 z3) rfl
section
variable {W : Wd} {ac : Ac} {H H' : Hp} {σ : L2.St} {Γ : Env} {As : List (List Addr)}
/-- a slot is set: to v, with the objects at A, which nothing else of the state holds -/
theorem StOk.put {A : List Addr} {i : Nat} {d : D} {n : Nat} {v : V} (hj : ∀ w, W.pn i = some w → w = v) (s : StOk W { ac with S := fun a => ac.S a ∨ a ∈ A } H σ Γ As) (nA : A.Nodup) (hA : ∀ p ∈ A, (p ∈ ac.A0 ∨ ac.H0 p = none) ∧ ¬ ac.S p)
    (o : Own W (hid H fun a => ac.S a ∨ a ∈ A ∨ ∃ (j : Nat) (B : List Addr), j ≠ i ∧ As[j]? = some B ∧ a ∈ B) H n d v A) : StOk W ac H (σ.set i (some v)) (Γ.set i (some (d, n))) (As.set i A) where
  len := by rw [List.length_set, List.length_set]; exact s.len
  len2 := by rw [List.length_set, List.length_set]; exact s.len2
  pres := s.pres
  nd := nodup_set s.nd nA fun p hp j B ne hB hq => (s.own p (mem_flat_of hB hq)).2 (.inr hp)
  own := fun p hp => (mem_flat_set hp).elim (hA p) fun ⟨j, B, z1, z2, z3⟩ => let q := s.own p (mem_flat_of z2 z3); ⟨q.1, fun z => q.2 (.inl z)⟩
  frn := fun a h => s.frn a (.inl h)
  slot := fun j e m h => by
    by_cases hj : i = j
    · subst hj
      by_cases hl : i < Γ.length
      · rw [List.getElem?_set_self hl] at h
        cases h
        refine ⟨v, A, by rw [List.getElem?_set_self (by rw [s.len2]; exact hl)], by rw [List.getElem?_set_self (by rw [s.len]; exact hl)], o.mono (hid_le fun a t => ?_) fun _ _ _ q => q⟩
        rcases t with t | t
        · exact .inl t
        · rcases mem_flat_set t with z | z
          · exact .inr (.inl z)
          · exact .inr (.inr z)
      · rw [List.getElem?_eq_none (by rw [List.length_set]; omega)] at h; cases h
    · rw [List.getElem?_set_ne hj] at h
      obtain ⟨u, B, h1, h2, h3⟩ := s.slot j e m h
      refine ⟨u, B, by rw [List.getElem?_set_ne hj]; exact h1, by rw [List.getElem?_set_ne hj]; exact h2, h3.mono (hid_le fun a t => ?_) fun _ _ _ q => q⟩
      rcases t with t | t
      · exact .inl (.inl t)
      · rcases mem_flat_set t with z | ⟨k, B, z1, z2, z3⟩
        · exact .inl (.inr z)
        · exact .inr (mem_flat_of z2 z3)
  bare := fun j B h1 h2 => by
    by_cases hj : i = j
    · subst hj
      by_cases hl : i < Γ.length
      · rw [List.getElem?_set_self hl] at h1; cases h1
      · rw [List.getElem?_eq_none (by rw [List.length_set]; omega)] at h1; cases h1
    · rw [List.getElem?_set_ne hj] at h1 h2
      exact s.bare j B h1 h2
  a0 := s.a0
  fz := s.fz.trans (hid_le fun a t => by
    rcases t with t | t
    · exact .inl (.inl t)
    · rcases mem_flat_set t with z | ⟨j, B, z1, z2, z3⟩
      · exact .inl (.inr z)
      · exact .inr (mem_flat_of z2 z3))
  fb := s.fb
  pin := fun j w h => by
    by_cases e : i = j
    · subst e
      have := hj w h
      subst this
      rw [List.getElem?_set_self]
      exact (List.getElem?_eq_some_iff.mp (s.pin i w h)).1
    · rw [List.getElem?_set_ne e]; exact s.pin j w h
theorem StOk.same {S' : Addr → Prop} (s : StOk W ac H σ Γ As) (h : ∀ a, S' a ↔ ac.S a) : StOk W { ac with S := S' } H σ Γ As := by
  have : S' = ac.S := funext fun a => propext (h a)
  rw [this]; exact s
/-- .. to something fixed -/
theorem StOk.put0 {i : Nat} {d : D} {v : V} (hj : ∀ w, W.pn i = some w → w = v) (s : StOk W ac H σ Γ As) (f : Fro W (hid H (tot ac As)) d v) : StOk W ac H (σ.set i (some v)) (Γ.set i (some (d, 0))) (As.set i []) := by
  refine StOk.put hj (s.same fun a => ⟨fun z => z.elim id (fun z => by cases z), fun z => Or.inl z⟩) .nil (fun p hp => by cases hp) ⟨rfl, f.mono (hid_le fun a t => ?_)⟩
  rcases t with t | t | ⟨j, B, z1, z2, z3⟩
  · exact .inl t
  · cases t
  · exact .inr (mem_flat_of z2 z3)
/-- .. to what stands there -/
theorem StOk.put0' {i : Nat} {d : D} {v : V} (s : StOk W ac H σ Γ As) (hv : σ[i]? = some (some v)) (f : Fro W (hid H (tot ac As)) d v) : StOk W ac H σ (Γ.set i (some (d, 0))) (As.set i []) := by
  have s1 := s.put0 (i := i) (fun w h => by have := s.pin i w h; rw [hv] at this; exact (Option.some.inj (Option.some.inj this)).symm) f
  have e : σ.set i (some v) = σ := by
    apply List.ext_getElem?
    intro j
    by_cases hj : i = j
    · subst hj
      rw [List.getElem?_set_self (List.getElem?_eq_some_iff.mp hv).1, hv]
    · rw [List.getElem?_set_ne hj]
  rw [e] at s1
  exact s1
/-- a slot is forgotten; what it held is left alone -/
theorem StOk.hide {i : Nat} {A : List Addr} (s : StOk W ac H σ Γ As) (hA : As[i]? = some A) {x : Option V} (hx : ∀ w, W.pn i = some w → x = some w) : StOk W { ac with S := fun a => ac.S a ∨ a ∈ A } H (σ.set i x) (Γ.set i none) (As.set i []) where
  len := by rw [List.length_set, List.length_set]; exact s.len
  len2 := by rw [List.length_set, List.length_set]; exact s.len2
  pres := s.pres
  nd := nodup_set s.nd .nil fun p hp => by cases hp
  own := fun p hp => (mem_flat_set hp).elim (fun z => by cases z) fun ⟨j, B, z1, z2, z3⟩ => let q := s.own p (mem_flat_of z2 z3); ⟨q.1, fun z => z.elim q.2 fun z => flat_sep s.nd z1 z2 hA p z3 z⟩
  frn := fun a h => h.elim (s.frn a) fun h => let ⟨o, q, _⟩ := s.thereA hA a h; ⟨o, q⟩
  slot := fun j e m h => by
    by_cases hj : i = j
    · subst hj
      by_cases hl : i < Γ.length
      · rw [List.getElem?_set_self hl] at h; cases h
      · rw [List.getElem?_eq_none (by rw [List.length_set]; omega)] at h; cases h
    · rw [List.getElem?_set_ne hj] at h
      obtain ⟨u, B, h1, h2, h3⟩ := s.slot j e m h
      refine ⟨u, B, by rw [List.getElem?_set_ne hj]; exact h1, by rw [List.getElem?_set_ne hj]; exact h2, h3.mono (hid_le fun a t => ?_) fun _ _ _ q => q⟩
      rcases t with (t | t) | t
      · exact .inl t
      · exact .inr (mem_flat_of hA t)
      · rcases mem_flat_set t with z | ⟨k, B, z1, z2, z3⟩
        · cases z
        · exact .inr (mem_flat_of z2 z3)
  bare := fun j B h1 h2 => by
    by_cases hj : i = j
    · subst hj
      by_cases hl : i < As.length
      · rw [List.getElem?_set_self hl] at h2; cases h2; rfl
      · rw [List.getElem?_eq_none (by rw [List.length_set]; omega)] at h2; cases h2
    · rw [List.getElem?_set_ne hj] at h1 h2
      exact s.bare j B h1 h2
  a0 := s.a0
  fz := s.fz.trans (hid_le fun a t => by
    rcases t with (t | t) | t
    · exact .inl t
    · exact .inr (mem_flat_of hA t)
    · rcases mem_flat_set t with z | ⟨j, B, z1, z2, z3⟩
      · cases z
      · exact .inr (mem_flat_of z2 z3))
  fb := s.fb
  pin := fun j w h => by
    by_cases e : i = j
    · subst e
      rw [List.getElem?_set_self (by rw [s.len2, ← s.len]; exact (List.getElem?_eq_some_iff.mp hA).1), hx w h]
    · rw [List.getElem?_set_ne e]; exact s.pin j w h
theorem tot_hide {i : Nat} {A : List Addr} (hA : As[i]? = some A) (a : Addr) : tot { ac with S := fun a => ac.S a ∨ a ∈ A } (As.set i []) a ↔ tot ac As a := by
  constructor
  · rintro ((z | z) | z)
    · exact .inl z
    · exact .inr (mem_flat_of hA z)
    · rcases mem_flat_set z with z | ⟨j, B, z1, z2, z3⟩
      · cases z
      · exact .inr (mem_flat_of z2 z3)
  · rintro (z | z)
    · exact .inl (.inl z)
    · obtain ⟨B, hB, hp⟩ := List.mem_flatten.mp z
      obtain ⟨j, hj, e⟩ := List.getElem_of_mem hB
      by_cases hij : i = j
      · subst hij
        have : As[i]? = some B := by rw [List.getElem?_eq_getElem hj, e]
        rw [hA] at this; cases this
        exact .inl (.inr hp)
      · exact .inr (mem_flat_of (i := j) (by rw [List.getElem?_set_ne hij, List.getElem?_eq_getElem hj, e]) hp)
theorem StOk.wipes (s : StOk W ac H σ Γ As) : ∀ is : List Nat, (∀ i ∈ is, W.pn i = none) → ∃ ac' As', StOk W ac' H (wipe σ is) (wipeG Γ is) As' ∧ ∀ a, tot ac' As' a ↔ tot ac As a
  | [], _ => ⟨ac, As, s, fun _ => Iff.rfl⟩
  | i :: is, hp => by
    obtain ⟨ac', As', s', h⟩ := StOk.wipes s is fun j hj => hp j (List.mem_cons_of_mem _ hj)
    cases hA : As'[i]? with
    | some A => exact ⟨_, _, s'.hide hA (fun w q => by rw [hp i List.mem_cons_self] at q; cases q), fun a => (tot_hide hA a).trans (h a)⟩
    | none =>
      refine ⟨ac', As', ?_, h⟩
      have hl : As'.length ≤ i := List.getElem?_eq_none_iff.mp hA
      show StOk W ac' H ((wipe σ is).set i none) ((wipeG Γ is).set i none) As'
      rw [List.set_eq_of_length_le (by rw [s'.len2, ← s'.len]; exact hl), List.set_eq_of_length_le (by rw [← s'.len]; exact hl)]
      exact s'
theorem StOk.eqT {ac' : Ac} {As' : List (List Addr)} {T : Addr → Prop} (h : ∀ a, tot ac' As' a ↔ T a) : tot ac' As' = T := funext fun a => propext (h a)
end
/-! ### targets -/
/-- what a target does with d -/
def tgT (K : PySem.W.Frag) (is : List Nat) : TG := match is with
  | [i] => gName i
  | is => gTup K is.length (is.foldr (fun i g => gCons (gName i) g) gNil)
theorem wipe_set {σ : L2.St} {i : Nat} {x : Option V} : ∀ {ws : List Nat}, i ∈ ws → wipe (σ.set i x) ws = wipe σ ws
  | [], h => by cases h
  | w :: ws, h => by
    show (wipe (σ.set i x) ws).set w none = (wipe σ ws).set w none
    by_cases hi : i ∈ ws
    · rw [wipe_set hi]
    · have e : w = i := by
        rcases List.mem_cons.mp h with z | z
        · exact z.symm
        · exact absurd z hi
      subst e
      have gen : ∀ {ws : List Nat} {σ : L2.St}, wipe (σ.set w x) ws = (wipe σ ws).set w x ∨ w ∈ ws := by
        intro ws
        induction ws with
        | nil => intro σ; exact .inl rfl
        | cons v ws ih =>
          intro σ
          by_cases hv : v = w
          · exact .inr (by rw [hv]; exact List.mem_cons_self)
          · rcases ih (σ := σ) with z | z
            · left
              show (wipe (σ.set w x) ws).set v none = ((wipe σ ws).set v none).set w x
              rw [z, List.set_comm _ _ (fun e => hv e.symm)]
            · exact .inr (List.mem_cons_of_mem _ z)
      rcases gen (ws := ws) (σ := σ) with z | z
      · rw [z, List.set_set]
      · exact absurd z hi
theorem wipe_wipe {σ : L2.St} : ∀ {vs ws : List Nat}, (∀ i ∈ vs, i ∈ ws) → wipe (wipe σ vs) ws = wipe σ ws
  | [], _, _ => rfl
  | v :: vs, ws, h => by
    show wipe ((wipe σ vs).set v none) ws = _
    rw [wipe_set (h v List.mem_cons_self), wipe_wipe fun i hi => h i (List.mem_cons_of_mem _ hi)]
/-- what follows a store to a target -/
def AfterT (W : Wd) (ac : Ac) (H : Hp) (σ : L2.St) (As : List (List Addr)) (is : List Nat) (Γ' : Env) (Q : L2.St → Hp → Prop) : Prop :=
  ∀ σ' As', StOk W ac H σ' Γ' As' → (∀ a, tot ac As' a → tot ac As a) → ((∀ i ∈ is, ∀ A, As[i]? = some A → A = []) → ∀ a, tot ac As a → tot ac As' a) → (∀ ws : List Nat, (∀ i ∈ is, i ∈ ws) → wipe σ' ws = wipe σ ws) → Q σ' H
theorem tot_set0 {ac : Ac} {As : List (List Addr)} {i : Nat} (a : Addr) (t : tot ac (As.set i []) a) : tot ac As a := by
  rcases t with t | t
  · exact .inl t
  · rcases mem_flat_set t with z | ⟨j, B, z1, z2, z3⟩
    · cases z
    · exact .inr (mem_flat_of z2 z3)
theorem tot_set0' {ac : Ac} {As : List (List Addr)} {i : Nat} (h : ∀ A, As[i]? = some A → A = []) (a : Addr) (t : tot ac As a) : tot ac (As.set i []) a := by
  rcases t with t | t
  · exact .inl t
  · obtain ⟨B, hB, hp⟩ := List.mem_flatten.mp t
    obtain ⟨j, hj, e⟩ := List.getElem_of_mem hB
    have e' : As[j]? = some B := by rw [List.getElem?_eq_getElem hj, e]
    by_cases hij : i = j
    · subst hij
      rw [h B e'] at hp; cases hp
    · exact .inr (mem_flat_of (i := j) (by rw [List.getElem?_set_ne hij]; exact e') hp)
theorem one_ok {W : Wd} {ac : Ac} {H : Hp} {i : Nat} {d : D} {v : V} {σ : L2.St} {Γ : Env} {As : List (List Addr)} {Q : L2.St → Hp → Prop} (hp : W.pn i = none) (s : StOk W ac H σ Γ As) (f : Fro W (hid H (tot ac As)) d v) (k : AfterT W ac H σ As [i] (Γ.set i (some (d, 0))) Q) : gName i v σ H Q :=
  k _ _ (s.put0 (fun w q => by rw [hp] at q; cases q) f) tot_set0 (fun h => tot_set0' (h i (List.mem_singleton.mpr rfl))) fun ws h => wipe_set (h i (List.mem_singleton.mpr rfl))
theorem puts_ok {W : Wd} {ac : Ac} {H : Hp} : ∀ {is : List Nat} {ds : List D} {vs : List V} {σ : L2.St} {Γ : Env} {As : List (List Addr)} {Q : L2.St → Hp → Prop}, (∀ i ∈ is, W.pn i = none) → ds.length = is.length → StOk W ac H σ Γ As → Fros W (hid H (tot ac As)) ds vs →
    AfterT W ac H σ As is ((is.zip ds).foldl (fun g p => g.set p.1 (some (p.2, 0))) Γ) Q → is.foldr (fun i g => gCons (gName i) g) gNil vs σ H Q
  | [], [], vs, σ, Γ, As, Q, _, _, s, f, k => by
    cases f
    exact ⟨rfl, k σ As s (fun a t => t) (fun _ a t => t) fun _ _ => rfl⟩
  | i :: is, d :: ds, vs, σ, Γ, As, Q, hp, hl, s, ⟨v, r, e1, f1, f2⟩, k => by
    subst e1
    have s1 := s.put0 (i := i) (fun w q => by rw [hp i List.mem_cons_self] at q; cases q) f1
    refine ⟨v, r, rfl, ?_⟩
    refine puts_ok (fun j hj => hp j (List.mem_cons_of_mem _ hj)) (by simpa using hl) s1 (f2.mono (hid_le tot_set0)) fun σ' As' s' t1 t2 t3 => ?_
    refine k σ' As' s' (fun a t => tot_set0 a (t1 a t)) (fun h a t => t2 (fun j hj A hA => ?_) a (tot_set0' (h i List.mem_cons_self) a t)) fun ws hw => ?_
    · by_cases hij : i = j
      · subst hij
        by_cases hl : i < As.length
        · rw [List.getElem?_set_self hl] at hA; cases hA; rfl
        · rw [List.getElem?_eq_none (by rw [List.length_set]; omega)] at hA; cases hA
      · rw [List.getElem?_set_ne hij] at hA
        exact h j (List.mem_cons_of_mem _ hj) A hA
    · rw [t3 ws fun j hj => hw j (List.mem_cons_of_mem _ hj), wipe_set (hw i List.mem_cons_self)]
  | [], _ :: _, _, _, _, _, _, _, h, _, _, _ => by simp at h
  | _ :: _, [], _, _, _, _, _, _, h, _, _, _ => by simp at h
theorem tg_ok {W : Wd} {K : PySem.W.Frag} {ac : Ac} {H : Hp} {is : List Nat} {d : D} {v : V} {σ : L2.St} {Γ Γ' : Env} {As : List (List Addr)} {Q : L2.St → Hp → Prop} (hp : ∀ i ∈ is, W.pn i = none) (s : StOk W ac H σ Γ As) (f : Fro W (hid H (tot ac As)) d v) (h : setT Γ is d = some Γ')
    (k : AfterT W ac H σ As is Γ' Q) : tgT K is v σ H Q := by
  unfold setT at h
  split at h
  · rename_i i
    cases h
    exact one_ok (hp i (by simp)) s f k
  · rename_i is' hne
    have e : tgT K is = gTup K is.length (is.foldr (fun i g => gCons (gName i) g) gNil) := by
      unfold tgT
      split
      · rename_i i; exact (hne i rfl).elim
      · rfl
    rw [e]
    split at h
    · rename_i ds
      split at h
      · rename_i hl
        cases h
        obtain ⟨a, xs, rfl, hpa, g⟩ := f
        exact ⟨a, xs, rfl, SqT.of (hid_not hpa).2, by rw [← g.length]; exact hl, puts_ok hp hl s g k⟩
      · cases h
    · cases h
end GL

/-! GL11: what is walked; comprehensions. -/
namespace GL
open PySem L2 PyProof.Rows
/-- a walk over ds -/
structure Feeds (W : Wd) (T : Addr → Prop) (bor : Bool) (H1 : Hp) (J : It) (ds : List D) : Prop where
  ex : ∃ (G : Hp → Prop) (Y : Nat → Hp → V → Hp → Prop), Walk J ds.length G Y ∧ (∀ H, Ex (if bor then H1 else hid H1 T) H → G H) ∧
    ∀ (i : Nat) (H : Hp) (x : V) (H' : Hp) (d : D), ds[i]? = some d → Y i H x H' → Ex H H' ∧ ∀ T' : Addr → Prop, (∀ a, T' a → ∃ o, H a = some o) → Ex (hid H1 T) (hid H T') → Fro W (hid H' T') d x
def rI (W : Wd) (wx : WX) (σ : L2.St) (H : Hp) (R : It → Hp → Prop) (T : Addr → Prop) (r : RI) : Prop := match r with
  | .ok ds bor => ∀ J H', Ex H H' → Feeds W T bor H' J ds → R J H'
  | .ex k fs => ∀ cls od H', Ex H H' → ExR W (hid H' T) k fs cls od H' → wx cls od σ H'
  | .bad => False
def tI (W : Wd) (F : Fn) (wx : WX) (c : CI) : TI := fun σ H R => ∃ ac Γ As, StOk W ac H σ Γ As ∧ rI W wx σ H R (tot ac As) (evI F c Γ)
theorem PI.imp {X : Cx} {tg e : Expr} {t t' : TI} (h : PI X tg e t) (i : ∀ σ H R, t' σ H R → t σ H R) : PI X tg e t' := ⟨fun pins s σ H R I q => h.run pins s σ H R I (i σ H R q)⟩
theorem PI.or {X : Cx} {tg e : Expr} {t t' : TI} (h : PI X tg e t) (h' : PI X tg e t') : PI X tg e (fun σ H R => t σ H R ∨ t' σ H R) := ⟨fun pins s σ H R I q => q.elim (h.run pins s σ H R I) (h'.run pins s σ H R I)⟩
section
variable {W : Wd} {wx : WX} {σ : L2.St} {H H' : Hp} {T : Addr → Prop} {v : V} {n : Nat} {Ri : It → Hp → Prop}
/-- items that lie fixed -/
theorem feeds_fix {K : PySem.W.Frag} {J : It} {ds : List D} {us : List V} {bor : Bool} {G : Hp → Prop} (w : Walk J us.length G (YAt us)) (hG : ∀ H, Ex (if bor then H' else hid H' T) H → G H) (g : Fros W (hid H' T) ds us) : Feeds W T bor H' J ds := by
  refine ⟨G, _, by rw [g.length]; exact w, hG, fun i H x H2 d hd y => ?_⟩
  obtain ⟨rfl, hx⟩ := y
  obtain ⟨u, hu, q⟩ := g.get hd
  rw [hu] at hx; cases hx
  exact ⟨Ex.refl _, fun T' ht e => q.mono e⟩
theorem feeds_list {K : PySem.W.Frag} {p : Addr} {ds : List D} {us : List V} {bor : Bool} (h : (if bor then H' else hid H' T) p = some (.lst us)) (g : Fros W (hid H' T) ds us) : Feeds W T bor H' (Itl K p) ds :=
  feeds_fix (K := K) walk_list (fun H e => SqL.of (e _ _ h)) g
theorem feeds_tup {K : PySem.W.Frag} {p : Addr} {ds : List D} {us : List V} {bor : Bool} (h : (if bor then H' else hid H' T) p = some (.tup us)) (g : Fros W (hid H' T) ds us) : Feeds W T bor H' (Itt K p) ds :=
  feeds_fix (K := K) walk_tup (fun H e => SqT.of (e _ _ h)) g
theorem feeds_str {t : Tx} {bor : Bool} (k : tok t) : Feeds W T bor H' (Its (toS t)) (t.map fun c => .str [c]) := by
  refine ⟨_, _, by rw [List.length_map]; exact (walk_str (z := toS t)), fun _ _ => trivial, fun i H x H2 d hd y => ?_⟩
  obtain ⟨rfl, c, hc, rfl⟩ := y
  rw [List.getElem?_map] at hd
  have hc' : t[i]? = some c := by simpa using hc
  rw [hc'] at hd
  cases hd
  exact ⟨Ex.refl _, fun T' ht e => ⟨rfl, fun z hz => by rw [List.mem_singleton.mp hz]; exact k c (List.mem_of_getElem? hc')⟩⟩
theorem feeds_rng {lo : Int} {m : Nat} {bor : Bool} : Feeds W T bor H' (Itr lo m) (rngD lo m) := by
  refine ⟨_, _, by unfold rngD; rw [List.length_map, List.length_range]; exact walk_range, fun _ _ => trivial, fun i H x H2 d hd y => ?_⟩
  obtain ⟨rfl, rfl⟩ := y
  unfold rngD at hd
  rw [List.getElem?_map] at hd
  obtain ⟨k, hk, rfl⟩ := Option.map_eq_some_iff.mp hd
  have : k = i := by
    rw [List.getElem?_eq_some_iff] at hk
    obtain ⟨h1, h2⟩ := hk
    rw [List.getElem_range] at h2; exact h2.symm
  subst this
  exact ⟨Ex.refl _, fun T' ht e => rfl⟩
/-- a value walked: a list, a tuple, a text -/
def iAny (K : PySem.W.Frag) (te : TE) : TI := fun σ H R => iList K te σ H R ∨ iTup K te σ H R ∨ iStr te σ H R
theorem val_ok {K : PySem.W.Frag} (hK : K = W.K) {F : Fn} {c : CE} (h : tI W F wx (.val c) σ H Ri) : iAny K (tE W F wx c) σ H Ri := by
  subst hK
  obtain ⟨ac, Γ, As, s, h⟩ := h
  simp only [evI] at h
  cases e : ev F c Γ with
  | bad => rw [e] at h; exact h.elim
  | ex k fs => rw [e] at h; exact .inl ⟨ac, Γ, As, s, by rw [e]; exact h⟩
  | ok d n =>
    rw [e] at h
    simp only at h
    split at h
    · rename_i hn
      -- what is read, fixed or borrowed
      have key : ∀ v H1, Ex H H1 → Rs c.fresh W (tot ac As) H H1 n d v → ∀ (P : Prop), ((!(n == 0 || c.fresh)) = false → Fro W (hid H1 (tot ac As)) d v → P) → ((!(n == 0 || c.fresh)) = true → n = 1 → RsB W (tot ac As) H1 1 d v → P) → P := fun v H1 x r P k1 k2 => by
        cases hb : (!(n == 0 || c.fresh)) with
        | false =>
          refine k1 hb (r.fix (fun a t => s.there t) ?_)
          simp only [Bool.not_eq_false', Bool.or_eq_true, beq_iff_eq] at hb
          exact hb
        | true =>
          simp only [Bool.not_eq_true', Bool.or_eq_false_iff, beq_eq_false_iff_ne] at hb
          have hn1 : n = 1 := by
            rcases hn with z | z
            · omega
            · rw [hb.2] at z; cases z
          refine k2 (by simp [hb.1, hb.2]) hn1 ?_
          rw [← hn1]; exact r.b
      cases d with
      | lst xs =>
        simp only [itemsOf] at h
        refine .inl ⟨ac, Γ, As, s, ?_⟩
        rw [e]
        intro v H1 x1 r1
        refine key v H1 x1 r1 _ (fun hb f => ?_) (fun hb hn1 f => ?_)
        · obtain ⟨p, us, rfl, hp, g⟩ := f
          exact ⟨p, rfl, ⟨us, SqL.of (hid_full _ _ hp)⟩, h _ _ x1 (feeds_list (by rw [hb]; exact hp) g)⟩
        · obtain ⟨p, us, rfl, hp, g⟩ := f.lst1 (Nat.le_refl _)
          exact ⟨p, rfl, ⟨us, SqL.of hp⟩, h _ _ x1 (feeds_list (by rw [hb]; exact hp) g)⟩
      | tup xs =>
        simp only [itemsOf] at h
        refine .inr (.inl ⟨ac, Γ, As, s, ?_⟩)
        rw [e]
        intro v H1 x1 r1
        obtain ⟨p, us, rfl, hp, tp, g⟩ := r1.b.tup
        refine ⟨p, rfl, ⟨us, SqT.of hp⟩, h _ _ x1 (feeds_tup ?_ g)⟩
        split
        · exact hp
        · rw [hid_at tp]; exact hp
      | ro l xs =>
        simp only [itemsOf] at h
        cases l with
        | true =>
          refine .inl ⟨ac, Γ, As, s, ?_⟩
          rw [e]
          intro v H1 x1 r1
          obtain ⟨p, us, rfl, hp, g⟩ := r1.b.nonc rfl
          have hp : SqL W.K (hid H1 (tot ac As)) p us := hp
          refine ⟨p, rfl, ⟨us, ex_l hid_full hp⟩, h _ _ x1 (feeds_fix (K := W.K) walk_list (fun H2 e2 => ex_l e2 ?_) g)⟩
          split
          · exact ex_l hid_full hp
          · exact hp
        | false =>
          refine .inr (.inl ⟨ac, Γ, As, s, ?_⟩)
          rw [e]
          intro v H1 x1 r1
          obtain ⟨p, us, rfl, hp, g⟩ := r1.b.nonc rfl
          have hp : SqT W.K (hid H1 (tot ac As)) p us := hp
          refine ⟨p, rfl, ⟨us, ex_t hid_full hp⟩, h _ _ x1 (feeds_fix (K := W.K) walk_tup (fun H2 e2 => ex_t e2 ?_) g)⟩
          split
          · exact ex_t hid_full hp
          · exact hp
      | str t =>
        simp only [itemsOf] at h
        split at h
        · rename_i xs hx
          split at hx
          · cases hx
            refine .inr (.inr ⟨ac, Γ, As, s, ?_⟩)
            rw [e]
            intro v H1 x1 r1
            exact ⟨toS t, r1.b.str, h _ _ x1 (feeds_str r1.b.tok)⟩
          · cases hx
        · exact h.elim
      | _ => exact h.elim
    · exact h.elim
end
section
variable {X : Cx} {W : Wd} {F : Fn} {wx : WX} {p pos : Pos} {tg a b e : Expr} {ca cb : CE}
theorem si_val (hK : X.K = W.K) (h : PE X e (tE W F wx ca)) : PI X tg e (tI W F wx (.val ca)) :=
  PI.imp (PI.or (pi_list h) (PI.or (pi_tup h) (pi_str h))) fun σ H R h => val_ok hK h
theorem si_rng1 (hg : Gl X "range") (hm : X.mg "range" = none) (ha : PE X a (tE W F wx ca)) (hs : nstar a = true) : PI X tg (.Call (.Name "range" p) [a] [] pos) (tI W F wx (.rng1 ca)) := by
  refine PI.imp (pi_range1 hg hm (pa_cons ha pa_nil (star_cons hs)) (star_cons hs)) fun σ H R h => ?_
  obtain ⟨ac, Γ, As, s, h⟩ := h
  simp only [evI] at h
  refine ⟨ac, Γ, As, s, ?_⟩
  cases e : ev F ca Γ with
  | bad => rw [e] at h; exact h.elim
  | ex k fs => rw [e] at h; exact h
  | ok d n =>
    rw [e] at h
    cases d with
    | int m =>
      simp only at h
      split at h
      · rename_i hb
        intro v H1 x1 r1
        exact ⟨m, by rw [r1.b.int], by omega, by omega, h _ _ x1 feeds_rng⟩
      · exact h.elim
    | _ => exact h.elim
theorem si_rng2 (hg : Gl X "range") (hm : X.mg "range" = none) (ha : PE X a (tE W F wx ca)) (hb : PE X b (tE W F wx cb)) (hs : nstar a = true) (hs2 : nstar b = true) : PI X tg (.Call (.Name "range" p) [a, b] [] pos) (tI W F wx (.rng2 ca cb)) := by
  refine PI.imp (pi_range2 hg hm (pa_cons ha (pa_cons hb pa_nil (star_cons hs2)) (star_cons hs)) (by rw [star_cons hs, star_cons hs2]; rfl) (by rw [star_cons hs2]; rfl)) fun σ H R h => ?_
  obtain ⟨ac, Γ, As, s, h⟩ := h
  simp only [evI] at h
  refine ⟨ac, Γ, As, s, ?_⟩
  cases e : ev F ca Γ with
  | bad => rw [e] at h; exact h.elim
  | ex k fs => rw [e] at h; exact h
  | ok d n =>
    rw [e] at h
    cases d with
    | int i =>
      simp only at h
      intro v H1 x1 r1
      refine ⟨ac, Γ, As, s.mono x1, ?_⟩
      cases e2 : ev F cb Γ with
      | bad => rw [e2] at h; exact h.elim
      | ex k fs => rw [e2] at h; exact fun cls od H2 x2 r => h cls od H2 (x1.trans x2) r
      | ok d2 n2 =>
        rw [e2] at h
        cases d2 with
        | int j =>
          simp only at h
          split at h
          · rename_i hb
            intro v2 H2 x2 r2
            exact ⟨i, j, by rw [r1.b.int, r2.b.int], by omega, h _ _ (x1.trans x2) feeds_rng⟩
          · exact h.elim
        | _ => exact h.elim
    | _ => exact h.elim
theorem zipD_len : ∀ xs ys : List D, (zipD xs ys).length = min xs.length ys.length
  | [], ys => by simp [zipD]
  | x :: xs, [] => by simp [zipD]
  | x :: xs, y :: ys => by simp only [zipD, List.length_cons, zipD_len xs ys]; omega
theorem zipD_get : ∀ {xs ys : List D} {i : Nat} {d : D}, (zipD xs ys)[i]? = some d → ∃ x y, d = .tup [x, y] ∧ xs[i]? = some x ∧ ys[i]? = some y
  | [], ys, i, d, h => by simp [zipD] at h
  | x :: xs, [], i, d, h => by simp [zipD] at h
  | x :: xs, y :: ys, 0, d, h => by simp only [zipD, List.getElem?_cons_zero, Option.some.injEq] at h; exact ⟨x, y, h.symm, rfl, rfl⟩
  | x :: xs, y :: ys, i + 1, d, h => by
    simp only [zipD, List.getElem?_cons_succ] at h
    obtain ⟨a, b, h1, h2, h3⟩ := zipD_get h
    exact ⟨a, b, h1, by simpa using h2, by simpa using h3⟩
/-- pairs of items that lie fixed -/
theorem feeds_pair {W : Wd} {T : Addr → Prop} {H1 : Hp} {J : It} {xs ys : List D} {us ws : List V} {bor : Bool} {G : Hp → Prop} (w : Walk J (min us.length ws.length) G (YPair (fun i => us[i]?) (fun i => ws[i]?))) (hG : ∀ H, Ex (if bor then H1 else hid H1 T) H → G H) (gx : Fros W (hid H1 T) xs us) (gy : Fros W (hid H1 T) ys ws) : Feeds W T bor H1 J (zipD xs ys) := by
  refine ⟨G, _, by rw [zipD_len, gx.length, gy.length]; exact w, hG, fun i H x H2 d hd y => ?_⟩
  obtain ⟨a, b, rfl, ha, hb⟩ := zipD_get hd
  obtain ⟨p, u, v, rfl, hp, rfl, hu, hv⟩ := y
  obtain ⟨u', e1, f1⟩ := gx.get ha
  obtain ⟨v', e2, f2⟩ := gy.get hb
  have hu : us[i]? = some u := hu
  have hv : ws[i]? = some v := hv
  rw [hu] at e1; cases e1
  rw [hv] at e2; cases e2
  refine ⟨Ex.new hp, fun T' ht e => ?_⟩
  have nt : ¬ T' p := fun z => by obtain ⟨o, q⟩ := ht p z; rw [hp] at q; cases q
  have ee : Ex (hid H T') (hid (upd H p (.tup [u, v])) T') := hid_ex (Ex.new hp)
  exact ⟨p, [u, v], rfl, by rw [hid_at nt, upd_same], u, [v], rfl, f1.mono (e.trans ee), v, [], rfl, f2.mono (e.trans ee), rfl⟩
theorem enumD_len : ∀ (xs : List D) (k : Nat), (enumD k xs).length = xs.length
  | [], _ => rfl
  | _ :: xs, k => by simp only [enumD, List.length_cons, enumD_len xs]
theorem enumD_get : ∀ {xs : List D} {k i : Nat} {d : D}, (enumD k xs)[i]? = some d → ∃ x, d = .tup [.int ((k + i : Nat) : Int), x] ∧ xs[i]? = some x
  | [], _, _, _, h => by simp [enumD] at h
  | x :: xs, k, 0, d, h => by
    simp only [enumD, List.getElem?_cons_zero, Option.some.injEq] at h
    exact ⟨x, h.symm, rfl⟩
  | x :: xs, k, i + 1, d, h => by
    simp only [enumD, List.getElem?_cons_succ] at h
    obtain ⟨y, h1, h2⟩ := enumD_get h
    exact ⟨y, by rw [h1]; congr 3; omega, by simpa using h2⟩
theorem feeds_enum {K : PySem.W.Frag} {W : Wd} {T : Addr → Prop} {H1 : Hp} {p : Addr} {xs : List D} {us : List V} {bor : Bool} (hG : ∀ H, Ex (if bor then H1 else hid H1 T) H → SqL K H p us) (gx : Fros W (hid H1 T) xs us) : Feeds W T bor H1 (Ite K p) (enumD 0 xs) := by
  refine ⟨_, _, by rw [enumD_len, gx.length]; exact walk_enum, hG, fun i H x H2 d hd y => ?_⟩
  obtain ⟨b, rfl, hb⟩ := enumD_get hd
  obtain ⟨q, u, v, rfl, hp, rfl, hu, hv⟩ := y
  obtain ⟨v', e2, f2⟩ := gx.get hb
  have hv : us[i]? = some v := hv
  rw [hv] at e2; cases e2
  have hu : u = .int ((0 + i : Nat) : Int) := by rw [Nat.zero_add]; exact (Option.some.inj hu).symm
  subst hu
  refine ⟨Ex.new hp, fun T' ht e => ?_⟩
  have nt : ¬ T' q := fun z => by obtain ⟨o, r⟩ := ht q z; rw [hp] at r; cases r
  have ee : Ex (hid H T') (hid (upd H q (.tup [.int ((0 + i : Nat) : Int), v])) T') := hid_ex (Ex.new hp)
  exact ⟨q, _, rfl, by rw [hid_at nt, upd_same], _, [v], rfl, rfl, v, [], rfl, f2.mono (e.trans ee), rfl⟩
theorem walk_zipT {K : PySem.W.Frag} {a b : Addr} {xs ys : List V} {n : Nat} (hn : n = min xs.length ys.length) : Walk (RZ.ItzT K a b) n (fun H => SqT K H a xs ∧ SqT K H b ys) (YPair (fun i => xs[i]?) (fun i => ys[i]?)) := by
  subst hn
  refine ⟨fun i _ hi q => ?_, fun _ q => ⟨xs, ys, q.1, q.2, by omega⟩, fun i H v H' _ q y => ?_⟩
  · exact ⟨xs, ys, xs[i]'(by omega), ys[i]'(by omega), q.1, q.2, by simp [show i < xs.length by omega], by simp [show i < ys.length by omega]⟩
  · obtain ⟨T, x, z, h1, h2, h3, h4, h5⟩ := y
    exact ⟨T, x, z, h1, h2, h3, h4 xs q.1, h5 ys q.2⟩
/-- a list that is walked while others are made -/
theorem key_lst {xs : List D} {n : Nat} {fr : Bool} {W : Wd} {ac : Ac} {H H1 : Hp} {σ : L2.St} {Γ : Env} {As : List (List Addr)} {v : V} (s : StOk W ac H σ Γ As) (x : Ex H H1) (r : Rs fr W (tot ac As) H H1 n (.lst xs) v) (hn : n ≤ 1 ∨ fr = true) :
    ∃ p us, v = .ref p ∧ H1 p = some (.lst us) ∧ Fros W (hid H1 (tot ac As)) xs us ∧ ((n == 0 || fr) = true → hid H1 (tot ac As) p = some (.lst us)) := by
  cases hb : (n == 0 || fr) with
  | true =>
    have hb' : n = 0 ∨ fr = true := by simpa using hb
    have f := r.fix (fun a t => s.there t) hb'
    obtain ⟨p, us, rfl, hp, g⟩ := f
    exact ⟨p, us, rfl, hid_full _ _ hp, g, fun _ => hp⟩
  | false =>
    simp only [Bool.or_eq_false_iff, beq_eq_false_iff_ne] at hb
    have hn1 : n ≤ 1 := by
      rcases hn with z | z
      · exact z
      · rw [hb.2] at z; cases z
    obtain ⟨p, us, rfl, hp, g⟩ := r.b.lst1 hn1
    exact ⟨p, us, rfl, hp, g, fun z => by cases z⟩
/-- a tuple at a beside a list at b, each read as it stands at its turn -/
def ItzM (K : PySem.W.Frag) (a b : Addr) : It where
  go i H := ∃ us ws x y, (SqT K H a us ∧ us[i]? = some x) ∧ SqL K H b ws ∧ ws[i]? = some y
  yld i H r H' := ∃ T x y, (r = .ref T ∧ H T = none ∧ H' = upd H T (.tup [x, y])) ∧ (∀ us, SqT K H a us → us[i]? = some x) ∧ ∀ ws, SqL K H b ws → ws[i]? = some y
  stop i H := ∃ us ws, SqT K H a us ∧ SqL K H b ws ∧ i = min us.length ws.length
theorem turn_zipM {P : Program} {w : World} {K : PySem.W.Frag} {es : List Expr} {kk : Nat} {tp : Pos} {a b N : Addr} (la : a < N) (lb : b < N) :
    Turn P w K (.Tuple es kk tp) (ItzM K a b) [N + 4, N + 2, N + 3, N, N + 1] (N + 4) (fun i h => (IsZip h (N + 4) (N + 2) (N + 3) .none ∧ IsTupOf2 h (N + 2) (.ref N) (.ref (N + 1)) ∧ ∃ x y, IsTupOf2 h (N + 3) x y) ∧ h.IsTupleIter N a i ∧ h.IsListIter (N + 1) b i) where
  mem := List.mem_cons_self
  obj := fun i h st c hc => by
    obtain ⟨⟨hz, hTI, x, y, hTO⟩, ⟨o1, e1, _, d1⟩, o2, e2, _, d2⟩ := st
    simp only [List.mem_cons, List.not_mem_nil, or_false] at hc
    rcases hc with rfl | rfl | rfl | rfl | rfl
    · exact ⟨_, hz, nofun⟩
    · exact ⟨_, hTI, nofun⟩
    · exact ⟨_, hTO, nofun⟩
    · exact ⟨o1, e1, by rw [d1]; nofun⟩
    · exact ⟨o2, e2, by rw [d2]; nofun⟩
  keep := fun i h h' st k => by
    obtain ⟨⟨hz, hTI, x, y, hTO⟩, t1, t2⟩ := st
    exact ⟨⟨k _ (by simp) _ hz, k _ (by simp) _ hTI, x, y, k _ (by simp) _ hTO⟩, t1.at (k _ (by simp)), t2.at (k _ (by simp))⟩
  item := by
    intro X e1 e2 e3 hc i pins s σ H E I free st hg
    subst e1 e2 e3
    obtain ⟨⟨hz, hTI, x0, y0, hTO⟩, t1, t2⟩ := st
    obtain ⟨us, ws, x, y, ⟨qa, hx⟩, qb, hy⟩ := hg
    obtain ⟨As, ra, pa, _⟩ := I.tuple qa
    obtain ⟨Bs, rb, pb, _⟩ := I.list qb
    obtain ⟨u, hu, ru⟩ := ra.get hx
    obtain ⟨v, hv, rv⟩ := rb.get hy
    have hh : X.A.in1.handled = none := I.ok.hd hc
    have S := zip_sep2 (N := N) (fp1 := [a]) (fp2 := [b]) (by simpa using la) (by simpa using lb)
    have D1 := Draws.tuple (prog := X.prog) (w := X.w) hh N a (Nat.ne_of_lt la) As.toArray
    have D2 := Draws.list (prog := X.prog) (w := X.w) hh (N + 1) b (Nat.ne_of_lt (Nat.lt_succ_of_lt lb)) Bs.toArray
    have l1 : i < As.toArray.size := by have := (List.getElem?_eq_some_iff.mp hu).1; simpa using this
    have l2 : i < Bs.toArray.size := by have := (List.getElem?_eq_some_iff.mp hv).1; simpa using this
    have lz := Heap.lt_size hz
    refine wpAny_pyNext_zipD2_item S D1 D2 hz hTI hTO ⟨t1, pa⟩ ⟨t2, pb.isList⟩ l1 l2 fun x1 x2 h' tk y1 y2 b1 b2 d1 d2 b5 b6 b7 => ?_
    have j1 : x1 = u := by
      rw [List.getElem?_toArray, hu] at y1
      exact (Option.some.inj y1).symm
    have j2 : x2 = v := by
      rw [List.getElem?_toArray, hv] at y2
      exact (Option.some.inj y2).symm
    subst j1 j2
    refine ⟨_, rfl, wpAny_letOwnedTupleGo_zip (s := { s with heap := h', toks := tk }) b1 fun h2 z2 sb => ?_⟩
    have up : ∀ c o, c ≠ N + 4 → h'.get? c = some o → h2.get? c = some o := fun c o q e => (sb.2 c q).trans e
    have new : ObjOk X.prog X.w (upd H s.heap.objs.size (.tup [x, y])) h2 s.heap.objs.size (.tup [x, y]) :=
      ⟨by show 2 ≤ sizeLine; decide, [x1, x2], .cons ru (.cons rv .nil), ⟨_, up _ _ (Nat.ne_of_gt lz) b5, rfl, _, rfl⟩⟩
    have mem : ∀ {c : Addr}, c ∉ [N + 4, N + 2, N + 3, N, N + 1] → c ≠ N + 4 ∧ c ≠ N + 3 ∧ c ≠ N ∧ c ≠ N + 1 := fun q => by
      simp only [List.mem_cons, List.not_mem_nil, or_false, not_or] at q
      exact ⟨q.1, q.2.2.1, q.2.2.2.1, q.2.2.2.2⟩
    have I1 : Inv X pins σ (upd H s.heap.objs.size (.tup [x, y])) { s with heap := h2, toks := tk } :=
      I.turnedNew (t' := tk) (ch := [N + 4, N + 2, N + 3, N, N + 1]) (fun c o q e => by have := mem q; exact up c o this.1 (b7 c o this.1 this.2.1 this.2.2.1 this.2.2.2 e)) free (Nat.le_refl _) new
    refine ⟨.ref s.heap.objs.size, _, I1, rfl, ⟨_, x, y, ⟨rfl, I.hok.fresh (Nat.le_refl _), rfl⟩, fun l hl => by rw [I.tuple_inj hl qa]; exact hx, fun l hl => by rw [I.list_inj hl qb]; exact hy⟩, ⟨⟨z2, up _ _ S.TIz (b7 _ _ S.TIz S.TITO S.TIi1 S.TIi2 hTI), _, _, up _ _ S.TOz b2⟩, d1.1.at fun o => up _ o S.zi1.symm, d2.1.at fun o => up _ o S.zi2.symm⟩, fun c hm => ?_⟩
    have lt : c < s.heap.objs.size := by
      obtain ⟨o1, e1, _⟩ := t1
      obtain ⟨o2, e2, _⟩ := t2
      have g1 := Heap.lt_size e1
      have g2 := Heap.lt_size e2
      have g3 := Heap.lt_size hTI
      have g4 := Heap.lt_size hTO
      simp only [List.mem_cons, List.not_mem_nil, or_false] at hm
      rcases hm with rfl | rfl | rfl | rfl | rfl <;> assumption
    rw [upd_ne (Nat.ne_of_lt lt)]
    exact (free c hm).1
  done := by
    intro X e1 e2 e3 hc i pins s σ H E I free st hg
    subst e1 e2 e3
    obtain ⟨⟨hz, hTI, x0, y0, hTO⟩, t1, t2⟩ := st
    obtain ⟨us, ws, qa, qb, hi⟩ := hg
    obtain ⟨As, ra, pa, _⟩ := I.tuple qa
    obtain ⟨Bs, rb, pb, _⟩ := I.list qb
    have hh : X.A.in1.handled = none := I.ok.hd hc
    have S := zip_sep2 (N := N) (fp1 := [a]) (fp2 := [b]) (by simpa using la) (by simpa using lb)
    have D1 := Draws.tuple (prog := X.prog) (w := X.w) hh N a (Nat.ne_of_lt la) As.toArray
    have D2 := Draws.list (prog := X.prog) (w := X.w) hh (N + 1) b (Nat.ne_of_lt (Nat.lt_succ_of_lt lb)) Bs.toArray
    have g1 := ra.length
    have g2 := rb.length
    have z1 : As.toArray.size = As.length := by simp
    have z2 : Bs.toArray.size = Bs.length := by simp
    refine wpAny_pyNext_zipD2_end S D1 D2 hz hTI hTO (i := i) ⟨t1, pa⟩ ⟨t2, pb.isList⟩ (by omega) (by omega) (by omega) fun h' tk hk => ⟨rfl, I.turnedL (t' := tk) (ch := [N + 4, N + 2, N + 3, N, N + 1]) (fun c o q e => ?_) free⟩
    simp only [List.mem_cons, List.not_mem_nil, or_false, not_or] at q
    exact hk c o q.1 q.2.2.1 q.2.2.2.1 q.2.2.2.2 e
  self := fun A i s Q E st h => wpAny_pyIter_zip st.1.1 h
def iZipM (K : PySem.W.Frag) (ta : TA) : TI := fun σ H R => ta σ H fun vs H1 => ∃ a b us ws, vs = [.ref a, .ref b] ∧ (SqT K H1 a us ∧ SqL K H1 b ws) ∧ R (ItzM K a b) H1
theorem pi_zipM {X : Cx} {e e2 : Expr} {ta : TA} {p pos tp : Pos} {es : List Expr} {kk : Nat} (hg : Gl X "zip") (hm : X.mg "zip" = none) (ha : PA X [e, e2] ta)
    (hs : starEach [e, e2] X.env = (false, eval e X.env) :: starEach [e2] X.env) (hpl : (backTo pos (starEach [e2] X.env)).any (·.1) = false) :
    PI X (.Tuple es kk tp) (.Call (.Name "zip" p) [e, e2] [] pos) (iZipM X.K ta) := by
  refine ⟨fun pins s σ H R I h => Call_ (ld_blt I hg hm PyProof.Rows.boot_zip (PyProof.Rows.callWith_type1 (thn (ha.run pos pins s σ H _ I h) fun vals s1 ⟨vs, H1, I1, r1, q1⟩ => ?_) hs hpl))⟩
  obtain ⟨a, b, us, ws, rfl, ⟨qa, qb⟩, q⟩ := q1
  cases r1 with
  | cons r rr =>
    cases rr with
    | cons r' rr =>
      cases rr; cases r; cases r'
      obtain ⟨As, ra, pa, _⟩ := I1.tuple qa
      obtain ⟨Bs, rb, pb, _⟩ := I1.list qb
      obtain ⟨oa, ea, _⟩ := id pa
      have la := Heap.lt_size ea
      have lb := pb.lt
      refine zip_begins2 (begins_tuple a As.toArray) (begins_list b Bs.toArray) pa pb.isList fun h' hz hTI hTO g1 g2 hsz hk => wpAny_pyIter_zip hz ?_
      refine ⟨s1.heap.objs.size + 4, _, _, _, H1, rfl, I1.kept (t' := s1.toks) hk, turn_zipM (N := s1.heap.objs.size) la lb, ⟨⟨hz, hTI, _, _, hTO⟩, ⟨_, g1, rfl, rfl⟩, ⟨_, g2, rfl, rfl⟩⟩, fun c hm => ?_, q⟩
      have le : s1.heap.objs.size ≤ c := by
        simp only [List.mem_cons, List.not_mem_nil, or_false] at hm
        rcases hm with rfl | rfl | rfl | rfl | rfl
        · exact Nat.le_add_right _ _
        · exact Nat.le_add_right _ _
        · exact Nat.le_add_right _ _
        · exact Nat.le_refl _
        · exact Nat.le_add_right _ _
      exact I1.fpOk le (I1.hok.fresh le)
theorem walk_zipM {K : PySem.W.Frag} {a b : Addr} {us ws : List V} {n : Nat} (hn : n = min us.length ws.length) : Walk (ItzM K a b) n (fun H => SqT K H a us ∧ SqL K H b ws) (YPair (fun i => us[i]?) (fun i => ws[i]?)) := by
  subst hn
  refine ⟨fun i _ hi q => ?_, fun _ q => ⟨us, ws, q.1, q.2, rfl⟩, fun i H v H' _ q y => ?_⟩
  · exact ⟨us, ws, us[i]'(by omega), ws[i]'(by omega), ⟨q.1, by simp [show i < us.length by omega]⟩, q.2, by simp [show i < ws.length by omega]⟩
  · obtain ⟨T, x, z, ⟨h1, h2, h3⟩, h4, h5⟩ := y
    exact ⟨T, x, z, h1, h2, h3, h4 us q.1, h5 ws q.2⟩
theorem si_zip {X : Cx} {W : Wd} {F : Fn} {wx : WX} {p pos tpos : Pos} {a b : Expr} {ca cb : CE} {elts : List Expr} {kk : Nat} (hK : X.K = W.K) (hg : Gl X "zip") (hm : X.mg "zip" = none) (ha : PE X a (tE W F wx ca)) (hb : PE X b (tE W F wx cb)) (hs : nstar a = true) (hs2 : nstar b = true) :
    PI X (.Tuple elts kk tpos) (.Call (.Name "zip" p) [a, b] [] pos) (tI W F wx (.zip ca cb)) := by
  have pp := pa_cons ha (pa_cons hb pa_nil (star_cons hs2)) (star_cons hs)
  have st2 : (backTo pos (starEach [b] X.env)).any (·.1) = false := by rw [star_cons hs2]; rfl
  refine PI.imp (PI.or (RZ.pi_zipA hg hm pp (star_cons hs) st2) (pi_zipM hg hm pp (star_cons hs) st2)) fun σ H R h => ?_
  rw [hK]
  obtain ⟨ac, Γ, As, s, h⟩ := h
  simp only [evI] at h
  by_cases mix : ∃ xs n ys m, ev F ca Γ = .ok (.tup xs) n ∧ ev F cb Γ = .ok (.lst ys) m
  · obtain ⟨xs, n, ys, m, e1, e2⟩ := mix
    simp only [e1, e2] at h
    refine .inr ⟨ac, Γ, As, s, ?_⟩
    rw [e1]
    intro v H1 x1 r1
    refine ⟨ac, Γ, As, s.mono x1, ?_⟩
    rw [e2]
    obtain ⟨q1, us, rfl, hq1, t1, g1⟩ := r1.b.tup
    by_cases hm' : m ≤ 1 ∨ cb.fresh = true
    · rw [if_pos hm'] at h
      intro v2 H2 x2 r2
      obtain ⟨q2, ws, rfl, hq2, g2, f2⟩ := key_lst (s.mono x1) x2 r2 hm'
      refine ⟨q1, q2, us, ws, rfl, ⟨SqT.of (x2 _ _ hq1), SqL.of hq2⟩, h _ _ (x1.trans x2) ?_⟩
      have hq1' : hid H2 (tot ac As) q1 = some (.tup us) := by rw [hid_at t1]; exact x2 _ _ hq1
      refine feeds_pair (walk_zipM rfl) (fun H3 e3 => ?_) (g1.mono (hid_ex x2)) g2
      cases hbb : (m == 0 || cb.fresh) with
      | true =>
        rw [hbb] at e3
        exact ⟨SqT.of (e3 _ _ hq1'), SqL.of (e3 _ _ (f2 hbb))⟩
      | false =>
        rw [hbb] at e3
        exact ⟨SqT.of (e3 _ _ (x2 _ _ hq1)), SqL.of (e3 _ _ hq2)⟩
    · rw [if_neg hm'] at h; exact h.elim
  refine .inl ⟨ac, Γ, As, s, ?_⟩
  cases e : ev F ca Γ with
  | bad => rw [e] at h; exact h.elim
  | ex k fs => rw [e] at h; exact h
  | ok d n =>
    rw [e] at h
    intro v H1 x1 r1
    refine ⟨ac, Γ, As, s.mono x1, ?_⟩
    cases d with
    | lst xs =>
      by_cases hn : n ≤ 1 ∨ ca.fresh = true
      · simp only [if_pos hn] at h
        obtain ⟨q1, us, rfl, hq1, g1, f1⟩ := key_lst s x1 r1 hn
        cases e2 : ev F cb Γ with
        | bad => rw [e2] at h; exact h.elim
        | ex k fs => rw [e2] at h; exact fun cls od H2 x2 r => h cls od H2 (x1.trans x2) r
        | ok d2 m =>
          rw [e2] at h
          cases d2 with
          | lst ys =>
            by_cases hm' : m ≤ 1 ∨ cb.fresh = true
            · simp only [if_pos hm'] at h
              intro v2 H2 x2 r2
              obtain ⟨q2, ws, rfl, hq2, g2, f2⟩ := key_lst (s.mono x1) x2 r2 hm'
              refine ⟨q1, q2, us, ws, rfl, .inl ⟨SqL.of (x2 _ _ hq1), SqL.of hq2, h _ _ (x1.trans x2) ?_⟩⟩
              refine feeds_pair (walk_zip rfl) (fun H3 e3 => ?_) (g1.mono (hid_ex x2)) g2
              cases hbb : ((n == 0 || ca.fresh) && (m == 0 || cb.fresh)) with
              | true =>
                rw [hbb] at e3
                simp only [Bool.and_eq_true] at hbb
                exact ⟨SqL.of (e3 _ _ (hid_ex x2 _ _ (f1 hbb.1))), SqL.of (e3 _ _ (f2 hbb.2))⟩
              | false =>
                rw [hbb] at e3
                exact ⟨SqL.of (e3 _ _ (x2 _ _ hq1)), SqL.of (e3 _ _ hq2)⟩
            · simp only [if_neg hm'] at h; exact h.elim
          | _ => exact h.elim
      · simp only [if_neg hn] at h; exact h.elim
    | tup xs =>
      obtain ⟨q1, us, rfl, hq1, t1, g1⟩ := r1.b.tup
      simp only at h
      cases e2 : ev F cb Γ with
      | bad => rw [e2] at h; exact h.elim
      | ex k fs => rw [e2] at h; exact fun cls od H2 x2 r => h cls od H2 (x1.trans x2) r
      | ok d2 m =>
        rw [e2] at h
        cases d2 with
        | tup ys =>
          intro v2 H2 x2 r2
          obtain ⟨q2, ws, rfl, hq2, t2, g2⟩ := r2.b.tup
          refine ⟨q1, q2, us, ws, rfl, .inr ⟨SqT.of (x2 _ _ hq1), SqT.of hq2, h _ _ (x1.trans x2) ?_⟩⟩
          refine feeds_pair (walk_zipT rfl) (fun H3 e3 => ?_) (g1.mono (hid_ex x2)) g2
          exact ⟨SqT.of (e3 _ _ (by show hid H2 _ q1 = _; rw [hid_at t1]; exact x2 _ _ hq1)), SqT.of (e3 _ _ (by show hid H2 _ q2 = _; rw [hid_at t2]; exact hq2))⟩
        | lst ys => exact absurd ⟨xs, n, ys, m, e, e2⟩ mix
        | _ => exact h.elim
    | _ => exact h.elim
theorem si_enum {X : Cx} {W : Wd} {F : Fn} {wx : WX} {p pos tpos : Pos} {a : Expr} {ca : CE} {elts : List Expr} {kk : Nat} (hK : X.K = W.K) (hg : Gl X "enumerate") (hm : X.mg "enumerate" = none) (ha : PE X a (tE W F wx ca)) (hs : nstar a = true) :
    PI X (.Tuple elts kk tpos) (.Call (.Name "enumerate" p) [a] [] pos) (tI W F wx (.enum ca)) := by
  refine PI.imp (pi_enum hg hm (pa_cons ha pa_nil (star_cons hs)) (star_cons hs)) fun σ H R h => ?_
  rw [hK]
  obtain ⟨ac, Γ, As, s, h⟩ := h
  simp only [evI] at h
  refine ⟨ac, Γ, As, s, ?_⟩
  cases e : ev F ca Γ with
  | bad => rw [e] at h; exact h.elim
  | ex k fs => rw [e] at h; exact h
  | ok d n =>
    rw [e] at h
    intro v H1 x1 r1
    cases d with
    | lst xs =>
      by_cases hn : n ≤ 1 ∨ ca.fresh = true
      · simp only [if_pos hn] at h
        obtain ⟨q1, us, rfl, hq1, g1, f1⟩ := key_lst s x1 r1 hn
        refine ⟨q1, us, rfl, SqL.of hq1, h _ _ x1 (feeds_enum (fun H3 e3 => ?_) g1)⟩
        cases hbb : (n == 0 || ca.fresh) with
        | true =>
          rw [hbb] at e3
          exact SqL.of (e3 _ _ (f1 hbb))
        | false =>
          rw [hbb] at e3
          exact SqL.of (e3 _ _ hq1)
      · simp only [if_neg hn] at h; exact h.elim
    | _ => exact h.elim
/-! ### comprehensions -/
theorem compL_ne_ex {n : Nat} {f : Bool} {tgs : List Nat} {Γ : Env} {t e : Env → R} {k : Nat} {fs : List D} : ∀ {xs acc : List D}, compL n f tgs Γ t e xs acc ≠ .ex k fs
  | [], _ => by simp [compL]
  | x :: xs, acc => by
    unfold compL
    split
    · simp
    · split
      · exact compL_ne_ex
      · split
        · split
          · exact compL_ne_ex
          · simp
        · simp
      · simp
/-- the loop: what is made so far, and what the rest makes of it -/
def LcInv (W : Wd) (T : Addr → Prop) (H0 : Hp) (D' : Addr) (n : Nat) (r : List D → R) (fin : R) (H : Hp) : Prop := ∃ (ds : List D) (us : List V) (Bs : List (List Addr)),
  Ex H0 H ∧ H D' = some (.lst us) ∧ (D' :: Bs.flatten).Nodup ∧ (∀ p ∈ D' :: Bs.flatten, H0 p = none) ∧ All3 (Own W (hid H fun a => T a ∨ a ∈ D' :: Bs.flatten) H n) ds us Bs ∧ r ds = fin
theorem own_val {k : Nat} {f : Bool} {d d' : D} {m m' : Nat} (h : GL.own k f (.ok d m) = .ok d' m') : d' = d := by
  cases k <;> simp only [GL.own] at h <;> split at h <;> cases h <;> rfl
theorem wipeG_at {Γ : Env} : ∀ {is : List Nat} {j : Nat}, j ∈ is → j < (wipeG Γ is).length → (wipeG Γ is)[j]? = some none
  | i :: is, j, hj, hl => by
    show ((wipeG Γ is).set i none)[j]? = some none
    have hl' : j < (wipeG Γ is).length := by
      have : ((wipeG Γ is).set i none).length = (wipeG Γ is).length := List.length_set
      have h2 : (wipeG Γ (i :: is)).length = ((wipeG Γ is).set i none).length := rfl
      omega
    by_cases e : i = j
    · subst e; rw [List.getElem?_set_self hl']
    · rw [List.getElem?_set_ne e]
      rcases List.mem_cons.mp hj with z | z
      · exact absurd z.symm e
      · exact wipeG_at z hl'
def ttOf (W : Wd) (F : Fn) : CEs → TT
  | .nil => tYes
  | .cons c _ => tTs W F (fun _ _ _ _ => False) c
theorem LcInv.step {T : Addr → Prop} {H0 H H' : Hp} {D' : Addr} {n : Nat} {ds : List D} {us : List V} {Bs : List (List Addr)} (x : Ex H H') (all : All3 (Own W (hid H fun a => T a ∨ a ∈ D' :: Bs.flatten) H n) ds us Bs) : All3 (Own W (hid H' fun a => T a ∨ a ∈ D' :: Bs.flatten) H' n) ds us Bs :=
  all.imp fun d v A hA o => o.mono (hid_ex x) fun p _ o q => x p o q
theorem all3_there {R : D → V → List Addr → Prop} {ds : List D} {us : List V} {Bs : List (List Addr)} {H : Hp} (all : All3 R ds us Bs) (h : ∀ d v A, R d v A → ∀ p ∈ A, ∃ o, H p = some o) : ∀ p ∈ Bs.flatten, ∃ o, H p = some o := by
  induction all with
  | nil => intro p hp; cases hp
  | cons r _ ih =>
    intro p hp
    rw [List.flatten_cons, List.mem_append] at hp
    exact hp.elim (h _ _ _ r p) (ih p)
theorem lcs_ok {tgs : List Nat} (hp : ∀ i ∈ tgs, W.pn i = none) {n : Nat} {ci : CI} {cc : CEs} {ce : CE} {σ : L2.St} {H : Hp} {Q : VK} (hn : n ≠ 0) (h : tE W F wx (.comp n tgs ci cc ce) σ H Q) : tLc (tI W F wx ci) (tgT W.K tgs) (ttOf W F cc) (tE W F (fun _ _ _ _ => False) ce) tgs σ H Q := by
  obtain ⟨ac, Γ, As, s, h⟩ := h
  simp only [ev] at h
  refine ⟨ac, Γ, As, s, ?_⟩
  cases e1 : evI F ci Γ with
  | bad => rw [e1] at h; exact h.elim
  | ex k fs => rw [e1] at h; exact h
  | ok ds bor =>
    rw [e1] at h
    simp only at h
    intro J H1 x1 fd D' hD
    obtain ⟨G, Y, w, hG, hY⟩ := fd.ex
    obtain ⟨ac', As', s', ht'⟩ := (s.mono x1).wipes tgs hp
    generalize hfin : compL n ce.fresh tgs (wipeG Γ tgs) (evT F cc) (ev F ce) ds [] = fin at h
    cases fin with
    | bad => exact h.elim
    | ex k fs => exact absurd hfin compL_ne_ex
    | ok dfin nfin =>
      have hno : ∀ {α : Type} {b : α} {r : R}, r = .ok dfin nfin → r ≠ .bad := fun e z => by rw [e] at z; cases z
      refine lc_it w (fun i H => LcInv W (tot ac As) H1 D' (n - 1) (fun acc => compL n ce.fresh tgs (wipeG Γ tgs) (evT F cc) (ev F ce) (ds.drop i) acc) (.ok dfin nfin) H) ?_ ?_ ?_ ?_
      · exact ⟨[], [], [], Ex.new hD, upd_same, by simp, fun p hp => by rw [List.mem_singleton.mp hp]; exact hD, .nil, hfin⟩
      · rintro i H2 _ ⟨_, _, _, xx, _⟩
        refine hG H2 fun a o q => ?_
        split at q
        · exact xx a o q
        · exact xx a o (hid_full a o q)
      · rintro i x H2 H3 hi ⟨acc, us, Bs, xx, hl, nd, fr, all, hr⟩ y
        obtain ⟨d, hd⟩ : ∃ d, ds[i]? = some d := ⟨ds[i], List.getElem?_eq_getElem hi⟩
        have hdr : ds.drop i = d :: ds.drop (i + 1) := by
          rw [List.drop_eq_getElem_cons hi]
          rw [List.getElem?_eq_getElem hi] at hd
          rw [Option.some.inj hd]
        simp only [hdr] at hr
        unfold compL at hr
        cases hset : setT (wipeG Γ tgs) tgs d with
        | none => rw [hset] at hr; cases hr
        | some Γ' =>
          rw [hset] at hr
          simp only at hr
          obtain ⟨x2, fro⟩ := hY i H2 x H3 d hd y
          have thL : ∀ p ∈ D' :: Bs.flatten, ∃ o, H2 p = some o := fun p hp => by
            rcases List.mem_cons.mp hp with z | z
            · rw [z]; exact ⟨_, hl⟩
            · exact all3_there all (fun d v A o p hp => let ⟨u, q, _⟩ := o.there p hp; ⟨u, q⟩) p z
          have s2 := s'.ext (xx.trans x2) fr fun p hp => let ⟨o, q⟩ := thL p hp; ⟨o, x2 p o q⟩
          have tt : ∀ a, tot { ac' with S := fun a => ac'.S a ∨ a ∈ D' :: Bs.flatten } As' a ↔ (tot ac As a ∨ a ∈ D' :: Bs.flatten) := fun a => by
            rw [← ht' a]
            constructor
            · rintro ((z | z) | z)
              · exact .inl (.inl z)
              · exact .inr z
              · exact .inl (.inr z)
            · rintro ((z | z) | z)
              · exact .inl (.inl z)
              · exact .inr z
              · exact .inl (.inr z)
          have exL : Ex (hid H1 (tot ac As)) (hid H2 fun a => tot ac As a ∨ a ∈ D' :: Bs.flatten) := fun a o q => by
            obtain ⟨t, q⟩ := hid_not q
            rw [hid_at]
            · exact xx a o q
            · rintro (z | z)
              · exact t z
              · rw [fr a z] at q; cases q
          have thT : ∀ a, (tot ac As a ∨ a ∈ D' :: Bs.flatten) → ∃ o, H2 a = some o := fun a z => z.elim (fun z => let ⟨o, q⟩ := (s.mono x1).there z; ⟨o, xx a o q⟩) (thL a)
          have f1 := fro (fun a => tot ac As a ∨ a ∈ D' :: Bs.flatten) thT exL
          refine tg_ok hp s2 (by rw [StOk.eqT tt]; exact f1) hset fun σ2 As2 s3 t1 t2 t3 => ⟨by rw [t3 tgs fun _ z => z, wipe_wipe fun _ z => z], ?_⟩
          have teq : ∀ a, tot { ac' with S := fun a => ac'.S a ∨ a ∈ D' :: Bs.flatten } As2 a ↔ (tot ac As a ∨ a ∈ D' :: Bs.flatten) := fun a => by
            constructor
            · exact fun z => (tt a).mp (t1 a z)
            · refine fun z => t2 (fun j hj A hA => ?_) a ((tt a).mpr z)
              have hg : (wipeG Γ tgs)[j]? = some none := by
                have hlen : j < (wipeG Γ tgs).length := by rw [← s'.len]; exact (List.getElem?_eq_some_iff.mp hA).1
                exact wipeG_at hj hlen
              exact s'.bare j A hg hA
          have teq' := StOk.eqT teq
          -- the test
          cases e2 : evT F cc Γ' with
          | bad => rw [e2] at hr; cases hr
          | ex k fs => rw [e2] at hr; cases hr
          | ok bd bn =>
            cases bd with
            | bl b =>
              rw [e2] at hr
              have tst : ∀ {R : Bool → Hp → Prop}, (∀ H4, Ex H3 H4 → R b H4) → ttOf W F cc σ2 H3 R := fun {R} k => by
                cases cc with
                | nil => simp only [evT] at e2; cases e2; exact k H3 (Ex.refl H3)
                | cons c1 r =>
                  simp only [evT] at e2
                  refine ⟨_, Γ', As2, s3, ?_⟩
                  rw [e2]
                  exact fun H4 x4 => k H4 x4
              refine tst fun H4 x4 => ?_
              cases b with
              | false =>
                simp only at hr
                exact iteF ⟨acc, us, Bs, (xx.trans x2).trans x4, x4 _ _ (x2 _ _ hl), nd, fr, LcInv.step (H0 := H1) (x2.trans x4) all, hr⟩
              | true =>
                simp only at hr
                refine iteT ⟨_, Γ', As2, s3.mono x4, ?_⟩
                cases e3 : ev F ce Γ' with
                | bad => rw [e3] at hr; simp only [GL.own] at hr; cases hr
                | ex k fs => rw [e3] at hr; simp only [GL.own] at hr; cases hr
                | ok d2 n2 =>
                  rw [e3] at hr
                  intro yv H5 x5 r5
                  rw [teq'] at r5
                  have x25 := (x2.trans x4).trans x5
                  refine ⟨us, x25 _ _ hl, ?_⟩
                  -- what the evaluator asked
                  obtain ⟨hown, hlen, hr⟩ : (∃ m, own (n - 1) ce.fresh (.ok d2 n2) = .ok d2 m) ∧ acc.length < LINE ∧ compL n ce.fresh tgs (wipeG Γ tgs) (evT F cc) (ev F ce) (ds.drop (i + 1)) (acc ++ [d2]) = .ok dfin nfin := by
                    cases e4 : own (n - 1) ce.fresh (.ok d2 n2) with
                    | bad => rw [e4] at hr; cases hr
                    | ex k fs => rw [e4] at hr; cases hr
                    | ok d3 m =>
                      rw [e4] at hr
                      simp only at hr
                      have : d3 = d2 := own_val e4
                      subst this
                      split at hr
                      · rename_i hz; exact ⟨⟨m, rfl⟩, hz, hr⟩
                      · cases hr
                  refine ⟨by rw [← all.length.1, line_eq]; exact hlen, ?_⟩
                  -- what is new
                  have key : ∃ A : List Addr, A.Nodup ∧ (∀ p ∈ A, H4 p = none) ∧ Own W (hid H5 fun a => (tot ac As a ∨ a ∈ D' :: Bs.flatten) ∨ a ∈ A) H5 (n - 1) d2 yv A := by
                    obtain ⟨m, hown⟩ := hown
                    cases hn1 : n - 1 with
                    | zero =>
                      rw [hn1] at hown
                      simp only [GL.own] at hown
                      split at hown
                      · rename_i hz
                        have q := r5.fix (fun a z => by
                          obtain ⟨o, q⟩ := thT a z
                          exact ⟨o, x4 _ _ (x2 _ _ q)⟩) hz
                        exact ⟨[], .nil, (fun p hp => by cases hp), rfl, q.mono (hid_le fun a t => t.elim id fun z => by cases z)⟩
                      · cases hown
                    | succ k =>
                      rw [hn1] at hown
                      simp only [GL.own] at hown
                      split at hown
                      · rename_i hz
                        rw [hz.1] at r5
                        obtain ⟨A, q1, q2, q3⟩ := r5
                        exact ⟨A, q1, q2, by rw [hz.2]; exact q3⟩
                      · cases hown
                  obtain ⟨A, nA, frA, oA⟩ := key
                  have hD5 : D' ∉ A := fun z => by
                    have := frA D' z
                    rw [x4 _ _ (x2 _ _ hl)] at this; cases this
                  have hB5 : ∀ p ∈ Bs.flatten, p ∉ A := fun p hp z => by
                    obtain ⟨o, q⟩ := thL p (List.mem_cons_of_mem _ hp)
                    have := frA p z
                    rw [x4 _ _ (x2 _ _ q)] at this; cases this
                  have fl : (Bs ++ [A]).flatten = Bs.flatten ++ A := by simp
                  refine ⟨acc ++ [d2], us ++ [yv], Bs ++ [A], ?_, upd_same, ?_, ?_, ?_, hr⟩
                  · intro a o q
                    rw [upd_ne (fun z => by rw [z, hD] at q; cases q)]
                    exact x25 _ _ (xx a o q)
                  · rw [fl]
                    rw [List.nodup_cons] at nd ⊢
                    refine ⟨fun z => (List.mem_append.mp z).elim nd.1 hD5, ?_⟩
                    rw [List.nodup_append]
                    exact ⟨nd.2, nA, fun a ha b hb e => hB5 a ha (e ▸ hb)⟩
                  · intro p hp
                    rw [fl] at hp
                    rcases List.mem_cons.mp hp with z | z
                    · rw [z]; exact hD
                    · rcases List.mem_append.mp z with z | z
                      · exact fr p (List.mem_cons_of_mem _ z)
                      · exact ((xx.trans x2).trans x4).free (frA p z)
                  · rw [fl]
                    have nDB : D' ∉ Bs.flatten := (List.nodup_cons.mp nd).1
                    refine All3.append (all.imp fun d v B hB o => o.mono (fun a u q => ?_) fun p hp u q => ?_) (.cons (oA.mono (fun a u q => ?_) fun p hp u q => ?_) .nil)
                    · obtain ⟨t, q⟩ := hid_not q
                      have ne : a ≠ D' := fun z => t (.inr (by rw [z]; exact List.mem_cons_self))
                      rw [hid_at, upd_ne ne]
                      · exact x25 a u q
                      · rintro (z | z)
                        · exact t (.inl z)
                        · rcases List.mem_cons.mp z with z | z
                          · exact ne z
                          · rcases List.mem_append.mp z with z | z
                            · exact t (.inr (List.mem_cons_of_mem _ z))
                            · have := frA a z
                              rw [x4 _ _ (x2 _ _ q)] at this; cases this
                    · rw [upd_ne (fun z : p = D' => nDB (by rw [← z]; exact List.mem_flatten.mpr ⟨B, hB, hp⟩))]
                      exact x25 p u q
                    · obtain ⟨t, q⟩ := hid_not q
                      have ne : a ≠ D' := fun z => t (.inl (.inr (by rw [z]; exact List.mem_cons_self)))
                      rw [hid_at, upd_ne ne]
                      · exact q
                      · rintro (z | z)
                        · exact t (.inl (.inl z))
                        · rcases List.mem_cons.mp z with z | z
                          · exact ne z
                          · rcases List.mem_append.mp z with z | z
                            · exact t (.inl (.inr (List.mem_cons_of_mem _ z)))
                            · exact t (.inr z)
                    · rw [upd_ne (fun z : p = D' => hD5 (by rw [← z]; exact hp))]
                      exact q
            | _ => rw [e2] at hr; cases hr
      · rintro H2 ⟨acc, us, Bs, xx, hl, nd, fr, all, hr⟩
        simp only [List.drop_length] at hr
        unfold compL at hr
        cases hr
        obtain ⟨m, rfl⟩ : ∃ m, n = m + 1 := ⟨n - 1, by omega⟩
        exact h _ _ (x1.trans xx) ⟨D' :: Bs.flatten, nd, fun p hp => x1.free (fr p hp), D', us, Bs, rfl, hl, rfl, all⟩
theorem se_comp {tgs : List Nat} {n : Nat} {ci : CI} {cc : CEs} {ce : CE} {elt : Expr} {ifs : List Expr} {scope : Scope} {own : List (Str × Nat)} (hc : X.calm = true) (hN : X.N.Nodup) (hi : PI X tg e (tI W F wx ci)) (ok : BlkOk X.N X.env.scope scope own) (ho : own.map (·.2) = tgs)
    (hg : ∀ (s : Shared) (H : Hp) (C : Addr) (cl : List (Str × Addr)) (fp : List Addr), PG (X.blk s H scope (compEnvC scope cl C X.env) fp) tg (tgT W.K tgs))
    (ht : ∀ (s : Shared) (H : Hp) (C : Addr) (cl : List (Str × Addr)) (fp : List Addr), (cc = .nil ∧ ifs = []) ∨ (∃ c1 e1, cc = .cons c1 .nil ∧ ifs = [e1] ∧ PT (X.blk s H scope (compEnvC scope cl C X.env) fp) e1 (tTs W F (fun _ _ _ _ => False) c1)))
    (he : ∀ (s : Shared) (H : Hp) (C : Addr) (cl : List (Str × Addr)) (fp : List Addr), PE (X.blk s H scope (compEnvC scope cl C X.env) fp) elt (tE W F (fun _ _ _ _ => False) ce)) (hs : ∀ x, foldedSetIterable e X.env x = pure x) (hn : n ≠ 0) (hp : ∀ i ∈ tgs, W.pn i = none) :
    PE X (.ListComp elt [⟨tg, e, ifs, 0⟩] scope pos) (tE W F wx (.comp n tgs ci cc ce)) := by
  refine PE.imp (pe_lc (tt := ttOf W F cc) hc hN hi ok hg (fun s H C cl fp => ?_) he hs) fun σ H Q h => ?_
  · rcases ht s H C cl fp with ⟨rfl, rfl⟩ | ⟨c1, e1, rfl, rfl, q⟩
    · exact pts_nil
    · exact pts_one q
  rw [ho]
  exact lcs_ok hp hn h
end
end GL

/-! GL12: statements: what follows them; names set, returns, tests. -/
namespace GL
open PySem L2 PyProof.Rows
/-- further on in the same run: more is left alone -/
structure Le (a b : Ac) : Prop where
  h : b.H0 = a.H0
  a0 : b.A0 = a.A0
  s : ∀ x, a.S x → b.S x
  f : Ex a.Hf b.Hf
theorem Le.refl (a : Ac) : Le a a := ⟨rfl, rfl, fun _ h => h, Ex.refl _⟩
theorem Le.trans {a b c : Ac} (p : Le a b) (q : Le b c) : Le a c := ⟨q.h.trans p.h, q.a0.trans p.a0, fun x h => q.s x (p.s x h), p.f.trans q.f⟩
theorem Le.more {a : Ac} {A : List Addr} : Le a { a with S := fun x => a.S x ∨ x ∈ A } := ⟨rfl, rfl, fun _ h => Or.inl h, Ex.refl _⟩
/-- a value with the objects that it stands on, apart from the state -/
structure XOut (W : Wd) (ac : Ac) (Γ' : Env) (d : D) (n : Nat) (v : V) (σ : L2.St) (H' : Hp) : Prop where
  ex : ∃ (ac' : Ac) (As' : List (List Addr)) (A : List Addr), Le ac ac' ∧ A.Nodup ∧ (∀ p ∈ A, (p ∈ ac'.A0 ∨ ac'.H0 p = none) ∧ ¬ ac'.S p) ∧ StOk W { ac' with S := fun a => ac'.S a ∨ a ∈ A } H' σ Γ' As' ∧ Own W (hid H' fun a => ac'.S a ∨ a ∈ A ∨ a ∈ As'.flatten) H' n d v A
/-- .. nothing else is changed than what stands in the slots sl -/
structure Fra (sl : List Nat) (Γ : Env) (As : List (List Addr)) (H : Hp) (Γ' : Env) (As' : List (List Addr)) (H' : Hp) : Prop where
  g : ∀ i, i ∉ sl → Γ'[i]? = Γ[i]?
  a : ∀ i, i ∉ sl → As'[i]? = As[i]?
  h : ∀ i, i ∉ sl → ∀ A, As[i]? = some A → ∀ p ∈ A, ∀ o, H p = some o → H' p = some o
structure XOutF (W : Wd) (ac : Ac) (sl : List Nat) (Γ : Env) (As : List (List Addr)) (H : Hp) (Γ' : Env) (d : D) (n : Nat) (v : V) (σ : L2.St) (H' : Hp) : Prop where
  ex : ∃ (ac' : Ac) (As' : List (List Addr)) (A : List Addr), Le ac ac' ∧ A.Nodup ∧ (∀ p ∈ A, (p ∈ ac'.A0 ∨ ac'.H0 p = none) ∧ ¬ ac'.S p) ∧ StOk W { ac' with S := fun a => ac'.S a ∨ a ∈ A } H' σ Γ' As' ∧ Own W (hid H' fun a => ac'.S a ∨ a ∈ A ∨ a ∈ As'.flatten) H' n d v A ∧ Fra sl Γ As H Γ' As' H' ∧ Ex (hid H (tot ac As)) (hid H' fun a => ac'.S a ∨ a ∈ A ∨ a ∈ As'.flatten)
/-- the reading of an expression that may change what is owned -/
def rX (W : Wd) (wx : WX) (ac : Ac) (σ : L2.St) (sl : List Nat) (Γ : Env) (As : List (List Addr)) (H : Hp) (Q : VK) (r : RX) : Prop := match r with
  | .ok d n Γ' => ∀ v H', XOutF W ac sl Γ As H Γ' d n v σ H' → Q v H'
  | .ex k fs => ∀ ac' As' cls od H', Le ac ac' → StOk W ac' H' σ Γ As' → ExR W (hid H' (tot ac' As')) k fs cls od H' → wx cls od σ H'
  | .bad => False
def tX (W : Wd) (F : Fn) (wx : WX) (c : CX) : TE := fun σ H Q => ∃ ac Γ As, StOk W ac H σ Γ As ∧ rX W wx ac σ c.slots Γ As H Q (evX F c Γ)
/-- the reading of a statement -/
def rS (W : Wd) (wx : WX) (ac : Ac) (D : Ends) (r : SR) : Prop := match r with
  | .nx Γ' => ∀ ac' As' σ' H', Le ac ac' → StOk W ac' H' σ' Γ' As' → D.nx σ' H'
  | .rt d n Γ' => ∀ v σ' H', XOut W ac Γ' d n v σ' H' → D.rt v H'
  | .ex k fs Γ' => ∀ ac' As' cls od σ' H', Le ac ac' → StOk W ac' H' σ' Γ' As' → ExR W (hid H' (tot ac' As')) k fs cls od H' → wx cls od σ' H'
  | .bad => False
def tS (W : Wd) (F : Fn) (wx : WX) (c : CS) : TS := fun D σ H => ∃ ac Γ As, StOk W ac H σ Γ As ∧ rS W wx ac D (evS F c Γ)
def tSs (W : Wd) (F : Fn) (wx : WX) (c : CSs) : TS := fun D σ H => ∃ ac Γ As, StOk W ac H σ Γ As ∧ rS W wx ac D (evSs F c Γ)
section
variable {W : Wd} {F : Fn} {wx : WX} {ac ac' : Ac} {Γ Γ' : Env} {As : List (List Addr)} {σ : L2.St} {H H' : Hp} {d : D} {n : Nat} {v : V}
theorem XOut.le (h : XOut W ac' Γ d n v σ H) (l : Le ac ac') : XOut W ac Γ d n v σ H := by
  obtain ⟨a, As', A, x, r⟩ := h.ex
  exact ⟨a, As', A, l.trans x, r⟩
theorem XOutF.out {sl : List Nat} (h : XOutF W ac sl Γ As H Γ' d n v σ H') : XOut W ac Γ' d n v σ H' := by
  obtain ⟨a, As', A, h1, h2, h3, h4, h5, _⟩ := h.ex
  exact ⟨a, As', A, h1, h2, h3, h4, h5⟩
theorem Fra.of_ex {sl : List Nat} (x : Ex H H') : Fra sl Γ As H Γ As H' := ⟨fun _ _ => rfl, fun _ _ => rfl, fun _ _ _ _ _ _ o q => x _ o q⟩
theorem Fra.trans {sl sl' : List Nat} {Γ1 Γ2 Γ3 : Env} {As1 As2 As3 : List (List Addr)} {H1 H2 H3 : Hp} (a : Fra sl Γ1 As1 H1 Γ2 As2 H2) (b : Fra sl' Γ2 As2 H2 Γ3 As3 H3) : Fra (sl ++ sl') Γ1 As1 H1 Γ3 As3 H3 := by
  refine ⟨fun i hi => ?_, fun i hi => ?_, fun i hi A hA p hp o q => ?_⟩
  · rw [b.g i fun z => hi (List.mem_append_right _ z), a.g i fun z => hi (List.mem_append_left _ z)]
  · rw [b.a i fun z => hi (List.mem_append_right _ z), a.a i fun z => hi (List.mem_append_left _ z)]
  · exact b.h i (fun z => hi (List.mem_append_right _ z)) A (by rw [a.a i fun z => hi (List.mem_append_left _ z)]; exact hA) p hp o (a.h i (fun z => hi (List.mem_append_left _ z)) A hA p hp o q)
theorem rS.le {D : Ends} {r : SR} (h : rS W wx ac D r) (l : Le ac ac') : rS W wx ac' D r := by
  cases r with
  | nx Γ' => exact fun a As' σ' H' x => h a As' σ' H' (l.trans x)
  | rt d n Γ' => exact fun v σ' H' x => h v σ' H' (x.le l)
  | ex k fs Γ' => exact fun a As' cls od σ' H' x => h a As' cls od σ' H' (l.trans x)
  | bad => exact h
/-- from the value of a pure expression -/
theorem XOutF.of_rs {f : Bool} {sl : List Nat} (s : StOk W ac H σ Γ As) (x : Ex H H') (r : Rs f W (tot ac As) H H' n d v) (h : f = false → n = 0) : XOutF W ac sl Γ As H Γ d n v σ H' := by
  cases f with
  | true =>
    obtain ⟨A, nd, fr, o⟩ := r
    refine ⟨ac, As, A, Le.refl _, nd, fun p hp => ⟨?_, fun z => ?_⟩, s.ext x fr (rs_there (T := tot ac As) (H := H) o), o.mono (hid_le fun a t => ?_) fun _ _ _ q => q, Fra.of_ex x, fun a o q => ?_⟩
    · by_cases hp0 : p ∈ ac.A0
      · exact .inl hp0
      · right
        cases e : ac.H0 p with
        | none => rfl
        | some o => have := s.pres p o hp0 e; rw [fr p hp] at this; cases this
    · obtain ⟨o, q⟩ := s.frn p z; rw [fr p hp] at q; cases q
    · rcases t with t | t | t
      · exact .inl (.inl t)
      · exact .inr t
      · exact .inl (.inr t)
    · obtain ⟨t, q⟩ := hid_not q
      rw [hid_at]
      · exact x a o q
      · rintro (z | z | z)
        · exact t (.inl z)
        · rw [fr a z] at q; cases q
        · exact t (.inr z)
  | false =>
    obtain rfl := h rfl
    refine ⟨ac, As, [], Le.refl _, .nil, (fun p hp => by cases hp), ?_, ⟨rfl, r.zero.mono (hid_le fun a t => ?_)⟩, Fra.of_ex x, (hid_ex x).trans (hid_le fun a t => ?_)⟩
    · exact (s.mono x).same fun a => ⟨fun z => z.elim id fun z => (by cases z), fun z => Or.inl z⟩
    · rcases t with t | t | t
      · exact .inl t
      · cases t
      · exact .inr t
    · rcases t with t | t | t
      · exact .inl t
      · cases t
      · exact .inr t
theorem own0 {f : Bool} {r : R} {m : Nat} (h : GL.own 0 f r = .ok d m) : ∃ n, r = .ok d n ∧ (n = 0 ∨ f = true) := by
  cases r with
  | ok e n =>
    simp only [GL.own] at h
    split at h
    · rename_i q; cases h; exact ⟨n, rfl, q⟩
    · cases h
  | ex k fs => cases h
  | bad => cases h
theorem evX_pure {c : CE} : evX F (.pure c) Γ = match ev F c Γ with
    | .ok d n => if n = 0 ∨ c.fresh = true then .ok d n Γ else .bad
    | .ex k fs => .ex k fs
    | .bad => .bad := by
  simp only [evX]
  cases e : ev F c Γ with
  | ok d n =>
    simp only [GL.own]
    by_cases q : n = 0 ∨ c.fresh = true
    · rw [if_pos q, if_pos q]
    · rw [if_neg q, if_neg q]
  | ex k fs => rfl
  | bad => rfl
theorem sx_pure {X : Cx} {e : Expr} {c : CE} (h : PE X e (tE W F wx c)) : PE X e (tX W F wx (.pure c)) := by
  refine PE.imp h fun σ H Q h => ?_
  obtain ⟨ac, Γ, As, s, h⟩ := h
  refine ⟨ac, Γ, As, s, ?_⟩
  rw [evX_pure] at h
  cases e : ev F c Γ with
  | bad => rw [e] at h; exact h
  | ex k fs => rw [e] at h; exact fun cls od H' x r => h ac As cls od H' (Le.refl _) (s.mono x) r
  | ok d n =>
    rw [e] at h
    simp only at h
    split at h
    · rename_i q
      intro v H' x r
      refine h v H' (XOutF.of_rs s x r fun hf => ?_)
      rcases q with q | q
      · exact q
      · rw [hf] at q; cases q
    · exact h.elim
/-- how deep what is not new is owned -/
theorem evX_n {x : CX} (h : evX F x Γ = .ok d n Γ') : (if x.fresh then n else 0) = n := by
  cases x with
  | pure e =>
    rw [evX_pure] at h
    split at h
    · split at h
      · rename_i q
        cases h
        rcases q with q | q
        · subst q; exact ite_self _
        · exact if_pos q
      · cases h
    · cases h
    · cases h
  | _ => rfl
/-- a slot is set to it -/
theorem XOut.put {i : Nat} (hj : W.pn i = none) (h : XOut W ac Γ d n v σ H) : ∃ ac' As', Le ac ac' ∧ StOk W ac' H (σ.set i (some v)) (Γ.set i (some (d, n))) As' := by
  obtain ⟨ac', As', A, l, nd, hA, s, o⟩ := h.ex
  refine ⟨ac', As'.set i A, l, StOk.put (fun w q => by rw [hj] at q; cases q) s nd hA (o.mono (hid_le fun a t => ?_) fun _ _ _ q => q)⟩
  rcases t with t | t | ⟨j, B, z1, z2, z3⟩
  · exact .inl t
  · exact .inr (.inl t)
  · exact .inr (.inr (mem_flat_of z2 z3))
/-- it is let go: left alone -/
theorem XOut.drop (h : XOut W ac Γ d n v σ H) : ∃ ac' As', Le ac ac' ∧ StOk W ac' H σ Γ As' := by
  obtain ⟨ac', As', A, l, nd, hA, s, o⟩ := h.ex
  exact ⟨_, As', l.trans Le.more, s⟩
/-- .. but read on -/
theorem XOut.fix (h : XOut W ac Γ d n v σ H) : ∃ ac' As', Le ac ac' ∧ StOk W ac' H σ Γ As' ∧ Fro W (hid H (tot ac' As')) d v := by
  obtain ⟨ac', As', A, l, nd, hA, s, o⟩ := h.ex
  have sA : ∀ p ∈ A, p ∉ As'.flatten := fun p hp hq => (s.own p hq).2 (.inr hp)
  refine ⟨ac', As', l, ?_, ?_⟩
  · refine ⟨s.len, s.len2, s.pres, s.nd, fun p hp => ⟨(s.own p hp).1, fun z => (s.own p hp).2 (.inl z)⟩, fun a z => s.frn a (.inl z), fun i d n e => ?_, s.bare, s.a0, s.fz.trans (hid_le fun a t => t.elim (fun t => .inl (.inl t)) .inr), s.fb, s.pin⟩
    obtain ⟨u, B, h1, h2, h3⟩ := s.slot i d n e
    exact ⟨u, B, h1, h2, h3.mono (hid_le fun a t => t.elim (fun t => .inl (.inl t)) .inr) fun _ _ _ q => q⟩
  · refine o.fro (hid_le fun a t => t.elim .inl fun t => .inr (.inr t)) fun p hp o q => ?_
    rw [hid_at]
    · exact q
    · rintro (z | z)
      · exact (hA p hp).2 z
      · exact sA p hp z
/-! ### statements -/
section
variable {X : Cx} {pos p : Pos} {e : Expr}
theorem ss_asg {i : Nat} {x : Str} {c : CX} (hj : W.pn i = none) (hN : X.N.Nodup) (hi : X.N[i]? = some x) (hx : Loc X.env.scope x) (hf : X.fn x = true ∨ X.env.scope.names.lookup x = some .local) (he : PE X e (tX W F wx c)) (hs : swapsWith e (some (.Name x p)) pos.line X.env = pure false) :
    PS X (.Assign [.Name x p] e pos) (tS W F wx (.asg i c)) := by
  refine PS.imp (ps_set hN hi hx he hs hf) fun D σ H h => ?_
  obtain ⟨ac, Γ, As, s, h⟩ := h
  refine ⟨ac, Γ, As, s, ?_⟩
  simp only [evS] at h
  cases e1 : evX F c Γ with
  | bad => rw [e1] at h; exact h
  | ex k fs => rw [e1] at h; exact fun ac' As' cls od H' l s' r => h ac' As' cls od σ H' l s' r
  | ok d n Γ' =>
    rw [e1] at h
    simp only [evX_n e1] at h
    intro v H' x
    obtain ⟨ac', As', l, s'⟩ := x.out.put (i := i) hj
    exact h ac' As' _ H' l s'
theorem ss_asgT {is : List Nat} {tg : Expr} {c : CX} (hp : ∀ i ∈ is, W.pn i = none) (hK : X.K = W.K) (hg : PG X tg (tgT X.K is)) (he : PE X e (tX W F wx c)) (hs : swapsWithSole [tg] e pos.line X.env = pure false) (hw : swappedStores [tg] e X.env = pure none) (h1 : (assignEach [tg] X.env).map (·.2) = [assign tg X.env]) :
    PS X (.Assign [tg] e pos) (tS W F wx (.asgT is c)) := by
  refine PS.imp (ps_asg he hg hs hw h1) fun D σ H h => ?_
  obtain ⟨ac, Γ, As, s, h⟩ := h
  refine ⟨ac, Γ, As, s, ?_⟩
  simp only [evS] at h
  cases e1 : evX F c Γ with
  | bad => rw [e1] at h; exact h
  | ex k fs => rw [e1] at h; exact fun ac' As' cls od H' l s' r => h ac' As' cls od σ H' l s' r
  | ok d n Γ' =>
    rw [e1] at h
    simp only at h
    intro v H' x
    obtain ⟨ac', As', l, s', fr⟩ := x.out.fix
    cases e2 : setT Γ' is d with
    | none => rw [e2] at h; exact h.elim
    | some Γ2 =>
      rw [e2] at h
      exact tg_ok hp s' fr e2 fun σ2 As2 s2 _ _ _ => h ac' As2 σ2 H' l s2
theorem ss_expr {c : CX} (he : PE X e (tX W F wx c)) (hs : swapsWith e none pos.line X.env = pure false) : PS X (.Expr e pos) (tS W F wx (.expr c)) := by
  refine PS.imp (ps_expr he hs) fun D σ H h => ?_
  obtain ⟨ac, Γ, As, s, h⟩ := h
  refine ⟨ac, Γ, As, s, ?_⟩
  simp only [evS] at h
  cases e1 : evX F c Γ with
  | bad => rw [e1] at h; exact h
  | ex k fs => rw [e1] at h; exact fun ac' As' cls od H' l s' r => h ac' As' cls od σ H' l s' r
  | ok d n Γ' =>
    rw [e1] at h
    intro v H' x
    obtain ⟨ac', As', l, s'⟩ := x.out.drop
    exact h ac' As' _ H' l s'
theorem ss_ret {c : CX} (he : PE X e (tX W F wx c)) : PS X (.Return (some e) pos) (tS W F wx (.ret c)) := by
  refine PS.imp (ps_ret he) fun D σ H h => ?_
  obtain ⟨ac, Γ, As, s, h⟩ := h
  refine ⟨ac, Γ, As, s, ?_⟩
  simp only [evS] at h
  cases e1 : evX F c Γ with
  | bad => rw [e1] at h; exact h
  | ex k fs => rw [e1] at h; exact fun ac' As' cls od H' l s' r => h ac' As' cls od σ H' l s' r
  | ok d n Γ' =>
    rw [e1] at h
    simp only [evX_n e1] at h
    exact fun v H' x => h v σ H' x.out
theorem ss_retv {i : Nat} {x : Str} (hN : X.N[i]? = some x) (hv : Vis X.env.scope x) (h1 : (x == ("__debug__" : Str)) = false) (h2 : (x == ("__classdict__" : Str)) = false) : PS X (.Return (some (.Name x p)) pos) (tS W F wx (.retv i)) := by
  refine PS.imp (ps_ret (pe_var hN hv h1 h2)) fun D σ H h => ?_
  obtain ⟨ac, Γ, As, s, h⟩ := h
  simp only [evS] at h
  cases e1 : Γ[i]? with
  | none => rw [e1] at h; exact h.elim
  | some sl =>
    cases sl with
    | none => rw [e1] at h; exact h.elim
    | some dn =>
      obtain ⟨d, n⟩ := dn
      rw [e1] at h
      obtain ⟨v, A, q1, q2, q3⟩ := s.slot i d n e1
      have s2 : StOk W { ac with S := fun a => ac.S a ∨ a ∈ A } H (σ.set i (some v)) (Γ.set i none) (As.set i []) := s.hide q2 (fun w q => by have := s.pin i w q; rw [q1] at this; exact Option.some.inj this)
      refine ⟨v, q1, h v (σ.set i (some v)) H ⟨ac, As.set i [], A, Le.refl _, flat_one s.nd q2, fun p hp => s.own p (mem_flat_of q2 hp), s2, q3.mono (hid_le fun a t => ?_) fun _ _ _ q => q⟩⟩
      rcases t with t | t | t
      · exact .inl t
      · exact .inr (mem_flat_of q2 t)
      · rcases mem_flat_set t with z | ⟨j, B, z1, z2, z3⟩
        · cases z
        · exact .inr (mem_flat_of z2 z3)
theorem XOut.non (s : StOk W ac H σ Γ As) : XOut W ac Γ .non 0 .non σ H := (XOutF.of_rs (f := false) (sl := []) (d := .non) (v := .non) s (Ex.refl H) (Rs.of0 rfl) fun _ => rfl).out
theorem ss_retN : PS X (.Return none pos) (tS W F wx .retN) := by
  refine PS.imp ps_retN fun D σ H h => ?_
  obtain ⟨ac, Γ, As, s, h⟩ := h
  simp only [evS] at h
  exact h .non σ H (XOut.non s)
theorem ss_pass : PS X (.Pass pos) (tS W F wx .pass) := by
  refine PS.imp ps_pass fun D σ H h => ?_
  obtain ⟨ac, Γ, As, s, h⟩ := h
  simp only [evS] at h
  exact h ac As σ H (Le.refl _) s
/-- a docstring -/
theorem ss_doc {x j p2} : PS X (.Expr (.Constant (.str x) j p2) pos) (tS W F wx .pass) := by
  refine PS.imp ps_doc fun D σ H h => ?_
  obtain ⟨ac, Γ, As, s, h⟩ := h
  simp only [evS] at h
  exact h ac As σ H (Le.refl _) s
theorem sss_nil : PSs X [] (tSs W F wx .nil) := by
  refine PSs.imp pss_nil fun D σ H h => ?_
  obtain ⟨ac, Γ, As, s, h⟩ := h
  simp only [evSs] at h
  exact h ac As σ H (Le.refl _) s
theorem sss_cons {st : Stmt} {sts : List Stmt} {c : CS} {cs : CSs} (h1 : PS X st (tS W F wx c)) (h2 : PSs X sts (tSs W F wx cs)) : PSs X (st :: sts) (tSs W F wx (.cons c cs)) := by
  refine PSs.imp (pss_cons h1 h2) fun D σ H h => ?_
  obtain ⟨ac, Γ, As, s, h⟩ := h
  refine ⟨ac, Γ, As, s, ?_⟩
  simp only [evSs] at h
  cases e1 : evS F c Γ with
  | bad => rw [e1] at h; exact h
  | rt d n Γ' => rw [e1] at h; exact h
  | ex k fs Γ' => rw [e1] at h; exact h
  | nx Γ' =>
    rw [e1] at h
    exact fun ac' As' σ' H' l s' => ⟨ac', Γ', As', s', h.le l⟩
/-- a slot is fixed from here on: no row of the text -/
theorem StOk.frz (s : StOk W ac H σ Γ As) {i : Nat} (e : Γ[i]? = some (some (d, n))) : ∃ ac' As', Le ac ac' ∧ StOk W ac' H σ (Γ.set i (some (d, 0))) As' := by
  obtain ⟨v, A, q1, q2, q3⟩ := s.slot i d n e
  have s2 : StOk W { ac with S := fun a => ac.S a ∨ a ∈ A } H (σ.set i (some v)) (Γ.set i none) (As.set i []) := s.hide q2 (fun w q => by have := s.pin i w q; rw [q1] at this; exact Option.some.inj this)
  have s2' : StOk W { ac with S := fun a => ac.S a } H (σ.set i (some v)) (Γ.set i none) (As.set i []) :=
    ⟨s2.len, s2.len2, s2.pres, s2.nd, fun p hp => ⟨(s2.own p hp).1, fun z => (s2.own p hp).2 (.inl z)⟩, fun a z => s2.frn a (.inl z), fun j d n e => by
      obtain ⟨u, B, h1, h2, h3⟩ := s2.slot j d n e
      exact ⟨u, B, h1, h2, h3.mono (hid_le fun a t => t.elim (fun t => .inl (.inl t)) .inr) fun _ _ _ q => q⟩, s2.bare, s2.a0, s2.fz.trans (hid_le fun a t => t.elim (fun t => .inl (.inl t)) .inr), s2.fb, s2.pin⟩
  have hs : σ.set i (some v) = σ := by
    apply List.ext_getElem?
    intro j
    by_cases hj : i = j
    · subst hj
      rw [List.getElem?_set_self (List.getElem?_eq_some_iff.mp q1).1, q1]
    · rw [List.getElem?_set_ne hj]
  have f : Fro W (hid H (tot ac (As.set i []))) d v := q3.fro (hid_le tot_set0) fun p hp o q => by
    rw [hid_at]
    · exact q
    · rintro (z | z)
      · exact (s.own p (mem_flat_of q2 hp)).2 z
      · rcases mem_flat_set z with z | ⟨j, B, z1, z2, z3⟩
        · cases z
        · exact flat_sep s.nd z1 z2 q2 p z3 hp
  have s3 := s2'.put0' (i := i) (by rw [hs]; exact q1) f
  rw [hs, List.set_set, List.set_set] at s3
  exact ⟨_, _, Le.refl _, s3⟩
theorem sss_eat {sts : List Stmt} {i : Nat} {cs : CSs} (h2 : PSs X sts (tSs W F wx cs)) : PSs X sts (tSs W F wx (.cons (.eat i) cs)) := by
  refine PSs.imp h2 fun D σ H h => ?_
  obtain ⟨ac, Γ, As, s, h⟩ := h
  refine ⟨ac, Γ, As, s, ?_⟩
  simp only [evSs, evS] at h
  exact h
theorem sss_frz {sts : List Stmt} {i : Nat} {cs : CSs} (h2 : PSs X sts (tSs W F wx cs)) : PSs X sts (tSs W F wx (.cons (.frz i) cs)) := by
  refine PSs.imp h2 fun D σ H h => ?_
  obtain ⟨ac, Γ, As, s, h⟩ := h
  simp only [evSs, evS] at h
  split at h
  · rename_i Γ' hz
    split at hz
    · rename_i d n e
      cases hz
      obtain ⟨ac', As', l, s'⟩ := s.frz e
      exact ⟨ac', _, As', s', h.le l⟩
    · cases hz
      exact ⟨ac, Γ, As, s, h⟩
  · rename_i hz
    split at hz
    · exact (hz _ rfl).elim
    · exact (hz _ rfl).elim
theorem ss_if {c : Expr} {cc : CE} {a b : List Stmt} {ca cb : CSs} (hc : PT X c (tTs W F wx cc)) (ha : PSs X a (tSs W F wx ca)) (hb : PSs X b (tSs W F wx cb)) : PS X (.If c a b pos) (tS W F wx (.ifs cc ca cb)) := by
  refine PS.imp (ps_if hc ha hb) fun D σ H h => ?_
  obtain ⟨ac, Γ, As, s, h⟩ := h
  refine ⟨ac, Γ, As, s, ?_⟩
  simp only [evS] at h
  cases e1 : ev F cc Γ with
  | bad => rw [e1] at h; exact h
  | ex k fs => rw [e1] at h; exact fun cls od H' x r => h ac As cls od σ H' (Le.refl _) (s.mono x) r
  | ok d n =>
    rw [e1] at h
    cases d with
    | bl t =>
      cases t with
      | true => exact fun H' x => iteT ⟨ac, Γ, As, s.mono x, h⟩
      | false => exact fun H' x => iteF ⟨ac, Γ, As, s.mono x, h⟩
    | _ => exact h.elim
end
end
end GL

/-! GL13: places in owned things. -/
namespace GL
open PySem L2 PyProof.Rows
/-- from v along the path to u -/
inductive Wk (H : Hp) : List D → V → V → Prop
  | nil {v : V} : Wk H [] v v
  | lst {p : Addr} {us : List V} {i : Int} {j : Nat} {w u : V} {ks : List D} : H p = some (.lst us) → GL.ixN us.length i = some j → us[j]? = some w → Wk H ks w u → Wk H (.int i :: ks) (.ref p) u
  | dct {p : Addr} {us : List V} {t : Bool} {as : List D} {k : D} {j : Nat} {w u : V} {ks : List D} : DctAt H p t as us → as[j]? = some k → us[j]? = some w → Wk H ks w u → Wk H (k :: ks) (.ref p) u
theorem map_nodup {α β : Type} {f : α → β} (inj : ∀ a b, f a = f b → a = b) : ∀ {l : List α}, l.Nodup → (l.map f).Nodup
  | [], _ => .nil
  | a :: l, h => by
    rw [List.nodup_cons] at h
    rw [List.map_cons, List.nodup_cons]
    refine ⟨fun z => ?_, map_nodup inj h.2⟩
    obtain ⟨b, hb, e⟩ := List.mem_map.mp z
    exact h.1 (inj _ _ e ▸ hb)
theorem DctAt.nodup {H : Hp} {p : Addr} {t : Bool} {as : List D} {us : List V} (h : DctAt H p t as us) : as.Nodup ∧ as.length = us.length := by
  cases t with
  | false =>
    obtain ⟨kk, h1, h2, rfl, h4, _⟩ := h
    exact ⟨map_nodup (fun _ _ => keyD_inj) h4, by rw [List.length_map]; exact h1⟩
  | true =>
    obtain ⟨kk, h1, h2, rfl, h4, _⟩ := h
    exact ⟨map_nodup (fun a b e => map_keyD_inj (D.tup.inj e)) h4, by rw [List.length_map]; exact h1⟩
theorem zip_inj {α β : Type} : ∀ {a b : List α} {x y : List β}, a.length = x.length → b.length = y.length → a.zip x = b.zip y → a = b ∧ x = y
  | [], [], [], [], _, _, _ => ⟨rfl, rfl⟩
  | _ :: _, _, [], _, h, _, _ => by simp at h
  | [], _, _ :: _, _, h, _, _ => by simp at h
  | _, _ :: _, _, [], _, h, _ => by simp at h
  | _, [], _, _ :: _, _, h, _ => by simp at h
  | [], b :: bs, [], y :: ys, _, _, h => by simp at h
  | a :: as, [], x :: xs, [], _, _, h => by simp at h
  | a :: as, b :: bs, x :: xs, y :: ys, h1, h2, h => by
    simp only [List.zip_cons_cons, List.cons.injEq, Prod.mk.injEq] at h
    obtain ⟨e1, e2⟩ := zip_inj (by simpa using h1) (by simpa using h2) h.2
    rw [h.1.1, h.1.2, e1, e2]; exact ⟨rfl, rfl⟩
theorem DctAt.inj {H : Hp} {p : Addr} {t t' : Bool} {as as' : List D} {us us' : List V} (h : DctAt H p t as us) (h' : DctAt H p t' as' us') : as = as' ∧ us = us' := by
  cases t <;> cases t' <;> obtain ⟨kk, h1, h2, rfl, h4, _⟩ := h <;> obtain ⟨kk', h1', h2', rfl, h4', _⟩ := h'
  · rw [h2] at h2'
    obtain ⟨rfl, rfl⟩ := zip_inj h1 h1' (HO.dK.inj (Option.some.inj h2'))
    exact ⟨rfl, rfl⟩
  · rw [h2] at h2'; cases h2'
  · rw [h2] at h2'; cases h2'
  · rw [h2] at h2'
    obtain ⟨rfl, rfl⟩ := zip_inj h1 h1' (HO.dT.inj (Option.some.inj h2'))
    exact ⟨rfl, rfl⟩
theorem dlook_at {k : D} : ∀ {as vs : List D} {x : D}, dlook k as vs = some x → ∃ j : Nat, as[j]? = some k ∧ vs[j]? = some x
  | [], _, _, h => by simp [dlook] at h
  | _ :: _, [], _, h => by simp [dlook] at h
  | a :: as, v :: vs, x, h => by
    simp only [dlook] at h
    split at h
    · rename_i e; subst e; cases h; exact ⟨0, rfl, rfl⟩
    · obtain ⟨j, h1, h2⟩ := dlook_at h; exact ⟨j + 1, by simpa using h1, by simpa using h2⟩
theorem nodup_at {as : List D} (nd : as.Nodup) {i j : Nat} {k : D} (h1 : as[i]? = some k) (h2 : as[j]? = some k) : i = j := by
  obtain ⟨a, e⟩ := List.getElem?_eq_some_iff.mp h1
  obtain ⟨b, e'⟩ := List.getElem?_eq_some_iff.mp h2
  exact (List.getElem_inj nd).mp (e.trans e'.symm)
theorem dput_at {k y : D} : ∀ {as vs : List D} {j : Nat}, as.Nodup → as.length = vs.length → as[j]? = some k → dput k y as vs = (as, vs.set j y)
  | [], _, j, _, _, h => by simp at h
  | _ :: _, [], _, _, h, _ => by simp at h
  | a :: as, v :: vs, 0, nd, hl, h => by
    simp only [List.getElem?_cons_zero, Option.some.injEq] at h
    subst h
    simp [dput]
  | a :: as, v :: vs, j + 1, nd, hl, h => by
    rw [List.nodup_cons] at nd
    have h' : as[j]? = some k := by simpa using h
    have ne : a ≠ k := fun e => nd.1 (e ▸ List.mem_of_getElem? h')
    have ih := dput_at (y := y) nd.2 (by simpa using hl) h'
    simp only [dput, if_neg ne, ih, List.set_cons_succ]
theorem flat_split {As : List (List Addr)} {j : Nat} {B : List Addr} (h : As[j]? = some B) : As.flatten = (As.take j).flatten ++ B ++ (As.drop (j + 1)).flatten := by
  obtain ⟨hj, e⟩ := List.getElem?_eq_some_iff.mp h
  have : As = As.take j ++ B :: As.drop (j + 1) := by
    rw [← e, ← List.drop_eq_getElem_cons hj, List.take_append_drop]
  conv => lhs; rw [this]
  simp
theorem flat_set_split {As : List (List Addr)} {j : Nat} {C : List Addr} (h : j < As.length) : (As.set j C).flatten = (As.take j).flatten ++ C ++ (As.drop (j + 1)).flatten := by
  rw [List.set_eq_take_append_cons_drop, if_pos h]
  simp
theorem All3.set {R : D → V → List Addr → Prop} {ds : List D} {vs : List V} {As : List (List Addr)} (h : All3 R ds vs As) : ∀ {j : Nat} {y : D} {v : V} {B : List Addr}, vs[j]? = some v → R y v B → All3 R (ds.set j y) vs (As.set j B) := by
  induction h with
  | nil => intro j y v B e; simp at e
  | cons r t ih =>
    intro j y v B e q
    cases j with
    | zero => simp only [List.getElem?_cons_zero, Option.some.injEq] at e; subst e; exact .cons q t
    | succ j => exact .cons r (ih (by simpa using e) q)
theorem own_lst {W : Wd} {Hf H : Hp} {n : Nat} {ds : List D} {v : V} {A : List Addr} (h : Own W Hf H (n + 1) (.lst ds) v A) : ∃ p xs As, v = .ref p ∧ H p = some (.lst xs) ∧ A = p :: As.flatten ∧ All3 (Own W Hf H n) ds xs As := h
theorem own_dct {W : Wd} {Hf H : Hp} {n : Nat} {t : Bool} {ks ds : List D} {v : V} {A : List Addr} (h : Own W Hf H (n + 1) (.dct t ks ds) v A) : ∃ p us As, v = .ref p ∧ DctAt H p t ks us ∧ A = p :: As.flatten ∧ All3 (Own W Hf H n) ds us As := h
/-- all but the j-th stay; the j-th is new -/
theorem all3_one {W : Wd} {Hf H Hf' H' : Hp} {n j : Nat} {ds : List D} {us : List V} {As : List (List Addr)} (h : All3 (Own W Hf H n) ds us As) (nd : As.flatten.Nodup) {y : D} {w : V} {B C : List Addr} (hw : us[j]? = some w) (hB : As[j]? = some B) (x : Ex Hf Hf')
    (same : ∀ a ∈ (As.take j).flatten ++ (As.drop (j + 1)).flatten, ∀ o, H a = some o → H' a = some o) (o : Own W Hf' H' n y w C) : All3 (Own W Hf' H' n) (ds.set j y) us (As.set j C) := by
  have gen : ∀ {ds us As}, All3 (Own W Hf H n) ds us As → ∀ j, us[j]? = some w → (∀ a ∈ (As.take j).flatten ++ (As.drop (j + 1)).flatten, ∀ o, H a = some o → H' a = some o) → All3 (Own W Hf' H' n) (ds.set j y) us (As.set j C) := fun h => by
    induction h with
    | nil => intro j e; simp at e
    | @cons d v A ds vs As r t ih =>
      intro j e s
      cases j with
      | zero =>
        simp only [List.getElem?_cons_zero, Option.some.injEq] at e
        subst e
        refine .cons o (t.imp fun d v A hA q => q.mono x fun p hp o' e' => s p ?_ o' e')
        simp only [List.take_zero, List.flatten_nil, List.nil_append, Nat.zero_add, List.drop_succ_cons, List.drop_zero]
        exact List.mem_flatten.mpr ⟨A, hA, hp⟩
      | succ j =>
        refine .cons (r.mono x fun p hp o' e' => s p ?_ o' e') (ih j (by simpa using e) fun a ha o' e' => s a ?_ o' e')
        · simp [hp]
        · simp only [List.take_succ_cons, List.flatten_cons, List.drop_succ_cons, List.mem_append] at ha ⊢
          rcases ha with ha | ha
          · exact .inl (.inr ha)
          · exact .inr ha
  exact gen h j hw same
/-- the thing at a place, and what its change makes of the whole -/
theorem own_mod {W : Wd} {Hf H : Hp} : ∀ (ks : List D) {n : Nat} {d : D} {v : V} {A : List Addr} {e : D} {m : Nat} {u : V}, Own W Hf H n d v A → A.Nodup → getP ks d n = some (e, m) → Wk H ks v u →
    ∃ A' L R : List Addr, A = L ++ A' ++ R ∧ Own W Hf H m e u A' ∧ ∀ (Hf' H' : Hp) (y : D) (B : List Addr) (f : D → Nat → Option D), Ex Hf Hf' → (∀ a ∈ L ++ R, ∀ o, H a = some o → H' a = some o) → Own W Hf' H' m y u B → f e m = some y →
      ∃ d', modP f ks d n = some d' ∧ Own W Hf' H' n d' v (L ++ B ++ R)
  | [], n, d, v, A, e, m, u, o, nd, g, w => by
    simp only [getP, Option.some.injEq, Prod.mk.injEq] at g
    obtain ⟨rfl, rfl⟩ := g
    cases w
    exact ⟨A, [], [], by simp, o, fun Hf' H' y B f x s o' hf => ⟨y, by simpa [modP] using hf, by simpa using o'⟩⟩
  | k :: ks, n, d, v, A, e, m, u, o, nd, g, w => by
    cases n with
    | zero => cases d <;> cases k <;> simp [getP] at g
    | succ n =>
      cases d with
      | lst ds =>
        cases k with
        | int i =>
          simp only [getP, Option.bind_eq_some_iff] at g
          obtain ⟨x, hx, g⟩ := g
          unfold GL.atI at hx
          rw [Option.bind_eq_some_iff] at hx
          obtain ⟨j, hj, hx⟩ := hx
          obtain ⟨p, us, As, rfl, hp, rfl, all⟩ := own_lst o
          obtain ⟨w1, us1, j1, e1, e2, e3, e4⟩ : ∃ w1 us1 j1, H p = some (.lst us1) ∧ GL.ixN us1.length i = some j1 ∧ us1[j1]? = some w1 ∧ Wk H ks w1 u := by
            cases w with
            | lst a b c d => exact ⟨_, _, _, a, b, c, d⟩
            | @dct _ _ t as _ j w _ _ a b c d =>
              cases t <;> (obtain ⟨_, _, q, _⟩ := a; rw [hp] at q; cases q)
          rw [hp] at e1; cases e1
          rw [← all.length.1, hj] at e2; cases e2
          obtain ⟨w2, B, hw2, hB, o2⟩ := all.get hx
          rw [e3] at hw2; cases hw2
          have ndc : p ∉ As.flatten ∧ As.flatten.Nodup := List.nodup_cons.mp nd
          obtain ⟨A', L, R, eB, oA, k2⟩ := own_mod ks o2 (flat_one ndc.2 hB) g e4
          have hjl : j < As.length := (List.getElem?_eq_some_iff.mp hB).1
          refine ⟨A', p :: ((As.take j).flatten ++ L), R ++ (As.drop (j + 1)).flatten, ?_, oA, fun Hf' H' y C f ex s oC hf => ?_⟩
          · rw [flat_split hB, eB]; simp
          · obtain ⟨d', q1, q2⟩ := k2 Hf' H' y C f ex (fun a ha o' e' => s a (by
              rcases List.mem_append.mp ha with z | z
              · simp [z]
              · simp [z]) o' e') oC hf
            have q1 : modP f ks x n = some d' := q1
            refine ⟨.lst (ds.set j d'), ?_, p, us, As.set j (L ++ C ++ R), rfl, s p (by simp) _ hp, ?_, all3_one all ndc.2 e3 hB ex (fun a ha o' e' => s a (by
              rcases List.mem_append.mp ha with z | z
              · simp [z]
              · simp [z]) o' e') q2⟩
            · simp only [modP, hj, hx, q1, Option.map_some]
            · rw [flat_set_split hjl]; simp
        | _ => simp [getP] at g
      | dct t as ds =>
        have g' : (if isKeyOf t k then (dlook k as ds).bind fun x => getP ks x n else none) = some (e, m) := by
          cases k <;> simpa [getP] using g
        split at g'
        · rename_i hk
          rw [Option.bind_eq_some_iff] at g'
          obtain ⟨x, hx, g'⟩ := g'
          obtain ⟨j, ha, hx'⟩ := dlook_at hx
          obtain ⟨p, us, As, rfl, hp, rfl, all⟩ := own_dct o
          obtain ⟨w1, j1, e2, e3, e4⟩ : ∃ w1 j1, as[j1]? = some k ∧ us[j1]? = some w1 ∧ Wk H ks w1 u := by
            cases w with
            | lst a b c d =>
              cases t <;> (obtain ⟨_, _, q, _⟩ := hp; rw [a] at q; cases q)
            | dct a b c d =>
              obtain ⟨rfl, rfl⟩ := a.inj hp
              exact ⟨_, _, b, c, d⟩
          have ej : j1 = j := nodup_at hp.nodup.1 e2 ha
          subst ej
          obtain ⟨w2, B, hw2, hB, o2⟩ := all.get hx'
          rw [e3] at hw2; cases hw2
          have ndc : p ∉ As.flatten ∧ As.flatten.Nodup := List.nodup_cons.mp nd
          obtain ⟨A', L, R, eB, oA, k2⟩ := own_mod ks o2 (flat_one ndc.2 hB) g' e4
          have hjl : j1 < As.length := (List.getElem?_eq_some_iff.mp hB).1
          refine ⟨A', p :: ((As.take j1).flatten ++ L), R ++ (As.drop (j1 + 1)).flatten, ?_, oA, fun Hf' H' y C f ex s oC hf => ?_⟩
          · rw [flat_split hB, eB]; simp
          · obtain ⟨d', q1, q2⟩ := k2 Hf' H' y C f ex (fun a ha o' e' => s a (by
              rcases List.mem_append.mp ha with z | z
              · simp [z]
              · simp [z]) o' e') oC hf
            have q1 : modP f ks _ n = some d' := q1
            have hput := dput_at (y := d') hp.nodup.1 (hp.nodup.2.trans all.length.1.symm) ha
            refine ⟨.dct t as (ds.set j1 d'), ?_, p, us, As.set j1 (L ++ C ++ R), rfl, ?_, ?_, all3_one all ndc.2 e3 hB ex (fun a ha o' e' => s a (by
              rcases List.mem_append.mp ha with z | z
              · simp [z]
              · simp [z]) o' e') q2⟩
            · have : modP f (k :: ks) (.dct t as ds) (n + 1) = (if isKeyOf t k then (match dlook k as ds with
                | some x => (modP f ks x n).map fun y => D.dct t as (dput k y as ds).2
                | none => none) else none) := by cases k <;> rfl
              rw [this, if_pos hk, hx]
              simp only [q1, Option.map_some, hput]
            · cases t
              · obtain ⟨kk, h1, h2, h3⟩ := hp; exact ⟨kk, h1, s p (by simp) _ h2, h3⟩
              · obtain ⟨kk, h1, h2, h3⟩ := hp; exact ⟨kk, h1, s p (by simp) _ h2, h3⟩
            · rw [flat_set_split hjl]; simp
        · cases g'
      | _ => cases k <;> simp [getP] at g
/-- there is a way -/
theorem wk_ex {W : Wd} {Hf H : Hp} : ∀ (ks : List D) {n : Nat} {d : D} {v : V} {A : List Addr} {e : D} {m : Nat}, Own W Hf H n d v A → getP ks d n = some (e, m) → ∃ u, Wk H ks v u
  | [], _, _, v, _, _, _, _, _ => ⟨v, .nil⟩
  | k :: ks, n, d, v, A, e, m, o, g => by
    cases n with
    | zero => cases d <;> cases k <;> simp [getP] at g
    | succ n =>
      cases d with
      | lst ds =>
        cases k with
        | int i =>
          simp only [getP, Option.bind_eq_some_iff] at g
          obtain ⟨x, hx, g⟩ := g
          unfold GL.atI at hx
          rw [Option.bind_eq_some_iff] at hx
          obtain ⟨j, hj, hx⟩ := hx
          obtain ⟨p, us, As, rfl, hp, rfl, all⟩ := own_lst o
          obtain ⟨w2, B, hw2, hB, o2⟩ := all.get hx
          obtain ⟨u, hu⟩ := wk_ex ks o2 g
          exact ⟨u, .lst hp (by rw [← all.length.1]; exact hj) hw2 hu⟩
        | _ => simp [getP] at g
      | dct t as ds =>
        have g' : (if isKeyOf t k then (dlook k as ds).bind fun x => getP ks x n else none) = some (e, m) := by
          cases k <;> simpa [getP] using g
        split at g'
        · rw [Option.bind_eq_some_iff] at g'
          obtain ⟨x, hx, g'⟩ := g'
          obtain ⟨j, ha, hx'⟩ := dlook_at hx
          obtain ⟨p, us, As, rfl, hp, rfl, all⟩ := own_dct o
          obtain ⟨w2, B, hw2, hB, o2⟩ := all.get hx'
          obtain ⟨u, hu⟩ := wk_ex ks o2 g'
          exact ⟨u, .dct hp ha hw2 hu⟩
        · cases g'
      | _ => cases k <;> simp [getP] at g
theorem getP_app : ∀ (ks ls : List D) (d : D) (n : Nat), getP (ks ++ ls) d n = (getP ks d n).bind fun p => getP ls p.1 p.2
  | [], ls, d, n => by simp [getP]
  | k :: ks, ls, d, n => by
    cases n with
    | zero => cases d <;> cases k <;> simp [getP]
    | succ n =>
      cases d with
      | lst ds =>
        cases k with
        | int i =>
          simp only [List.cons_append, getP]
          cases GL.atI ds i with
          | none => rfl
          | some x => simp only [Option.bind_some]; exact getP_app ks ls x n
        | _ => simp [getP]
      | dct t as ds =>
        have h : ∀ l, getP (k :: l) (.dct t as ds) (n + 1) = (if isKeyOf t k then (dlook k as ds).bind fun x => getP l x n else none) := fun l => by cases k <;> rfl
        rw [List.cons_append, h, h]
        split
        · cases dlook k as ds with
          | none => rfl
          | some x => simp only [Option.bind_some]; exact getP_app ks ls x n
        · rfl
      | _ => cases k <;> simp [getP]
theorem Wk.snoc {H : Hp} {ks ls : List D} {v u w : V} (h : Wk H ks v u) (g : Wk H ls u w) : Wk H (ks ++ ls) v w := by
  induction h with
  | nil => exact g
  | lst a b c _ ih => exact .lst a b c (ih g)
  | dct a b c _ ih => exact .dct a b c (ih g)
theorem Wk.mono {H H' : Hp} {ks : List D} {v u : V} (x : Ex H H') (h : Wk H ks v u) : Wk H' ks v u := by
  induction h with
  | nil => exact .nil
  | lst a b c _ ih => exact .lst (x _ _ a) b c ih
  | dct a b c _ ih => exact .dct (a.mono x) b c ih
/-! ### the state behind a change at a place -/
section
variable {W : Wd} {ac : Ac} {H : Hp} {σ : L2.St} {Γ : Env} {As : List (List Addr)}
theorem StOk.mod {N : List Addr} {i : Nat} {ks : List D} {d e : D} {n m : Nat} {v u : V} (s : StOk W { ac with S := fun a => ac.S a ∨ a ∈ N } H σ Γ As) (hN : ∀ p ∈ N, (p ∈ ac.A0 ∨ ac.H0 p = none) ∧ ¬ ac.S p) (hi : Γ[i]? = some (some (d, n))) (hv : σ[i]? = some (some v)) (g : getP ks d n = some (e, m)) (w : Wk H ks v u) :
    ∃ A' : List Addr, A'.Nodup ∧ (∀ p ∈ A', ∃ o, H p = some o ∧ isTup o = false) ∧ (∀ p ∈ A', p ∉ N) ∧ (∀ p ∈ A', (p ∈ ac.A0 ∨ ac.H0 p = none) ∧ ¬ ac.S p) ∧ (∃ A0, As[i]? = some A0 ∧ ∀ p ∈ A', p ∈ A0) ∧ Own W (hid H fun a => ac.S a ∨ a ∈ N ∨ a ∈ As.flatten) H m e u A' ∧
      ∀ (H' : Hp) (y : D) (B Dp : List Addr) (f : D → Nat → Option D), (∀ a o, a ∉ A' → H a = some o → H' a = some o) → (∀ a ∈ A', ∃ o, H' a = some o) → B.Nodup → (∀ p ∈ B, p ∈ A' ∨ p ∈ N ∨ H p = none) → (∀ a ∈ Dp, a ∈ A' ∧ a ∉ B) →
        Own W (hid H' fun a => ac.S a ∨ a ∈ N ∨ a ∈ As.flatten ∨ a ∈ B) H' m y u B → f e m = some y →
        ∃ Γ' As', modE f (some (i, ks)) Γ = some Γ' ∧ StOk W { ac with S := fun a => ac.S a ∨ a ∈ Dp } H' σ Γ' As' ∧ (∀ a, a ∈ As'.flatten → a ∈ As.flatten ∨ a ∈ B) ∧ (∀ a, a ∈ A' → a ∉ B → a ∉ As'.flatten) ∧ (∀ j, j ≠ i → Γ'[j]? = Γ[j]? ∧ As'[j]? = As[j]?) := by
  obtain ⟨v', A, q1, q2, o⟩ := s.slot i d n hi
  rw [hv] at q1; cases q1
  have ndA := flat_one s.nd q2
  obtain ⟨A', L, R, eA, oA, k⟩ := own_mod ks o ndA g w
  have sub : ∀ p ∈ A', p ∈ As.flatten := fun p hp => mem_flat_of q2 (by rw [eA]; simp [hp])
  have ndA' : A'.Nodup := by rw [eA] at ndA; exact (List.nodup_append.mp (List.nodup_append.mp ndA).1).2.1
  have dLR : ∀ p ∈ A', p ∉ L ++ R := fun p hp hq => by
    rw [eA, List.nodup_append, List.nodup_append] at ndA
    obtain ⟨⟨n1, n2, n3⟩, n4, n5⟩ := ndA
    rcases List.mem_append.mp hq with z | z
    · exact n3 p z p hp rfl
    · exact n5 p (List.mem_append_right _ hp) p z rfl
  have ownA' : ∀ p ∈ A', (p ∈ ac.A0 ∨ ac.H0 p = none) ∧ ¬ ac.S p := fun p hp => let z := s.own p (sub p hp); ⟨z.1, fun y => z.2 (.inl y)⟩
  have nN : ∀ p ∈ A', p ∉ N := fun p hp hq => (s.own p (sub p hp)).2 (.inr hq)
  refine ⟨A', ndA', fun p hp => s.thereF p (sub p hp), nN, ownA', ⟨A, q2, fun p hp => by rw [eA]; simp [hp]⟩, oA.mono (hid_le fun a t => ?_) fun _ _ _ q => q, fun H' y B Dp f same th ndB hB hD oB hf => ?_⟩
  · rcases t with t | t | t
    · exact .inl (.inl t)
    · exact .inl (.inr t)
    · exact .inr t
  have il : i < As.length := (List.getElem?_eq_some_iff.mp q2).1
  have hidx : Ex (hid H (tot { ac with S := fun a => ac.S a ∨ a ∈ N } As)) (hid H' fun a => ac.S a ∨ a ∈ N ∨ a ∈ As.flatten ∨ a ∈ B) := fun a o q => by
    obtain ⟨t, q⟩ := hid_not q
    rw [hid_at]
    · exact same a o (fun z => t (.inr (sub a z))) q
    · rintro (z | z | z | z)
      · exact t (.inl (.inl z))
      · exact t (.inl (.inr z))
      · exact t (.inr z)
      · rcases hB a z with z | z | z
        · exact t (.inr (sub a z))
        · exact t (.inl (.inr z))
        · rw [z] at q; cases q
  have keepA : ∀ a ∈ L ++ R, ∀ o, H a = some o → H' a = some o := fun a ha o q => same a o (fun z => dLR a z ha) q
  obtain ⟨d', m1, m2⟩ := k (hid H' fun a => ac.S a ∨ a ∈ N ∨ a ∈ As.flatten ∨ a ∈ B) H' y B f hidx keepA oB hf
  have hm : modE f (some (i, ks)) Γ = some (Γ.set i (some (d', n))) := by
    simp only [modE, hi, modS, m1, Option.map_some]
  have LRsub : ∀ p ∈ L ++ R, p ∈ As.flatten := fun p hp => mem_flat_of q2 (by
    rw [eA]
    rcases List.mem_append.mp hp with z | z
    · simp [z]
    · simp [z])
  have ndL : (L ++ B ++ R).Nodup := by
    rw [eA, List.nodup_append, List.nodup_append] at ndA
    obtain ⟨⟨n1, n2, n3⟩, n4, n5⟩ := ndA
    have dB : ∀ p ∈ B, p ∉ L ++ R := fun p hp hq => by
      rcases hB p hp with z | z | z
      · exact dLR p z hq
      · exact (s.own p (LRsub p hq)).2 (.inr z)
      · obtain ⟨o, q, _⟩ := s.thereF p (LRsub p hq); rw [z] at q; cases q
    rw [List.nodup_append, List.nodup_append]
    refine ⟨⟨n1, ndB, fun a ha b hb e => dB b hb (by rw [← e]; simp [ha])⟩, n4, fun a ha b hb e => ?_⟩
    rcases List.mem_append.mp ha with z | z
    · exact n5 a (List.mem_append_left _ z) b hb e
    · exact dB a z (by rw [e]; simp [hb])
  have memF : ∀ a, a ∈ (As.set i (L ++ B ++ R)).flatten → a ∈ B ∨ (a ∈ As.flatten ∧ a ∉ A') := fun a ha => by
    rcases mem_flat_set ha with z | ⟨j, C, z1, z2, z3⟩
    · rw [List.mem_append, List.mem_append] at z
      rcases z with (z | z) | z
      · exact .inr ⟨LRsub a (by simp [z]), fun y => dLR a y (by simp [z])⟩
      · exact .inl z
      · exact .inr ⟨LRsub a (by simp [z]), fun y => dLR a y (by simp [z])⟩
    · refine .inr ⟨mem_flat_of z2 z3, fun y => flat_sep s.nd z1 z2 q2 a z3 (by rw [eA]; simp [y])⟩
  have hle : ∀ a, tot { ac with S := fun a => ac.S a ∨ a ∈ Dp } (As.set i (L ++ B ++ R)) a → (ac.S a ∨ a ∈ N ∨ a ∈ As.flatten ∨ a ∈ B) := fun a t => by
    rcases t with (t | t) | t
    · exact .inl t
    · exact .inr (.inr (.inl (sub a (hD a t).1)))
    · rcases memF a t with z | z
      · exact .inr (.inr (.inr z))
      · exact .inr (.inr (.inl z.1))
  refine ⟨_, As.set i (L ++ B ++ R), hm, ⟨?_, ?_, ?_, ?_, ?_, ?_, ?_, ?_, ?_, s.fz.trans (hidx.trans (hid_le hle)), s.fb, s.pin⟩, fun a ha => (memF a ha).elim .inr fun z => .inl z.1, fun a h1 h2 h3 => (memF a h3).elim h2 fun z => z.2 h1, fun j hj => ⟨by rw [List.getElem?_set_ne hj.symm], by rw [List.getElem?_set_ne hj.symm]⟩⟩
  · rw [List.length_set, List.length_set]; exact s.len
  · rw [List.length_set]; exact s.len2
  · intro a o ha h
    have := s.pres a o ha h
    refine same a o (fun z => ?_) this
    rcases (ownA' a z).1 with y | y
    · exact ha y
    · rw [show ac.H0 a = some o from h] at y; cases y
  · refine nodup_set s.nd ndL fun p hp j C ne hC hq => ?_
    rw [List.mem_append, List.mem_append] at hp
    rcases hp with (z | z) | z
    · exact flat_sep s.nd ne hC q2 p hq (by rw [eA]; simp [z])
    · rcases hB p z with y | y | y
      · exact flat_sep s.nd ne hC q2 p hq (by rw [eA]; simp [y])
      · exact (s.own p (mem_flat_of hC hq)).2 (.inr y)
      · obtain ⟨o, q, _⟩ := s.thereF p (mem_flat_of hC hq); rw [y] at q; cases q
    · exact flat_sep s.nd ne hC q2 p hq (by rw [eA]; simp [z])
  · intro p hp
    have hpD : p ∉ Dp := fun z => (memF p hp).elim (hD p z).2 fun y => y.2 (hD p z).1
    suffices hs : (p ∈ ac.A0 ∨ ac.H0 p = none) ∧ ¬ ac.S p from ⟨hs.1, fun z => z.elim hs.2 hpD⟩
    rcases memF p hp with z | z
    · rcases hB p z with y | y | y
      · exact ownA' p y
      · exact hN p y
      · refine ⟨?_, fun q => ?_⟩
        · by_cases h0 : p ∈ ac.A0
          · exact .inl h0
          · right
            cases e0 : ac.H0 p with
            | none => rfl
            | some o => have := s.pres p o h0 e0; rw [y] at this; cases this
        · obtain ⟨o, q⟩ := s.frn p (.inl q); rw [y] at q; cases q
    · exact let q := s.own p z.1; ⟨q.1, fun y => q.2 (.inl y)⟩
  · intro a ha
    rcases ha with ha | ha
    · obtain ⟨o, q⟩ := s.frn a (.inl ha)
      exact ⟨o, same a o (fun z => (ownA' a z).2 ha) q⟩
    · exact th a (hD a ha).1
  · intro j e' m' hj
    by_cases hij : i = j
    · subst hij
      rw [List.getElem?_set_self (List.getElem?_eq_some_iff.mp hi).1] at hj
      cases hj
      exact ⟨v, L ++ B ++ R, hv, by rw [List.getElem?_set_self il], m2.mono (hid_le hle) fun _ _ _ q => q⟩
    · rw [List.getElem?_set_ne hij] at hj
      obtain ⟨v2, A2, p1, p2, p3⟩ := s.slot j e' m' hj
      refine ⟨v2, A2, p1, by rw [List.getElem?_set_ne hij]; exact p2, ?_⟩
      refine p3.mono (hidx.trans (hid_le hle)) fun p hp o q => same p o (fun z => ?_) q
      exact flat_sep s.nd (fun e => hij e.symm) p2 q2 p hp (by rw [eA]; simp [z])
  · intro j C h1 h2
    by_cases hij : i = j
    · subst hij
      rw [List.getElem?_set_self (List.getElem?_eq_some_iff.mp hi).1] at h1
      cases h1
    · rw [List.getElem?_set_ne hij] at h1 h2
      exact s.bare j C h1 h2
  · intro a ha
    obtain ⟨o, q⟩ := s.a0 a ha
    by_cases z : a ∈ A'
    · exact th a z
    · exact ⟨o, same a o z q⟩
/-- the way stays -/
theorem wk_stay {Hf H' : Hp} : ∀ (ks : List D) {n : Nat} {d : D} {v : V} {A : List Addr} {e : D} {m : Nat} {u : V}, Own W Hf H n d v A → getP ks d n = some (e, m) → Wk H ks v u → (∀ p ∈ A, ∀ o, H p = some o → H' p = some o) → Wk H' ks v u
  | [], _, _, _, _, _, _, _, _, _, w, _ => by cases w; exact .nil
  | k :: ks, n, d, v, A, e, m, u, o, g, w, st => by
    cases n with
    | zero => cases d <;> cases k <;> simp [getP] at g
    | succ n =>
      cases d with
      | lst ds =>
        cases k with
        | int i =>
          simp only [getP, Option.bind_eq_some_iff] at g
          obtain ⟨x, hx, g⟩ := g
          unfold GL.atI at hx
          rw [Option.bind_eq_some_iff] at hx
          obtain ⟨j, hj, hx⟩ := hx
          obtain ⟨p, us, As, rfl, hp, rfl, all⟩ := own_lst o
          obtain ⟨w1, us1, j1, e1, e2, e3, e4⟩ : ∃ w1 us1 j1, H p = some (.lst us1) ∧ GL.ixN us1.length i = some j1 ∧ us1[j1]? = some w1 ∧ Wk H ks w1 u := by
            cases w with
            | lst a b c d => exact ⟨_, _, _, a, b, c, d⟩
            | @dct _ _ t as _ j w _ _ a b c d =>
              cases t <;> (obtain ⟨_, _, q, _⟩ := a; rw [hp] at q; cases q)
          rw [hp] at e1; cases e1
          have e2' := e2
          rw [← all.length.1, hj] at e2'; cases e2'
          obtain ⟨w2, B, hw2, hB, o2⟩ := all.get hx
          rw [e3] at hw2; cases hw2
          exact .lst (st p (by simp) _ hp) e2 e3 (wk_stay ks o2 g e4 fun q hq o z => st q (List.mem_cons_of_mem _ (mem_flat_of hB hq)) o z)
        | _ => simp [getP] at g
      | dct t as ds =>
        have g' : (if isKeyOf t k then (dlook k as ds).bind fun x => getP ks x n else none) = some (e, m) := by
          cases k <;> simpa [getP] using g
        split at g'
        · rw [Option.bind_eq_some_iff] at g'
          obtain ⟨x, hx, g'⟩ := g'
          obtain ⟨j, ha, hx'⟩ := dlook_at hx
          obtain ⟨p, us, As, rfl, hp, rfl, all⟩ := own_dct o
          obtain ⟨w1, j1, e2, e3, e4⟩ : ∃ (w1 : V) (j1 : Nat), as[j1]? = some k ∧ us[j1]? = some w1 ∧ Wk H ks w1 u := by
            cases w with
            | lst a b c d =>
              cases t <;> (obtain ⟨_, _, q, _⟩ := hp; rw [a] at q; cases q)
            | dct a b c d =>
              obtain ⟨rfl, rfl⟩ := a.inj hp
              exact ⟨_, _, b, c, d⟩
          have ej : j1 = j := nodup_at hp.nodup.1 e2 ha
          subst ej
          obtain ⟨w2, B, hw2, hB, o2⟩ := all.get hx'
          rw [e3] at hw2; cases hw2
          refine .dct (t := t) (as := as) (us := us) ?_ e2 e3 (wk_stay ks o2 g' e4 fun q hq o z => st q (List.mem_cons_of_mem _ (mem_flat_of hB hq)) o z)
          cases t
          · obtain ⟨kk, h1, h2, h3⟩ := hp; exact ⟨kk, h1, st p (by simp) _ h2, h3⟩
          · obtain ⟨kk, h1, h2, h3⟩ := hp; exact ⟨kk, h1, st p (by simp) _ h2, h3⟩
        · cases g'
      | _ => cases k <;> simp [getP] at g
end
end GL

/-! GL14: owned lists and dicts changed in place. -/
namespace GL
open PySem L2 PyProof.Rows
theorem all3_flat {R : D → V → List Addr → Prop} {ds : List D} {us : List V} {Bs : List (List Addr)} (all : All3 R ds us Bs) : True := trivial
section
variable {W : Wd} {ac : Ac} {H : Hp} {σ : L2.St} {Γ : Env} {As : List (List Addr)}
/-- what stands where an object of the state is changed -/
structure After1 (W : Wd) (ac : Ac) (N Dp : List Addr) (i : Nat) (f : D → Nat → Option D) (ks : List D) (σ : L2.St) (Γ : Env) (As : List (List Addr)) (H' : Hp) : Prop where
  ex : ∃ Γ' As', modE f (some (i, ks)) Γ = some Γ' ∧ StOk W { ac with S := fun a => ac.S a ∨ a ∈ Dp } H' σ Γ' As' ∧ (∀ a, a ∈ As'.flatten → a ∈ As.flatten ∨ a ∈ N) ∧ (∀ j, j ≠ i → Γ'[j]? = Γ[j]? ∧ As'[j]? = As[j]?)
theorem own_tup {Hf : Hp} {n : Nat} {ds : List D} {v : V} {A : List Addr} {d : D} (hd : d = .tup ds) (h : Own W Hf H n d v A) : A = [] ∧ Fro W Hf d v := by
  subst hd
  cases n <;> exact h
theorem StOk.lmod {N : List Addr} {i : Nat} {ks : List D} {d : D} {n k : Nat} {v u : V} {xs : List D} (s : StOk W { ac with S := fun a => ac.S a ∨ a ∈ N } H σ Γ As) (ndN : N.Nodup) (hN : ∀ p ∈ N, (p ∈ ac.A0 ∨ ac.H0 p = none) ∧ ¬ ac.S p) (hi : Γ[i]? = some (some (d, n))) (hv : σ[i]? = some (some v))
    (g : getP ks d n = some (.lst xs, k + 1)) (w : Wk H ks v u) :
    ∃ (q : Addr) (us : List V) (Bs : List (List Addr)), u = .ref q ∧ H q = some (.lst us) ∧ All3 (Own W (hid H fun a => ac.S a ∨ a ∈ N ∨ a ∈ As.flatten) H k) xs us Bs ∧ q ∉ Bs.flatten ∧ Bs.flatten.Nodup ∧ q ∉ N ∧ (∀ p ∈ Bs.flatten, p ∉ N) ∧
      (∀ p ∈ q :: Bs.flatten, (p ∈ ac.A0 ∨ ac.H0 p = none) ∧ ¬ ac.S p) ∧ (∃ A0, As[i]? = some A0 ∧ ∀ p ∈ q :: Bs.flatten, p ∈ A0) ∧
      ∀ (ys : List D) (us' : List V) (Bs' : List (List Addr)) (Dp : List Addr) (f : D → Nat → Option D), All3 (Own W (hid H fun a => ac.S a ∨ a ∈ N ∨ a ∈ As.flatten) H k) ys us' Bs' → Bs'.flatten.Nodup → (∀ p ∈ Bs'.flatten, p ∈ Bs.flatten ∨ p ∈ N) →
        (∀ a ∈ Dp, a ∈ Bs.flatten ∧ a ∉ Bs'.flatten) → f (.lst xs) (k + 1) = some (.lst ys) → After1 W ac N Dp i f ks σ Γ As (upd H q (.lst us')) := by
  obtain ⟨A', m1, m2, m3, m4, m5, m6, m7⟩ := s.mod hN hi hv g w
  obtain ⟨q, us, Bs, rfl, hq, rfl, all⟩ := own_lst m6
  have ndq := List.nodup_cons.mp m1
  refine ⟨q, us, Bs, rfl, hq, all, ndq.1, ndq.2, m3 q List.mem_cons_self, fun p hp => m3 p (List.mem_cons_of_mem _ hp), m4, m5, fun ys us' Bs' Dp f all' nd' hB' hD hf => ?_⟩
  have subF : ∀ p ∈ q :: Bs.flatten, p ∈ As.flatten := fun p hp => let ⟨A0, h1, h2⟩ := m5; mem_flat_of h1 (h2 p hp)
  have nq : q ∉ Bs'.flatten := fun z => (hB' q z).elim ndq.1 (m3 q List.mem_cons_self)
  have hh : Ex (hid H fun a => ac.S a ∨ a ∈ N ∨ a ∈ As.flatten) (hid (upd H q (.lst us')) fun a => ac.S a ∨ a ∈ N ∨ a ∈ As.flatten ∨ a ∈ q :: Bs'.flatten) := fun a o' z => by
    obtain ⟨t, z⟩ := hid_not z
    have ne : a ≠ q := fun y => t (.inr (.inr (by rw [y]; exact subF q List.mem_cons_self)))
    rw [hid_at, upd_ne ne]
    · exact z
    · rintro (y | y | y | y)
      · exact t (.inl y)
      · exact t (.inr (.inl y))
      · exact t (.inr (.inr y))
      · rcases List.mem_cons.mp y with y | y
        · exact ne y
        · exact (hB' a y).elim (fun y => t (.inr (.inr (subF a (List.mem_cons_of_mem _ y))))) fun y => t (.inr (.inl y))
  obtain ⟨Γ', As', e1, e2, e3, e4, e5⟩ := m7 (upd H q (.lst us')) (.lst ys) (q :: Bs'.flatten) Dp f (fun a o ha h => by rw [upd_ne (fun z => ha (by rw [z]; exact List.mem_cons_self))]; exact h) (fun a ha => by
      by_cases z : a = q
      · rw [z]; exact ⟨_, upd_same⟩
      · obtain ⟨o, y, _⟩ := m2 a ha; exact ⟨o, by rw [upd_ne z]; exact y⟩) (List.nodup_cons.mpr ⟨nq, nd'⟩) (fun p hp => by
      rcases List.mem_cons.mp hp with z | z
      · rw [z]; exact .inl List.mem_cons_self
      · exact (hB' p z).elim (fun y => .inl (List.mem_cons_of_mem _ y)) fun y => .inr (.inl y))
    (fun a ha => ⟨List.mem_cons_of_mem _ (hD a ha).1, fun z => (List.mem_cons.mp z).elim (fun y => ndq.1 (by rw [← y]; exact (hD a ha).1)) (hD a ha).2⟩)
    ⟨q, us', Bs', rfl, upd_same, rfl, all'.imp fun d w A hA o => o.mono hh fun p hp o' z => by rw [upd_ne (fun y : p = q => nq (by rw [← y]; exact List.mem_flatten.mpr ⟨A, hA, hp⟩))]; exact z⟩ hf
  refine ⟨Γ', As', e1, e2, fun a ha => ?_, e5⟩
  rcases e3 a ha with z | z
  · exact .inl z
  · rcases List.mem_cons.mp z with y | y
    · rw [y]; exact .inl (subF q List.mem_cons_self)
    · exact (hB' a y).imp (fun y => subF a (List.mem_cons_of_mem _ y)) id
theorem StOk.dmod {N : List Addr} {i : Nat} {ks : List D} {d : D} {n k : Nat} {v u : V} {t : Bool} {as xs : List D} (s : StOk W { ac with S := fun a => ac.S a ∨ a ∈ N } H σ Γ As) (ndN : N.Nodup) (hN : ∀ p ∈ N, (p ∈ ac.A0 ∨ ac.H0 p = none) ∧ ¬ ac.S p) (hi : Γ[i]? = some (some (d, n))) (hv : σ[i]? = some (some v))
    (g : getP ks d n = some (.dct t as xs, k + 1)) (w : Wk H ks v u) :
    ∃ (q : Addr) (us : List V) (Bs : List (List Addr)), u = .ref q ∧ DctAt H q t as us ∧ All3 (Own W (hid H fun a => ac.S a ∨ a ∈ N ∨ a ∈ As.flatten) H k) xs us Bs ∧ q ∉ Bs.flatten ∧ Bs.flatten.Nodup ∧ q ∉ N ∧ (∀ p ∈ Bs.flatten, p ∉ N) ∧
      (∀ p ∈ q :: Bs.flatten, (p ∈ ac.A0 ∨ ac.H0 p = none) ∧ ¬ ac.S p) ∧ (∃ A0, As[i]? = some A0 ∧ ∀ p ∈ q :: Bs.flatten, p ∈ A0) ∧
      ∀ (o' : HO) (as' ys : List D) (us' : List V) (Bs' : List (List Addr)) (Dp : List Addr) (f : D → Nat → Option D), DctAt (upd H q o') q t as' us' → All3 (Own W (hid H fun a => ac.S a ∨ a ∈ N ∨ a ∈ As.flatten) H k) ys us' Bs' → Bs'.flatten.Nodup → (∀ p ∈ Bs'.flatten, p ∈ Bs.flatten ∨ p ∈ N) →
        (∀ a ∈ Dp, a ∈ Bs.flatten ∧ a ∉ Bs'.flatten) → f (.dct t as xs) (k + 1) = some (.dct t as' ys) → After1 W ac N Dp i f ks σ Γ As (upd H q o') := by
  obtain ⟨A', m1, m2, m3, m4, m5, m6, m7⟩ := s.mod hN hi hv g w
  obtain ⟨q, us, Bs, rfl, hq, rfl, all⟩ := own_dct m6
  have ndq := List.nodup_cons.mp m1
  refine ⟨q, us, Bs, rfl, hq, all, ndq.1, ndq.2, m3 q List.mem_cons_self, fun p hp => m3 p (List.mem_cons_of_mem _ hp), m4, m5, fun o' as' ys us' Bs' Dp f hd all' nd' hB' hD hf => ?_⟩
  have subF : ∀ p ∈ q :: Bs.flatten, p ∈ As.flatten := fun p hp => let ⟨A0, h1, h2⟩ := m5; mem_flat_of h1 (h2 p hp)
  have nq : q ∉ Bs'.flatten := fun z => (hB' q z).elim ndq.1 (m3 q List.mem_cons_self)
  have hh : Ex (hid H fun a => ac.S a ∨ a ∈ N ∨ a ∈ As.flatten) (hid (upd H q o') fun a => ac.S a ∨ a ∈ N ∨ a ∈ As.flatten ∨ a ∈ q :: Bs'.flatten) := fun a o' z => by
    obtain ⟨t, z⟩ := hid_not z
    have ne : a ≠ q := fun y => t (.inr (.inr (by rw [y]; exact subF q List.mem_cons_self)))
    rw [hid_at, upd_ne ne]
    · exact z
    · rintro (y | y | y | y)
      · exact t (.inl y)
      · exact t (.inr (.inl y))
      · exact t (.inr (.inr y))
      · rcases List.mem_cons.mp y with y | y
        · exact ne y
        · exact (hB' a y).elim (fun y => t (.inr (.inr (subF a (List.mem_cons_of_mem _ y))))) fun y => t (.inr (.inl y))
  obtain ⟨Γ', As', e1, e2, e3, e4, e5⟩ := m7 (upd H q o') (.dct t as' ys) (q :: Bs'.flatten) Dp f (fun a o ha h => by rw [upd_ne (fun z => ha (by rw [z]; exact List.mem_cons_self))]; exact h) (fun a ha => by
      by_cases z : a = q
      · rw [z]; exact ⟨_, upd_same⟩
      · obtain ⟨o, y, _⟩ := m2 a ha; exact ⟨o, by rw [upd_ne z]; exact y⟩) (List.nodup_cons.mpr ⟨nq, nd'⟩) (fun p hp => by
      rcases List.mem_cons.mp hp with z | z
      · rw [z]; exact .inl List.mem_cons_self
      · exact (hB' p z).elim (fun y => .inl (List.mem_cons_of_mem _ y)) fun y => .inr (.inl y))
    (fun a ha => ⟨List.mem_cons_of_mem _ (hD a ha).1, fun z => (List.mem_cons.mp z).elim (fun y => ndq.1 (by rw [← y]; exact (hD a ha).1)) (hD a ha).2⟩)
    ⟨q, us', Bs', rfl, hd, rfl, all'.imp fun d w A hA o => o.mono hh fun p hp o' z => by rw [upd_ne (fun y : p = q => nq (by rw [← y]; exact List.mem_flatten.mpr ⟨A, hA, hp⟩))]; exact z⟩ hf
  refine ⟨Γ', As', e1, e2, fun a ha => ?_, e5⟩
  rcases e3 a ha with z | z
  · exact .inl z
  · rcases List.mem_cons.mp z with y | y
    · rw [y]; exact .inl (subF q List.mem_cons_self)
    · exact (hB' a y).imp (fun y => subF a (List.mem_cons_of_mem _ y)) id
end
/-! ### the reading of a place -/
def tP (W : Wd) (F : Fn) (p : CP) : TE := fun σ H Q => ∃ ac Γ As, StOk W ac H σ Γ As ∧ ∃ (i : Nat) (ks : List D) (d : D) (n : Nat) (e : D) (m : Nat) (v0 : V), path F Γ p = some (i, ks) ∧ Γ[i]? = some (some (d, n)) ∧ getP ks d n = some (e, m) ∧ σ[i]? = some (some v0) ∧
  ∀ u H', Ex H H' → Wk H' ks v0 u → Q u H'
theorem sp_var {X : Cx} {W : Wd} {F : Fn} {i : Nat} {x : Str} {pos : Pos} (hN : X.N[i]? = some x) (hv : Vis X.env.scope x) (h1 : (x == ("__debug__" : Str)) = false) (h2 : (x == ("__classdict__" : Str)) = false) : PE X (.Name x pos) (tP W F (.var i)) := by
  refine PE.imp (pe_var hN hv h1 h2) fun σ H Q h => ?_
  obtain ⟨ac, Γ, As, s, i', ks, d, n, e, m, v0, e1, e2, e3, e4, k⟩ := h
  simp only [path, Option.some.injEq, Prod.mk.injEq] at e1
  obtain ⟨rfl, rfl⟩ := e1
  exact ⟨v0, e4, k v0 H (Ex.refl H) .nil⟩
theorem dct_get_ix {W : Wd} {H : Hp} {a : Addr} {t : Bool} {ks ds : List D} {us : List V} {k : D} {y : V} (h : DctAt H a t ks us) (hl : ds.length = us.length) (hk : isKeyOf t k = true) (hy : Fro W H k y) {x : D} (hx : dlook k ks ds = some x) :
    ∃ (j : Nat) (u : V), ks[j]? = some k ∧ ds[j]? = some x ∧ us[j]? = some u ∧ DGet H a y (some u) := by
  obtain ⟨j, h1, h2⟩ := dlook_at hx
  obtain ⟨o, g, hm⟩ := dct_get (Hf := H) (ds := (List.range us.length).map fun (i : Nat) => D.int (i : Int)) (P := fun d u => ∃ i : Nat, d = .int (i : Int) ∧ us[i]? = some u) h (by simp) hk hy (fun i d u hd hu => by
    rw [List.getElem?_map] at hd
    obtain ⟨i', hi', rfl⟩ := Option.map_eq_some_iff.mp hd
    have : i' = i := by
      rw [List.getElem?_eq_some_iff] at hi'
      obtain ⟨q1, q2⟩ := hi'
      rw [List.getElem_range] at q2; exact q2.symm
    subst this
    exact ⟨i', rfl, hu⟩)
  have hjl : j < us.length := by rw [← hl]; exact (List.getElem?_eq_some_iff.mp h2).1
  have look : ∀ {ks ds : List D} {j : Nat} {z : D}, ks.Nodup → ks.length = ds.length → ks[j]? = some k → ds[j]? = some z → dlook k ks ds = some z := by
    intro ks
    induction ks with
    | nil => intro ds j z _ _ q; simp at q
    | cons a ks ih =>
      intro ds j z nd hl q1 q2
      cases ds with
      | nil => simp at hl
      | cons b ds =>
        rw [List.nodup_cons] at nd
        cases j with
        | zero =>
          simp only [List.getElem?_cons_zero, Option.some.injEq] at q1 q2
          subst q1 q2
          simp [dlook]
        | succ j =>
          have q1' : ks[j]? = some k := by simpa using q1
          have ne : a ≠ k := fun e => nd.1 (e ▸ List.mem_of_getElem? q1')
          simp only [dlook, if_neg ne]
          exact ih nd.2 (by simpa using hl) q1' (by simpa using q2)
  have hr : ((List.range us.length).map fun (i : Nat) => D.int (i : Int))[j]? = some (.int (j : Int)) := by
    rw [List.getElem?_map, List.getElem?_range hjl]; rfl
  rw [look h.nodup.1 (by rw [h.nodup.2]; simp) h1 hr] at hm
  obtain ⟨u, rfl, i, e, hu⟩ := hm
  have : j = i := by have := D.int.inj e; omega
  subst this
  exact ⟨j, u, h1, h2, hu, g⟩
theorem sp_idx {X : Cx} {W : Wd} {F : Fn} {wx : WX} {pos : Pos} {a b : Expr} {p : CP} {cb : CE} (hK : X.K = W.K) (hu : X.A.units + 65 < cLine) (ha : PE X a (tP W F p)) (hb : PE X b (tE W F wx cb)) (hs : nslice b = true) : PE X (.Subscript a b pos) (tP W F (.idx p cb)) := by
  refine PE.imp (pe_ix (ix_all (by omega)) ha hb (plainIx hs)) fun σ H Q h => ?_
  obtain ⟨ac, Γ, As, s, i, ks, d, n, e, m, v0, e1, e2, e3, e4, k⟩ := h
  simp only [path] at e1
  cases p1 : path F Γ p with
  | none => rw [p1] at e1; cases e1
  | some ik =>
    obtain ⟨i1, ks1⟩ := ik
    cases p2 : ev F cb Γ with
    | ex k fs => rw [p1, p2] at e1; cases e1
    | bad => rw [p1, p2] at e1; cases e1
    | ok kd kn =>
      rw [p1, p2] at e1
      simp only [Option.some.injEq, Prod.mk.injEq] at e1
      obtain ⟨rfl, rfl⟩ := e1
      rw [getP_app] at e3
      rw [Option.bind_eq_some_iff] at e3
      obtain ⟨⟨e5, m5⟩, g1, g2⟩ := e3
      refine ⟨ac, Γ, As, s, i1, ks1, d, n, e5, m5, v0, p1, e2, g1, e4, fun u H1 x1 w1 => ?_⟩
      refine ⟨ac, Γ, As, s.mono x1, ?_⟩
      rw [p2]
      intro y H2 x2 r
      have s2 := (s.mono x1).mono x2
      obtain ⟨v', A, q1, q2, o⟩ := s2.slot i1 d n e2
      rw [e4] at q1; cases q1
      have w2 := w1.mono x2
      obtain ⟨A', L, R, _, o', _⟩ := own_mod ks1 o (flat_one s2.nd q2) g1 w2
      have ky := r.b.fro
      cases m5 with
      | zero => cases e5 <;> cases kd <;> simp [getP] at g2
      | succ m5 =>
        cases e5 with
        | lst ds =>
          cases kd with
          | int j =>
            simp only [getP, Option.bind_eq_some_iff] at g2
            obtain ⟨z, hz, _⟩ := g2
            obtain ⟨p, us, Bs, rfl, hp, rfl, all⟩ := own_lst o'
            have hz' := hz
            unfold GL.atI at hz'
            rw [Option.bind_eq_some_iff] at hz'
            obtain ⟨jn, hj, hz'⟩ := hz'
            obtain ⟨w, B, hw, hB, _⟩ := all.get hz'
            cases ky
            have hj' : GL.ixN us.length j = some jn := by rw [← all.length.1]; exact hj
            refine .inl ⟨p, us, j, w, rfl, rfl, SqL.of hp, ?_, k w H2 (x1.trans x2) (w2.snoc (.lst hp hj' hw .nil))⟩
            unfold L2.atI
            rw [show L2.ixN us.length j = some jn from hj']; exact hw
          | _ => simp [getP] at g2
        | dct t as ds =>
          have g' : (if isKeyOf t kd then (dlook kd as ds).bind fun x => getP [] x m5 else none) = some (e, m) := by
            cases kd <;> simpa [getP] using g2
          split at g'
          · rename_i hk
            rw [Option.bind_eq_some_iff] at g'
            obtain ⟨z, hz, _⟩ := g'
            obtain ⟨p, us, Bs, rfl, hp, rfl, all⟩ := own_dct o'
            obtain ⟨j, w, h1, h2, h3, dg⟩ := dct_get_ix (ds := ds) hp all.length.1 hk ky hz
            exact .inr (.inr (.inr ⟨p, w, rfl, dg, k w H2 (x1.trans x2) (w2.snoc (.dct hp h1 h3 .nil))⟩))
          · cases g'
        | _ => cases kd <;> simp [getP] at g2
/-! ### xs.append(x) -/
theorem getE_some {i : Nat} {ks : List D} {Γ : Env} {e : D} {m : Nat} (h : getE (some (i, ks)) Γ = some (e, m)) : ∃ d n, Γ[i]? = some (some (d, n)) ∧ getP ks d n = some (e, m) := by
  simp only [getE] at h
  split at h
  · rename_i d n e1; exact ⟨d, n, e1, h⟩
  · cases h
theorem getE_path {ik : Option (Nat × List D)} {Γ : Env} {e : D} {m : Nat} (h : getE ik Γ = some (e, m)) : ∃ i ks, ik = some (i, ks) := by
  cases ik with
  | none => cases h
  | some p => exact ⟨p.1, p.2, rfl⟩
theorem path_slot {F : Fn} {Γ : Env} : ∀ {p : CP} {i : Nat} {ks : List D}, path F Γ p = some (i, ks) → p.slot = i
  | .var j, i, ks, h => by simp only [path, Option.some.injEq, Prod.mk.injEq] at h; exact h.1
  | .idx p e, i, ks, h => by
    simp only [path] at h
    split at h
    · rename_i i' ks' k _ h1 h2
      simp only [Option.some.injEq, Prod.mk.injEq] at h
      rw [← h.1]
      exact path_slot (p := p) h1
    · cases h
section
variable {X : Cx} {W : Wd} {F : Fn} {wx : WX} {ac : Ac} {Γ Γ' : Env} {As : List (List Addr)} {σ : L2.St} {H H' : Hp} {d : D} {n : Nat} {v : V} {pos apos pos2 : Pos} {e o : Expr} {p : CP} {c : CX}
theorem All3.snoc {R : D → V → List Addr → Prop} {ds : List D} {us : List V} {Bs : List (List Addr)} (h : All3 R ds us Bs) {d : D} {v : V} {A : List Addr} (q : R d v A) : All3 R (ds ++ [d]) (us ++ [v]) (Bs ++ [A]) := h.append (.cons q .nil)
theorem appD_some {x : D} {m : Nat} {f : Bool} {e : D} {k : Nat} {r : D} (h : appD x m f e k = some r) : ∃ xs k', e = .lst xs ∧ k = k' + 1 ∧ (∃ y, GL.own k' f (.ok x m) = .ok x y) ∧ xs.length < LINE ∧ r = .lst (xs ++ [x]) := by
  unfold appD at h
  split at h
  · rename_i xs k'
    split at h
    · rename_i y z hy
      have := own_val hy
      subst this
      split at h
      · rename_i hl; cases h; exact ⟨xs, k', rfl, rfl, ⟨_, hy⟩, hl, rfl⟩
      · cases h
    · cases h
  · cases h
theorem modE_some {f : D → Nat → Option D} {i : Nat} {ks : List D} {Γ Γ' : Env} (h : modE f (some (i, ks)) Γ = some Γ') : ∃ d n, Γ[i]? = some (some (d, n)) := by
  simp only [modE, Option.map_eq_some_iff] at h
  obtain ⟨s, h, _⟩ := h
  unfold modS at h
  split at h
  · rename_i d n e; exact ⟨d, n, e⟩
  · cases h
theorem modE_get {f : D → Nat → Option D} {i : Nat} {ks : List D} {Γ Γ' : Env} {d : D} {n : Nat} (h : modE f (some (i, ks)) Γ = some Γ') (hi : Γ[i]? = some (some (d, n))) : ∃ e m r, getP ks d n = some (e, m) ∧ f e m = some r := by
  simp only [modE, Option.map_eq_some_iff, hi, modS] at h
  obtain ⟨s, ⟨d', h, hs⟩, _⟩ := h
  clear hi hs
  induction ks generalizing d n d' with
  | nil => exact ⟨d, n, d', rfl, by simpa [modP] using h⟩
  | cons k ks ih =>
    cases n with
    | zero => cases d <;> cases k <;> simp [modP] at h
    | succ n =>
      cases d with
      | lst ds =>
        cases k with
        | int j =>
          simp only [modP] at h
          split at h
          · rename_i jn hj
            split at h
            · rename_i x hx
              rw [Option.map_eq_some_iff] at h
              obtain ⟨y, h, _⟩ := h
              obtain ⟨e, m, r, h1, h2⟩ := ih y h
              exact ⟨e, m, r, by simp only [getP, GL.atI, hj, Option.bind_some, hx]; exact h1, h2⟩
            · cases h
          · cases h
        | _ => simp [modP] at h
      | dct t as ds =>
        have h' : (if isKeyOf t k then (match dlook k as ds with
          | some x => (modP f ks x n).map fun y => D.dct t as (dput k y as ds).2
          | none => none) else none) = some d' := by cases k <;> exact h
        split at h'
        · rename_i hk
          split at h'
          · rename_i x hx
            rw [Option.map_eq_some_iff] at h'
            obtain ⟨y, h', _⟩ := h'
            obtain ⟨e, m, r, h1, h2⟩ := ih y h'
            refine ⟨e, m, r, ?_, h2⟩
            have : getP (k :: ks) (.dct t as ds) (n + 1) = (if isKeyOf t k then (dlook k as ds).bind fun x => getP ks x n else none) := by cases k <;> rfl
            rw [this, if_pos hk, hx]; exact h1
          · cases h'
        · cases h'
      | _ => cases k <;> simp [modP] at h
/-- what follows an append: by what was handed in -/
theorem app_ok {i : Nat} {ks : List D} {Γ2 : Env} {f : Bool} {v0 u : V} (x : XOut W ac Γ' d n v σ H) (hm : modE (appD d n f) (some (i, ks)) Γ' = some Γ2) (hv : σ[i]? = some (some v0)) (w : Wk H ks v0 u) :
    ∃ (q : Addr) (us : List V), u = .ref q ∧ H q = some (.lst us) ∧ us.length < sizeLine ∧ ∃ ac' As', Le ac ac' ∧ StOk W ac' (upd H q (.lst (us ++ [v]))) σ Γ2 As' := by
  obtain ⟨dd, nn, hi⟩ := modE_some hm
  obtain ⟨e, m, r, hg, hf⟩ := modE_get hm hi
  obtain ⟨xs, k, rfl, rfl, ⟨y, hown⟩, hl, rfl⟩ := appD_some hf
  cases k with
  | zero =>
    obtain ⟨ac', As', l, s, fr⟩ := x.fix
    obtain ⟨q, us, Bs, rfl, hq, all, q1, q2, q3, q4, q5, q6, k⟩ := StOk.lmod (N := []) (s.same fun a => ⟨fun z => z.elim id fun z => (by cases z), fun z => Or.inl z⟩) .nil (fun p hp => by cases hp) hi hv hg w
    refine ⟨q, us, rfl, hq, by rw [← all.length.1, line_eq]; exact hl, ?_⟩
    obtain ⟨Γ3, As3, e1, e2, _, _⟩ := (k (xs ++ [d]) (us ++ [v]) (Bs ++ [[]]) [] _ (all.snoc ⟨rfl, fr.mono (hid_le fun a t => t.elim .inl fun t => t.elim (fun t => by cases t) .inr)⟩) (by simpa using q2) (fun p hp => by simp at hp; simp [hp]) (fun a ha => by cases ha) hf).ex
    rw [hm] at e1; cases e1
    exact ⟨ac', As3, l, e2.same fun a => ⟨fun z => Or.inl z, fun z => z.elim id fun z => (by cases z)⟩⟩
  | succ k =>
    obtain ⟨ac', As', A, l, nd, hA, s, o⟩ := x.ex
    simp only [GL.own] at hown
    split at hown
    · rename_i hz
      obtain ⟨q, us, Bs, rfl, hq, all, q1, q2, q3, q4, q5, q6, kk⟩ := StOk.lmod s nd hA hi hv hg w
      refine ⟨q, us, rfl, hq, by rw [← all.length.1, line_eq]; exact hl, ?_⟩
      obtain ⟨Γ3, As3, e1, e2, _, _⟩ := (kk (xs ++ [d]) (us ++ [v]) (Bs ++ [A]) [] _ (all.snoc (by rw [hz.2]; exact o)) (by simp only [List.flatten_append, List.flatten_cons, List.flatten_nil, List.append_nil]; rw [List.nodup_append]; exact ⟨q2, nd, fun a ha b hb e => q4 a ha (e ▸ hb)⟩) (fun p hp => by simpa using hp) (fun a ha => by cases ha) hf).ex
      rw [hm] at e1; cases e1
      exact ⟨ac', As3, l, e2.same fun a => ⟨fun z => Or.inl z, fun z => z.elim id fun z => (by cases z)⟩⟩
    · cases hown
theorem ss_app (hp : PE X o (tP W F p)) (he : PE X e (tX W F wx c)) (hbase : attributeBase o "append" X.env (eval o X.env) = eval o X.env)
    (hfew : ((backTo pos (starEach [e] X.env)).all (fun x => !x.1) && (backToKw pos (keywordEach [] X.env)).all (fun x => x.1.isSome) && decide ([e].length + ([] : List Keyword).length + (if ([] : List Keyword).isEmpty then 0 else 1) < 30)) = true)
    (hline : (apos.endLine == pos.line) = true) (hs : nstar e = true) (hsw : swapsWith (.Call (.Attribute o "append" apos) [e] [] pos) none pos2.line X.env = pure false) :
    PS X (.Expr (.Call (.Attribute o "append" apos) [e] [] pos) pos2) (tS W F wx (.app p c)) := by
  refine PS.imp (ps_expr (pe_bm PySem.F.plainAttrs_list PySem.F.slot_list_append PySem.F.type_list_append mt_append hp (pa_cons he pa_nil (star_cons hs)) hbase hfew hline (star_cons hs) rfl) hsw) fun D σ H h => ?_
  obtain ⟨ac, Γ, As, s, h⟩ := h
  simp only [evS] at h
  cases hg : getE (path F Γ p) Γ with
  | none => rw [hg] at h; exact h.elim
  | some em =>
    obtain ⟨e0, m0⟩ := em
    cases e0 with
    | lst xs =>
      cases m0 with
      | zero => rw [hg] at h; exact h.elim
      | succ k =>
        rw [hg] at h
        simp only at h
        obtain ⟨i, ks, hpk⟩ := getE_path hg
        rw [hpk] at hg
        obtain ⟨d0, n0, hi, hgp⟩ := getE_some hg
        obtain ⟨v0, A0, hv, hA0, o0⟩ := s.slot i d0 n0 hi
        refine ⟨ac, Γ, As, s, i, ks, d0, n0, _, _, v0, hpk, hi, hgp, hv, fun u H1 x1 w1 => ?_⟩
        have s1 := s.mono x1
        obtain ⟨_, A1, hv1, hA1, o1⟩ := s1.slot i d0 n0 hi
        rw [hv] at hv1; cases hv1
        obtain ⟨A', L, R, eA, oA, _⟩ := own_mod ks o1 (flat_one s1.nd hA1) hgp w1
        obtain ⟨q, us, Bs, rfl, hq, rfl, all⟩ := own_lst oA
        refine ⟨.inl ⟨rfl, _, SqL.of hq⟩, ac, Γ, As, s1, ?_⟩
        cases e1 : evX F c Γ with
        | bad => rw [e1] at h; exact h
        | ex k fs => rw [e1] at h; exact fun ac' As' cls od H' l s' r => h ac' As' cls od σ H' l s' r
        | ok d n Γ' =>
          rw [e1] at h
          simp only at h
          split at h
          · exact h.elim
          · rename_i hsl
            rw [path_slot hpk] at hsl
            rw [hpk] at h
            cases hm : modE (appD d n c.fresh) (some (i, ks)) Γ' with
            | none => rw [hm] at h; exact h.elim
            | some Γ2 =>
              rw [hm] at h
              intro v H2 xo
              obtain ⟨_, _, _, _, _, _, _, _, fra, _⟩ := xo.ex
              have w2 := wk_stay ks o1 hgp w1 fun p hp o z => fra.h i hsl A1 hA1 p hp o z
              obtain ⟨q', us', eq', hq', hl', ac', As', l, s'⟩ := app_ok xo.out hm hv w2
              cases eq'
              exact ⟨q, us', v, rfl, rfl, hq', hl', h ac' As' σ _ l s'⟩
    | _ => rw [hg] at h; exact h.elim
end
end GL

/-! GL15: extend, stores, pop; tuples of what is popped. -/
namespace GL
open PySem L2 PyProof.Rows
theorem flat_app (As Bs : List (List Addr)) : (As ++ Bs).flatten = As.flatten ++ Bs.flatten := by simp
section
variable {X : Cx} {W : Wd} {F : Fn} {wx : WX} {ac : Ac} {Γ Γ' : Env} {As : List (List Addr)} {σ : L2.St} {H H' : Hp} {d : D} {n : Nat} {v : V} {pos apos pos2 : Pos} {e o : Expr} {p : CP} {c : CE}
theorem StOk.n0 (s : StOk W ac H σ Γ As) : StOk W { ac with S := fun a => ac.S a ∨ a ∈ ([] : List Addr) } H σ Γ As := s.same fun a => ⟨fun z => z.elim id fun z => (by cases z), fun z => Or.inl z⟩
theorem StOk.d0 (s : StOk W { ac with S := fun a => ac.S a ∨ a ∈ ([] : List Addr) } H σ Γ As) : StOk W ac H σ Γ As := by
  have : (fun a => ac.S a ∨ a ∈ ([] : List Addr)) = ac.S := funext fun a => propext ⟨fun z => z.elim id fun z => (by cases z), fun z => Or.inl z⟩
  rw [this] at s; exact s
/-- a place that is there: what the receiver is -/
theorem place_lst (s : StOk W ac H σ Γ As) {i : Nat} {ks : List D} {d : D} {n k : Nat} {xs : List D} (hi : Γ[i]? = some (some (d, n))) (hgp : getP ks d n = some (.lst xs, k + 1)) {v0 u : V} (hv : σ[i]? = some (some v0)) (w : Wk H ks v0 u) : ∃ q us, u = .ref q ∧ H q = some (.lst us) := by
  obtain ⟨_, A1, hv1, hA1, o1⟩ := s.slot i d n hi
  rw [hv] at hv1; cases hv1
  obtain ⟨A', L, R, eA, oA, _⟩ := own_mod ks o1 (flat_one s.nd hA1) hgp w
  obtain ⟨q, us, Bs, rfl, hq, rfl, all⟩ := own_lst oA
  exact ⟨q, us, rfl, hq⟩
theorem extD_some {ys : List D} {e : D} {k : Nat} {r : D} (h : extD ys e k = some r) : ∃ xs, e = .lst xs ∧ k = 1 ∧ xs.length + ys.length ≤ LINE ∧ r = .lst (xs ++ ys) := by
  unfold extD at h
  split at h
  · split at h
    · rename_i xs hl; cases h; exact ⟨xs, rfl, rfl, hl, rfl⟩
    · cases h
  · cases h
theorem ext_ok {i : Nat} {ks : List D} {Γ2 : Env} {v0 u : V} {ys : List D} {zs : List V} (s : StOk W ac H σ Γ As) (fz : Fros W (hid H (tot ac As)) ys zs) (hm : modE (extD ys) (some (i, ks)) Γ = some Γ2) (hv : σ[i]? = some (some v0)) (w : Wk H ks v0 u) :
    ∃ (q : Addr) (us : List V), u = .ref q ∧ H q = some (.lst us) ∧ us.length + zs.length ≤ sizeLine ∧ ∃ As', StOk W ac (upd H q (.lst (us ++ zs))) σ Γ2 As' := by
  obtain ⟨dd, nn, hi⟩ := modE_some hm
  obtain ⟨e, m, r, hg, hf⟩ := modE_get hm hi
  obtain ⟨xs, rfl, rfl, hl, rfl⟩ := extD_some hf
  obtain ⟨q, us, Bs, rfl, hq, all, q1, q2, q3, q4, q5, q6, k⟩ := StOk.lmod (N := []) s.n0 .nil (fun p hp => by cases hp) hi hv hg w
  refine ⟨q, us, rfl, hq, by rw [← all.length.1, ← fz.length, line_eq]; exact hl, ?_⟩
  have fz2 : Fros W (hid H fun a => ac.S a ∨ a ∈ ([] : List Addr) ∨ a ∈ As.flatten) ys zs := fz.mono (hid_le fun a t => t.elim .inl fun t => t.elim (fun t => by cases t) .inr)
  obtain ⟨Γ3, As3, e1, e2, _, _⟩ := (k (xs ++ ys) (us ++ zs) (Bs ++ List.replicate ys.length []) [] _ (all.append (All3.of_fros fz2)) (by rw [flat_app, flat_nils, List.append_nil]; exact q2) (fun p hp => by rw [flat_app, flat_nils, List.append_nil] at hp; exact .inl hp) (fun a ha => by cases ha) hf).ex
  rw [hm] at e1; cases e1
  exact ⟨As3, e2.d0⟩
/-- what an extend is handed -/
theorem rs_lst {f : Bool} {T : Addr → Prop} {ys : List D} (r : Rs f W T H H' n (.lst ys) v) (ht : ∀ a, T a → ∃ o, H a = some o) (z : n ≤ 1 ∨ f = true) : ∃ b zs, v = .ref b ∧ H' b = some (.lst zs) ∧ Fros W (hid H' T) ys zs := by
  rcases z with z | z
  · obtain ⟨b, zs, e1, e2, e3⟩ := r.b.lst1 z
    exact ⟨b, zs, e1, e2, e3⟩
  · obtain ⟨b, zs, e1, e2, e3⟩ := r.fix ht (.inr z)
    exact ⟨b, zs, e1, hid_full _ _ e2, e3⟩
theorem ss_ext (hp : PE X o (tP W F p)) (he : PE X e (tE W F wx c)) (hbase : attributeBase o "extend" X.env (eval o X.env) = eval o X.env)
    (hfew : ((backTo pos (starEach [e] X.env)).all (fun x => !x.1) && (backToKw pos (keywordEach [] X.env)).all (fun x => x.1.isSome) && decide ([e].length + ([] : List Keyword).length + (if ([] : List Keyword).isEmpty then 0 else 1) < 30)) = true)
    (hline : (apos.endLine == pos.line) = true) (hs : nstar e = true) (hsw : swapsWith (.Call (.Attribute o "extend" apos) [e] [] pos) none pos2.line X.env = pure false) :
    PS X (.Expr (.Call (.Attribute o "extend" apos) [e] [] pos) pos2) (tS W F wx (.ext p c)) := by
  refine PS.imp (ps_expr (pe_bm PySem.F.plainAttrs_list PySem.F.slot_list_extend PySem.F.type_list_extend mt_extend hp (pa_cons he pa_nil (star_cons hs)) hbase hfew hline (star_cons hs) rfl) hsw) fun D σ H h => ?_
  obtain ⟨ac, Γ, As, s, h⟩ := h
  simp only [evS] at h
  split at h
  · rename_i Γ0 xs k hg
    obtain ⟨i, ks, hpk⟩ := getE_path hg
    rw [hpk] at hg
    obtain ⟨d0, n0, hi, hgp⟩ := getE_some hg
    obtain ⟨v0, A0, hv, hA0, o0⟩ := s.slot i d0 n0 hi
    refine ⟨ac, Γ, As, s, i, ks, d0, n0, _, _, v0, hpk, hi, hgp, hv, fun u H1 x1 w1 => ?_⟩
    have s1 := s.mono x1
    obtain ⟨q, us, rfl, hq⟩ := place_lst s1 hi hgp hv w1
    refine ⟨.inl ⟨rfl, _, SqL.of hq⟩, ac, Γ, As, s1, ?_⟩
    cases e1 : ev F c Γ with
    | bad => rw [e1] at h; exact h
    | ex k fs => rw [e1] at h; exact fun cls od H' x r => h ac As cls od σ H' (Le.refl _) (s1.mono x) r
    | ok d n =>
      rw [e1] at h
      cases d with
      | lst ys =>
        simp only at h
        split at h
        · rename_i hz
          rw [hpk] at h
          cases hm : modE (extD ys) (some (i, ks)) Γ with
          | none => rw [hm] at h; exact h.elim
          | some Γ2 =>
            rw [hm] at h
            intro v H2 x2 r
            have s2 := s1.mono x2
            obtain ⟨b, zs, rfl, hb, fz⟩ := rs_lst r (fun a t => s1.there t) hz
            obtain ⟨q', us', eq', hq', hl', As', s'⟩ := ext_ok s2 fz hm hv (w1.mono x2)
            cases eq'
            exact ⟨q, b, us', zs, rfl, rfl, hq', hb, hl', h ac As' σ _ (Le.refl _) s'⟩
        · exact h.elim
      | _ => exact h.elim
  · exact h.elim
theorem clr_ok {i : Nat} {ks : List D} {Γ2 : Env} {v0 u : V} (s : StOk W ac H σ Γ As) (hm : modE clrD (some (i, ks)) Γ = some Γ2) (hv : σ[i]? = some (some v0)) (w : Wk H ks v0 u) :
    ∃ (q : Addr) (us : List V), u = .ref q ∧ H q = some (.lst us) ∧ ∃ As', StOk W ac (upd H q (.lst [])) σ Γ2 As' := by
  obtain ⟨dd, nn, hi⟩ := modE_some hm
  obtain ⟨e, m, r, hg, hf⟩ := modE_get hm hi
  obtain ⟨xs, rfl, rfl, rfl⟩ : ∃ xs, e = .lst xs ∧ m = 1 ∧ r = .lst [] := by
    unfold clrD at hf
    split at hf
    · cases hf; exact ⟨_, rfl, rfl, rfl⟩
    · cases hf
  obtain ⟨q, us, Bs, rfl, hq, all, q1, q2, q3, q4, q5, q6, k⟩ := StOk.lmod (N := []) s.n0 .nil (fun p hp => by cases hp) hi hv hg w
  refine ⟨q, us, rfl, hq, ?_⟩
  obtain ⟨Γ3, As3, e1, e2, _, _⟩ := (k [] [] [] [] _ .nil .nil (fun p hp => by cases hp) (fun a ha => by cases ha) hf).ex
  rw [hm] at e1; cases e1
  exact ⟨As3, e2.d0⟩
theorem ss_clr (hp : PE X o (tP W F p)) (hbase : attributeBase o "clear" X.env (eval o X.env) = eval o X.env) (hline : (apos.endLine == pos.line) = true) (hsw : swapsWith (.Call (.Attribute o "clear" apos) [] [] pos) none pos2.line X.env = pure false) :
    PS X (.Expr (.Call (.Attribute o "clear" apos) [] [] pos) pos2) (tS W F wx (.clr p)) := by
  refine PS.imp (ps_expr (pe_bm0 PySem.F.plainAttrs_list PySem.F.slot_list_clear PySem.F.type_list_clear mt_clear hp hbase hline) hsw) fun D σ H h => ?_
  obtain ⟨ac, Γ, As, s, h⟩ := h
  simp only [evS] at h
  split at h
  · rename_i Γ0 xs k hg
    obtain ⟨i, ks, hpk⟩ := getE_path hg
    rw [hpk] at hg
    obtain ⟨d0, n0, hi, hgp⟩ := getE_some hg
    obtain ⟨v0, A0, hv, hA0, o0⟩ := s.slot i d0 n0 hi
    refine ⟨ac, Γ, As, s, i, ks, d0, n0, _, _, v0, hpk, hi, hgp, hv, fun u H1 x1 w1 => ?_⟩
    have s1 := s.mono x1
    rw [hpk] at h
    cases hm : modE clrD (some (i, ks)) Γ with
    | none => rw [hm] at h; exact h.elim
    | some Γ2 =>
      rw [hm] at h
      obtain ⟨q, us, rfl, hq, As', s'⟩ := clr_ok s1 hm hv w1
      exact ⟨.inl ⟨rfl, _, SqL.of hq⟩, q, us, rfl, rfl, hq, h ac As' σ _ (Le.refl _) s'⟩
  · exact h.elim
/-! ### pop -/
theorem all3_split {R : D → V → List Addr → Prop} : ∀ {l1 l2 : List D} {x : D} {us : List V} {Bs : List (List Addr)}, All3 R (l1 ++ x :: l2) us Bs → ∃ us1 w us2 Bs1 B Bs2, us = us1 ++ w :: us2 ∧ Bs = Bs1 ++ B :: Bs2 ∧ All3 R l1 us1 Bs1 ∧ R x w B ∧ All3 R l2 us2 Bs2
  | [], l2, x, us, Bs, h => by
    cases h with
    | @cons _ w B _ us2 Bs2 r t => exact ⟨[], w, us2, [], B, Bs2, rfl, rfl, .nil, r, t⟩
  | y :: l1, l2, x, us, Bs, h => by
    cases h with
    | @cons _ w B _ us2 Bs2 r t =>
      obtain ⟨us1, w', us2', Bs1, B', Bs2', rfl, rfl, h1, h2, h3⟩ := all3_split t
      exact ⟨w :: us1, w', us2', B :: Bs1, B', Bs2', rfl, rfl, .cons r h1, h2, h3⟩
theorem take_ok {i k : Nat} {ks : List D} {l1 l2 : List D} {x : D} {v0 u : V} {f : D → Nat → Option D} (s : StOk W ac H σ Γ As) (hi : Γ[i]? = some (some (d, n))) (hv : σ[i]? = some (some v0)) (g : getP ks d n = some (.lst (l1 ++ x :: l2), k + 1)) (w : Wk H ks v0 u)
    (hf : f (.lst (l1 ++ x :: l2)) (k + 1) = some (.lst (l1 ++ l2))) (hm : modE f (some (i, ks)) Γ = some Γ') :
    ∃ q us1 w us2, u = .ref q ∧ H q = some (.lst (us1 ++ w :: us2)) ∧ us1.length = l1.length ∧ us2.length = l2.length ∧ XOutF W ac [i] Γ As H Γ' x k w σ (upd H q (.lst (us1 ++ us2))) := by
  obtain ⟨q, us, Bs, rfl, hq, all, q1, q2, q3, q4, q5, ⟨A0, hA0, hsub⟩, kk⟩ := StOk.lmod (N := []) s.n0 .nil (fun p hp => by cases hp) hi hv g w
  obtain ⟨us1, w1, us2, Bs1, B, Bs2, rfl, rfl, a1, o, a2⟩ := all3_split all
  have fl : (Bs1 ++ B :: Bs2).flatten = Bs1.flatten ++ (B ++ Bs2.flatten) := by simp
  rw [fl] at q1 q2 q4 q5 hsub
  rw [List.nodup_append, List.nodup_append] at q2
  obtain ⟨n1, ⟨n2, n3, n4⟩, n5⟩ := q2
  have subB : ∀ p ∈ B, p ∈ As.flatten := fun p hp => mem_flat_of hA0 (hsub p (by simp [hp]))
  have qF : q ∈ As.flatten := mem_flat_of hA0 (hsub q (by simp))
  obtain ⟨Γ3, As3, e1, e2, e3, e4⟩ := (kk (l1 ++ l2) (us1 ++ us2) (Bs1 ++ Bs2) B f (a1.append a2) (by rw [flat_app, List.nodup_append]; exact ⟨n1, n3, fun a ha b hb => n5 a ha b (List.mem_append_right _ hb)⟩)
    (fun p hp => by rw [flat_app] at hp; rw [fl]; rcases List.mem_append.mp hp with z | z <;> simp [z])
    (fun a ha => ⟨by rw [fl]; simp [ha], fun z => by
      rw [flat_app] at z
      rcases List.mem_append.mp z with z | z
      · exact n5 a z a (List.mem_append_left _ ha) rfl
      · exact n4 a ha a z rfl⟩) hf).ex
  rw [hm] at e1; cases e1
  have nq : ∀ p ∈ B, p ≠ q := fun p hp e => q1 (by rw [← e]; simp [hp])
  refine ⟨q, us1, w1, us2, rfl, hq, a1.length.1.symm, a2.length.1.symm, ac, As3, B, Le.refl _, n2, fun p hp => q5 p (by simp [hp]), e2, o.mono (fun a o z => ?_) fun p hp o z => by rw [upd_ne (nq p hp)]; exact z, ⟨fun j hj => (e4 j (fun z => hj (by simp [z]))).1, fun j hj => (e4 j (fun z => hj (by simp [z]))).2, fun j hj A hA p hp o z => ?_⟩, fun a o z => ?_⟩
  · obtain ⟨t, z⟩ := hid_not z
    have ne : a ≠ q := fun y => t (.inr (.inr (by rw [y]; exact qF)))
    rw [hid_at, upd_ne ne]
    · exact z
    · rintro (y | y | y)
      · exact t (.inl y)
      · exact t (.inr (.inr (subB a y)))
      · exact t (.inr (.inr ((e3 a y).elim id fun y => by cases y)))
  · have ne : p ≠ q := fun y => flat_sep s.nd (show j ≠ i from fun z => hj (by simp [z])) hA hA0 p hp (by rw [y]; exact hsub q (by simp))
    rw [upd_ne ne]; exact z
  · obtain ⟨t, z⟩ := hid_not z
    have ne : a ≠ q := fun y => t (.inr (by rw [y]; exact qF))
    rw [hid_at, upd_ne ne]
    · exact z
    · rintro (y | y | y)
      · exact t (.inl y)
      · exact t (.inr (subB a y))
      · exact t (.inr ((e3 a y).elim id fun y => by cases y))
theorem last_split {xs : List D} {x : D} (h : xs[xs.length - 1]? = some x) : xs = xs.dropLast ++ [x] := by
  have h0 : xs ≠ [] := fun e => by subst e; simp at h
  have : xs.getLast h0 = x := by
    rw [List.getLast_eq_getElem]
    obtain ⟨_, e⟩ := List.getElem?_eq_some_iff.mp h
    exact e
  rw [← this]; exact (List.dropLast_concat_getLast h0).symm
theorem sx_pop (hp : PE X o (tP W F p)) (hbase : attributeBase o "pop" X.env (eval o X.env) = eval o X.env) (hline : (apos.endLine == pos.line) = true) : PE X (.Call (.Attribute o "pop" apos) [] [] pos) (tX W F wx (.pop p)) := by
  refine PE.imp (pe_bm0 PySem.F.plainAttrs_list PySem.F.slot_list_pop PySem.F.type_list_pop mt_pop hp hbase hline) fun σ H Q h => ?_
  obtain ⟨ac, Γ, As, s, h⟩ := h
  simp only [evX] at h
  split at h
  · rename_i d1 n1 hg
    obtain ⟨i, ks, hpk⟩ := getE_path hg
    rw [hpk] at hg
    obtain ⟨d0, n0, hi, hgp⟩ := getE_some hg
    obtain ⟨v0, A0, hv, hA0, o0⟩ := s.slot i d0 n0 hi
    refine ⟨ac, Γ, As, s, i, ks, d0, n0, _, _, v0, hpk, hi, hgp, hv, fun u H1 x1 w1 => ?_⟩
    have s1 := s.mono x1
    split at h
    · rename_i x m Γ2 hl hm
      unfold lastD at hl
      split at hl
      · rename_i xs k
        rw [Option.map_eq_some_iff] at hl
        obtain ⟨x', hx, e⟩ := hl
        obtain ⟨rfl, rfl⟩ := Prod.mk.inj e
        have sp := last_split hx
        have hsl : (CX.pop p).slots = [i] := by simp only [CX.slots]; rw [path_slot hpk]
        rw [hpk] at hm
        obtain ⟨q, us1, w, us2, rfl, hq, l1, l2, xo⟩ := take_ok (l1 := xs.dropLast) (l2 := []) (x := x') s1 hi hv (by rw [← sp]; exact hgp) w1 (by simp [dropD]) hm
        have : us2 = [] := List.eq_nil_of_length_eq_zero l2
        subst this
        refine ⟨.inl ⟨rfl, _, SqL.of hq⟩, q, us1 ++ [w], w, rfl, rfl, hq, by simp, ?_⟩
        rw [List.dropLast_concat]
        rw [hsl] at h
        rw [List.append_nil] at xo
        obtain ⟨a1, a2, a3, b1, b2, b3, b4, b5, b6, b7⟩ := xo.ex
        exact h w _ ⟨a1, a2, a3, b1, b2, b3, b4, b5, ⟨b6.g, b6.a, fun j hj A hA p hp o z => b6.h j hj A hA p hp o (x1 _ _ z)⟩, (hid_ex x1).trans b7⟩
      · cases hl
    · exact h.elim
  · exact h.elim
theorem sx_pop0 {ip : Pos} {kk : Nat} (hp : PE X o (tP W F p)) (hbase : attributeBase o "pop" X.env (eval o X.env) = eval o X.env)
    (hfew : ((backTo pos (starEach [.Constant (.int 0) kk ip] X.env)).all (fun x => !x.1) && (backToKw pos (keywordEach [] X.env)).all (fun x => x.1.isSome) && decide ([Expr.Constant (.int 0) kk ip].length + ([] : List Keyword).length + (if ([] : List Keyword).isEmpty then 0 else 1) < 30)) = true)
    (hline : (apos.endLine == pos.line) = true) : PE X (.Call (.Attribute o "pop" apos) [.Constant (.int 0) kk ip] [] pos) (tX W F wx (.pop0 p)) := by
  refine PE.imp (pe_bm PySem.F.plainAttrs_list PySem.F.slot_list_pop PySem.F.type_list_pop mt_popAt hp (pa_cons pe_int pa_nil) hbase hfew hline rfl rfl) fun σ H Q h => ?_
  obtain ⟨ac, Γ, As, s, h⟩ := h
  simp only [evX] at h
  split at h
  · rename_i d1 n1 hg
    obtain ⟨i, ks, hpk⟩ := getE_path hg
    rw [hpk] at hg
    obtain ⟨d0, n0, hi, hgp⟩ := getE_some hg
    obtain ⟨v0, A0, hv, hA0, o0⟩ := s.slot i d0 n0 hi
    refine ⟨ac, Γ, As, s, i, ks, d0, n0, _, _, v0, hpk, hi, hgp, hv, fun u H1 x1 w1 => ?_⟩
    have s1 := s.mono x1
    split at h
    · rename_i x m Γ2 hl hm
      unfold headD at hl
      split at hl
      · rename_i x' xs k
        obtain ⟨rfl, rfl⟩ := Prod.mk.inj (Option.some.inj hl)
        have hsl : (CX.pop0 p).slots = [i] := by simp only [CX.slots]; rw [path_slot hpk]
        rw [hpk] at hm
        obtain ⟨q, us1, w, us2, rfl, hq, l1, l2, xo⟩ := take_ok (l1 := []) (l2 := xs) (x := x') s1 hi hv hgp w1 rfl hm
        have : us1 = [] := List.eq_nil_of_length_eq_zero l1
        subst this
        refine ⟨.inl ⟨rfl, _, SqL.of hq⟩, q, w :: us2, 0, 0, w, rfl, rfl, hq, by decide, by decide, by simp [seqIndex?], rfl, ?_⟩
        rw [hsl] at h
        obtain ⟨a1, a2, a3, b1, b2, b3, b4, b5, b6, b7⟩ := xo.ex
        exact h w _ ⟨a1, a2, a3, b1, b2, b3, b4, b5, ⟨b6.g, b6.a, fun j hj A hA p hp o z => b6.h j hj A hA p hp o (x1 _ _ z)⟩, (hid_ex x1).trans b7⟩
      · cases hl
    · exact h.elim
  · exact h.elim
/-! ### tuples -/
/-- fixed: read on from here -/
structure XFix (W : Wd) (ac : Ac) (sl : List Nat) (Γ : Env) (As : List (List Addr)) (H : Hp) (Γ' : Env) (d : D) (v : V) (σ : L2.St) (H' : Hp) (ac' : Ac) (As' : List (List Addr)) : Prop where
  le : Le ac ac'
  st : StOk W ac' H' σ Γ' As'
  fro : Fro W (hid H' (tot ac' As')) d v
  fra : Fra sl Γ As H Γ' As' H'
  ex : Ex (hid H (tot ac As)) (hid H' (tot ac' As'))
theorem XOutF.fix {sl : List Nat} (h : XOutF W ac sl Γ As H Γ' d n v σ H') : ∃ ac' As', XFix W ac sl Γ As H Γ' d v σ H' ac' As' := by
  obtain ⟨ac', As', A, l, nd, hA, s, o, fra, ex⟩ := h.ex
  have sA : ∀ p ∈ A, p ∉ As'.flatten := fun p hp hq => (s.own p hq).2 (.inr hp)
  refine ⟨ac', As', l, ?_, ?_, fra, ex.trans (hid_le fun a t => t.elim .inl fun t => .inr (.inr t))⟩
  · refine ⟨s.len, s.len2, s.pres, s.nd, fun p hp => ⟨(s.own p hp).1, fun z => (s.own p hp).2 (.inl z)⟩, fun a z => s.frn a (.inl z), fun i d n e => ?_, s.bare, s.a0, s.fz.trans (hid_le fun a t => t.elim (fun t => .inl (.inl t)) .inr), s.fb, s.pin⟩
    obtain ⟨u, B, h1, h2, h3⟩ := s.slot i d n e
    exact ⟨u, B, h1, h2, h3.mono (hid_le fun a t => t.elim (fun t => .inl (.inl t)) .inr) fun _ _ _ q => q⟩
  · refine o.fro (hid_le fun a t => t.elim .inl fun t => .inr (.inr t)) fun p hp o q => ?_
    rw [hid_at]
    · exact q
    · rintro (z | z)
      · exact (hA p hp).2 z
      · exact sA p hp z
/-- a fixed value is an answer -/
theorem XFix.out {sl : List Nat} {ac' : Ac} {As' : List (List Addr)} {d2 : D} {v2 : V} {H2 : Hp} {m : Nat} (h : XFix W ac sl Γ As H Γ' d v σ H' ac' As') (x : Ex H' H2) (f : Fro W (hid H2 (tot ac' As')) d2 v2) : XOutF W ac sl Γ As H Γ' d2 0 v2 σ H2 := by
  refine ⟨ac', As', [], h.le, .nil, (fun p hp => by cases hp), (h.st.mono x).n0, ⟨rfl, f.mono (hid_le fun a t => t.elim .inl fun t => t.elim (fun t => by cases t) .inr)⟩, ⟨h.fra.g, h.fra.a, fun i hi A hA p hp o z => x _ _ (h.fra.h i hi A hA p hp o z)⟩, (h.ex.trans (hid_ex x)).trans (hid_le fun a t => t.elim .inl fun t => t.elim (fun t => by cases t) .inr)⟩
theorem sx_tuple {c : CX} {p1 : Pos} (hg : Gl X "tuple") (hm : X.mg "tuple" = none) (he : PE X e (tX W F wx c)) (hs : nstar e = true) : PE X (.Call (.Name "tuple" p1) [e] [] pos) (tX W F wx (.tuple c)) := by
  refine PE.imp (pe_callTy call_tuple_of hg hm boot_tuple (pa_cons he pa_nil (star_cons hs)) (by decide) (by decide) (star_cons hs) rfl) fun σ H Q h => ?_
  obtain ⟨ac, Γ, As, s, h⟩ := h
  simp only [evX] at h
  refine ⟨ac, Γ, As, s, ?_⟩
  cases e1 : evX F c Γ with
  | bad => rw [e1] at h; exact h
  | ex k fs => rw [e1] at h; exact h
  | ok d n Γ' =>
    rw [e1] at h
    cases d with
    | lst xs =>
      simp only at h
      split at h
      · intro v H1 xo
        obtain ⟨ac', As', xf⟩ := xo.fix
        obtain ⟨q, us, rfl, hq, g⟩ := xf.fro
        refine ⟨q, us, rfl, .inl ⟨SqL.of (hid_full _ _ hq), fun l hl => h _ _ (xf.out (m := 0) (Ex.new hl) ⟨l, us, rfl, ?_, g.mono (hid_ex (Ex.new hl))⟩)⟩⟩
        rw [hid_at (xf.st.nt hl), upd_same]
      · exact h.elim
    | _ => exact h.elim
theorem sx_tup2 {a b : CX} {e1 e2 : Expr} {k : Nat} (h1 : PE X e1 (tX W F wx a)) (h2 : PE X e2 (tX W F wx b)) (hs1 : nstar e1 = true) (hs2 : nstar e2 = true) : PE X (.Tuple [e1, e2] k pos) (tX W F wx (.tup2 a b)) := by
  refine PE.imp (pe_tup (pa_cons h1 (pa_cons h2 pa_nil (star_cons hs2)) (star_cons hs1))) fun σ H Q h => ?_
  obtain ⟨ac, Γ, As, s, h⟩ := h
  simp only [evX] at h
  refine ⟨ac, Γ, As, s, ?_⟩
  cases ea : evX F a Γ with
  | bad => rw [ea] at h; exact h
  | ex k fs => rw [ea] at h; exact h
  | ok x n Γ1 =>
    rw [ea] at h
    simp only at h
    intro v H1 xo
    obtain ⟨ac1, As1, x1⟩ := xo.fix
    refine ⟨ac1, Γ1, As1, x1.st, ?_⟩
    cases eb : evX F b Γ1 with
    | bad => rw [eb] at h; exact h
    | ex k fs => rw [eb] at h; exact h.elim
    | ok y m Γ2 =>
      rw [eb] at h
      intro w H2 yo
      obtain ⟨ac2, As2, x2⟩ := yo.fix
      refine ⟨by rw [line_eq]; simp only [List.length_cons, List.length_nil, LINE]; omega, fun l hl => h _ _ ?_⟩
      have xx : XFix W ac (a.slots ++ b.slots) Γ As H Γ2 y w σ H2 ac2 As2 := ⟨x1.le.trans x2.le, x2.st, x2.fro, x1.fra.trans x2.fra, x1.ex.trans x2.ex⟩
      refine xx.out (m := 0) (Ex.new hl) ⟨l, [v, w], rfl, ?_, v, [w], rfl, (x1.fro.mono x2.ex).mono (hid_ex (Ex.new hl)), w, [], rfl, x2.fro.mono (hid_ex (Ex.new hl)), rfl⟩
      rw [hid_at (x2.st.nt hl), upd_same]
theorem sx_tup3 {a b c : CX} {e1 e2 e3 : Expr} {k : Nat} (h1 : PE X e1 (tX W F wx a)) (h2 : PE X e2 (tX W F wx b)) (h3 : PE X e3 (tX W F wx c)) (hs1 : nstar e1 = true) (hs2 : nstar e2 = true) (hs3 : nstar e3 = true) : PE X (.Tuple [e1, e2, e3] k pos) (tX W F wx (.tup3 a b c)) := by
  refine PE.imp (pe_tup (pa_cons h1 (pa_cons h2 (pa_cons h3 pa_nil (star_cons hs3)) (star_cons hs2)) (star_cons hs1))) fun σ H Q h => ?_
  obtain ⟨ac, Γ, As, s, h⟩ := h
  simp only [evX] at h
  refine ⟨ac, Γ, As, s, ?_⟩
  cases ea : evX F a Γ with
  | bad => rw [ea] at h; exact h
  | ex k fs => rw [ea] at h; exact h
  | ok x n Γ1 =>
    rw [ea] at h
    simp only at h
    intro v H1 xo
    obtain ⟨ac1, As1, x1⟩ := xo.fix
    refine ⟨ac1, Γ1, As1, x1.st, ?_⟩
    cases eb : evX F b Γ1 with
    | bad => rw [eb] at h; exact h
    | ex k fs => rw [eb] at h; exact h.elim
    | ok y m Γ2 =>
      rw [eb] at h
      simp only at h
      intro w H2 yo
      obtain ⟨ac2, As2, x2⟩ := yo.fix
      refine ⟨ac2, Γ2, As2, x2.st, ?_⟩
      cases ec : evX F c Γ2 with
      | bad => rw [ec] at h; exact h
      | ex k fs => rw [ec] at h; exact h.elim
      | ok z m3 Γ3 =>
        rw [ec] at h
        intro u H3 zo
        obtain ⟨ac3, As3, x3⟩ := zo.fix
        refine ⟨by rw [line_eq]; simp only [List.length_cons, List.length_nil, LINE]; omega, fun l hl => h _ _ ?_⟩
        have xx : XFix W ac (a.slots ++ b.slots ++ c.slots) Γ As H Γ3 z u σ H3 ac3 As3 := ⟨(x1.le.trans x2.le).trans x3.le, x3.st, x3.fro, (x1.fra.trans x2.fra).trans x3.fra, (x1.ex.trans x2.ex).trans x3.ex⟩
        refine xx.out (m := 0) (Ex.new hl) ⟨l, [v, w, u], rfl, ?_, v, [w, u], rfl, (x1.fro.mono (x2.ex.trans x3.ex)).mono (hid_ex (Ex.new hl)), w, [u], rfl, (x2.fro.mono x3.ex).mono (hid_ex (Ex.new hl)), u, [], rfl, x3.fro.mono (hid_ex (Ex.new hl)), rfl⟩
        rw [hid_at (x3.st.nt hl), upd_same]
end
end GL

/-! GL16: stores in lists and dicts; loops. -/
namespace GL
open PySem L2 PyProof.Rows
theorem All3.set2 {R : D → V → List Addr → Prop} {ds : List D} {vs : List V} {As : List (List Addr)} (h : All3 R ds vs As) : ∀ {j : Nat} {y : D} {v : V} {B : List Addr}, R y v B → All3 R (ds.set j y) (vs.set j v) (As.set j B) := by
  induction h with
  | nil => intro j y v B q; exact .nil
  | cons r t ih =>
    intro j y v B q
    cases j with
    | zero => exact .cons q t
    | succ j => exact .cons r (ih q)
section
variable {κ : Type} [DecidableEq κ]
theorem putK_ne {a k : κ} (h : a ≠ k) (u v : V) (r : List (κ × V)) : putK ((a, u) :: r) k v = (a, u) :: putK r k v := by
  unfold putK
  rw [List.any_cons, decide_eq_false h, Bool.false_or]
  split
  · rw [List.map_cons, if_neg h]
  · rfl
theorem putK_eq {a : κ} (u v : V) (r : List (κ × V)) (h : ∀ p ∈ r, p.1 ≠ a) : putK ((a, u) :: r) a v = (a, v) :: r := by
  unfold putK
  rw [List.any_cons, decide_eq_true rfl, Bool.true_or, if_pos rfl, List.map_cons, if_pos rfl]
  congr 1
  exact List.map_congr_left (g := id) (fun p hp => if_neg (h p hp)) |>.trans (List.map_id _)
theorem zip_ne {a : κ} : ∀ {kk : List κ} {us : List V}, a ∉ kk → ∀ p ∈ kk.zip us, p.1 ≠ a := fun h p hp e => h (by rw [← e]; exact (List.of_mem_zip hp).1)
theorem put_rel (g : κ → D) (inj : ∀ a b, g a = g b → a = b) (k : κ) (v : V) : ∀ {kk : List κ} {us : List V}, kk.Nodup → kk.length = us.length →
    (∃ j : Nat, kk[j]? = some k ∧ putK (kk.zip us) k v = kk.zip (us.set j v) ∧ ∀ (ds : List D) (y : D), ds.length = kk.length → dput (g k) y (kk.map g) ds = (kk.map g, ds.set j y)) ∨
    (k ∉ kk ∧ putK (kk.zip us) k v = (kk ++ [k]).zip (us ++ [v]) ∧ ∀ (ds : List D) (y : D), ds.length = kk.length → dput (g k) y (kk.map g) ds = (kk.map g ++ [g k], ds ++ [y]))
  | [], [], _, _ => .inr ⟨by simp, by simp [putK], fun ds y h => by have := List.eq_nil_of_length_eq_zero h; subst this; simp [dput]⟩
  | [], _ :: _, _, h => by simp at h
  | _ :: _, [], _, h => by simp at h
  | a :: kk, u :: us, nd, hl => by
    rw [List.nodup_cons] at nd
    have hl' : kk.length = us.length := by simpa using hl
    by_cases e : a = k
    · subst e
      refine .inl ⟨0, rfl, ?_, fun ds y h => ?_⟩
      · rw [List.zip_cons_cons, putK_eq _ _ _ (zip_ne nd.1)]; rfl
      · cases ds with
        | nil => simp at h
        | cons d ds => simp [dput]
    · rcases put_rel g inj k v nd.2 hl' with ⟨j, h1, h2, h3⟩ | ⟨h1, h2, h3⟩
      · refine .inl ⟨j + 1, by simpa using h1, ?_, fun ds y h => ?_⟩
        · rw [List.zip_cons_cons, putK_ne e, h2]; rfl
        · cases ds with
          | nil => simp at h
          | cons d ds =>
            have := h3 ds y (by simpa using h)
            simp only [List.map_cons, dput, if_neg fun q => e (inj _ _ q), this, List.set_cons_succ]
      · refine .inr ⟨fun z => (List.mem_cons.mp z).elim (fun z => e z.symm) h1, ?_, fun ds y h => ?_⟩
        · rw [List.zip_cons_cons, putK_ne e, h2]; rfl
        · cases ds with
          | nil => simp at h
          | cons d ds =>
            have := h3 ds y (by simpa using h)
            simp only [List.map_cons, dput, if_neg fun q => e (inj _ _ q), this, List.cons_append]
end
section
variable {X : Cx} {W : Wd} {F : Fn} {wx : WX} {ac : Ac} {Γ Γ' : Env} {As : List (List Addr)} {σ : L2.St} {H H' : Hp} {d : D} {n : Nat} {v : V} {pos apos pos2 : Pos} {e o : Expr} {p : CP} {c : CE}
/-- the dict behind a store -/
theorem dct_put {a : Addr} {t : Bool} {ks : List D} {us : List V} {q : D} {y v : V} (h : DctAt H a t ks us) (hk : isKeyOf t q = true) (hy : Fro W H q y) (hl : ks.length < LINE) :
    ∃ (o' : HO) (us' : List V), DPut H a y v (upd H a o') ∧ DctAt (upd H a o') a t (dput q .non ks (ks.map fun _ => .non)).1 us' ∧
      ((∃ j : Nat, us' = us.set j v ∧ ∀ (ds : List D) (y : D), ds.length = ks.length → dput q y ks ds = (ks, ds.set j y)) ∨ (us' = us ++ [v] ∧ ∀ (ds : List D) (y : D), ds.length = ks.length → dput q y ks ds = (ks ++ [q], ds ++ [y]))) := by
  cases t with
  | false =>
    obtain ⟨kk, h1, h2, rfl, h4, h5⟩ := h
    obtain ⟨k0, rfl, rfl, hk0⟩ := key_of_D (show isKey q = true from hk) hy
    have hlen : (kk.zip us).length < sizeLine := by rw [List.length_zip, ← h1, Nat.min_self, line_eq]; simpa using hl
    rcases put_rel keyD (fun _ _ => keyD_inj) k0 v h4 h1 with ⟨j, q1, q2, q3⟩ | ⟨q1, q2, q3⟩
    · refine ⟨_, us.set j v, DPut.k h2 hlen, ?_, .inl ⟨j, rfl, fun ds y hd => q3 ds y (by simpa using hd)⟩⟩
      rw [q3 _ _ (by simp)]
      exact ⟨kk, by rw [List.length_set]; exact h1, by rw [upd_same, q2], rfl, h4, h5⟩
    · refine ⟨_, us ++ [v], DPut.k h2 hlen, ?_, .inr ⟨rfl, fun ds y hd => q3 ds y (by simpa using hd)⟩⟩
      rw [q3 _ _ (by simp)]
      refine ⟨kk ++ [k0], by simp [h1], by rw [upd_same, q2], by simp, ?_, fun k hk => ?_⟩
      · rw [List.nodup_append]
        exact ⟨h4, by simp, fun a ha b hb e => q1 (by simp at hb; rw [← hb, ← e]; exact ha)⟩
      · rcases List.mem_append.mp hk with z | z
        · exact h5 k z
        · simp at z; rw [z]; exact hk0
  | true =>
    obtain ⟨kk, h1, h2, rfl, h4, h5⟩ := h
    have hk : isKeyT q = true := hk
    cases q with
    | tup xs =>
      obtain ⟨b, ys, rfl, hb, hf⟩ := hy
      obtain ⟨kx, rfl, rfl, hkx⟩ := keys_of_D (show xs.all isKey = true from hk) hf
      have hlen : (kk.zip us).length < sizeLine := by rw [List.length_zip, ← h1, Nat.min_self, line_eq]; simpa using hl
      rcases put_rel (fun k : List Key => D.tup (k.map keyD)) (fun a b e => map_keyD_inj (D.tup.inj e)) kx v h4 h1 with ⟨j, q1, q2, q3⟩ | ⟨q1, q2, q3⟩
      · refine ⟨_, us.set j v, DPut.t h2 hb hlen, ?_, .inl ⟨j, rfl, fun ds y hd => q3 ds y (by simpa using hd)⟩⟩
        rw [q3 _ _ (by simp)]
        exact ⟨kk, by rw [List.length_set]; exact h1, by rw [upd_same, q2], rfl, h4, h5⟩
      · refine ⟨_, us ++ [v], DPut.t h2 hb hlen, ?_, .inr ⟨rfl, fun ds y hd => q3 ds y (by simpa using hd)⟩⟩
        rw [q3 _ _ (by simp)]
        refine ⟨kk ++ [kx], by simp [h1], by rw [upd_same, q2], by simp, ?_, fun k hk => ?_⟩
        · rw [List.nodup_append]
          exact ⟨h4, by simp, fun a ha b hb e => q1 (by simp at hb; rw [← hb, ← e]; exact ha)⟩
        · rcases List.mem_append.mp hk with z | z
          · exact h5 k z
          · simp at z; rw [z]; exact hkx
    | _ => simp [isKeyT] at hk
theorem ixn_eq (n : Nat) (i : Int) : GL.ixN n i = L2.ixN n i := rfl
theorem own_nf {k m w : Nat} {f : Bool} {x z : D} (hf : f = false) (hz : GL.own k f (.ok x m) = .ok z w) : m = 0 := by
  subst hf
  cases k with
  | zero =>
    simp only [GL.own] at hz
    split at hz
    · rename_i g; exact g.elim id fun g => by cases g
    · cases hz
  | succ k =>
    simp only [GL.own] at hz
    split at hz
    · rename_i g; cases g.1
    · cases hz
/-- what follows a store -/
theorem set_ok {i : Nat} {ks : List D} {Γ2 : Env} {q : D} {f : Bool} {v0 u y : V} (x : XOut W ac Γ d n v σ H) (hm : modE (setD q d n f) (some (i, ks)) Γ = some Γ2) (hv : σ[i]? = some (some v0)) (w : Wk H ks v0 u) (hy : Fro W H q y) :
    (∃ p us k j, u = .ref p ∧ y = .int k ∧ H p = some (.lst us) ∧ L2.ixN us.length k = some j ∧ ∃ ac' As', Le ac ac' ∧ StOk W ac' (upd H p (.lst (us.set j v))) σ Γ2 As') ∨ (∃ a H', u = .ref a ∧ DPut H a y v H' ∧ ∃ ac' As', Le ac ac' ∧ StOk W ac' H' σ Γ2 As') := by
  obtain ⟨dd, nn, hi⟩ := modE_some hm
  obtain ⟨e, m, r, hg, hf⟩ := modE_get hm hi
  have key : ∀ k, m = k + 1 → (∃ y, GL.own k f (.ok d n) = .ok d y) → ∃ (ac' : Ac) (As' : List (List Addr)) (N : List Addr), Le ac ac' ∧ N.Nodup ∧ (∀ p ∈ N, (p ∈ ac'.A0 ∨ ac'.H0 p = none) ∧ ¬ ac'.S p) ∧ StOk W { ac' with S := fun a => ac'.S a ∨ a ∈ N } H σ Γ As' ∧ Own W (hid H fun a => ac'.S a ∨ a ∈ N ∨ a ∈ As'.flatten) H k d v N := by
    intro k hk ⟨z, hown⟩
    cases k with
    | zero =>
      obtain ⟨ac', As', l, s, fr⟩ := x.fix
      exact ⟨ac', As', [], l, .nil, (fun p hp => by cases hp), s.n0, rfl, fr.mono (hid_le fun a t => t.elim .inl fun t => t.elim (fun t => by cases t) .inr)⟩
    | succ k =>
      obtain ⟨ac', As', A, l, nd, hA, s, o⟩ := x.ex
      simp only [GL.own] at hown
      split at hown
      · rename_i hz
        exact ⟨ac', As', A, l, nd, hA, s, by rw [hz.2]; exact o⟩
      · cases hown
  unfold setD at hf
  split at hf
  · rename_i xs k
    split at hf
    · rename_i j y2 _ hown
      have := own_val hown
      subst this
      rw [Option.map_eq_some_iff] at hf
      obtain ⟨jn, hj, rfl⟩ := hf
      cases hy
      obtain ⟨ac', As', N, l, nd, hN, s, o⟩ := key k rfl ⟨_, hown⟩
      obtain ⟨p, us, Bs, rfl, hq, all, q1, q2, q3, q4, q5, q6, kk⟩ := StOk.lmod s nd hN hi hv hg w
      refine .inl ⟨p, us, j, jn, rfl, rfl, hq, by rw [← all.length.1]; exact hj, ?_⟩
      obtain ⟨Γ3, As3, e1, e2, _, _⟩ := (kk _ (us.set jn v) (Bs.set jn N) [] (setD (.int j) y2 n f) (all.set2 o) (nodup_set q2 nd fun p hp j' B _ hB hq => q4 p (mem_flat_of hB hq) hp) (fun p hp => (mem_flat_set hp).elim .inr fun ⟨j', B, _, z2, z3⟩ => .inl (mem_flat_of z2 z3)) (fun a ha => by cases ha) (by simp only [setD, hown, hj, Option.map_some])).ex
      rw [hm] at e1; cases e1
      exact ⟨ac', As3, l, e2.d0⟩
    · cases hf
  · rename_i t as vs k
    split at hf
    · rename_i y2 _ hown
      have := own_val hown
      subst this
      split at hf
      · rename_i hk
        cases hf
        obtain ⟨ac', As', N, l, nd, hN, s, o⟩ := key k rfl ⟨_, hown⟩
        obtain ⟨p, us, Bs, rfl, hq, all, q1, q2, q3, q4, q5, q6, kk⟩ := StOk.dmod s nd hN hi hv hg w
        obtain ⟨o', us', g1, g2, g3⟩ := dct_put (v := v) hq hk.1 hy hk.2
        have hlv : vs.length = as.length := by rw [all.length.1, hq.nodup.2]
        refine .inr ⟨p, _, rfl, g1, ?_⟩
        have hkey : (dput q y2 as vs).1 = (dput q .non as (as.map fun _ => D.non)).1 := by
          rcases g3 with ⟨j, _, z⟩ | ⟨_, z⟩
          · rw [z vs y2 hlv, z _ _ (by simp)]
          · rw [z vs y2 hlv, z _ _ (by simp)]
        rw [← hkey] at g2
        rcases g3 with ⟨j, rfl, z⟩ | ⟨rfl, z⟩
        · have z := z vs y2 hlv
          obtain ⟨Γ3, As3, e1, e2, _, _⟩ := (kk o' _ (vs.set j y2) (us.set j v) (Bs.set j N) [] (setD q y2 n f) g2 (all.set2 o) (nodup_set q2 nd fun p hp j' B _ hB hq => q4 p (mem_flat_of hB hq) hp) (fun p hp => (mem_flat_set hp).elim .inr fun ⟨j', B, _, z2, z3⟩ => .inl (mem_flat_of z2 z3)) (fun a ha => by cases ha) (by simp only [setD, hown, if_pos hk, z])).ex
          rw [hm] at e1; cases e1
          exact ⟨ac', As3, l, e2.d0⟩
        · have z := z vs y2 hlv
          obtain ⟨Γ3, As3, e1, e2, _, _⟩ := (kk o' _ (vs ++ [y2]) (us ++ [v]) (Bs ++ [N]) [] (setD q y2 n f) g2 (all.snoc o) (by rw [flat_app]; simp only [List.flatten_cons, List.flatten_nil, List.append_nil]; rw [List.nodup_append]; exact ⟨q2, nd, fun a ha b hb e => q4 a ha (e ▸ hb)⟩) (fun p hp => by simpa using hp) (fun a ha => by cases ha) (by simp only [setD, hown, if_pos hk, z])).ex
          rw [hm] at e1; cases e1
          exact ⟨ac', As3, l, e2.d0⟩
      · cases hf
    · cases hf
  · cases hf
def rSet : TSet := fun o i v H Q => rSetL o i v H Q ∨ rSetD o i v H Q
theorem set_any (hu : X.A.units + 1 < cLine) : PSet X rSet := fun pins s σ H o i v ov iv u Q I ro ri rv h => h.elim (set_list pins s σ H o i v ov iv u Q I ro ri rv) (set_dict hu pins s σ H o i v ov iv u Q I ro ri rv)
theorem assign_sub {o i : Expr} {env : PySem.Env} (h : nslice i = true) (v : Value) : assign (.Subscript o i pos) env v = (do
      let ov ← holding [v] (eval o env)
      let iv ← holding [v, ov] (eval i env)
      standAt pos
      holding [v, ov, iv] (setItem ov iv v)
      release [v, ov, iv] []) := by
  cases i <;> first | rfl | simp [nslice] at h
theorem XOutF.mono {sl : List Nat} {H2 : Hp} (h : XOutF W ac sl Γ As H Γ' d n v σ H') (x : Ex H' H2) : XOutF W ac sl Γ As H Γ' d n v σ H2 := by
  obtain ⟨a1, a2, A, b1, b2, b3, b4, b5, b6, b7⟩ := h.ex
  exact ⟨a1, a2, A, b1, b2, b3, b4.mono x, b5.mono (hid_ex x) fun p _ o q => x p o q, ⟨b6.g, b6.a, fun j hj A hA p hp o z => x _ _ (b6.h j hj A hA p hp o z)⟩, b7.trans (hid_ex x)⟩
theorem ss_setI {k : CE} {i : Expr} (hu : X.A.units + 1 < cLine) (hp : PE X o (tP W F p)) (hi : PE X i (tE W F wx k)) (he : PE X e (tE W F wx c)) (hns : nslice i = true)
    (hs : swapsWithSole [.Subscript o i apos] e pos.line X.env = pure false) (hw : swappedStores [.Subscript o i apos] e X.env = pure none) (h1 : (assignEach [.Subscript o i apos] X.env).map (·.2) = [assign (.Subscript o i apos) X.env]) :
    PS X (.Assign [.Subscript o i apos] e pos) (tS W F wx (.setI p k c)) := by
  refine PS.imp (ps_asg he (pg_sub hp hi (set_any hu) (assign_sub hns)) hs hw h1) fun D σ H h => ?_
  obtain ⟨ac, Γ, As, s, h⟩ := h
  simp only [evS] at h
  refine ⟨ac, Γ, As, s, ?_⟩
  cases ev1 : ev F c Γ with
  | bad => rw [ev1] at h; exact h
  | ex k fs => rw [ev1] at h; exact fun cls od H' x r => h ac As cls od σ H' (Le.refl _) (s.mono x) r
  | ok d n =>
    rw [ev1] at h
    simp only at h
    split at h
    · rename_i ex kx hg
      obtain ⟨i0, ks, hpk⟩ := getE_path hg
      rw [hpk] at hg
      obtain ⟨d0, n0, hi0, hgp⟩ := getE_some hg
      intro v H1 x1 r1
      have s1 := s.mono x1
      obtain ⟨v0, A0, hv, hA0, o0⟩ := s1.slot i0 d0 n0 hi0
      refine ⟨ac, Γ, As, s1, i0, ks, d0, n0, _, _, v0, hpk, hi0, hgp, hv, fun u H2 x2 w2 => ?_⟩
      refine ⟨ac, Γ, As, s1.mono x2, ?_⟩
      cases ev2 : ev F k Γ with
      | bad => rw [ev2] at h; exact h
      | ex k fs => rw [ev2] at h; exact fun cls od H' x r => h ac As cls od σ H' (Le.refl _) ((s1.mono x2).mono x) r
      | ok q qn =>
        rw [ev2, hpk] at h
        simp only at h
        cases hm : modE (setD q d n c.fresh) (some (i0, ks)) Γ with
        | none => rw [hm] at h; exact h.elim
        | some Γ2 =>
          rw [hm] at h
          intro y H3 x3 r3
          have hfr : c.fresh = false → n = 0 := fun hf => by
            obtain ⟨e5, m5, r5, _, hf5⟩ := modE_get hm hi0
            unfold setD at hf5
            have : ∀ {k : Nat} {z : GL.D} {w : Nat}, GL.own k c.fresh (.ok d n) = .ok z w → n = 0 := fun hz => own_nf hf hz
            split at hf5
            · split at hf5
              · rename_i hz; exact this hz
              · cases hf5
            · split at hf5
              · rename_i hz; exact this hz
              · cases hf5
            · cases hf5
          have xo := (XOutF.of_rs (sl := []) s x1 r1 hfr).mono (x2.trans x3)
          rcases set_ok xo.out hm hv (w2.mono x3) r3.b.fro with ⟨p, us, kk, j, e1, e2, e3, e4, ac', As', l, s'⟩ | ⟨a, H', e1, e2, ac', As', l, s'⟩
          · exact .inl ⟨p, us, kk, j, e1, e2, e3, e4, h ac' As' σ _ l s'⟩
          · exact .inr ⟨a, H', e1, e2, h ac' As' σ _ l s'⟩
    · exact h.elim
end
end GL

/-! GL17: loops; defs that change what they are handed. -/
namespace GL
open PySem L2 PyProof.Rows
theorem wipeG_get {Γ : Env} : ∀ {is : List Nat} {j : Nat}, (wipeG Γ is)[j]? = if j ∈ is then Γ[j]?.map (fun _ => none) else Γ[j]?
  | [], j => by simp [wipeG]
  | i :: is, j => by
    show ((wipeG Γ is).set i none)[j]? = _
    rw [List.getElem?_set, wipeG_get (is := is) (j := j)]
    have hl : (wipeG Γ is).length = Γ.length := by
      clear wipeG_get
      induction is with
      | nil => rfl
      | cons k is ih => show ((wipeG Γ is).set k none).length = _; rw [List.length_set, ih]
    by_cases h : i = j
    · subst h
      rw [if_pos rfl, hl, if_pos List.mem_cons_self]
      split
      · rename_i hlt
        rw [List.getElem?_eq_getElem hlt]; rfl
      · rename_i hlt
        rw [List.getElem?_eq_none (by omega)]; rfl
    · rw [if_neg h]
      have : (j ∈ i :: is) ↔ j ∈ is := ⟨fun z => (List.mem_cons.mp z).elim (fun e => absurd e.symm h) id, List.mem_cons_of_mem _⟩
      by_cases hm : j ∈ is
      · rw [if_pos hm, if_pos (this.mpr hm)]
      · rw [if_neg hm, if_neg fun z => hm (this.mp z)]
theorem rsA_get {keep : List Nat} : ∀ {Γ : Env} {k j : Nat}, (rsA keep k Γ)[j]? = if k + j ∈ keep then Γ[j]? else Γ[j]?.map (fun _ => none)
  | [], k, j => by simp [rsA]
  | s :: Γ, k, 0 => by
    simp only [rsA, List.getElem?_cons_zero, Nat.add_zero]
    split <;> rfl
  | s :: Γ, k, j + 1 => by
    simp only [rsA, List.getElem?_cons_succ]
    rw [rsA_get, show k + 1 + j = k + (j + 1) by omega]
theorem rs_wipe (keep : List Nat) (Γ : Env) : rs keep Γ = wipeG Γ ((List.range Γ.length).filter fun i => !decide (i ∈ keep)) := by
  apply List.ext_getElem?
  intro j
  unfold rs
  rw [rsA_get, wipeG_get, Nat.zero_add]
  by_cases h : j ∈ keep
  · rw [if_pos h, if_neg]
    simp [h]
  · rw [if_neg h]
    by_cases hl : j < Γ.length
    · rw [if_pos (by simp [h, hl])]
    · rw [List.getElem?_eq_none (by omega)]; simp
theorem set_same {α : Type} {l : List α} {i : Nat} {y : α} (h : l[i]? = some y) : l.set i y = l := by
  apply List.ext_getElem?
  intro j
  by_cases hj : i = j
  · subst hj
    rw [List.getElem?_set_self (List.getElem?_eq_some_iff.mp h).1, h]
  · rw [List.getElem?_set_ne hj]
section
variable {W : Wd} {ac : Ac} {H : Hp} {σ : L2.St} {Γ : Env} {As : List (List Addr)}
theorem StOk.forget (s : StOk W ac H σ Γ As) : ∀ is : List Nat, ∃ ac' As', Le ac ac' ∧ StOk W ac' H σ (wipeG Γ is) As' ∧ (∀ a, tot ac' As' a ↔ tot ac As a)
  | [] => ⟨ac, As, Le.refl _, s, fun _ => Iff.rfl⟩
  | i :: is => by
    obtain ⟨ac', As', l, s', h⟩ := StOk.forget s is
    cases hA : As'[i]? with
    | some A =>
      have hl : i < σ.length := by rw [s'.len2, ← s'.len]; exact (List.getElem?_eq_some_iff.mp hA).1
      have hs : σ.set i σ[i] = σ := set_same (List.getElem?_eq_getElem hl)
      have q := s'.hide hA (x := σ[i]) (fun w q => by have := s'.pin i w q; rw [List.getElem?_eq_getElem hl] at this; exact Option.some.inj this)
      rw [hs] at q
      exact ⟨_, _, l.trans Le.more, q, fun a => (tot_hide hA a).trans (h a)⟩
    | none =>
      refine ⟨ac', As', l, ?_, h⟩
      have hl : As'.length ≤ i := List.getElem?_eq_none_iff.mp hA
      show StOk W ac' H σ ((wipeG Γ is).set i none) As'
      rw [List.set_eq_of_length_le (by rw [← s'.len]; exact hl)]
      exact s'
theorem StOk.rs (s : StOk W ac H σ Γ As) (keep : List Nat) : ∃ ac' As', Le ac ac' ∧ StOk W ac' H σ (GL.rs keep Γ) As' := by
  obtain ⟨ac', As', l, s', _⟩ := s.forget ((List.range Γ.length).filter fun i => !decide (i ∈ keep))
  rw [← rs_wipe] at s'
  exact ⟨ac', As', l, s'⟩
end
section
variable {X : Cx} {W : Wd} {F : Fn} {wx : WX} {ac : Ac} {Γ Γ' : Env} {As : List (List Addr)} {σ : L2.St} {H H' : Hp} {d : D} {n : Nat} {v : V} {pos apos pos2 : Pos} {e o : Expr} {p : CP} {c : CE}
theorem ss_for {tg : Expr} {tgs keep : List Nat} (hp : ∀ i ∈ tgs, W.pn i = none) {ci : CI} {body : List Stmt} {cb : CSs} (po : PassesOwn (model X.prog X.w) X.A X.env X.xe) (hc : X.calm = true) (hi : PI X tg e (tI W F wx ci)) (hg : PG X tg (tgT W.K tgs)) (hb : PSs X body (tSs W F wx cb)) (hs : ∀ x, foldedSetIterable e X.env x = pure x) :
    PS X (.For tg e body [] pos) (tS W F wx (.for_ tgs ci keep cb)) := by
  refine PS.imp (ps_for po hc hi hg hb hs) fun D σ H h => ?_
  obtain ⟨ac, Γ, As, s, h⟩ := h
  simp only [evS] at h
  refine ⟨ac, Γ, As, s, ?_⟩
  cases e1 : evI F ci Γ with
  | bad => rw [e1] at h; exact h
  | ex k fs => rw [e1] at h; exact fun cls od H' x r => h ac As cls od σ H' (Le.refl _) (s.mono x) r
  | ok xs bor =>
    cases bor with
    | true => rw [e1] at h; exact h.elim
    | false =>
      rw [e1] at h
      simp only at h
      intro J H1 x1 fd
      obtain ⟨G, Y, w, hG, hY⟩ := fd.ex
      simp only [Bool.false_eq_true, if_false] at hG
      have s0 := s.mono x1
      have s1 : StOk W { ac with Hf := hid H1 (tot ac As) } H1 σ Γ As := ⟨s0.len, s0.len2, s0.pres, s0.nd, s0.own, s0.frn, s0.slot, s0.bare, s0.a0, Ex.refl _, s0.fb.trans s0.fz, s0.pin⟩
      have l1 : Le ac { ac with Hf := hid H1 (tot ac As) } := ⟨rfl, rfl, fun _ z => z, s0.fz⟩
      obtain ⟨ac2, As2, l2, s2⟩ := s1.rs keep
      refine for_it w (fun i σ' H' => ∃ ac' Γ' As', Le { ac with Hf := hid H1 (tot ac As) } ac' ∧ StOk W ac' H' σ' Γ' As' ∧ rS W wx ac D (forL (evSs F cb) tgs keep (xs.drop i) Γ')) ⟨ac2, _, As2, l2, s2, h⟩ ?_ ?_ ?_
      · rintro i σ' H' _ ⟨ac', Γ', As', l, s', _⟩
        exact hG H' ((l.f.trans s'.fz).trans hid_full)
      · rintro i x σ' H' H3 hi ⟨ac', Γ', As', l, s', r⟩ y
        obtain ⟨d, hd⟩ : ∃ d, xs[i]? = some d := ⟨xs[i], List.getElem?_eq_getElem hi⟩
        have hdr : xs.drop i = d :: xs.drop (i + 1) := by
          rw [List.drop_eq_getElem_cons hi]
          rw [List.getElem?_eq_getElem hi] at hd
          rw [Option.some.inj hd]
        rw [hdr] at r
        unfold forL at r
        cases hset : setT Γ' tgs d with
        | none => rw [hset] at r; exact r.elim
        | some Γ2 =>
          rw [hset] at r
          simp only at r
          obtain ⟨x3, fro⟩ := hY i H' x H3 d hd y
          have f := fro (tot ac' As') (fun a t => s'.there t) (l.f.trans s'.fz)
          refine tg_ok hp (s'.mono x3) f hset fun σ2 As3 s3 _ _ _ => ⟨ac', Γ2, As3, s3, ?_⟩
          have lac : Le ac ac' := l1.trans l
          cases eb : evSs F cb Γ2 with
          | bad => rw [eb] at r; exact r
          | rt d n Γ3 => rw [eb] at r; exact fun v σ' H' x => r v σ' H' (x.le lac)
          | ex k fs Γ3 => rw [eb] at r; exact fun a As' cls od σ' H' x => r a As' cls od σ' H' (lac.trans x)
          | nx Γ3 =>
            rw [eb] at r
            intro ac4 As4 σ4 H4 l4 s4
            obtain ⟨ac5, As5, l5, s5⟩ := s4.rs keep
            exact ⟨ac5, _, As5, (l.trans l4).trans l5, s5, r⟩
      · rintro σ' H' ⟨ac', Γ', As', l, s', r⟩
        rw [List.drop_length] at r
        exact r ac' As' σ' H' (l1.trans l) s'
theorem ss_whl {t : Expr} {keep : List Nat} {fuel : Nat} {body : List Stmt} {cb : CSs} (po : PassesOwn (model X.prog X.w) X.A X.env X.xe) (hc : PT X t (tTs W F wx c)) (hb : PSs X body (tSs W F wx cb)) : PS X (.While t body [] pos) (tS W F wx (.whl fuel c keep cb)) := by
  refine PS.imp (ps_while po hc hb) fun D σ H h => ?_
  obtain ⟨ac, Γ, As, s, h⟩ := h
  simp only [evS] at h
  obtain ⟨ac2, As2, l2, s2⟩ := s.rs keep
  refine ⟨fun m σ' H' => ∃ ac' Γ' As', Le ac ac' ∧ StOk W ac' H' σ' Γ' As' ∧ rS W wx ac D (whlL (ev F c) (evSs F cb) keep m Γ'), ⟨fuel, ac2, _, As2, l2, s2, h⟩, ?_⟩
  rintro m σ' H' ⟨ac', Γ', As', l, s', r⟩
  cases m with
  | zero => unfold whlL at r; exact r.elim
  | succ m =>
    unfold whlL at r
    refine ⟨ac', Γ', As', s', ?_⟩
    cases e1 : ev F c Γ' with
    | bad => rw [e1] at r; exact r
    | ex k fs => rw [e1] at r; exact fun cls od H2 x q => r ac' As' cls od σ' H2 l (s'.mono x) q
    | ok d n =>
      rw [e1] at r
      cases d with
      | bl b =>
        cases b with
        | false => exact fun H2 x => iteF (r ac' As' σ' H2 l (s'.mono x))
        | true =>
          intro H2 x
          refine iteT ⟨fun σ' H' => ∃ ac' Γ' As', Le ac ac' ∧ StOk W ac' H' σ' Γ' As' ∧ rS W wx ac D (whlL (ev F c) (evSs F cb) keep m Γ'), fun σ3 H3 q => ⟨m, Nat.lt_succ_self m, q⟩, ac', Γ', As', s'.mono x, ?_⟩
          simp only at r
          cases eb : evSs F cb Γ' with
          | bad => rw [eb] at r; exact r
          | rt d n Γ3 => rw [eb] at r; exact fun v σ' H' x => r v σ' H' (x.le l)
          | ex k fs Γ3 => rw [eb] at r; exact fun a As' cls od σ' H' x => r a As' cls od σ' H' (l.trans x)
          | nx Γ3 =>
            rw [eb] at r
            intro ac4 As4 σ4 H4 l4 s4
            obtain ⟨ac5, As5, l5, s5⟩ := s4.rs keep
            exact ⟨ac5, _, As5, (l.trans l4).trans l5, s5, r⟩
      | _ => exact r.elim
/-! ### d.setdefault(k, []).append(x) -/
theorem sdD_some {q e : D} {m : Nat} {r : D} (h : sdD q e m = some r) : ∃ ks vs k, e = .dct false ks vs ∧ m = k + 2 ∧ isKey q = true ∧ ks.length < LINE ∧ ((∃ x, dlook q ks vs = some x ∧ r = e) ∨ (dlook q ks vs = none ∧ r = .dct false (dput q (.lst []) ks vs).1 (dput q (.lst []) ks vs).2)) := by
  unfold sdD at h
  split at h
  · rename_i ks vs k
    split at h
    · rename_i hc
      split at h
      · rename_i x hx; cases h; exact ⟨ks, vs, k, rfl, rfl, hc.1, hc.2, .inl ⟨x, hx, rfl⟩⟩
      · rename_i hx; cases h; exact ⟨ks, vs, k, rfl, rfl, hc.1, hc.2, .inr ⟨hx, rfl⟩⟩
    · cases h
  · cases h
/-- the place behind d.setdefault(k, []), by the heap with a new list z -/
theorem sd_ok {i : Nat} {Γ2 : Env} {q : D} {v0 y z : V} {zl : Addr} {dd : D} {nn : Nat} (s : StOk W ac H σ Γ As) (hi : Γ[i]? = some (some (dd, nn))) (hm : modE (sdD q) (some (i, [])) Γ = some Γ2) (hv : σ[i]? = some (some v0)) (hy : Fro W H q y) (hz : H zl = none) {H3 : Hp} (e3 : H3 = upd H zl (.lst [])) :
    ∃ a kvs k, v0 = .ref a ∧ H3 a = some (.dK kvs) ∧ y = kV k ∧ kvs.length < sizeLine ∧
      (∀ v, valV kvs k = some v → ∃ ac' As', Le ac ac' ∧ StOk W ac' H3 σ Γ2 As' ∧ Wk H3 [q] v0 v) ∧
      (valV kvs k = none → ∃ ac' As', Le ac ac' ∧ StOk W ac' (upd H3 a (.dK (putK kvs k (.ref zl)))) σ Γ2 As' ∧ Wk (upd H3 a (.dK (putK kvs k (.ref zl)))) [q] v0 (.ref zl)) := by
  obtain ⟨e, m, r, hg, hf⟩ := modE_get hm hi
  obtain ⟨ks, vs, k, rfl, rfl, hk, hlen, hcase⟩ := sdD_some hf
  have x3 : Ex H H3 := by rw [e3]; exact Ex.new hz
  have s3 := s.mono x3
  -- with the new list apart
  have sN : StOk W { ac with S := fun a => ac.S a ∨ a ∈ [zl] } H3 σ Γ As := s.ext x3 (fun p hp => by rw [List.mem_singleton.mp hp]; exact hz) (fun p hp => by rw [List.mem_singleton.mp hp, e3]; exact ⟨_, upd_same⟩)
  have zown : ∀ p ∈ [zl], (p ∈ ac.A0 ∨ ac.H0 p = none) ∧ ¬ ac.S p := fun p hp => by
    rw [List.mem_singleton.mp hp]
    refine ⟨?_, fun t => by obtain ⟨o, q⟩ := s.frn zl t; rw [hz] at q; cases q⟩
    by_cases hp0 : zl ∈ ac.A0
    · exact .inl hp0
    · right
      cases e0 : ac.H0 zl with
      | none => rfl
      | some o => have := s.pres zl o hp0 e0; rw [hz] at this; cases this
  obtain ⟨a, us, Bs, hva, hq, all, q1, q2, q3, q4, q5, q6, kk⟩ := StOk.dmod (N := [zl]) sN (by simp) zown hi hv hg .nil
  have hq' := hq
  obtain ⟨kx, h1, h2, hks, h4, h5⟩ := hq
  obtain ⟨k0, hyk, hqk, hk0⟩ := key_of_D hk hy
  subst hyk hqk
  have hlv : vs.length = us.length := all.length.1
  refine ⟨a, _, k0, hva, h2, rfl, by rw [List.length_zip, ← h1, Nat.min_self, line_eq]; rw [hks] at hlen; simpa using hlen, fun v hval => ?_, fun hval => ?_⟩
  · -- there
    rcases hcase with ⟨x, hx, rfl⟩ | ⟨hx, _⟩
    · have hG : Γ2 = Γ := by
        simp only [modE, hi, modS, modP] at hm
        simp only [getP, Option.some.injEq, Prod.mk.injEq] at hg
        obtain ⟨rfl, rfl⟩ := hg
        rw [hf] at hm
        simp only [Option.map_some, Option.some.injEq] at hm
        rw [← hm]; exact set_same hi
      rw [hG]
      refine ⟨ac, As, Le.refl _, s3, ?_⟩
      rw [hva]
      obtain ⟨j, u, w1, w2, w3, dg⟩ := dct_get_ix (ds := vs) hq' hlv (show isKeyOf false (keyD k0) = true from hk) (hy.mono x3) hx
      rcases dg with ⟨kvs', k', g1, g2, g3⟩ | ⟨kvs', k', b, g1, _⟩
      · rcases g1 with g1 | ⟨o, g1⟩
        · rw [h2] at g1
          have e1 := HO.dK.inj (Option.some.inj g1)
          have e2 : k0 = k' := by
            cases k0 <;> cases k' <;> simp only [kV] at g2 <;> cases g2 <;> rfl
          rw [← e1, ← e2, hval] at g3
          rw [Option.some.inj g3] at w3
          exact .dct hq' w1 w3 .nil
        · rw [h2] at g1; cases g1
      · rcases g1 with g1 | ⟨o, g1⟩ <;> (rw [h2] at g1; cases g1)
    · exfalso
      have := dlook_val (g := keyD) (fun _ _ => keyD_inj) k0 h1 hlv (P := fun _ _ => True) (fun _ _ _ _ _ => trivial)
      rw [← hks, hx] at this
      rw [hval] at this; cases this
  · rcases hcase with ⟨x, hx, _⟩ | ⟨hx, rfl⟩
    · exfalso
      have := dlook_val (g := keyD) (fun _ _ => keyD_inj) k0 h1 hlv (P := fun _ _ => True) (fun _ _ _ _ _ => trivial)
      rw [← hks, hx] at this
      obtain ⟨u, hu, _⟩ := this
      rw [hval] at hu; cases hu
    · rcases put_rel keyD (fun _ _ => keyD_inj) k0 (V.ref zl) h4 h1 with ⟨j, p1, _, _⟩ | ⟨p1, p2, p3⟩
      · exfalso
        have hj : j < us.length := by rw [← h1]; exact (List.getElem?_eq_some_iff.mp p1).1
        have gen : ∀ {kx : List Key} {us : List V} {j : Nat}, kx[j]? = some k0 → kx.length = us.length → valV (kx.zip us) k0 ≠ none := by
          intro kx
          induction kx with
          | nil => intro us j p; simp at p
          | cons b kx ih =>
            intro us j p hl
            cases us with
            | nil => simp at hl
            | cons u us =>
              by_cases hb : b = k0
              · rw [List.zip_cons_cons, valV_pos (show (b, u).1 = k0 from hb)]; simp
              · rw [List.zip_cons_cons, valV_neg (show ¬ (b, u).1 = k0 from hb)]
                cases j with
                | zero => simp at p; exact absurd p hb
                | succ j => exact ih (by simpa using p) (by simpa using hl)
        exact gen p1 h1 hval
      · have hp := p3 vs (D.lst []) (by rw [hlv, h1])
        have hdat : DctAt (upd H3 a (.dK (putK (kx.zip us) k0 (.ref zl)))) a false (ks ++ [keyD k0]) (us ++ [.ref zl]) := by
          refine ⟨kx ++ [k0], by simp [h1], by rw [upd_same, p2], by rw [hks]; simp, ?_, fun k hk => ?_⟩
          · rw [List.nodup_append]
            exact ⟨h4, by simp, fun a ha b hb e => p1 (by simp at hb; rw [← hb, ← e]; exact ha)⟩
          · rcases List.mem_append.mp hk with z | z
            · exact h5 k z
            · simp at z; rw [z]; exact hk0
        have hzH3 : H3 zl = some (.lst []) := by rw [e3]; exact upd_same
        rw [hks, hp] at hf
        obtain ⟨Γ3, As3, e1, e2, _, _⟩ := (kk (.dK (putK (kx.zip us) k0 (.ref zl))) (ks ++ [keyD k0]) (vs ++ [D.lst []]) (us ++ [.ref zl]) (Bs ++ [[zl]]) [] (sdD (keyD k0)) hdat
          (all.snoc ⟨zl, [], [], rfl, hzH3, rfl, .nil⟩) (by rw [flat_app, List.nodup_append]; exact ⟨q2, by simp, fun a ha b hb e => q4 a ha (by simpa [e] using hb)⟩) (fun p hp => by rw [flat_app] at hp; simpa using hp) (fun a ha => by cases ha) (by rw [hks]; exact hf)).ex
        rw [hm] at e1; cases e1
        refine ⟨ac, As3, Le.refl _, e2.d0, ?_⟩
        rw [hva]
        have hjl : ks.length = us.length := by rw [hks]; simpa using h1
        exact .dct hdat (j := ks.length) (by simp) (by rw [hjl]; simp) .nil
theorem ss_sdapp {i : Nat} {x : Str} {k : CE} {ke le : Expr} {pn p1 a1 p3 : Pos} (hu : X.A.units + 1 < cLine) (hN : X.N[i]? = some x) (hvs : Vis X.env.scope x) (hx1 : (x == ("__debug__" : Str)) = false) (hx2 : (x == ("__classdict__" : Str)) = false)
    (hk : PE X ke (tE W F wx k)) (he : PE X e (tE W F wx c)) (hm2 : M2 X (.Name x pn) "setdefault" a1 ke (.List [] p3) p1)
    (hbase : attributeBase (.Call (.Attribute (.Name x pn) "setdefault" a1) [ke, .List [] p3] [] p1) "append" X.env (eval (.Call (.Attribute (.Name x pn) "setdefault" a1) [ke, .List [] p3] [] p1) X.env) = eval (.Call (.Attribute (.Name x pn) "setdefault" a1) [ke, .List [] p3] [] p1) X.env)
    (hfew : ((backTo pos (starEach [e] X.env)).all (fun x => !x.1) && (backToKw pos (keywordEach [] X.env)).all (fun x => x.1.isSome) && decide ([e].length + ([] : List Keyword).length + (if ([] : List Keyword).isEmpty then 0 else 1) < 30)) = true)
    (hline : (apos.endLine == pos.line) = true) (hs : nstar e = true) (hsw : swapsWith (.Call (.Attribute (.Call (.Attribute (.Name x pn) "setdefault" a1) [ke, .List [] p3] [] p1) "append" apos) [e] [] pos) none pos2.line X.env = pure false) :
    PS X (.Expr (.Call (.Attribute (.Call (.Attribute (.Name x pn) "setdefault" a1) [ke, .List [] p3] [] p1) "append" apos) [e] [] pos) pos2) (tS W F wx (.sdapp i k c)) := by
  refine PS.imp (ps_expr (pe_bm PySem.F.plainAttrs_list PySem.F.slot_list_append PySem.F.type_list_append mt_append (pe_dsetd (pe_var hN hvs hx1 hx2) hk (pe_lst pa_nil) hm2) (pa_cons (sx_pure he) pa_nil (star_cons hs)) hbase hfew hline (star_cons hs) rfl) hsw) fun D σ H h => ?_
  obtain ⟨ac, Γ, As, s, h⟩ := h
  simp only [evS] at h
  split at h
  · rename_i ks vs m hg
    obtain ⟨d0, n0, hi, hgp⟩ := getE_some hg
    obtain ⟨v0, A0, hv, hA0, o0⟩ := s.slot i d0 n0 hi
    simp only [getP, Option.some.injEq, Prod.mk.injEq] at hgp
    obtain ⟨rfl, rfl⟩ := hgp
    obtain ⟨a, us, As0, rfl, hda, _, _⟩ := own_dct o0
    refine ⟨.ref a, hv, a, rfl, .inl (let ⟨kk, _, h2, _⟩ := hda; ⟨_, .inl h2⟩), ac, Γ, As, s, ?_⟩
    cases e1 : ev F k Γ with
    | bad => rw [e1] at h; exact h
    | ex k fs => rw [e1] at h; exact fun cls od H' x r => h ac As cls od σ H' (Le.refl _) (s.mono x) r
    | ok q qn =>
      rw [e1] at h
      simp only at h
      split at h
      · rename_i Γ1 hm
        intro y H1 x1 r1
        refine ⟨Nat.zero_le _, fun zl hz => ?_⟩
        have s1 := s.mono x1
        obtain ⟨a', kvs, k0, ea, hkv, rfl, hlen, hyes, hno⟩ := sd_ok (z := .ref zl) s1 hi hm hv r1.b.fro hz rfl
        cases ea
        refine ⟨kvs, k0, hkv, rfl, hlen, fun v hval => ?_, fun hval => ?_⟩
        · obtain ⟨ac2, As2, l2, s2, w2⟩ := hyes v hval
          split at h
          · rename_i xs kk hg2
            obtain ⟨d3, n3, hi3, hgp3⟩ := getE_some hg2
            obtain ⟨q3, us3, eq3, hq3⟩ := place_lst s2 hi3 hgp3 hv w2
            first | subst eq3 | cases eq3
            refine ⟨.inl ⟨rfl, _, SqL.of hq3⟩, ac2, Γ1, As2, s2, ?_⟩
            cases e2 : evX F (.pure c) Γ1 with
            | bad => rw [e2] at h; exact h
            | ex k fs => rw [e2] at h; exact fun ac' As' cls od H' l s' r => h ac' As' cls od σ H' (l2.trans l) s' r
            | ok d n Γ2 =>
              rw [e2] at h
              simp only at h
              cases hm3 : modE (appD d n c.fresh) (some (i, [q])) Γ2 with
              | none => rw [hm3] at h; exact h.elim
              | some Γ4 =>
                rw [hm3] at h
                intro v' H2 xo
                obtain ⟨_, A1, hv1, hA1, o1⟩ := s2.slot i d3 n3 hi3
                rw [hv] at hv1; cases hv1
                obtain ⟨_, _, _, _, _, _, _, _, fra, _⟩ := xo.ex
                have w3 := wk_stay [q] o1 hgp3 w2 fun p hp o z => fra.h i (by simp [CX.slots]) A1 hA1 p hp o z
                obtain ⟨q', us', eq', hq', hl', ac', As', l, s'⟩ := app_ok xo.out hm3 hv w3
                cases eq'
                exact ⟨_, us', v', rfl, rfl, hq', hl', h ac' As' σ _ (l2.trans l) s'⟩
          · exact h.elim
        · obtain ⟨ac2, As2, l2, s2, w2⟩ := hno hval
          split at h
          · rename_i xs kk hg2
            obtain ⟨d3, n3, hi3, hgp3⟩ := getE_some hg2
            obtain ⟨q3, us3, eq3, hq3⟩ := place_lst s2 hi3 hgp3 hv w2
            first | subst eq3 | cases eq3
            refine ⟨.inl ⟨rfl, _, SqL.of hq3⟩, ac2, Γ1, As2, s2, ?_⟩
            cases e2 : evX F (.pure c) Γ1 with
            | bad => rw [e2] at h; exact h
            | ex k fs => rw [e2] at h; exact fun ac' As' cls od H' l s' r => h ac' As' cls od σ H' (l2.trans l) s' r
            | ok d n Γ2 =>
              rw [e2] at h
              simp only at h
              cases hm3 : modE (appD d n c.fresh) (some (i, [q])) Γ2 with
              | none => rw [hm3] at h; exact h.elim
              | some Γ4 =>
                rw [hm3] at h
                intro v' H2 xo
                obtain ⟨_, A1, hv1, hA1, o1⟩ := s2.slot i d3 n3 hi3
                rw [hv] at hv1; cases hv1
                obtain ⟨_, _, _, _, _, _, _, _, fra, _⟩ := xo.ex
                have w3 := wk_stay [q] o1 hgp3 w2 fun p hp o z => fra.h i (by simp [CX.slots]) A1 hA1 p hp o z
                obtain ⟨q', us', eq', hq', hl', ac', As', l, s'⟩ := app_ok xo.out hm3 hv w3
                cases eq'
                exact ⟨_, us', v', rfl, rfl, hq', hl', h ac' As' σ _ (l2.trans l) s'⟩
          · exact h.elim
      · exact h.elim
  · exact h.elim
end
end GL

/-! GL18: calls that change what they are handed; raise; try. -/
namespace GL
open PySem L2 PyProof.Rows
/-- the values of the slots -/
inductive NmV (σ : L2.St) : List Nat → List V → Prop
  | nil : NmV σ [] []
  | cons {i : Nat} {v : V} {is : List Nat} {vs : List V} : σ[i]? = some (some v) → NmV σ is vs → NmV σ (i :: is) (v :: vs)
theorem NmV.len {σ : L2.St} {is : List Nat} {vs : List V} (h : NmV σ is vs) : is.length = vs.length := by
  induction h with
  | nil => rfl
  | cons _ _ ih => simp [ih]
theorem NmV.inj {σ : L2.St} {is : List Nat} {vs us : List V} (h : NmV σ is vs) (g : NmV σ is us) : vs = us := by
  induction h generalizing us with
  | nil => cases g; rfl
  | cons a _ ih =>
    cases g with
    | cons b t =>
      rw [a] at b; cases b
      rw [ih t]
def tNm (is : List Nat) : TA := fun σ H Q => ∃ vs, NmV σ is vs ∧ Q vs H
theorem pa_nm0 {X : Cx} : PA X [] (tNm []) := PA.imp pa_nil fun σ H Q ⟨vs, h, q⟩ => by cases h; exact q
theorem pa_nm {X : Cx} {i : Nat} {x : Str} {p : Pos} {es : List Expr} {is : List Nat} (hN : X.N[i]? = some x) (hv : Vis X.env.scope x) (h1 : (x == ("__debug__" : Str)) = false) (h2 : (x == ("__classdict__" : Str)) = false) (h : PA X es (tNm is)) : PA X (.Name x p :: es) (tNm (i :: is)) :=
  PA.imp (pa_cons (pe_var hN hv h1 h2) h (star_cons rfl)) fun σ H Q ⟨vs, h, q⟩ => by
    cases h with
    | cons a t => exact ⟨_, a, _, t, q⟩
/-- places of the changed ones among the arguments -/
def ioOf : Nat → List (Nat × Bool) → List Nat
  | _, [] => []
  | k, (_, true) :: r => k :: ioOf (k + 1) r
  | k, (_, false) :: r => ioOf (k + 1) r
def pickT : List (Nat × Bool) → List V → List V
  | (_, true) :: r, v :: vs => v :: pickT r vs
  | (_, false) :: r, _ :: vs => pickT r vs
  | _, _ => []
theorem pick_io : ∀ {is : List (Nat × Bool)} {vs : List V} (us : List V), is.length = vs.length → pick (us ++ vs) (ioOf us.length is) = pickT is vs
  | [], [], _, _ => rfl
  | (i, b) :: is, v :: vs, us, h => by
    have e : us ++ v :: vs = (us ++ [v]) ++ vs := by simp
    have l : us.length + 1 = (us ++ [v]).length := by simp
    have ih := pick_io (is := is) (vs := vs) (us ++ [v]) (by simpa using h)
    cases b with
    | true =>
      simp only [ioOf, pick, pickT]
      rw [e, l, ih]
      congr 1
      simp [List.getD]
    | false =>
      simp only [ioOf, pickT]
      rw [e, l, ih]
  | [], _ :: _, _, h => by simp at h
  | _ :: _, [], _, h => by simp at h
section
variable {W : Wd} {ac : Ac} {H H' : Hp} {σ : L2.St} {Γ Γ' : Env} {As : List (List Addr)}
/-- the changed ones are taken out of the state -/
theorem StOk.out (s : StOk W ac H σ Γ As) : ∀ (is : List (Nat × Bool)) {args : List (D × Nat)} {vs : List V}, argsIO Γ is = some args → NmV σ (is.map (·.1)) vs → (trues is).Nodup →
    ∃ (Bs As0 : List (List Addr)), StOk W { ac with S := fun a => ac.S a ∨ a ∈ Bs.flatten } H σ (wipeG Γ (trues is)) As0 ∧ (∀ a, tot ac As a ↔ (ac.S a ∨ a ∈ Bs.flatten) ∨ a ∈ As0.flatten) ∧ Bs.flatten.Nodup ∧ (∀ p ∈ Bs.flatten, ((p ∈ ac.A0 ∨ ac.H0 p = none) ∧ ¬ ac.S p) ∧ p ∉ As0.flatten) ∧
      AllO W (hid H (tot ac As)) H args vs Bs ∧ (∀ j, j ∉ trues is → As0[j]? = As[j]?)
  | [], args, vs, ha, hv, nd => by
    simp only [argsIO, Option.some.injEq] at ha
    subst ha
    cases hv
    refine ⟨[], As, s.same fun a => ⟨fun z => z.elim id (fun z => by cases z), fun z => Or.inl z⟩, fun a => ⟨fun z => z.elim (fun z => .inl (.inl z)) .inr, fun z => z.elim (fun z => z.elim .inl (fun z => by cases z)) .inr⟩, .nil, (fun p hp => by cases hp), .nil, fun _ _ => rfl⟩
  | (i, b) :: is, args, vs, ha, hv, nd => by
    simp only [argsIO] at ha
    split at ha
    · rename_i d n hi
      rw [Option.bind_eq_some_iff] at ha
      obtain ⟨args', ha', e⟩ := ha
      cases hv with
      | @cons _ v _ vs' hvi hv' =>
        cases b with
        | false =>
          simp only [Bool.false_eq_true, if_false] at e
          split at e
          · rename_i hn
            subst hn
            cases e
            have tr : trues ((i, false) :: is) = trues is := rfl
            rw [tr] at nd ⊢
            obtain ⟨Bs, As0, h1, h2, h3, h4, h5, h6⟩ := s.out is ha' hv' nd
            obtain ⟨v', A, q1, q2, q3⟩ := s.slot i d 0 hi
            rw [hvi] at q1; cases q1
            obtain ⟨rfl, q3⟩ := q3
            exact ⟨[] :: Bs, As0, by simpa using h1, by simpa using h2, by simpa using h3, by simpa using h4, .cons ⟨rfl, q3⟩ h5, h6⟩
          · cases e
        | true =>
          simp only [if_true] at e
          cases e
          have tr : trues ((i, true) :: is) = i :: trues is := rfl
          rw [tr] at nd ⊢
          rw [List.nodup_cons] at nd
          obtain ⟨Bs, As0, h1, h2, h3, h4, h5, h6⟩ := s.out is ha' hv' nd.2
          have hi' : (wipeG Γ (trues is))[i]? = some (some (d, n)) := by rw [wipeG_get, if_neg nd.1]; exact hi
          obtain ⟨v', A, q1, q2, q3⟩ := h1.slot i d n hi'
          rw [hvi] at q1; cases q1
          have ht : tot { ac with S := fun a => ac.S a ∨ a ∈ Bs.flatten } As0 = tot ac As := StOk.eqT fun a => (h2 a).symm
          rw [ht] at q3
          have hd := h1.hide q2 (x := some v) (fun w q => by have := s.pin i w q; rw [hvi] at this; exact Option.some.inj this)
          rw [set_same hvi] at hd
          have own := fun p hp => h1.own p (mem_flat_of q2 hp)
          refine ⟨A :: Bs, As0.set i [], ?_, fun a => ?_, ?_, fun p hp => ?_, .cons q3 h5, fun j hj => ?_⟩
          · have e : (fun a => (ac.S a ∨ a ∈ Bs.flatten) ∨ a ∈ A) = fun a => ac.S a ∨ a ∈ (A :: Bs).flatten := funext fun a => propext (by simp only [List.flatten_cons, List.mem_append]; rw [or_assoc]; exact or_congr Iff.rfl or_comm)
            have hd' : StOk W { ac with S := fun a => (ac.S a ∨ a ∈ Bs.flatten) ∨ a ∈ A } H σ ((wipeG Γ (trues is)).set i none) (As0.set i []) := hd
            rw [e] at hd'
            exact hd'
          · rw [h2 a]
            constructor
            · rintro ((z | z) | z)
              · exact .inl (.inl z)
              · exact .inl (.inr (by simp [z]))
              · obtain ⟨B, hB, hp⟩ := List.mem_flatten.mp z
                obtain ⟨j, hj, e⟩ := List.getElem_of_mem hB
                by_cases hij : i = j
                · subst hij
                  have : As0[i]? = some B := by rw [List.getElem?_eq_getElem hj, e]
                  rw [q2] at this; cases this
                  exact .inl (.inr (by simp [hp]))
                · exact .inr (mem_flat_of (i := j) (by rw [List.getElem?_set_ne hij, List.getElem?_eq_getElem hj, e]) hp)
            · rintro ((z | z) | z)
              · exact .inl (.inl z)
              · rw [List.flatten_cons, List.mem_append] at z
                rcases z with z | z
                · exact .inr (mem_flat_of q2 z)
                · exact .inl (.inr z)
              · rcases mem_flat_set z with z | ⟨j, B, z1, z2, z3⟩
                · cases z
                · exact .inr (mem_flat_of z2 z3)
          · rw [List.flatten_cons, List.nodup_append]
            exact ⟨flat_one h1.nd q2, h3, fun a ha b hb e => (h4 b hb).2 (by rw [← e]; exact mem_flat_of q2 ha)⟩
          · rw [List.flatten_cons, List.mem_append] at hp
            rcases hp with z | z
            · refine ⟨⟨(own p z).1, fun y => (own p z).2 (.inl y)⟩, fun y => ?_⟩
              rcases mem_flat_set y with y | ⟨j, B, z1, z2, z3⟩
              · cases y
              · exact flat_sep h1.nd z1 z2 q2 p z3 z
            · refine ⟨(h4 p z).1, fun y => ?_⟩
              rcases mem_flat_set y with y | ⟨j, B, z1, z2, z3⟩
              · cases y
              · exact (h4 p z).2 (mem_flat_of z2 z3)
          · have hj' : j ≠ i ∧ j ∉ trues is := ⟨fun z => hj (by simp [z]), fun z => hj (by simp [z])⟩
            rw [List.getElem?_set_ne hj'.1.symm, h6 j hj'.2]
    · cases ha
/-- behind the call -/
theorem StOk.called {L N : List Addr} (s : StOk W { ac with S := fun a => ac.S a ∨ a ∈ L } H σ Γ As) (hL : ∀ p ∈ L, (p ∈ ac.A0 ∨ ac.H0 p = none) ∧ ¬ ac.S p) (pr : ∀ a o, a ∉ L → H a = some o → H' a = some o) (th : ∀ a ∈ L, ∃ o, H' a = some o)
    (hN : ∀ p ∈ N, p ∈ L ∨ H p = none) (thN : ∀ p ∈ N, ∃ o, H' p = some o) : StOk W { ac with S := fun a => ac.S a ∨ a ∈ N } H' σ Γ As := by
  have nAL : ∀ p ∈ As.flatten, p ∉ L := fun p hp hq => (s.own p hp).2 (.inr hq)
  have x : Ex (hid H (tot { ac with S := fun a => ac.S a ∨ a ∈ L } As)) (hid H' (tot { ac with S := fun a => ac.S a ∨ a ∈ N } As)) := fun a o q => by
    obtain ⟨t, q⟩ := hid_not q
    have nL : a ∉ L := fun z => t (.inl (.inr z))
    rw [hid_at]
    · exact pr a o nL q
    · rintro ((z | z) | z)
      · exact t (.inl (.inl z))
      · rcases hN a z with y | y
        · exact nL y
        · rw [y] at q; cases q
      · exact t (.inr z)
  refine ⟨s.len, s.len2, fun a o h0 h => ?_, s.nd, fun p hp => ⟨(s.own p hp).1, fun z => ?_⟩, fun a ha => ?_, fun i d n e => ?_, s.bare, fun a ha => ?_, s.fz.trans x, s.fb, s.pin⟩
  · refine pr a o (fun z => ?_) (s.pres a o h0 h)
    rcases (hL a z).1 with y | y
    · exact h0 y
    · rw [show ac.H0 a = some o from h] at y; cases y
  · rcases z with z | z
    · exact (s.own p hp).2 (.inl z)
    · rcases hN p z with y | y
      · exact nAL p hp y
      · obtain ⟨o, q, _⟩ := s.thereF p hp; rw [y] at q; cases q
  · rcases ha with ha | ha
    · obtain ⟨o, q⟩ := s.frn a (.inl ha)
      exact ⟨o, pr a o (fun z => (hL a z).2 ha) q⟩
    · exact thN a ha
  · obtain ⟨v, A, h1, h2, h3⟩ := s.slot i d n e
    exact ⟨v, A, h1, h2, h3.mono x fun p hp o q => pr p o (nAL p (mem_flat_of h2 hp)) q⟩
  · obtain ⟨o, q⟩ := s.a0 a ha
    by_cases z : a ∈ L
    · exact th a z
    · exact ⟨o, pr a o z q⟩
/-- they are put back -/
theorem StOk.back {T0 : Addr → Prop} : ∀ (is : List (Nat × Bool)) {ac : Ac} {Γ Γ' : Env} {As : List (List Addr)} {os : List (D × Nat)} {vs : List V} {Bs : List (List Addr)}, StOk W { ac with S := fun a => ac.S a ∨ a ∈ Bs.flatten } H σ Γ As → (∀ a, ((ac.S a ∨ a ∈ Bs.flatten) ∨ a ∈ As.flatten) → T0 a) → Bs.flatten.Nodup →
    (∀ p ∈ Bs.flatten, (p ∈ ac.A0 ∨ ac.H0 p = none) ∧ ¬ ac.S p) → AllO W (hid H T0) H os (pickT is vs) Bs → NmV σ (is.map (·.1)) vs → putsIO Γ is os = some Γ' →
    ∃ As', StOk W ac H σ Γ' As' ∧ (∀ j, j ∉ trues is → Γ'[j]? = Γ[j]? ∧ As'[j]? = As[j]?) ∧ (∀ a ∈ As'.flatten, a ∈ As.flatten ∨ a ∈ Bs.flatten)
  | [], ac, Γ, Γ', As, os, vs, Bs, s, hT, nd, hB, al, hv, hp => by
    cases hv
    cases os with
    | cons o os => simp [putsIO] at hp
    | nil =>
      cases al
      simp only [putsIO, Option.some.injEq] at hp
      subst hp
      exact ⟨As, s.d0, fun _ _ => ⟨rfl, rfl⟩, fun a ha => .inl ha⟩
  | (i, false) :: is, ac, Γ, Γ', As, os, vs, Bs, s, hT, nd, hB, al, hv, hp => by
    cases hv with
    | cons a t =>
      simp only [putsIO] at hp
      exact StOk.back is s hT nd hB al t hp
  | (i, true) :: is, ac, Γ, Γ', As, os, vs, Bs, s, hT, nd, hB, al, hv, hp => by
    cases hv with
    | @cons _ v _ vs' hvi t =>
      cases os with
      | nil => simp [putsIO] at hp
      | cons o os =>
        obtain ⟨d, n⟩ := o
        simp only [putsIO] at hp
        simp only [pickT] at al
        cases al with
        | @cons _ _ _ B _ _ Bs' o al =>
          rw [List.flatten_cons, List.nodup_append] at nd
          obtain ⟨n1, n2, n3⟩ := nd
          have hB1 : ∀ p ∈ B, (p ∈ ac.A0 ∨ ac.H0 p = none) ∧ ¬ ac.S p := fun p hp => hB p (by simp [hp])
          have s1 : StOk W { ac with S := fun a => (ac.S a ∨ a ∈ Bs'.flatten) ∨ a ∈ B } H σ Γ As := by
            have e : (fun a => ac.S a ∨ a ∈ (B :: Bs').flatten) = fun a => (ac.S a ∨ a ∈ Bs'.flatten) ∨ a ∈ B := funext fun a => propext (by simp only [List.flatten_cons, List.mem_append]; rw [or_assoc]; exact or_congr Iff.rfl or_comm)
            rw [e] at s; exact s
          have s2 := StOk.put (ac := { ac with S := fun a => ac.S a ∨ a ∈ Bs'.flatten }) (i := i) (d := d) (n := n) (v := v) (A := B) (fun w q => by have := s.pin i w q; rw [hvi] at this; exact (Option.some.inj (Option.some.inj this)).symm) s1 n1 (fun p hp => ⟨(hB1 p hp).1, fun z => z.elim (hB1 p hp).2 fun z => n3 p hp p z rfl⟩) (o.mono (hid_le fun a z => hT a (by
              rcases z with (z | z) | z | ⟨j, C, z1, z2, z3⟩
              · exact .inl (.inl z)
              · exact .inl (.inr (by simp [z]))
              · exact .inl (.inr (by simp [z]))
              · exact .inr (mem_flat_of z2 z3))) fun _ _ _ q => q)
          rw [set_same hvi] at s2
          obtain ⟨As', r1, r2, r3⟩ := StOk.back is s2 (fun a z => hT a (by
              rcases z with (z | z) | z
              · exact .inl (.inl z)
              · exact .inl (.inr (by simp [z]))
              · rcases mem_flat_set z with z | ⟨j, C, z1, z2, z3⟩
                · exact .inl (.inr (by simp [z]))
                · exact .inr (mem_flat_of z2 z3))) n2 (fun p hp => hB p (by simp [hp])) al t hp
          refine ⟨As', r1, fun j hj => ?_, fun a ha => ?_⟩
          · have hj' : j ≠ i ∧ j ∉ trues is := ⟨fun z => hj (by simp [trues, z]), fun z => hj (by simp only [trues, List.filter_cons_of_pos, List.map_cons, List.mem_cons]; exact .inr z)⟩
            obtain ⟨g1, g2⟩ := r2 j hj'.2
            rw [g1, g2, List.getElem?_set_ne hj'.1.symm, List.getElem?_set_ne hj'.1.symm]
            exact ⟨rfl, rfl⟩
          · rcases r3 a ha with z | z
            · rcases mem_flat_set z with z | ⟨j, C, z1, z2, z3⟩
              · exact .inr (by simp [z])
              · exact .inl (mem_flat_of z2 z3)
            · exact .inr (by simp [z])
theorem AllO.there {Hf : Hp} {os : List (D × Nat)} {vs : List V} {Bs : List (List Addr)} (h : AllO W Hf H os vs Bs) : ∀ p ∈ Bs.flatten, ∃ o, H p = some o := by
  induction h with
  | nil => intro p hp; cases hp
  | cons o _ ih =>
    intro p hp
    rw [List.flatten_cons, List.mem_append] at hp
    exact hp.elim (fun z => let ⟨u, q, _⟩ := o.there p z; ⟨u, q⟩) (ih p)
end
section
variable {X : Cx} {W : Wd} {F : Fn} {wx : WX} {p pos : Pos} {e : Expr} {es : List Expr}
theorem cio_ok {ac : Ac} {Γ : Env} {As : List (List Addr)} {σ : L2.St} {H : Hp} {Q : VK} {f : Nat} {x' : String} {is : List (Nat × Bool)} {vs : List V} {np : Nat} (hnp : ∀ args, F f args ≠ .bad → args.length = np) (s : StOk W ac H σ Γ As) (hv : NmV σ (is.map (·.1)) vs) (nd : (trues is).Nodup)
    (h : rX W wx ac σ (trues is) Γ As H Q (evX F (.cio f x' is) Γ)) : spOf W (ioOf 0 is) np (F f) vs H Q (WE wx σ) := by
  simp only [evX] at h
  cases ha : argsIO Γ is with
  | none => rw [ha] at h; exact h.elim
  | some args =>
    rw [ha] at h
    simp only at h
    obtain ⟨Bs, As0, h1, h2, h3, h4, h5, h6⟩ := s.out is ha hv nd
    have hlen : vs.length = args.length := h5.len.1.symm
    have nS : ∀ p ∈ Bs.flatten, ¬ (tot ac As p ∧ p ∉ Bs.flatten) := fun p hp z => z.2 hp
    have eT : ∀ a, ((tot ac As a ∧ a ∉ Bs.flatten) ∨ a ∈ Bs.flatten) ↔ tot ac As a := fun a => by
      constructor
      · rintro (z | z)
        · exact z.1
        · exact (h2 a).mpr (.inl (.inr z))
      · intro z
        by_cases y : a ∈ Bs.flatten
        · exact .inr y
        · exact .inl ⟨z, y⟩
    have eT' : (fun a => (tot ac As a ∧ a ∉ Bs.flatten) ∨ a ∈ Bs.flatten) = tot ac As := funext fun a => propext (eT a)
    have bsT : ∀ a ∈ Bs.flatten, ∃ o, H a = some o := h5.there
    cases hr : F f args with
    | bad => rw [hr] at h; exact h.elim
    | ex k fs =>
      rw [hr] at h
      simp only at h
      split at h
      · rename_i hall
        have hb0 : Bs.flatten = [] := by
          have ht : trues is = [] := by
            unfold trues
            rw [List.map_eq_nil_iff, List.filter_eq_nil_iff]
            intro q hq
            have := List.all_eq_true.mp hall q hq
            simpa using this
          have gen : ∀ {is : List (Nat × Bool)} {args : List (D × Nat)} {vs : List V} {Bs : List (List Addr)}, trues is = [] → argsIO Γ is = some args → AllO W (hid H (tot ac As)) H args vs Bs → Bs.flatten = [] := by
            intro is
            induction is with
            | nil => intro args vs Bs _ ha al; simp only [argsIO, Option.some.injEq] at ha; subst ha; cases al; rfl
            | cons q is ih =>
              intro args vs Bs ht ha al
              obtain ⟨i, b⟩ := q
              cases b with
              | true => simp [trues] at ht
              | false =>
                simp only [argsIO] at ha
                split at ha
                · rename_i d n hi
                  rw [Option.bind_eq_some_iff] at ha
                  obtain ⟨args', ha', e⟩ := ha
                  simp only [Bool.false_eq_true, if_false] at e
                  split at e
                  · rename_i hn
                    cases e
                    cases al with
                    | cons o al =>
                      obtain ⟨rfl, _⟩ := o
                      simpa using ih ht ha' al
                  · cases e
                · cases ha
          exact gen ht ha h5
        refine ⟨args, fun a => tot ac As a ∧ a ∉ Bs.flatten, Bs, by rw [hlen]; exact hnp _ (by rw [hr]; simp), fun a t => s.there t.1, h3, nS, by rw [eT']; exact h5, ?_⟩
        rw [hr]
        intro cls od H' pr ex
        have xx : Ex H H' := fun a o q => pr a o (by rw [hb0]; simp) q
        refine h ac As cls od H' (Le.refl _) (s.mono xx) (ex.mono (hid_le fun a t => ⟨t, by rw [hb0]; simp⟩))
      · exact h.elim
    | ok d n os =>
      rw [hr] at h
      simp only at h
      refine ⟨args, fun a => tot ac As a ∧ a ∉ Bs.flatten, Bs, by rw [hlen]; exact hnp _ (by rw [hr]; simp), fun a t => s.there t.1, h3, nS, by rw [eT']; exact h5, ?_⟩
      rw [hr]
      intro v H' A Cs pr th nd2 own2 o al
      have hpick : pick vs (ioOf 0 is) = pickT is vs := by
        have := pick_io (is := is) (vs := vs) [] (by rw [← hv.len, List.length_map])
        simpa using this
      rw [hpick] at al
      cases hp : putsIO (wipeG Γ (trues is)) is os with
      | none => rw [hp] at h; exact h.elim
      | some Γ' =>
        rw [hp] at h
        rw [List.nodup_append] at nd2
        obtain ⟨ndA, ndC, dAC⟩ := nd2
        have thA : ∀ p ∈ A ++ Cs.flatten, ∃ o, H' p = some o := fun p hp => by
          rcases List.mem_append.mp hp with z | z
          · obtain ⟨u, q, _⟩ := o.there p z; exact ⟨u, q⟩
          · exact al.there p z
        have sc := h1.called (N := A ++ Cs.flatten) (fun p hp => (h4 p hp).1) pr th (fun p hp => (own2 p hp).1) thA
        have ownN : ∀ p ∈ A ++ Cs.flatten, (p ∈ ac.A0 ∨ ac.H0 p = none) ∧ ¬ ac.S p := fun p hp => by
          refine ⟨?_, fun z => ?_⟩
          · rcases (own2 p hp).1 with z | z
            · exact (h4 p z).1.1
            · by_cases h0 : p ∈ ac.A0
              · exact .inl h0
              · right
                cases e0 : ac.H0 p with
                | none => rfl
                | some u => have := s.pres p u h0 e0; rw [z] at this; cases this
          · rcases (own2 p hp).1 with y | y
            · exact (h4 p y).1.2 z
            · obtain ⟨u, q⟩ := s.frn p z; rw [y] at q; cases q
        have sc2 : StOk W { ac with S := fun a => (ac.S a ∨ a ∈ A) ∨ a ∈ Cs.flatten } H' σ (wipeG Γ (trues is)) As0 := by
          have e : (fun a => ac.S a ∨ a ∈ A ++ Cs.flatten) = fun a => (ac.S a ∨ a ∈ A) ∨ a ∈ Cs.flatten := funext fun a => propext (by rw [List.mem_append, or_assoc])
          rw [e] at sc; exact sc
        have hT : ∀ a, (((ac.S a ∨ a ∈ A) ∨ a ∈ Cs.flatten) ∨ a ∈ As0.flatten) → ((tot ac As a ∧ a ∉ Bs.flatten) ∨ a ∈ A ++ Cs.flatten) := fun a z => by
          rcases z with ((z | z) | z) | z
          · exact .inl ⟨.inl z, fun y => (h4 a y).1.2 z⟩
          · exact .inr (List.mem_append_left _ z)
          · exact .inr (List.mem_append_right _ z)
          · exact .inl ⟨(h2 a).mpr (.inr z), fun y => (h4 a y).2 z⟩
        obtain ⟨As', r1, r2, r3⟩ := StOk.back (ac := { ac with S := fun a => ac.S a ∨ a ∈ A }) is sc2 hT ndC (fun p hp => ⟨(ownN p (List.mem_append_right _ hp)).1, fun z => z.elim (ownN p (List.mem_append_right _ hp)).2 fun z => dAC p z p hp rfl⟩) al hv hp
        refine h v H' ⟨ac, As', A, Le.refl _, ndA, fun p hp => ownN p (List.mem_append_left _ hp), r1, o.mono (hid_le fun a t => ?_) fun _ _ _ q => q, ⟨fun j hj => ?_, fun j hj => ?_, fun j hj B hB p hp o q => ?_⟩, fun a o q => ?_⟩
        · rcases t with t | t | t
          · exact hT a (.inl (.inl (.inl t)))
          · exact hT a (.inl (.inl (.inr t)))
          · rcases r3 a t with z | z
            · exact hT a (.inr z)
            · exact hT a (.inl (.inr z))
        · rw [(r2 j hj).1, wipeG_get, if_neg hj]
        · rw [(r2 j hj).2, h6 j hj]
        · refine pr p o (fun z => ?_) q
          exact (h4 p z).2 (mem_flat_of (i := j) (by rw [h6 j hj]; exact hB) hp)
        · obtain ⟨t, q⟩ := hid_not q
          have nB : a ∉ Bs.flatten := fun z => t ((h2 a).mpr (.inl (.inr z)))
          rw [hid_at]
          · exact pr a o nB q
          · rintro (z | z | z)
            · exact t (.inl z)
            · rcases (own2 a (List.mem_append_left _ z)).1 with y | y
              · exact nB y
              · rw [y] at q; cases q
            · rcases r3 a z with y | y
              · exact t ((h2 a).mpr (.inr y))
              · rcases (own2 a (List.mem_append_right _ y)).1 with y | y
                · exact nB y
                · rw [y] at q; cases q
theorem sx_cio {f : Nat} {x : Str} {is : List (Nat × Bool)} (A : FnAt X W x (ioOf 0 is) (F f)) (tk : Takes X wx) (hg : Gl X x) (ha : PA X (e :: es) (tNm (is.map (·.1)))) (nd : (trues is).Nodup) (hdb : (x == ("__debug__" : Str)) = false) (hs : (e :: es).all nstar = true) {x' : String} :
    PE X (.Call (.Name x p) (e :: es) [] pos) (tX W F wx (.cio f x' is)) := by
  obtain ⟨k, fa, fd, ps, hnp, F1, hr, hm, hk, hb⟩ := A.ex
  have h2 := two hs
  refine PE.imp (pe_callS F1 hr hg hm hk hb (fun σ => passAt tk σ) ha hdb (star_cons h2.1) (star_any h2.2)) fun σ H Q h => ?_
  obtain ⟨ac, Γ, As, s, h⟩ := h
  have gen : ∀ is' : List Nat, (∃ vs, NmV σ is' vs) ∨ ¬ ∃ vs, NmV σ is' vs := fun _ => Classical.em _
  -- every argument has a value
  have hv : ∃ vs, NmV σ (is.map (·.1)) vs := by
    simp only [evX] at h
    cases ha : argsIO Γ is with
    | none => rw [ha] at h; exact h.elim
    | some args =>
      clear h
      have : ∀ {is : List (Nat × Bool)} {args : List (D × Nat)}, argsIO Γ is = some args → ∃ vs, NmV σ (is.map (·.1)) vs := by
        intro is
        induction is with
        | nil => intro _ _; exact ⟨[], .nil⟩
        | cons q is ih =>
          intro args ha
          obtain ⟨i, b⟩ := q
          simp only [argsIO] at ha
          split at ha
          · rename_i d n hi
            rw [Option.bind_eq_some_iff] at ha
            obtain ⟨args', ha', _⟩ := ha
            obtain ⟨vs, hvs⟩ := ih ha'
            obtain ⟨v, _, q1, _, _⟩ := s.slot i d n hi
            exact ⟨v :: vs, .cons q1 hvs⟩
          · cases ha
      exact this ha
  obtain ⟨vs, hv⟩ := hv
  exact ⟨vs, hv, cio_ok hnp s hv nd h⟩
end
end GL

/-! GL19: where one stands; the text of an expression held against the core's. -/
namespace GL
open PySem L2 PyProof.Rows
/-! ### methods of texts -/
theorem joinL_eq (s : Tx) : ∀ ts : List Tx, TL.joinL s ts = joinT s ts
  | [] => rfl
  | [_] => rfl
  | a :: b :: r => by
    show a ++ (s ++ TL.joinL s (b :: r)) = a ++ (s ++ joinT s (b :: r))
    rw [joinL_eq s (b :: r)]
theorem join_toS (s : Tx) (ts : List Tx) : Txt.join (toS s) (ts.map toS) = toS (joinT s ts) := by
  rw [TL.join_eq]
  have h := TL.tl_join (toS s) (ts.map toS)
  have e : (ts.map toS).map TL.tl = ts := by
    rw [List.map_map]
    exact List.map_id'' (fun _ => rfl) ts
  rw [e, show TL.tl (toS s) = s from rfl, joinL_eq] at h
  rw [← toS_tl (Str.join (toS s) (ts.map toS))]
  congr 1
theorem strsD_fro {W : Wd} {H : Hp} : ∀ {xs : List D} {ts : List Tx} {us : List V}, strsD xs = some ts → Fros W H xs us → us = (ts.map toS).map V.str ∧ ∀ t ∈ ts, tok t
  | [], ts, us, h, g => by
    simp only [strsD, Option.some.injEq] at h
    subst h; cases g
    exact ⟨rfl, fun _ h => by cases h⟩
  | x :: xs, ts, us, h, ⟨v, r, e, h1, h2⟩ => by
    subst e
    cases x <;> simp only [strsD] at h <;> first | cases h; done | skip
    rw [Option.map_eq_some_iff] at h
    obtain ⟨q, hq, rfl⟩ := h
    obtain ⟨e1, e2⟩ := strsD_fro hq h2
    obtain ⟨rfl, k⟩ := h1
    rw [e1]
    exact ⟨rfl, fun t ht => (List.mem_cons.mp ht).elim (fun e => by rw [e]; exact k) (e2 t)⟩
theorem tok_join {s : Tx} (hs : tok s) : ∀ {ts : List Tx}, (∀ t ∈ ts, tok t) → tok (joinT s ts)
  | [], _ => fun c hc => by cases hc
  | [a], h => h a (by simp)
  | a :: b :: r, h => tok_app (h a (by simp)) (tok_app hs (tok_join hs fun t ht => h t (List.mem_cons_of_mem _ ht)))
section
variable {X : Cx} {W : Wd} {F : Fn} {wx : WX} {p pos apos : Pos} {o e : Expr} {ca cb : CE}
/-- o.m(e) of a text, by values -/
theorem mth1_read {m : Me} {r : V → List V → Hp → VK → Prop} (hst : ∀ x, meOk m x = true → ∃ t, x = .str t) {σ : L2.St} {H : Hp} {Q : VK} (hfr : (CE.mth m ca (.cons cb .nil)).fresh = true) (h : tE W F wx (.mth m ca (.cons cb .nil)) σ H Q)
    (k : ∀ (T : Addr → Prop) (d : D) (n : Nat) (x : V) (e : D) (m' : Nat) (y : V) (H1 : Hp), (∀ a, T a → ∃ o, H1 a = some o) → RsB W T H1 n d x → RsB W T H1 m' e y → rE W wx σ H1 Q true T (opMe m (d, n, ca.fresh) [(e, m', cb.fresh)]) → r x [y] H1 Q) : tM1 r (tE W F wx ca) (tE W F wx cb) σ H Q := by
  obtain ⟨ac, Γ, As, s, h⟩ := h
  rw [hfr] at h
  simp only [ev] at h
  refine rE.bind s h fun d n v H1 e1 x1 s1 r1 h1 => ?_
  split at h1
  · rename_i hm
    obtain ⟨t, rfl⟩ := hst d hm
    refine ⟨⟨_, r1.b.str⟩, ac, Γ, As, s1, ?_⟩
    simp only [evA] at h1
    cases e2 : ev F cb Γ with
    | bad => rw [e2] at h1; exact h1.elim
    | ex k fs => rw [e2] at h1; exact rE.on h1 x1
    | ok d2 n2 =>
      rw [e2] at h1
      intro y H2 x2 r2
      exact k (tot ac As) _ _ _ _ _ _ _ (fun a t => (s1.mono x2).there t) (r1.b.mono x2) r2.b (rE.on h1 (x1.trans x2))
  · exact h1.elim
theorem se_join (ho : PE X o (tE W F wx ca)) (he : PE X e (tE W F wx cb)) (hs : nstar e = true) (hb : ncall o = true) (hl : (apos.endLine == pos.line) = true) : PE X (.Call (.Attribute o "join" apos) [e] [] pos) (tE W F wx (.mth .join ca (.cons cb .nil))) := by
  refine PE.imp (pe_join ho he (by rw [star_cons hs]; rfl) (abase hb) hl) fun σ H Q h => ?_
  refine mth1_read (fun x hx => by cases x <;> simp [meOk] at hx; exact ⟨_, rfl⟩) rfl h fun T d n x e2 m' y H1 ht rx ry h => ?_
  cases d <;> first | exact h.elim | skip
  cases e2 <;> first | exact h.elim | skip
  all_goals
    simp only [opMe] at h
    split at h
    · rename_i ts hts
      split at h
      · rename_i hlen
        have key : ∃ q us ds, y = .ref q ∧ (SqL X.K H1 q us ∨ SqT X.K H1 q us) ∧ strsD ds = some ts ∧ Fros W H1 ds us := by
          first
            | (obtain ⟨q, us, e1, hq, tq, g⟩ := ry.tup; exact ⟨q, us, _, e1, .inr (SqT.of hq), hts, g.mono hid_full⟩)
            | (obtain ⟨q, us, e1, hq, g⟩ := ry.lst; exact ⟨q, us, _, e1, .inl (SqL.of hq), hts, g⟩)
        obtain ⟨q, us, ds, rfl, hq, hts, g⟩ := key
        obtain ⟨rfl, tk⟩ := strsD_fro hts g
        refine ⟨_, q, ts.map toS, rx.str, rfl, hq, ?_, ?_⟩
        · rw [List.map_map, List.length_map, toS_len]
          have : (fun x => Str.length (toS x)) = List.length := funext fun x => toS_len x
          show (ts.map fun x => Str.length (toS x)).sum + _ ≤ _
          rw [this]; exact hlen
        · rw [join_toS]; exact rE.str h (tok_join rx.tok tk)
      · exact h.elim
    · exact h.elim

theorem splitC_ne (c : Nat) : ∀ s : Tx, splitC c s ≠ []
  | [] => by simp [splitC]
  | a :: r => by
    unfold splitC
    split
    · simp
    · cases splitC c r <;> simp
theorem spl_splitC (c : Nat) : ∀ (acc s : Tx), TL.spl [c] 0 acc s = match splitC c s with | [] => [acc] | x :: xs => (acc ++ x) :: xs
  | acc, [] => by simp [TL.spl, splitC]
  | acc, a :: r => by
    have hp : TL.pre [c] (a :: r) = decide (a = c) := by
      simp only [TL.pre, List.length_singleton, List.take_succ_cons, List.take_zero]
      by_cases h : a = c
      · subst h; simp
      · simp [h]
    unfold TL.spl splitC
    rw [hp]
    by_cases h : a = c
    · rw [if_pos (by simpa using h), if_pos h]
      simp only [List.length_singleton, Nat.sub_self, List.append_nil]
      rw [spl_splitC c [] r]
      cases e : splitC c r with
      | nil => exact absurd e (splitC_ne c r)
      | cons x xs => simp
    · rw [if_neg (by simpa using h), if_neg h, spl_splitC c (acc ++ [a]) r]
      cases splitC c r <;> simp
theorem splitC_mem {c : Nat} : ∀ {s : Tx} {t : Tx}, t ∈ splitC c s → ∀ x ∈ t, x ∈ s
  | [], t, h, x, hx => by simp [splitC] at h; subst h; cases hx
  | a :: r, t, h, x, hx => by
    unfold splitC at h
    split at h
    · rcases List.mem_cons.mp h with rfl | h
      · cases hx
      · exact List.mem_cons_of_mem _ (splitC_mem h x hx)
    · cases e : splitC c r with
      | nil => exact absurd e (splitC_ne c r)
      | cons y ys =>
        rw [e] at h
        rcases List.mem_cons.mp h with rfl | h
        · rcases List.mem_cons.mp hx with rfl | hx
          · exact List.mem_cons_self
          · exact List.mem_cons_of_mem _ (splitC_mem (by rw [e]; exact List.mem_cons_self) x hx)
        · exact List.mem_cons_of_mem _ (splitC_mem (by rw [e]; exact List.mem_cons_of_mem _ h) x hx)
theorem split_toS {c : Nat} (hc : c < 128) (s : Tx) : Txt.split (toS s) (toS [c]) = (splitC c s).map toS := by
  have hk : Builtin.Str.strKind (toS [c]) = 1 := by
    unfold Builtin.Str.strKind
    rw [if_pos (by simp; omega)]
  have h := TL.split_spl (toS s) (toS [c]) (by simp [TL.tl]) (by rw [hk]; unfold Builtin.Str.strKind; (repeat' split) <;> omega)
  apply TL.map_tl_inj
  rw [h, List.map_map]
  have e1 : (TL.tl ∘ toS) = id := by funext t; rfl
  rw [e1, List.map_id]
  show TL.spl [c] 0 [] s = splitC c s
  rw [spl_splitC]
  cases e : splitC c s with
  | nil => exact absurd e (splitC_ne c s)
  | cons x xs => simp
theorem fros_strs {H : Hp} : ∀ {ts : List Tx}, (∀ t ∈ ts, tok t) → Fros W H (ts.map D.str) ((ts.map toS).map V.str)
  | [], _ => rfl
  | t :: r, h => ⟨_, _, rfl, ⟨rfl, h t List.mem_cons_self⟩, fros_strs fun t ht => h t (List.mem_cons_of_mem _ ht)⟩
theorem se_split (ho : PE X o (tE W F wx ca)) (he : PE X e (tE W F wx cb)) (hs : nstar e = true) (hb : ncall o = true) (hl : (apos.endLine == pos.line) = true) : PE X (.Call (.Attribute o "split" apos) [e] [] pos) (tE W F wx (.mth .split ca (.cons cb .nil))) := by
  refine PE.imp (pe_split ho he (by rw [star_cons hs]; rfl) (abase hb) hl) fun σ H Q h => ?_
  refine mth1_read (fun x hx => by cases x <;> simp [meOk] at hx; exact ⟨_, rfl⟩) rfl h fun T d n x e2 m' y H1 ht rx ry h => ?_
  cases d <;> first | exact h.elim | skip
  rename_i s
  cases e2 <;> first | exact h.elim | skip
  rename_i t
  match t, ry, h with
  | [], _, h => exact h.elim
  | _ :: _ :: _, _, h => exact h.elim
  | [c], ry, h =>
    simp only [opMe] at h
    split at h
    · rename_i hc
      refine ⟨toS s, toS [c], rx.str, by rw [ry.str], by simp [Str.length], by rw [toS_len, sizeLine_eq]; exact hc.2, fun p hp => ?_⟩
      rw [split_toS hc.1]
      refine h _ _ (Ex.new hp) (Rs.lst hp (fros_strs fun t ht z hz => rx.tok z (splitC_mem ht z hz)) (Ex.refl H1))
    · exact h.elim
theorem pre_eq : ∀ S l : Tx, preB S l = TL.pre S l
  | [], l => by simp [preB, TL.pre]
  | s :: S, [] => by simp [preB, TL.pre]
  | s :: S, c :: r => by
    rw [preB, pre_eq S r]
    unfold TL.pre
    rw [List.length_cons, List.take_succ_cons]
    by_cases h : s = c
    · subst h; simp
    · have h2 : ¬ c = s := fun z => h z.symm
      simp [h, h2]
theorem par_eq (S : Tx) : ∀ l acc : Tx, parT S acc l = TL.par S acc l
  | [], acc => rfl
  | c :: r, acc => by
    rw [parT, TL.par, pre_eq, par_eq S r]
theorem par_mem {S : Tx} : ∀ {l acc p q : Tx}, parT S acc l = some (p, q) → (∀ x ∈ p, x ∈ acc ∨ x ∈ l) ∧ ∀ x ∈ q, x ∈ l
  | [], _, _, _, h => by cases h
  | c :: r, acc, p, q, h => by
    rw [parT] at h
    split at h
    · cases h
      exact ⟨fun x hx => .inl hx, fun x hx => List.mem_of_mem_drop hx⟩
    · obtain ⟨h1, h2⟩ := par_mem h
      refine ⟨fun x hx => ?_, fun x hx => List.mem_cons_of_mem _ (h2 x hx)⟩
      rcases h1 x hx with z | z
      · rcases List.mem_append.mp z with z | z
        · exact .inl z
        · rw [List.mem_singleton.mp z]; exact .inr List.mem_cons_self
      · exact .inr (List.mem_cons_of_mem _ z)
theorem fros3 {H : Hp} {a b c : Tx} (ha : tok a) (hb : tok b) (hc : tok c) : Fros W H [.str a, .str b, .str c] [.str (toS a), .str (toS b), .str (toS c)] :=
  ⟨_, _, rfl, ⟨rfl, ha⟩, _, _, rfl, ⟨rfl, hb⟩, _, _, rfl, ⟨rfl, hc⟩, rfl⟩
theorem se_partition (ho : PE X o (tE W F wx ca)) (he : PE X e (tE W F wx cb)) (hs : nstar e = true) (hb : ncall o = true) (hl : (apos.endLine == pos.line) = true) : PE X (.Call (.Attribute o "partition" apos) [e] [] pos) (tE W F wx (.mth .partition ca (.cons cb .nil))) := by
  refine PE.imp (pe_partition ho he (by rw [star_cons hs]; rfl) (abase hb) hl) fun σ H Q h => ?_
  refine mth1_read (fun x hx => by cases x <;> simp [meOk] at hx; exact ⟨_, rfl⟩) rfl h fun T d n x e2 m' y H1 ht rx ry h => ?_
  cases d <;> first | exact h.elim | skip
  rename_i s
  cases e2 <;> first | exact h.elim | skip
  rename_i t
  simp only [opMe] at h
  split at h
  · rename_i hc
    have tks := rx.tok
    have tkt := ry.tok
    refine ⟨toS s, toS t, rx.str, by rw [ry.str], by
      rw [toS_len]
      cases t with
      | nil => exact absurd rfl hc.1
      | cons a b => rfl, by rw [toS_len, sizeLine_eq]; exact hc.2, fun p hp => ?_⟩
    cases e3 : parT t [] s with
    | none =>
      rw [e3] at h
      have e4 := SX.partition_none hc.1 (by rw [← par_eq]; exact e3)
      have e5 : Txt.partition (toS s) (toS t) = (toS s, toS [], toS []) := e4
      rw [e5]
      exact h _ _ (Ex.new hp) (Rs.tup hp ht (fros3 tks (fun c hc => by cases hc) (fun c hc => by cases hc)) (Ex.refl H1))
    | some pq =>
      obtain ⟨a, b⟩ := pq
      rw [e3] at h
      have e4 := SX.partition_some hc.1 (by rw [← par_eq]; exact e3)
      have e5 : Txt.partition (toS s) (toS t) = (toS a, toS t, toS b) := e4
      obtain ⟨m1, m2⟩ := par_mem e3
      rw [e5]
      exact h _ _ (Ex.new hp) (Rs.tup hp ht (fros3 (fun c hc => tks c ((m1 c hc).elim (fun z => by cases z) id)) tkt fun c hc => tks c (m2 c hc)) (Ex.refl H1))
  · exact h.elim
theorem ends_toS (s t : Tx) : Txt.endswith (toS s) (toS t) = (decide (t.length ≤ s.length) && decide (s.drop (s.length - t.length) = t)) := by
  unfold Txt.endswith
  rw [PySem.StrLaws.subAt_eq, toS_len, toS_len, Nat.zero_add]
  by_cases h : t.length ≤ s.length
  · have e : (toS s).cps.toList = s := rfl
    have e2 : (toS t).cps.toList = t := rfl
    rw [e, e2]
    have e3 : (s.drop (s.length - t.length)).take t.length = s.drop (s.length - t.length) := by
      rw [List.take_of_length_le]
      rw [List.length_drop]; omega
    rw [e3]
    congr 1
    by_cases q : s.drop (s.length - t.length) = t
    · simp [q]
    · rw [decide_eq_false q]
      exact beq_eq_false_iff_ne.mpr q
  · simp [h]
theorem se_endswith (ho : PE X o (tE W F wx ca)) (he : PE X e (tE W F wx cb)) (hs : nstar e = true) (hb : ncall o = true) (hl : (apos.endLine == pos.line) = true) : PE X (.Call (.Attribute o "endswith" apos) [e] [] pos) (tE W F wx (.mth .endswith ca (.cons cb .nil))) := by
  refine PE.imp (pe_m1 PySem.F.slot_str_endswith PySem.F.type_str_endswith mt_endswith ho he (by rw [star_cons hs]; rfl) (abase hb) hl) fun σ H Q h => ?_
  refine mth1_read (fun x hx => by cases x <;> simp [meOk] at hx; exact ⟨_, rfl⟩) rfl h fun T d n x e2 m' y H1 ht rx ry h => ?_
  cases d <;> first | exact h.elim | skip
  rename_i s
  cases e2 <;> first | exact h.elim | skip
  rename_i t
  refine ⟨toS s, toS t, rx.str, by rw [ry.str], ?_⟩
  rw [ends_toS]
  exact h _ _ (Ex.refl H1) (Rs.of0 rfl)
theorem idx_first {c : Nat} : ∀ {s : Tx} {i : Nat}, s[i]? = some c → (∀ k, k < i → s[k]? ≠ some c) → s.idxOf c = i
  | [], i, h, _ => by simp at h
  | a :: r, 0, h, _ => by
    simp only [List.getElem?_cons_zero, Option.some.injEq] at h
    subst h; simp
  | a :: r, i + 1, h, g => by
    have h0 := g 0 (by omega)
    simp only [List.getElem?_cons_zero, ne_eq, Option.some.injEq] at h0
    rw [List.idxOf_cons, idx_first (s := r) (i := i) (by simpa using h) fun k hk => by have := g (k + 1) (by omega); simpa using this]
    have : (a == c) = false := by simpa using h0
    rw [this]; rfl
theorem index_toS {c : Nat} {s : Tx} (h : c ∈ s) : Txt.index0 (toS s) (toS [c]) = some (s.idxOf c) := by
  unfold Txt.index0
  have at_ : ∀ i, PySem.StrLaws.At (toS s) (toS [c]) (toS s).length i ↔ s[i]? = some c := fun i => PySem.StrLaws.subAt_one (toS s) c i
  rcases PySem.StrLaws.occ_head (toS s) (toS [c]) 1 (Nat.le_refl _) with ⟨_, h2⟩ | ⟨i, r, h1, h2, h3⟩
  · obtain ⟨i, hi⟩ := List.getElem?_of_mem h
    exact absurd ((at_ i).mpr hi) (h2 i)
  · rw [h1, idx_first ((at_ i).mp h2) fun k hk z => h3 k hk ((at_ k).mpr z)]
    rfl
theorem mth1_readS {m : Me} {r : L2.St → V → List V → Hp → VK → Prop} (hst : ∀ x, meOk m x = true → ∃ t, x = .str t) {K : PySem.W.Frag} {σ : L2.St} {H : Hp} {Q : VK} (hfr : (CE.mth m ca (.cons cb .nil)).fresh = true) (h : tE W F wx (.mth m ca (.cons cb .nil)) σ H Q)
    (k : ∀ (T : Addr → Prop) (d : D) (n : Nat) (x : V) (e : D) (m' : Nat) (y : V) (H1 : Hp), (∀ a, T a → ∃ o, H1 a = some o) → RsB W T H1 n d x → RsB W T H1 m' e y → rE W wx σ H1 Q true T (opMe m (d, n, ca.fresh) [(e, m', cb.fresh)]) → r σ x [y] H1 Q) : tBMS K "str" r (tE W F wx ca) (tCons (tE W F wx cb) tNil) σ H Q := by
  obtain ⟨ac, Γ, As, s, h⟩ := h
  rw [hfr] at h
  simp only [ev] at h
  refine rE.bind s h fun d n v H1 e1 x1 s1 r1 h1 => ?_
  split at h1
  · rename_i hm
    obtain ⟨t, rfl⟩ := hst d hm
    refine ⟨by rw [r1.b.str]; rfl, ac, Γ, As, s1, ?_⟩
    simp only [evA] at h1
    cases e2 : ev F cb Γ with
    | bad => rw [e2] at h1; exact h1.elim
    | ex k fs => rw [e2] at h1; exact rE.on h1 x1
    | ok d2 n2 =>
      rw [e2] at h1
      intro y H2 x2 r2
      exact k (tot ac As) _ _ _ _ _ _ _ (fun a t => (s1.mono x2).there t) (r1.b.mono x2) r2.b (rE.on h1 (x1.trans x2))
  · exact h1.elim
theorem se_index (hc : X.calm = true) (tk : Takes X wx) (ho : PE X o (tE W F wx ca)) (he : PE X e (tE W F wx cb)) (hs : nstar e = true) (hb : ncall o = true) (hl : (apos.endLine == pos.line) = true) : PE X (.Call (.Attribute o "index" apos) [e] [] pos) (tE W F wx (.mth .index ca (.cons cb .nil))) := by
  refine PE.imp (pe_bmS PySem.F.plainAttrs_str PySem.F.slot_str_index PySem.F.type_str_index (mt_indexX hc tk) ho (pa_cons he pa_nil (star_cons hs)) (abase hb) (by rw [star_cons hs]; rfl) hl (star_cons hs)) fun σ H Q h => ?_
  refine mth1_readS (fun x hx => by cases x <;> simp [meOk] at hx; exact ⟨_, rfl⟩) rfl h fun T d n x e2 m' y H1 ht rx ry h => ?_
  cases d <;> first | exact h.elim | skip
  rename_i s
  cases e2 <;> first | exact h.elim | skip
  rename_i t
  match t, ry, h with
  | [], _, h => exact h.elim
  | _ :: _ :: _, _, h => exact h.elim
  | [c], ry, h =>
    simp only [opMe] at h
    split at h
    · rename_i hc
      refine ⟨toS s, toS [c], rx.str, by rw [ry.str], fun k hk => ?_, fun hn => ?_⟩
      · rw [index_toS hc] at hk
        cases hk
        exact h _ _ (Ex.refl H1) (Rs.of0 rfl)
      · rw [index_toS hc] at hn; cases hn
    · exact h.elim
theorem dctAt_isD {H : Hp} {a : Addr} {t : Bool} {ks : List D} {us : List V} (h : DctAt H a t ks us) : IsD H a := by
  cases t with
  | false => obtain ⟨kk, _, h, _⟩ := h; exact .inl ⟨_, .inl h⟩
  | true => obtain ⟨kk, _, h, _⟩ := h; exact .inr ⟨_, .inl h⟩
theorem se_get2 {f : Expr} {cc : CE} (hu : X.A.units + 65 < cLine) (ho : PE X o (tE W F wx ca)) (he : PE X e (tE W F wx cb)) (hf : PE X f (tE W F wx cc)) (m : M2 X o "get" apos e f pos) : PE X (.Call (.Attribute o "get" apos) [e, f] [] pos) (tE W F wx (.mth .get2 ca (.cons cb (.cons cc .nil)))) := by
  refine PE.imp (pe_dget2 (by omega) ho he hf m) fun σ H Q h => ?_
  obtain ⟨ac, Γ, As, s, h⟩ := h
  simp only [ev] at h
  refine rE.bind s h fun d n v H1 e1 x1 s1 r1 h1 => ?_
  split at h1
  · rename_i hm
    cases d <;> simp only [meOk] at hm <;> first | (cases hm; done) | skip
    rename_i t ks vs
    obtain ⟨p, us, rfl, hp, hl, g⟩ := r1.b.delem
    refine ⟨p, rfl, dctAt_isD hp, ac, Γ, As, s1, ?_⟩
    simp only [evA] at h1
    cases e2 : ev F cb Γ with
    | bad => rw [e2] at h1; exact h1.elim
    | ex k fs => rw [e2] at h1; exact rE.on h1 x1
    | ok d2 n2 =>
      rw [e2] at h1
      intro y H2 x2 r2
      have s2 := s1.mono x2
      refine ⟨ac, Γ, As, s2, ?_⟩
      cases e3 : ev F cc Γ with
      | bad => rw [e3] at h1; exact h1.elim
      | ex k fs => rw [e3] at h1; exact rE.on h1 (x1.trans x2)
      | ok d3 n3 =>
        rw [e3] at h1
        intro z H3 x3 r3
        have h2 := rE.on h1 (x1.trans (x2.trans x3))
        simp only [opMe] at h2
        split at h2
        · rename_i hk
          obtain ⟨p', us', e', hp', hl', g'⟩ := (r1.b.mono (x2.trans x3)).delem
          cases e'
          obtain ⟨ob, g1, g2⟩ := dct_get (Hf := H3) (P := fun d u => RsB W (tot ac As) H3 (n - 1) d u) hp' hl' hk (r2.b.mono x3).fro g'
          refine ⟨ob, g1, ?_⟩
          cases hd : dlook d2 ks vs with
          | some w =>
            rw [hd] at h2 g2
            obtain ⟨u, rfl, q⟩ := g2
            exact h2 _ _ (Ex.refl H3) q
          | none =>
            rw [hd] at h2 g2
            subst g2
            simp only at h2
            split at h2
            · rename_i hz
              exact h2 _ _ (Ex.refl H3) (Rs.of0 (Rs.fix r3 (fun a t => s2.there t) hz))
            · exact h2.elim
        · exact h2.elim
  · exact h1.elim
end
end GL

/-! GL20: the text of an expression held against the core's. -/
namespace GL
open PySem L2 PyProof.Rows
/-- the tables of a law: its defs by number, its constants, its exceptions' classes -/
structure Tb where
  fn : List (Str × List Nat)
  gl : List (Str × D)
  ex : List (Nat × Str)
  hs : List Nat
  xn : Option Nat
  cl : List (Nat × Str)
  me : List (Nat × Nat × Str)
def bltNames : List String := ["len", "tuple", "list", "int", "str", "min", "max", "sorted", "sum", "range", "enumerate", "zip", "reversed", "isinstance", "bool", "dict", "ValueError"]
def veT : List Value := [.type "ValueError", .type "Exception", .type "BaseException", .type "object"]
/-- what is known of an exception's class -/
structure ExOk (K : PySem.W.Frag) (mg : Str → Option Value) (C : Addr) (x : Str) (fl : List Str) : Prop where
  g : mg x = some (.ref C)
  k : PySem.W.keepIn K (.ref C) = true
  t : PySem.W.typeIn K (.ref C) = some (.type "type")
  is : ExcC K C
  ve : PySem.W.kitOne K (.ref C) (.type "ValueError") = some true
  xi : fl = [] → PySem.W.excIn K C veT "ValueError.__new__" = true
/-- where one stands -/
structure Gx (X : Cx) (W : Wd) (N : List Str) (sc : Scope) (wx : WX) (F : Fn) (tb : Tb) (hot : Bool) : Prop where
  hK : X.K = W.K
  hN : X.N = N
  nd : N.Nodup
  kind : X.env.scope.kind = .function
  kd : ∀ x k, sc.names.lookup x = some k → X.env.scope.names.lookup x = some k ∨ (k = .free ∧ X.env.scope.names.lookup x = some .cell)
  fnc : ∀ x, sc.names.lookup x = some .cell → X.fn x = true
  calm : hot = false → X.calm = true
  hsq : ∀ i w, W.pn i = some w → i ∈ tb.hs
  room : X.A.units + 65 < cLine
  tk : Takes X wx
  calls : hot = false → ∀ f x io, tb.fn[f]? = some (x, io) → FnAt X W x io (F f)
  glb : ∀ p ∈ tb.gl, ∃ u v, X.mg p.1 = some u ∧ RelV v u ∧ ∀ H, Fro W H p.2 v
  blt : ∀ b ∈ bltNames, X.mg (Str.ofString b) = none
  mks : hot = false → ∀ p ∈ tb.cl, MkAt X W p.2 (F p.1)
  mts : hot = false → ∀ p ∈ tb.me, MtAt X W p.2.1 p.2.2 (F p.1)
  exs : ∀ p ∈ tb.ex, ExOk X.K X.mg (W.cls p.1) p.2 (W.flds p.1)
  exm : ∀ p ∈ tb.ex, ∀ q ∈ tb.ex, PySem.W.exmOne X.K (.ref (W.cls p.1)) (.ref (W.cls q.1)) = some (subEx p.1 q.1)
  fl : ∀ c, GL.bare c = true → W.flds c = []
  hx : ∀ i, tb.xn = some i → ∃ (a : Addr) (p : Nat × Str) (fs : List D), W.pn i = some (.ref a) ∧ F EXF [] = .ok (.tup (.int (p.1 : Int) :: fs)) 0 [] ∧ p ∈ tb.ex ∧ CallR X (.builtin "isinstance") (rIsE X.K (W.cls p.1) a)
def vOk (sc : Scope) (x : Str) : Bool := match sc.names.lookup x with
  | some .local => true
  | some .cell => true
  | some .free => true
  | _ => false
def lOk (sc : Scope) (x : Str) : Bool := match sc.names.lookup x with
  | some .local => true
  | some .cell => true
  | _ => false
def okN (x : Str) : Bool := !(x == ("__debug__" : Str)) && !(x == ("__classdict__" : Str))
def nmOk (N : List Str) (sc : Scope) (i : Nat) (x : Str) : Bool := decide (N[i]? = some x) && (vOk sc x && okN x)
def stOk (N : List Str) (sc : Scope) (i : Nat) (x : Str) : Bool := decide (N[i]? = some x) && lOk sc x
def gOk (sc : Scope) (x : Str) : Bool := decide (sc.names.lookup x = some .globalImplicit)
def opBb : Op → Operator → Bool
  | .add, .Add | .sub, .Sub | .mul, .Mult | .fdiv, .FloorDiv | .mod, .Mod | .pow, .Pow => true
  | _, _ => false
def opCb : Cm → CmpOp → Bool
  | .eq, .Eq | .ne, .NotEq | .lt, .Lt | .le, .LtE | .gt, .Gt | .ge, .GtE | .is_, .Is | .isnot, .IsNot | .in_, .In | .notin, .NotIn => true
  | _, _ => false
def mC : D → Const → Bool
  | .non, .none => true
  | .bl a, .bool b => a == b
  | .int i, .int j => decide (i = j)
  | .str t, .str s => decide (s.cps.toList = t) && t.all fun c => decide (c < 1114112)
  | _, _ => false
def biName : Bi → String
  | .len => "len" | .tuple => "tuple" | .list => "list" | .int => "int" | .str => "str" | .min2 => "min" | .max2 => "max" | .min1 => "min" | .max1 => "max" | .maxd => "max" | .sorted => "sorted" | .sum => "sum" | .dict => "dict"
/-- the built-ins that there are rules for; which want a calm place -/
def biOk (hot : Bool) : Bi → Bool
  | .len => true | .tuple => true | .list => true | .int => true
  | .min2 => !hot | .max2 => !hot
  | .sorted => true
  | _ => false
def CEs.len : CEs → Nat
  | .nil => 0
  | .cons _ es => es.len + 1
def tgOk (N : List Str) (sc : Scope) : List Nat → List Expr → Bool
  | [], [] => true
  | i :: is, .Name x _ :: ts => stOk N sc i x && tgOk N sc is ts
  | _, _ => false
/-- a target: one name or several -/
def tg1 (N : List Str) (sc : Scope) (is : List Nat) : Expr → Bool
  | .Name x _ => match is with
    | [i] => stOk N sc i x
    | _ => false
  | .Tuple ts _ _ => match is with
    | _ :: _ :: _ => tgOk N sc is ts
    | _ => false
  | _ => false
def tgNames : Expr → List Str
  | .Name x _ => [x]
  | .Tuple ts _ _ => ts.map fun t => match t with
    | .Name x _ => x
    | _ => ""
  | _ => []
/-- walks that hand out pairs want a target of several names -/
def itg : CI → Expr → Bool
  | .zip _ _, .Tuple _ _ _ => true
  | .zip _ _, _ => false
  | .enum _, .Tuple _ _ _ => true
  | .enum _, _ => false
  | _, _ => true
mutual
def mE (N : List Str) (tb : Tb) (hot : Bool) : CE → Scope → Expr → Bool
  | .var i, sc, e => match e with
    | .Name x _ => nmOk N sc i x
    | _ => false
  | .cst d, _, e => match e with
    | .Constant c _ _ => mC d c
    | _ => false
  | .glo s d, sc, e => match e with
    | .Name x _ => gOk sc x && (okN x && tb.gl.any fun p => decide (p.1 = x) && decide (p.2 = d))
    | _ => false
  | .tup es, sc, e => match e with
    | .Tuple xs _ _ => mEs N tb hot es sc xs && (decide (es.len ≤ 1000) && decide (xs.length ≤ 1000))
    | _ => false
  | .lst n es, sc, e => match e with
    | .List xs _ => mEs N tb hot es sc xs && (decide (n ≠ 0) && decide (es.len ≤ 1000))
    | _ => false
  | .dnew t n, sc, e => match e with
    | .Dict [] [] _ => decide (n ≠ 0)
    | _ => false
  | .bin o a b, sc, e => match e with
    | .BinOp x op y _ => opBb o op && (mE N tb hot a sc x && mE N tb hot b sc y)
    | _ => false
  | .neg a, sc, e => match e with
    | .UnaryOp .USub x _ => mE N tb hot a sc x
    | _ => false
  | .cmp o a b, sc, e => match e with
    | .Compare x [op] [y] _ => opCb o op && (nset y && (mE N tb hot a sc x && mE N tb hot b sc y))
    | _ => false
  | .chain o p a b c, sc, e => match e with
    | .Compare x [op, op2] [y, z] _ => opCb o op && (opCb p op2 && (nset z && (mE N tb hot a sc x && (mE N tb hot b sc y && mE N tb hot c sc z))))
    | _ => false
  | .and a b, sc, e => match e with
    | .BoolOp .And (x :: y :: r) p => mE N tb hot a sc x && (match r with
      | [] => mE N tb hot b sc y
      | _ :: _ => mE N tb hot b sc (.BoolOp .And (y :: r) p))
    | _ => false
  | .or a b, sc, e => match e with
    | .BoolOp .Or (x :: y :: r) p => mE N tb hot a sc x && (match r with
      | [] => mE N tb hot b sc y
      | _ :: _ => mE N tb hot b sc (.BoolOp .Or (y :: r) p))
    | _ => false
  | .not a, sc, e => match e with
    | .UnaryOp .Not x _ => mE N tb hot a sc x
    | _ => false
  | .idx a b, sc, e => match e with
    | .Subscript x y _ => nslice y && (mE N tb hot a sc x && mE N tb hot b sc y)
    | _ => false
  | .sll a b, sc, e => match e with
    | .Subscript x (.Slice (some y) none none _) _ => mE N tb hot a sc x && mE N tb hot b sc y
    | _ => false
  | .slu a b, sc, e => match e with
    | .Subscript x (.Slice none (some y) none _) _ => mE N tb hot a sc x && mE N tb hot b sc y
    | _ => false
  | .slb a b c, sc, e => match e with
    | .Subscript x (.Slice (some y) (some z) none _) _ => mE N tb hot a sc x && (mE N tb hot b sc y && mE N tb hot c sc z)
    | _ => false
  | .srev a, sc, e => match e with
    | .Subscript x (.Slice none none (some (.UnaryOp .USub (.Constant (.int i) _ _) _)) _) _ => decide (i = 1) && mE N tb hot a sc x
    | _ => false
  | .call f s es, sc, e => match e with
    | .Call (.Name x _) (y :: ys) [] _ => !hot && (gOk sc x && (okN x && ((match tb.fn[f]? with
      | some (x', _) => decide (x' = x)
      | none => false) && (mEs N tb hot es sc (y :: ys) && (y :: ys).all nstar))))
    | _ => false
  | .blt b es, sc, e => match e with
    | .Call (.Name x _) (y :: ys) [] _ => decide (x = Str.ofString (biName b)) && (biOk hot b && (gOk sc x && (mEs N tb hot es sc (y :: ys) && (y :: ys).all nstar)))
    | _ => false
  | .mth m a es, sc, e => match e with
    | .Call (.Attribute o nm p1) [y] [] p2 => match m, es with
      | .join, .cons b .nil => decide (nm = "join") && (mE N tb hot a sc o && (mE N tb hot b sc y && (nstar y && (ncall o && (p1.endLine == p2.line)))))
      | .split, .cons b .nil => decide (nm = "split") && (mE N tb hot a sc o && (mE N tb hot b sc y && (nstar y && (ncall o && (p1.endLine == p2.line)))))
      | .partition, .cons b .nil => decide (nm = "partition") && (mE N tb hot a sc o && (mE N tb hot b sc y && (nstar y && (ncall o && (p1.endLine == p2.line)))))
      | .endswith, .cons b .nil => decide (nm = "endswith") && (mE N tb hot a sc o && (mE N tb hot b sc y && (nstar y && (ncall o && (p1.endLine == p2.line)))))
      | .index, .cons b .nil => !hot && (decide (nm = "index") && (mE N tb hot a sc o && (mE N tb hot b sc y && (nstar y && (ncall o && (p1.endLine == p2.line))))))
      | _, _ => false
    | .Call (.Attribute o nm p1) [y, z] [] p2 => match m, es with
      | .get2, .cons b (.cons c .nil) => decide (nm = "get") && (mE N tb hot a sc o && (mE N tb hot b sc y && (mE N tb hot c sc z && (nstar y && (nstar z && (ncall o && (p1.endLine == p2.line)))))))
      | _, _ => false
    | _ => false
  | .isi a t, sc, e => match e with
    | .Call (.Name x _) [y, .Name z _] [] _ => decide (x = "isinstance") && (decide (z = Str.ofString t.name) && (gOk sc x && (gOk sc z && (mE N tb hot a sc y && nstar y))))
    | _ => false
  | .comp n tgs it cs el, sc, e => match e with
    | .ListComp elt [⟨tg, iter, ifs, 0⟩] scope _ => (!hot && decide (tb.xn = none)) && (decide (n ≠ 0) && (nset iter && ((mI N tb hot it sc iter && itg it tg) && (tg1 N scope tgs tg && (decide ((tgNames tg).length = tgs.length) && (blkC N sc scope ((tgNames tg).zip tgs) && (mE N tb hot el scope elt && (match cs, ifs with
      | .nil, [] => tgs.all fun i => !decide (i ∈ tb.hs)
      | .cons c1 .nil, [e1] => mE N tb hot c1 scope e1 && tgs.all fun i => !decide (i ∈ tb.hs)
      | _, _ => false))))))))
    | _ => false
  | .exis cs, sc, e => match e with
    | .Call (.Name x _) [.Name y _, .Name z _] [] _ => decide (x = "isinstance") && (gOk sc x && ((match tb.xn with
      | some i => nmOk N sc i y
      | none => false) && (gOk sc z && (okN z && tb.ex.any fun p => decide (p.2 = z) && decide (cs = [p.1])))))
    | _ => false
  | .exval, sc, e => match e with
    | .Call (.Name x _) [.Name y _, .Name z _] [] _ => decide (x = "isinstance") && (gOk sc x && ((match tb.xn with
      | some i => nmOk N sc i y
      | none => false) && (gOk sc z && decide (z = "ValueError"))))
    | _ => false
  | .exfld _, _, _ => false
  | .eatc f s es, sc, e => match e with
    | .Call (.Name x _) (y :: ys) [] _ => !hot && (gOk sc x && (okN x && ((match tb.fn[f]? with
      | some (x', io) => decide (x' = x) && decide (io = [])
      | none => false) && (mEs N tb hot es sc (y :: ys) && (y :: ys).all nstar))))
    | _ => false
  | .mk f s es, sc, e => match e with
    | .Call (.Name x _) (y :: ys) [] _ => !hot && (gOk sc x && (okN x && ((tb.cl.any fun p => decide (p = (f, x))) && (mEs N tb hot es sc (y :: ys) && (y :: ys).all nstar))))
    | _ => false
  | .mcall f s c a es, sc, e => match e with
    | .Call (.Attribute o nm p1) (y :: ys) [] p2 => !hot && ((tb.me.any fun p => decide (p = (f, c, nm))) && (mE N tb hot a sc o && (mEs N tb hot es sc (y :: ys) && ((y :: ys).all nstar && (ncall o && ((p1.endLine == p2.line) && decide ((y :: ys).length < 30)))))))
    | _ => false
def mEs (N : List Str) (tb : Tb) (hot : Bool) : CEs → Scope → List Expr → Bool
  | .nil, sc, xs => match xs with
    | [] => true
    | _ => false
  | .cons c cs, sc, xs => match xs with
    | x :: xs => mE N tb hot c sc x && (nstar x && mEs N tb hot cs sc xs)
    | _ => false
def mI (N : List Str) (tb : Tb) (hot : Bool) : CI → Scope → Expr → Bool
  | .val c, sc, e => mE N tb hot c sc e
  | .rng1 a, sc, e => match e with
    | .Call (.Name x _) [y] [] _ => decide (x = "range") && (gOk sc x && (mE N tb hot a sc y && nstar y))
    | _ => false
  | .rng2 a b, sc, e => match e with
    | .Call (.Name x _) [y, z] [] _ => decide (x = "range") && (gOk sc x && (mE N tb hot a sc y && (nstar y && (mE N tb hot b sc z && nstar z))))
    | _ => false
  | .zip a b, sc, e => match e with
    | .Call (.Name x _) [y, z] [] _ => decide (x = "zip") && (gOk sc x && (mE N tb hot a sc y && (nstar y && (mE N tb hot b sc z && nstar z))))
    | _ => false
  | .enum a, sc, e => match e with
    | .Call (.Name x _) [y] [] _ => decide (x = "enumerate") && (gOk sc x && (mE N tb hot a sc y && nstar y))
    | _ => false
  | _, _, _ => false
end
section
variable {X : Cx} {W : Wd} {N : List Str} {sc : Scope} {wx : WX} {F : Fn} {tb : Tb} {hot : Bool}
theorem Gx.vis (G : Gx X W N sc wx F tb hot) {x : Str} (h : vOk sc x = true) : Vis X.env.scope x := by
  unfold vOk at h
  split at h
  · rename_i e; rcases G.kd x _ e with q | ⟨q, _⟩; exact .inl q; cases q
  · rename_i e; rcases G.kd x _ e with q | ⟨q, _⟩; exact .inr (.inl q); cases q
  · rename_i e; rcases G.kd x _ e with q | ⟨_, q⟩; exact .inr (.inr q); exact .inr (.inl q)
  · cases h
theorem Gx.loc (G : Gx X W N sc wx F tb hot) {x : Str} (h : lOk sc x = true) : Loc X.env.scope x ∧ (X.fn x = true ∨ X.env.scope.names.lookup x = some .local) := by
  unfold lOk at h
  split at h
  · rename_i e; rcases G.kd x _ e with q | ⟨q, _⟩; exact ⟨.inl q, .inr q⟩; cases q
  · rename_i e; rcases G.kd x _ e with q | ⟨q, _⟩; exact ⟨.inr q, .inl (G.fnc x e)⟩; cases q
  · cases h
theorem Gx.gl (G : Gx X W N sc wx F tb hot) {x : Str} (h : gOk sc x = true) : Gl X x := by
  unfold gOk at h
  rcases G.kd x _ (of_decide_eq_true h) with q | ⟨q, _⟩
  · exact q
  · cases q
theorem Gx.np (G : Gx X W N sc wx F tb hot) {is : List Nat} (h : (is.all fun i => !decide (i ∈ tb.hs)) = true) : ∀ i ∈ is, W.pn i = none := fun i hi => by
  have := List.all_eq_true.mp h i hi
  cases q : W.pn i with
  | none => rfl
  | some w =>
    have z := G.hsq i w q
    simp [z] at this
theorem okN1 {x : Str} (h : okN x = true) : (x == ("__debug__" : Str)) = false ∧ (x == ("__classdict__" : Str)) = false := by
  unfold okN at h
  simp only [Bool.and_eq_true, Bool.not_eq_true'] at h
  exact h
theorem opBb_eq {o : Op} {op : Operator} (h : opBb o op = true) : op = opB o := by
  cases o <;> cases op <;> first | rfl | simp [opBb] at h
theorem opCb_eq {o : Cm} {op : CmpOp} (h : opCb o op = true) : op = opC o := by
  cases o <;> cases op <;> first | rfl | simp [opCb] at h
theorem mC_ok {d : D} {c : Const} {k : Nat} {p : Pos} (h : mC d c = true) : PE X (.Constant c k p) (tE W F wx (.cst d)) := by
  cases d <;> cases c <;> simp only [mC] at h <;> first | (cases h; done) | skip
  · exact se_cst pe_non fun _ => rfl
  · rw [beq_iff_eq] at h; subst h; exact se_cst pe_bl fun _ => rfl
  · have := of_decide_eq_true h; subst this; exact se_cst pe_int fun _ => rfl
  · simp only [Bool.and_eq_true, decide_eq_true_eq, List.all_eq_true] at h
    obtain ⟨rfl, h⟩ := h
    exact se_cst pe_str fun _ => ⟨by rw [toS_tl], h⟩
/-- an expression as a value and as a test -/
structure So (X : Cx) (W : Wd) (F : Fn) (wx : WX) (c : CE) (e : Expr) : Prop where
  pe : PE X e (tE W F wx c)
  pt : PT X e (tTs W F wx c)
  pw : ∀ op xs p, e = .BoolOp op xs p → PW X e (tTs W F wx c)
theorem So.plain {c : CE} {e : Expr} (h : PE X e (tE W F wx c)) (he : ∀ whole, isTrue e X.env whole = (do let v ← whole; standAt e.pos; holding [v] (truthy v))) (hb : ∀ op xs p, e ≠ .BoolOp op xs p) : So X W F wx c e :=
  ⟨h, st_val h he, fun op xs p q => (hb op xs p q).elim⟩
theorem evA_len : ∀ {cs : CEs} {Γ : Env} {vs : List (D × Nat × Bool)}, evA F cs Γ = .ok vs → vs.length = cs.len
  | .nil, Γ, vs, h => by simp only [evA, RA.ok.injEq] at h; subst h; rfl
  | .cons c cs, Γ, vs, h => by
    simp only [evA] at h
    cases e1 : ev F c Γ with
    | bad => rw [e1] at h; cases h
    | ex k fs => rw [e1] at h; cases h
    | ok d n =>
      rw [e1] at h
      cases e2 : evA F cs Γ with
      | bad => rw [e2] at h; cases h
      | ex k fs => rw [e2] at h; cases h
      | ok us =>
        rw [e2] at h
        cases h
        simp only [List.length_cons, CEs.len, evA_len e2]
theorem tgOk_ok (G : Gx X W N sc wx F tb hot) : ∀ {is : List Nat} {ts : List Expr}, tgOk N sc is ts = true → PGs X ts (is.foldr (fun i g => gCons (gName i) g) gNil) ∧ (assignEach ts X.env).length = is.length ∧ (assignEach ts X.env).findIdx? (·.1) = none
  | [], [], _ => ⟨pgs_nil, rfl, rfl⟩
  | [], _ :: _, h => by simp [tgOk] at h
  | _ :: _, [], h => by simp [tgOk] at h
  | i :: is, t :: ts, h => by
    cases t <;> simp only [tgOk] at h <;> first | (cases h; done) | skip
    rename_i x p
    simp only [Bool.and_eq_true, stOk, decide_eq_true_eq] at h
    obtain ⟨⟨h1, h2⟩, h3⟩ := h
    obtain ⟨g1, g2, g3⟩ := tgOk_ok G h3
    obtain ⟨l1, l2⟩ := G.loc h2
    refine ⟨pgs_cons (pg_name (by rw [G.hN]; exact G.nd) (by rw [G.hN]; exact h1) l1 l2) g1 rfl, ?_, ?_⟩
    · show (assignEach ts X.env).length + 1 = _
      rw [g2]; rfl
    · show ((false, assign (.Name x p) X.env) :: assignEach ts X.env).findIdx? (·.1) = none
      rw [List.findIdx?_cons, g3]; rfl
theorem tg1_ok (G : Gx X W N sc wx F tb hot) (hc : X.calm = true) {is : List Nat} {t : Expr} (h : tg1 N sc is t = true) : PG X t (tgT X.K is) := by
  cases t <;> simp only [tg1] at h <;> first | (cases h; done) | skip
  · rename_i x p
    split at h
    · simp only [Bool.and_eq_true, stOk, decide_eq_true_eq] at h
      obtain ⟨l1, l2⟩ := G.loc h.2
      exact pg_name (by rw [G.hN]; exact G.nd) (by rw [G.hN]; exact h.1) l1 l2
    · cases h
  · rename_i ts k p
    split at h
    · rename_i a b r
      obtain ⟨g1, g2, g3⟩ := tgOk_ok G h
      exact pg_tup hc g1 g2 g3
    · cases h
theorem Gx.blk (G : Gx X W N sc wx F tb hot) (hh : hot = false) (hxn : tb.xn = none) {s : Shared} {H : Hp} {scope : Scope} {cl : List (Str × Addr)} {C : Addr} {fp : List Addr} (hk : scope.kind = .function) (hu : ∀ y ∈ scope.names, scope.names.lookup y.1 = some y.2) :
    Gx (X.blk s H scope (compEnvC scope cl C X.env) fp) W N scope (fun _ _ _ _ => False) F tb hot where
  hK := G.hK
  hN := G.hN
  nd := G.nd
  kind := hk
  kd := fun x k h => by
    show (relS scope X.env.scope).names.lookup x = some k ∨ (k = .free ∧ (relS scope X.env.scope).names.lookup x = some .cell)
    by_cases hf : k = .free
    · have hm : ∃ k', (relS scope X.env.scope).names.lookup x = some k' := by
        have gen : ∀ {names : List (Str × NameKind)}, names.lookup x = some k → ∃ k', (names.map fun (n, k) => if (k == NameKind.free && X.env.scope.kind == .function && X.env.scope.names.lookup n == some .cell) then (n, NameKind.cell) else (n, k)).lookup x = some k' := by
          intro names
          induction names with
          | nil => intro h; simp at h
          | cons y r ih =>
            obtain ⟨n, k0⟩ := y
            intro h
            show ∃ k', List.lookup x ((if (k0 == NameKind.free && X.env.scope.kind == .function && X.env.scope.names.lookup n == some .cell) = true then (n, NameKind.cell) else (n, k0)) :: (r.map _)) = some k'
            cases hx : x == n with
            | true =>
              split <;> simp only [List.lookup_cons, hx] <;> exact ⟨_, rfl⟩
            | false =>
              simp only [List.lookup_cons, hx] at h
              split <;> simp only [List.lookup_cons, hx] <;> exact ih h
        exact gen h
      obtain ⟨k', hk'⟩ := hm
      obtain ⟨k2, h1, h2⟩ := lookup_relS hk'
      rw [h] at h1; cases h1
      rcases h2 with h2 | ⟨h2, h3⟩
      · rw [h2] at hk'; exact .inl hk'
      · rw [h3] at hk'; exact .inr ⟨h2, hk'⟩
    · exact .inl (lookup_relS_keep hf h)
  fnc := fun x h => by show (scope.names.lookup x == some .cell) = true; rw [h]; rfl
  calm := G.calm
  hsq := G.hsq
  room := G.room
  tk := fun u s' ⟨_, _, _, _, _, _, _, _, _, _, _, _, _, _, _, _, w⟩ => w.elim
  calls := fun h f x io q => (G.calls h f x io q).ex |> fun ⟨k, f, fd, ps, a⟩ => ⟨⟨k, f, fd, ps, a⟩⟩
  glb := G.glb
  blt := G.blt
  mks := fun h p q => (G.mks h p q).ex |> fun ⟨k, C, f, fd, ps, spi, a⟩ => ⟨⟨k, C, f, fd, ps, spi, a⟩⟩
  mts := fun h p q => (G.mts h p q).ex |> fun ⟨k, C, f, fd, ps, spi, a⟩ => ⟨⟨k, C, f, fd, ps, spi, a⟩⟩
  exs := G.exs
  exm := G.exm
  fl := G.fl
  hx := fun i e => by rw [hxn] at e; cases e
end
end GL

/-! GL21: an expression that is held against the core's does what the evaluator says. -/
namespace GL
open PySem L2 PyProof.Rows
theorem plain_true {e : Expr} {env : PySem.Env} (h : (match e with | .UnaryOp .Not _ _ => false | .BoolOp _ _ _ => false | .IfExp _ _ _ _ => false | .Compare _ _ _ _ => false | _ => true) = true) : ∀ whole, isTrue e env whole = (do let v ← whole; standAt e.pos; holding [v] (truthy v)) := by
  intro whole
  cases e <;> first | rfl | (simp at h; done) | skip
  rename_i op x p
  cases op <;> first | rfl | simp at h
theorem fsi {e : Expr} {env : PySem.Env} (h : nset e = true) : ∀ x, foldedSetIterable e env x = pure x := by
  intro x
  cases e <;> first | rfl | simp [nset] at h
variable {W : Wd} {N : List Str} {F : Fn} {tb : Tb} {hot : Bool}
theorem tgNames_ix {sc : Scope} {is : List Nat} {t : Expr} (h : tg1 N sc is t = true) : (tgNames t).length = is.length → ((tgNames t).zip is).map (·.2) = is := fun hl => by
  rw [List.map_snd_zip (by omega)]
/-! ### the exception of a suite -/
theorem kit_exm {K : PySem.W.Frag} {C D : Addr} {b c : Bool} (h : PySem.W.exmOne K (.ref C) (.ref D) = some b) (hc : PySem.W.exmOne K (.ref C) (.ref C) = some c) (hcc : c = true) : PySem.W.kitOne K (.ref C) (.ref D) = some b := by
  unfold PySem.W.kitOne
  split
  · rename_i e
    have e : Value.ref C = .ref D := beq_iff_eq.mp e
    cases e
    rw [h] at hc
    cases hc
    rw [hcc]
  · unfold PySem.W.exmOne at h
    split at h
    · exact h
    · cases h
theorem se_exis {X : Cx} {sc : Scope} {wx : WX} {i : Nat} {y : Str} {q : Nat × Str} {p p1 p2 pos : Pos} (G : Gx X W N sc wx F tb hot) (h1 : gOk sc "isinstance" = true) (hi : tb.xn = some i) (h2 : nmOk N sc i y = true) (h3 : gOk sc q.2 = true) (h4 : okN q.2 = true) (hq : q ∈ tb.ex) :
    PE X (.Call (.Name "isinstance" p) [.Name y p1, .Name q.2 p2] [] pos) (tE W F wx (.exis [q.1])) := by
  obtain ⟨a, r, fs, g1, g2, g3, g4⟩ := G.hx i hi
  simp only [nmOk, Bool.and_eq_true, decide_eq_true_eq] at h2
  have e2 := okN1 h2.2.2
  have E := G.exs q hq
  refine PE.imp (pe_callB g4 (G.gl h1) (G.blt "isinstance" (by decide)) boot_isinstance (pa_cons (pe_var (by rw [G.hN]; exact h2.1) (G.vis h2.2.1) e2.1 e2.2) (pa_cons (pe_glob (v := .ref (W.cls q.1)) (G.gl h3) E.g rfl (okN1 h4).1) pa_nil)) (by decide) (by decide)) fun σ H Q h => ?_
  obtain ⟨ac, Γ, As, s, h⟩ := h
  simp only [ev, g2] at h
  have hk := G.exm r g3 q hq
  have hk2 := G.exm r g3 r g3
  have hs : subEx r.1 r.1 = true := by simp [subEx]
  exact ⟨.ref a, s.pin i _ g1, .ref (W.cls q.1), .ref (W.cls q.1), subEx r.1 q.1, rfl, fun u hu => hu, kit_exm hk hk2 hs, h (.bl _) H (Ex.refl H) (Rs.of0 (by simp [Fro]))⟩
theorem se_exval {X : Cx} {sc : Scope} {wx : WX} {i : Nat} {y : Str} {p p1 p2 pos : Pos} (G : Gx X W N sc wx F tb hot) (h1 : gOk sc "isinstance" = true) (hi : tb.xn = some i) (h2 : nmOk N sc i y = true) (h3 : gOk sc "ValueError" = true) :
    PE X (.Call (.Name "isinstance" p) [.Name y p1, .Name "ValueError" p2] [] pos) (tE W F wx .exval) := by
  obtain ⟨a, r, fs, g1, g2, g3, g4⟩ := G.hx i hi
  simp only [nmOk, Bool.and_eq_true, decide_eq_true_eq] at h2
  have e2 := okN1 h2.2.2
  have hv : PE X (.Name "ValueError" p2) (tC (.ty "ValueError")) := pe_bltn (G.gl h3) (G.blt "ValueError" (by decide)) (show bootBuiltins "ValueError" = some (.type "ValueError") by decide +kernel) rfl (by decide) (by decide)
  refine PE.imp (pe_callB g4 (G.gl h1) (G.blt "isinstance" (by decide)) boot_isinstance (pa_cons (pe_var (by rw [G.hN]; exact h2.1) (G.vis h2.2.1) e2.1 e2.2) (pa_cons hv pa_nil)) (by decide) (by decide)) fun σ H Q h => ?_
  obtain ⟨ac, Γ, As, s, h⟩ := h
  simp only [ev, g2] at h
  exact ⟨.ref a, s.pin i _ g1, .ty "ValueError", .type "ValueError", true, rfl, fun u hu => hu, (G.exs r g3).ve, h (.bl _) H (Ex.refl H) (Rs.of0 (by simp [Fro]))⟩
mutual
theorem mE_ok : ∀ (c : CE) {X : Cx} {sc : Scope} {wx : WX} {e : Expr}, Gx X W N sc wx F tb hot → mE N tb hot c sc e = true → So X W F wx c e
  | .var i, X, sc, wx, e, G, h => by
    simp only [mE] at h
    split at h <;> first | (cases h; done) | skip
    rename_i x p
    simp only [nmOk, Bool.and_eq_true, decide_eq_true_eq] at h
    have q := okN1 h.2.2
    exact So.plain (se_var (by rw [G.hN]; exact h.1) (G.vis h.2.1) q.1 q.2) (plain_true rfl) fun _ _ _ z => nomatch z
  | .cst d, X, sc, wx, e, G, h => by
    simp only [mE] at h
    split at h <;> first | (cases h; done) | skip
    exact So.plain (mC_ok h) (plain_true rfl) fun _ _ _ z => nomatch z
  | .glo s d, X, sc, wx, e, G, h => by
    simp only [mE] at h
    split at h <;> first | (cases h; done) | skip
    rename_i x p
    simp only [Bool.and_eq_true, List.any_eq_true, decide_eq_true_eq] at h
    obtain ⟨h1, h2, q, hq, rfl, rfl⟩ := h
    obtain ⟨u, v, g1, g2, g3⟩ := G.glb q hq
    exact So.plain (se_glo (pe_glob (G.gl h1) g1 g2 (okN1 h2).1) g3) (plain_true rfl) fun _ _ _ z => nomatch z
  | .tup es, X, sc, wx, e, G, h => by
    simp only [mE] at h
    split at h <;> first | (cases h; done) | skip
    simp only [Bool.and_eq_true, decide_eq_true_eq] at h
    exact So.plain (se_tup (mEs_ok es G h.1) h.2.2 fun Γ vs hv => by rw [evA_len hv]; exact h.2.1) (plain_true rfl) fun _ _ _ z => nomatch z
  | .lst n es, X, sc, wx, e, G, h => by
    simp only [mE] at h
    split at h <;> first | (cases h; done) | skip
    simp only [Bool.and_eq_true, decide_eq_true_eq] at h
    exact So.plain (se_lst (mEs_ok es G h.1) h.2.1 fun Γ vs hv => by rw [evA_len hv]; exact h.2.2) (plain_true rfl) fun _ _ _ z => nomatch z
  | .dnew t n, X, sc, wx, e, G, h => by
    simp only [mE] at h
    split at h <;> first | (cases h; done) | skip
    exact So.plain (se_dnew (of_decide_eq_true h)) (plain_true rfl) fun _ _ _ z => nomatch z
  | .bin o a b, X, sc, wx, e, G, h => by
    simp only [mE] at h
    split at h <;> first | (cases h; done) | skip
    simp only [Bool.and_eq_true] at h
    obtain ⟨h0, h1, h2⟩ := h
    rw [opBb_eq h0]
    exact So.plain (se_bin (mE_ok a G h1).pe (mE_ok b G h2).pe) (plain_true rfl) fun _ _ _ z => nomatch z
  | .neg a, X, sc, wx, e, G, h => by
    simp only [mE] at h
    split at h <;> first | (cases h; done) | skip
    exact So.plain (se_neg (mE_ok a G h).pe) (plain_true rfl) fun _ _ _ z => nomatch z
  | .cmp o a b, X, sc, wx, e, G, h => by
    simp only [mE] at h
    split at h <;> first | (cases h; done) | skip
    simp only [Bool.and_eq_true] at h
    obtain ⟨h0, h1, h2, h3⟩ := h
    rw [opCb_eq h0]
    exact ⟨se_cmp G.hK G.room (mE_ok a G h2).pe (mE_ok b G h3).pe h1, st_cmp G.hK G.room (mE_ok a G h2).pe (mE_ok b G h3).pe h1, fun _ _ _ z => nomatch z⟩
  | .chain o p a b c, X, sc, wx, e, G, h => by
    simp only [mE] at h
    split at h <;> first | (cases h; done) | skip
    simp only [Bool.and_eq_true] at h
    obtain ⟨h0, h1, h2, h3, h4, h5⟩ := h
    rw [opCb_eq h0, opCb_eq h1]
    exact ⟨se_chain G.hK G.room (mE_ok a G h3).pe (mE_ok b G h4).pe (mE_ok c G h5).pe h2, st_chain G.hK G.room (mE_ok a G h3).pe (mE_ok b G h4).pe (mE_ok c G h5).pe h2, fun _ _ _ z => nomatch z⟩
  | .and a b, X, sc, wx, e, G, h => by
    simp only [mE] at h
    split at h <;> first | (cases h; done) | skip
    rename_i x y r p
    simp only [Bool.and_eq_true] at h
    have ha := mE_ok a G h.1
    have key : PE X (.BoolOp .And (y :: r) p) (tE W F wx b) ∧ PW X (.BoolOp .And (y :: r) p) (tTs W F wx b) := by
      cases r with
      | nil => have hb := mE_ok b G h.2; exact ⟨pe_one hb.pe, sw_and1 hb.pt⟩
      | cons z r => have hb := mE_ok b G h.2; exact ⟨hb.pe, hb.pw _ _ _ rfl⟩
    have pw := sw_and ha.pt key.2
    exact ⟨se_and ha.pe key.1, pw.pt, fun _ _ _ z => by cases z; exact pw⟩
  | .or a b, X, sc, wx, e, G, h => by
    simp only [mE] at h
    split at h <;> first | (cases h; done) | skip
    rename_i x y r p
    simp only [Bool.and_eq_true] at h
    have ha := mE_ok a G h.1
    have key : PE X (.BoolOp .Or (y :: r) p) (tE W F wx b) ∧ PW X (.BoolOp .Or (y :: r) p) (tTs W F wx b) := by
      cases r with
      | nil => have hb := mE_ok b G h.2; exact ⟨pe_one hb.pe, sw_or1 hb.pt⟩
      | cons z r => have hb := mE_ok b G h.2; exact ⟨hb.pe, hb.pw _ _ _ rfl⟩
    have pw := sw_or ha.pt key.2
    exact ⟨se_or ha.pe key.1, pw.pt, fun _ _ _ z => by cases z; exact pw⟩
  | .not a, X, sc, wx, e, G, h => by
    simp only [mE] at h
    split at h <;> first | (cases h; done) | skip
    have ha := mE_ok a G h
    exact ⟨se_not ha.pe, st_not ha.pt, fun _ _ _ z => nomatch z⟩
  | .idx a b, X, sc, wx, e, G, h => by
    simp only [mE] at h
    split at h <;> first | (cases h; done) | skip
    simp only [Bool.and_eq_true] at h
    exact So.plain (se_idx G.hK G.room (mE_ok a G h.2.1).pe (mE_ok b G h.2.2).pe h.1) (plain_true rfl) fun _ _ _ z => nomatch z
  | .sll a b, X, sc, wx, e, G, h => by
    simp only [mE] at h
    split at h <;> first | (cases h; done) | skip
    simp only [Bool.and_eq_true] at h
    exact So.plain (se_sll G.hK (mE_ok a G h.1).pe (mE_ok b G h.2).pe) (plain_true rfl) fun _ _ _ z => nomatch z
  | .slu a b, X, sc, wx, e, G, h => by
    simp only [mE] at h
    split at h <;> first | (cases h; done) | skip
    simp only [Bool.and_eq_true] at h
    exact So.plain (se_slu G.hK (mE_ok a G h.1).pe (mE_ok b G h.2).pe) (plain_true rfl) fun _ _ _ z => nomatch z
  | .slb a b c, X, sc, wx, e, G, h => by
    simp only [mE] at h
    split at h <;> first | (cases h; done) | skip
    simp only [Bool.and_eq_true] at h
    exact So.plain (se_slb G.hK (mE_ok a G h.1).pe (mE_ok b G h.2.1).pe (mE_ok c G h.2.2).pe) (plain_true rfl) fun _ _ _ z => nomatch z
  | .srev a, X, sc, wx, e, G, h => by
    simp only [mE] at h
    split at h <;> first | (cases h; done) | skip
    simp only [Bool.and_eq_true, decide_eq_true_eq] at h
    obtain ⟨rfl, h⟩ := h
    exact So.plain (se_srev (mE_ok a G h).pe) (plain_true rfl) fun _ _ _ z => nomatch z
  | .call f s es, X, sc, wx, e, G, h => by
    simp only [mE] at h
    split at h <;> first | (cases h; done) | skip
    simp only [Bool.and_eq_true, Bool.not_eq_true'] at h
    obtain ⟨hh, h1, h2, h3, h4, h5⟩ := h
    split at h3
    · rename_i x' io hx
      have e := of_decide_eq_true h3
      subst e
      exact So.plain (se_call (G.calls hh f _ io hx) G.tk (G.gl h1) (mEs_ok es G h4) (okN1 h2).1 h5) (plain_true rfl) fun _ _ _ z => nomatch z
    · cases h3
  | .blt b es, X, sc, wx, e, G, h => by
    simp only [mE] at h
    split at h <;> first | (cases h; done) | skip
    simp only [Bool.and_eq_true, decide_eq_true_eq] at h
    obtain ⟨rfl, h1, h2, h3, h4⟩ := h
    have ha := mEs_ok es G h3
    have hg := G.gl h2
    cases b <;> simp only [biOk] at h1 <;> first | (cases h1; done) | skip
    · exact So.plain (se_len G.hK hg (G.blt _ (by decide)) ha h4) (plain_true rfl) fun _ _ _ z => nomatch z
    · exact So.plain (se_tuple hg (G.blt _ (by decide)) ha h4) (plain_true rfl) fun _ _ _ z => nomatch z
    · exact So.plain (se_list hg (G.blt _ (by decide)) ha h4) (plain_true rfl) fun _ _ _ z => nomatch z
    · exact So.plain (se_int hg (G.blt _ (by decide)) ha h4) (plain_true rfl) fun _ _ _ z => nomatch z
    · exact So.plain (se_min2 (G.calm (by simpa using h1)) hg (G.blt _ (by decide)) ha h4) (plain_true rfl) fun _ _ _ z => nomatch z
    · exact So.plain (se_max2 (G.calm (by simpa using h1)) hg (G.blt _ (by decide)) ha h4) (plain_true rfl) fun _ _ _ z => nomatch z
    · exact So.plain (se_sorted hg (G.blt _ (by decide)) ha h4) (plain_true rfl) fun _ _ _ z => nomatch z
  | .mth m a es, X, sc, wx, e, G, h => by
    unfold mE at h
    split at h <;> first | (cases h; done) | skip
    · split at h
      · simp only [Bool.and_eq_true, decide_eq_true_eq] at h
        obtain ⟨rfl, h1, h2, h3, h4, h5⟩ := h
        exact So.plain (se_join (mE_ok a G h1).pe (mE_ok _ G h2).pe h3 h4 h5) (plain_true rfl) fun _ _ _ z => nomatch z
      · simp only [Bool.and_eq_true, decide_eq_true_eq] at h
        obtain ⟨rfl, h1, h2, h3, h4, h5⟩ := h
        exact So.plain (se_split (mE_ok a G h1).pe (mE_ok _ G h2).pe h3 h4 h5) (plain_true rfl) fun _ _ _ z => nomatch z
      · simp only [Bool.and_eq_true, decide_eq_true_eq] at h
        obtain ⟨rfl, h1, h2, h3, h4, h5⟩ := h
        exact So.plain (se_partition (mE_ok a G h1).pe (mE_ok _ G h2).pe h3 h4 h5) (plain_true rfl) fun _ _ _ z => nomatch z
      · simp only [Bool.and_eq_true, decide_eq_true_eq] at h
        obtain ⟨rfl, h1, h2, h3, h4, h5⟩ := h
        exact So.plain (se_endswith (mE_ok a G h1).pe (mE_ok _ G h2).pe h3 h4 h5) (plain_true rfl) fun _ _ _ z => nomatch z
      · simp only [Bool.and_eq_true, Bool.not_eq_true', decide_eq_true_eq] at h
        obtain ⟨hh, rfl, h1, h2, h3, h4, h5⟩ := h
        exact So.plain (se_index (G.calm hh) G.tk (mE_ok a G h1).pe (mE_ok _ G h2).pe h3 h4 h5) (plain_true rfl) fun _ _ _ z => nomatch z
      · cases h
    · split at h
      · simp only [Bool.and_eq_true, decide_eq_true_eq] at h
        obtain ⟨rfl, h1, h2, h3, h4, h5, h6, h7⟩ := h
        exact So.plain (se_get2 G.room (mE_ok a G h1).pe (mE_ok _ G h2).pe (mE_ok _ G h3).pe ⟨abase h6, by rw [star_cons h4, star_cons h5]; rfl, h7, by rw [star_cons h4, star_cons h5]; rfl⟩) (plain_true rfl) fun _ _ _ z => nomatch z
      · cases h
  | .isi a t, X, sc, wx, e, G, h => by
    simp only [mE] at h
    split at h <;> first | (cases h; done) | skip
    simp only [Bool.and_eq_true, decide_eq_true_eq] at h
    obtain ⟨rfl, h1, h2, h3, h4, h5⟩ := h
    exact So.plain (se_isi h1 (G.gl h2) (G.blt _ (by decide)) (G.gl h3) (by rw [h1]; exact G.blt _ (by cases t <;> decide)) (mE_ok a G h4).pe h5) (plain_true rfl) fun _ _ _ z => nomatch z
  | .comp n tgs it cs el, X, sc, wx, e, G, h => by
    unfold mE at h
    split at h <;> first | (cases h; done) | skip
    rename_i elt tg iter ifs scope p
    simp only [Bool.and_eq_true, Bool.not_eq_true', decide_eq_true_eq] at h
    obtain ⟨⟨hh, hxn⟩, hn, hns, ⟨hi, hit⟩, ht, hl, hb, hel, hcs⟩ := h
    have bo := blkOk_by hb
    have hk : scope.kind = .function := bo.kind
    have hu := bo.uniq
    have GB : ∀ (s : Shared) (H : Hp) (C : Addr) (cl : List (Str × Addr)) (fp : List Addr), Gx (X.blk s H scope (compEnvC scope cl C X.env) fp) W N scope (fun _ _ _ _ => False) F tb hot := fun s H C cl fp => G.blk hh hxn hk hu
    have hcalm := G.calm hh
    have bo2 : BlkOk X.N X.env.scope scope ((tgNames tg).zip tgs) := by
      refine ⟨bo.kind, bo.uniq, by rw [G.hN]; exact bo.ix, fun y hy e => ?_, by rw [G.hN]; exact bo.own⟩
      rcases bo.free y hy e with q | q
      · rcases G.kd _ _ q with q | ⟨q, _⟩
        · exact .inl q
        · cases q
      · rcases G.kd _ _ q with q | ⟨_, q⟩
        · exact .inr q
        · exact .inl q
    have hpn : ∀ i ∈ tgs, W.pn i = none := by
      split at hcs
      · exact G.np hcs
      · rw [Bool.and_eq_true] at hcs; exact G.np hcs.2
      · cases hcs
    refine So.plain (se_comp hcalm (by rw [G.hN]; exact G.nd) (mI_ok it G hi hit) bo2 (tgNames_ix ht hl) (fun s H C cl fp => by have := tg1_ok (GB s H C cl fp) hcalm ht; rw [show (X.blk s H scope (compEnvC scope cl C X.env) fp).K = W.K from G.hK] at this; exact this) (fun s H C cl fp => ?_) (fun s H C cl fp => (mE_ok el (GB s H C cl fp) hel).pe) (fsi hns) hn hpn) (plain_true rfl) fun _ _ _ z => nomatch z
    split at hcs
    · exact .inl ⟨rfl, rfl⟩
    · rw [Bool.and_eq_true] at hcs; exact .inr ⟨_, _, rfl, rfl, (mE_ok _ (GB s H C cl fp) hcs.1).pt⟩
    · cases hcs
  | .exis cs, X, sc, wx, e, G, h => by
    simp only [mE] at h
    split at h <;> first | (cases h; done) | skip
    simp only [Bool.and_eq_true, decide_eq_true_eq, List.any_eq_true] at h
    obtain ⟨rfl, h1, h2, h3, h4, q, hq, rfl, rfl⟩ := h
    split at h2
    · rename_i i hi
      exact So.plain (se_exis G h1 hi h2 h3 h4 hq) (plain_true rfl) fun _ _ _ z => nomatch z
    · cases h2
  | .exval, X, sc, wx, e, G, h => by
    simp only [mE] at h
    split at h <;> first | (cases h; done) | skip
    simp only [Bool.and_eq_true, decide_eq_true_eq] at h
    obtain ⟨rfl, h1, h2, h3, rfl⟩ := h
    split at h2
    · rename_i i hi
      exact So.plain (se_exval G h1 hi h2 h3) (plain_true rfl) fun _ _ _ z => nomatch z
    · cases h2
  | .exfld _, X, sc, wx, e, G, h => by simp only [mE] at h; cases h
  | .eatc f s es, X, sc, wx, e, G, h => by
    simp only [mE] at h
    split at h <;> first | (cases h; done) | skip
    simp only [Bool.and_eq_true, Bool.not_eq_true'] at h
    obtain ⟨hh, h1, h2, h3, h4, h5⟩ := h
    split at h3
    · rename_i x' io hx
      rw [Bool.and_eq_true] at h3
      have e := of_decide_eq_true h3.1
      have e2 := of_decide_eq_true h3.2
      subst e e2
      exact So.plain (se_eatc (G.calls hh f _ [] hx) G.tk (G.gl h1) (mEs_ok es G h4) (okN1 h2).1 h5) (plain_true rfl) fun _ _ _ z => nomatch z
    · cases h3
  | .mk f s es, X, sc, wx, e, G, h => by
    simp only [mE] at h
    split at h <;> first | (cases h; done) | skip
    simp only [Bool.and_eq_true, Bool.not_eq_true', List.any_eq_true, decide_eq_true_eq] at h
    obtain ⟨hh, h1, h2, ⟨p, hp, e1⟩, h4, h5⟩ := h
    have M := G.mks hh p hp
    subst e1
    exact So.plain (se_mk M (G.gl h1) (mEs_ok es G h4) (okN1 h2).1 h5) (plain_true rfl) fun _ _ _ z => nomatch z
  | .mcall f s c a es, X, sc, wx, e, G, h => by
    simp only [mE] at h
    split at h <;> first | (cases h; done) | skip
    simp only [Bool.and_eq_true, Bool.not_eq_true', List.any_eq_true, decide_eq_true_eq] at h
    obtain ⟨hh, ⟨p, hp, e1⟩, h2, h4, h5, h6, h7, h8⟩ := h
    have M := G.mts hh p hp
    subst e1
    exact So.plain (se_mcall M (mE_ok a G h2).pe (mEs_ok es G h4) (abase h6) h7 h8 h5) (plain_true rfl) fun _ _ _ z => nomatch z
theorem mEs_ok : ∀ (cs : CEs) {X : Cx} {sc : Scope} {wx : WX} {es : List Expr}, Gx X W N sc wx F tb hot → mEs N tb hot cs sc es = true → PA X es (tA W F wx cs)
  | .nil, X, sc, wx, es, G, h => by
    simp only [mEs] at h
    split at h <;> first | (cases h; done) | skip
    exact pa_nil_ok
  | .cons c cs, X, sc, wx, es, G, h => by
    simp only [mEs] at h
    split at h <;> first | (cases h; done) | skip
    simp only [Bool.and_eq_true] at h
    exact pa_ok (mE_ok c G h.1).pe (mEs_ok cs G h.2.2) (star_cons h.2.1)
theorem mI_ok : ∀ (ci : CI) {X : Cx} {sc : Scope} {wx : WX} {tg e : Expr}, Gx X W N sc wx F tb hot → mI N tb hot ci sc e = true → itg ci tg = true → PI X tg e (tI W F wx ci)
  | .val c, X, sc, wx, tg, e, G, h, ht => by
    simp only [mI] at h
    exact si_val G.hK (mE_ok c G h).pe
  | .rng1 a, X, sc, wx, tg, e, G, h, ht => by
    simp only [mI] at h
    split at h <;> first | (cases h; done) | skip
    simp only [Bool.and_eq_true, decide_eq_true_eq] at h
    obtain ⟨rfl, h1, h2, h3⟩ := h
    exact si_rng1 (G.gl h1) (G.blt _ (by decide)) (mE_ok a G h2).pe h3
  | .rng2 a b, X, sc, wx, tg, e, G, h, ht => by
    simp only [mI] at h
    split at h <;> first | (cases h; done) | skip
    simp only [Bool.and_eq_true, decide_eq_true_eq] at h
    obtain ⟨rfl, h1, h2, h3, h4, h5⟩ := h
    exact si_rng2 (G.gl h1) (G.blt _ (by decide)) (mE_ok a G h2).pe (mE_ok b G h4).pe h3 h5
  | .enum a, X, sc, wx, tg, e, G, h, ht => by
    simp only [mI] at h
    split at h <;> first | (cases h; done) | skip
    simp only [Bool.and_eq_true, decide_eq_true_eq] at h
    obtain ⟨rfl, h1, h2, h3⟩ := h
    cases tg <;> simp only [itg] at ht <;> first | (cases ht; done) | skip
    exact si_enum G.hK (G.gl h1) (G.blt "enumerate" (by decide)) (mE_ok a G h2).pe h3
  | .zip a b, X, sc, wx, tg, e, G, h, ht => by
    simp only [mI] at h
    split at h <;> first | (cases h; done) | skip
    simp only [Bool.and_eq_true, decide_eq_true_eq] at h
    obtain ⟨rfl, h1, h2, h3, h4, h5⟩ := h
    cases tg <;> simp only [itg] at ht <;> first | (cases ht; done) | skip
    exact si_zip G.hK (G.gl h1) (G.blt "zip" (by decide)) (mE_ok a G h2).pe (mE_ok b G h4).pe h3 h5
  | .rev a, X, sc, wx, tg, e, G, h, ht => by simp only [mI] at h; cases h
end
end GL

/-! GL22: statements held against the core's. -/
namespace GL
open PySem L2 PyProof.Rows
def nlc : Expr → Bool
  | .ListComp _ _ _ _ => false
  | .SetComp _ _ _ _ => false
  | .DictComp _ _ _ _ _ => false
  | _ => true
def ntup : Expr → Bool
  | .Tuple _ _ _ => false
  | _ => true
theorem sw_none {e : Expr} {t : Option Expr} {l : Nat} {env : PySem.Env} (h : nlc e = true) : swapsWith e t l env = pure false := by
  cases e <;> first | rfl | simp [nlc] at h
theorem sw_tup {e : Expr} {ts : List Expr} {k l : Nat} {p : Pos} {env : PySem.Env} : swapsWithSole [.Tuple ts k p] e l env = pure false := by
  cases e <;> rfl
theorem sw_sub {e o i : Expr} {l : Nat} {p : Pos} {env : PySem.Env} : swapsWithSole [.Subscript o i p] e l env = pure false := by
  cases e <;> rfl
theorem ss_tup {e : Expr} {ts : List Expr} {k : Nat} {p : Pos} {env : PySem.Env} (h : ntup e = true) : swappedStores [.Tuple ts k p] e env = pure none := by
  cases e <;> first | rfl | simp [ntup] at h
theorem ss_sub {e o i : Expr} {p : Pos} {env : PySem.Env} : swappedStores [.Subscript o i p] e env = pure none := by
  cases e <;> rfl
/-- the comprehension takes its name's place -/
def swB (sc : Scope) (y : Str) (py : Pos) : Expr → Bool
  | .ListComp _ _ scope pos => decide (sc.names.lookup y = some .local) && (py.line == pos.line) && !(scope.names.any fun (n, k) => n == y && (k == .local || k == .cell))
  | _ => false
/-- .. or surely not -/
def swN (sc : Scope) (y : Str) : Expr → Bool
  | .ListComp _ _ _ _ => decide (sc.names.lookup y = some .cell)
  | e => nlc e
section
variable {X : Cx} {W : Wd} {N : List Str} {sc : Scope} {wx : WX} {F : Fn} {tb : Tb} {hot : Bool}
theorem swN_ok (G : Gx X W N sc wx F tb hot) {y : Str} {py : Pos} {l : Nat} {e : Expr} (h : swN sc y e = true) : swapsWith e (some (.Name y py)) l X.env = pure false := by
  cases e <;> simp only [swN] at h <;> first | exact sw_none h | skip
  rename_i elt gs scope pos
  have hy := of_decide_eq_true h
  have ky : X.env.kindOf y = some .cell := by
    rcases G.kd y _ hy with q | ⟨q, _⟩
    · exact q
    · cases q
  unfold swapsWith
  simp only [ky]
  show (pure (X.env.blockKind == .function && false && _ && _) : Sem Bool) = pure false
  rw [Bool.and_false]; rfl
theorem ss_asgLc {i : Nat} {y : Str} {py pos spos : Pos} {elt tg iter : Expr} {ifs : List Expr} {scope : Scope} {own : List (Str × Nat)} {n : Nat} {tgs : List Nat} {ci : CI} {cc : CEs} {ce : CE} (hpi : W.pn i = none) (hp : ∀ i ∈ tgs, W.pn i = none) (hc : X.calm = true) (hN : X.N.Nodup) (hy : X.N[i]? = some y) (hyl : X.env.scope.names.lookup y = some .local)
    (hsw : swapsWith (.ListComp elt [⟨tg, iter, ifs, 0⟩] scope pos) (some (.Name y py)) spos.line X.env = pure true) (hi : PI X tg iter (tI W F wx ci)) (ok : BlkOk X.N X.env.scope scope own) (ho : own.map (·.2) = tgs)
    (hg : ∀ (s : Shared) (H : Hp) (C : Addr) (cl : List (Str × Addr)) (fp : List Addr), PG (X.blk s H scope (compEnvC scope cl C X.env) fp) tg (tgT W.K tgs))
    (ht : ∀ (s : Shared) (H : Hp) (C : Addr) (cl : List (Str × Addr)) (fp : List Addr), (cc = .nil ∧ ifs = []) ∨ (∃ c1 e1, cc = .cons c1 .nil ∧ ifs = [e1] ∧ PT (X.blk s H scope (compEnvC scope cl C X.env) fp) e1 (tTs W F (fun _ _ _ _ => False) c1)))
    (he : ∀ (s : Shared) (H : Hp) (C : Addr) (cl : List (Str × Addr)) (fp : List Addr), PE (X.blk s H scope (compEnvC scope cl C X.env) fp) elt (tE W F (fun _ _ _ _ => False) ce)) (hs : ∀ x, foldedSetIterable iter X.env x = pure x) (hn : n ≠ 0) :
    PS X (.Assign [.Name y py] (.ListComp elt [⟨tg, iter, ifs, 0⟩] scope pos) spos) (tS W F wx (.asg i (.pure (.comp n tgs ci cc ce)))) := by
  refine PS.imp (ps_setLc (tt := ttOf W F cc) hc hN hy hyl hsw hi ok hg (fun s H C cl fp => ?_) he hs) fun D σ H h => ?_
  · rcases ht s H C cl fp with ⟨rfl, rfl⟩ | ⟨c1, e1, rfl, rfl, q⟩
    · exact pts_nil
    · exact pts_one q
  rw [ho]
  refine lcs_ok hp hn ?_
  obtain ⟨ac, Γ, As, s, h⟩ := h
  refine ⟨ac, Γ, As, s, ?_⟩
  simp only [evS] at h
  rw [evX_pure] at h
  cases e1 : ev F (.comp n tgs ci cc ce) Γ with
  | bad => rw [e1] at h; exact h
  | ex k fs => rw [e1] at h; exact fun cls od H' x r => h ac As cls od σ H' (Le.refl _) (s.mono x) r
  | ok d m =>
    rw [e1] at h
    simp only [CE.fresh, or_true, if_true] at h
    intro v H' x r
    have xo : XOutF W ac [] Γ As H Γ d m v σ H' := XOutF.of_rs s x r fun hf => by cases hf
    obtain ⟨ac', As', l, s'⟩ := xo.out.put (i := i) hpi
    exact h ac' As' _ H' l s'
end
def mP (N : List Str) (tb : Tb) (hot : Bool) : CP → Scope → Expr → Bool
  | .var i, sc, e => match e with
    | .Name x _ => nmOk N sc i x
    | _ => false
  | .idx p c, sc, e => match e with
    | .Subscript x y _ => nslice y && (mP N tb hot p sc x && mE N tb hot c sc y)
    | _ => false
def nmsOk (N : List Str) (sc : Scope) : List Nat → List Expr → Bool
  | [], [] => true
  | i :: is, .Name x _ :: ts => nmOk N sc i x && nmsOk N sc is ts
  | _, _ => false
def mX (N : List Str) (tb : Tb) (hot : Bool) : CX → Scope → Expr → Bool
  | .pure c, sc, e => mE N tb hot c sc e
  | .pop p, sc, e => match e with
    | .Call (.Attribute o nm p1) [] [] p2 => decide (nm = "pop") && (mP N tb hot p sc o && (ncall o && (p1.endLine == p2.line)))
    | _ => false
  | .pop0 p, sc, e => match e with
    | .Call (.Attribute o nm p1) [.Constant (.int i) _ _] [] p2 => decide (nm = "pop") && (decide (i = 0) && (mP N tb hot p sc o && (ncall o && (p1.endLine == p2.line))))
    | _ => false
  | .tuple x, sc, e => match e with
    | .Call (.Name y _) [z] [] _ => decide (y = "tuple") && (gOk sc y && (nstar z && mX N tb hot x sc z))
    | _ => false
  | .tup2 a b, sc, e => match e with
    | .Tuple [x, y] _ _ => nstar x && (nstar y && (mX N tb hot a sc x && mX N tb hot b sc y))
    | _ => false
  | .tup3 a b c, sc, e => match e with
    | .Tuple [x, y, z] _ _ => nstar x && (nstar y && (nstar z && (mX N tb hot a sc x && (mX N tb hot b sc y && mX N tb hot c sc z))))
    | _ => false
  | .cio f _ is, sc, e => match e with
    | .Call (.Name x _) (y :: ys) [] _ => !hot && (gOk sc x && (okN x && ((match tb.fn[f]? with
      | some (x', io) => decide (x' = x) && decide (io = ioOf 0 is)
      | none => false) && (nmsOk N sc (is.map (·.1)) (y :: ys) && ((y :: ys).all nstar && decide (trues is).Nodup)))))
    | _ => false
/-- a clause for a class of the program -/
def hdOk (sc : Scope) (tb : Tb) : ExceptHandler → Bool
  | .ExceptHandler (some (.Name x _)) none (_ :: _) _ => gOk sc x && (okN x && tb.ex.any fun p => decide (p.2 = x))
  | _ => false
mutual
def mS (N : List Str) (tb : Tb) (hot : Bool) : CS → Scope → Stmt → Bool
  | .asg i x, sc, st => match st with
    | .Assign [.Name y py] e _ => stOk N sc i y && ((!decide (i ∈ tb.hs)) && (!hot && (swB sc y py e && (match x with
        | .pure c => mE N tb hot c sc e
        | _ => false)) || swN sc y e && mX N tb hot x sc e))
    | _ => false
  | .asgT is x, sc, st => match st with
    | .Assign [.Tuple ts k p] e _ => !hot && (ntup e && (tg1 N sc is (.Tuple ts k p) && (mX N tb hot x sc e && is.all fun i => !decide (i ∈ tb.hs))))
    | _ => false
  | .app p x, sc, st => match st with
    | .Expr (.Call (.Attribute o nm p1) [y] [] p2) _ => decide (nm = "append") && (mP N tb hot p sc o && (mX N tb hot x sc y && (ncall o && ((p1.endLine == p2.line) && nstar y))))
    | _ => false
  | .ext p c, sc, st => match st with
    | .Expr (.Call (.Attribute o nm p1) [y] [] p2) _ => decide (nm = "extend") && (mP N tb hot p sc o && (mE N tb hot c sc y && (ncall o && ((p1.endLine == p2.line) && nstar y))))
    | _ => false
  | .clr p, sc, st => match st with
    | .Expr (.Call (.Attribute o nm p1) [] [] p2) _ => decide (nm = "clear") && (mP N tb hot p sc o && (ncall o && (p1.endLine == p2.line)))
    | _ => false
  | .setI p k c, sc, st => match st with
    | .Assign [.Subscript o i _] e _ => nslice i && (mP N tb hot p sc o && (mE N tb hot k sc i && mE N tb hot c sc e))
    | _ => false
  | .sdapp i k c, sc, st => match st with
    | .Expr (.Call (.Attribute (.Call (.Attribute (.Name x _) nm1 p1) [ke, .List [] _] [] p2) nm2 p3) [y] [] p4) _ => decide (nm1 = "setdefault") && (decide (nm2 = "append") && (nmOk N sc i x && (mE N tb hot k sc ke && (mE N tb hot c sc y && ((p1.endLine == p2.line) && ((p3.endLine == p4.line) && (nstar y && nstar ke)))))))
    | _ => false
  | .ifs c a b, sc, st => match st with
    | .If t x y _ => mE N tb hot c sc t && (mSs N tb hot a sc x && mSs N tb hot b sc y)
    | _ => false
  | .for_ tgs it _ b, sc, st => match st with
    | .For t e body [] _ => !hot && (tg1 N sc tgs t && ((mI N tb hot it sc e && itg it t) && (nset e && (mSs N tb hot b sc body && tgs.all fun i => !decide (i ∈ tb.hs)))))
    | _ => false
  | .whl _ c _ b, sc, st => match st with
    | .While t body [] _ => !hot && (mE N tb hot c sc t && mSs N tb hot b sc body)
    | _ => false
  | .ret x, sc, st => match st with
    | .Return (some e) _ => mX N tb hot x sc e
    | _ => false
  | .retv i, sc, st => match st with
    | .Return (some (.Name x _)) _ => nmOk N sc i x
    | _ => false
  | .retN, _, st => match st with
    | .Return none _ => true
    | _ => false
  | .expr x, sc, st => match st with
    | .Expr e _ => nlc e && mX N tb hot x sc e
    | _ => false
  | .pass, _, st => match st with
    | .Pass _ => true
    | .Expr (.Constant (.str _) _ _) _ => true
    | _ => false
  | .rse c x es, sc, st => match st with
    | .Raise (some (.Call (.Name y _) (z :: zs) [] _)) none _ => !hot && (decide (y = x) && (gOk sc y && (okN y && (tb.ex.any (fun p => decide (p.1 = c) && decide (p.2 = y)) && (GL.bare c && (mEs N tb hot es sc (z :: zs) && ((z :: zs).all nstar && decide (es.len ≤ 1000))))))))
    | _ => false
  | .frz _, _, _ => false
  | .prim _, _, _ => false
  | .eat _, _, _ => false
  | .tryP b, sc, st => match st with
    | .Try body (h0 :: hs) [] [] _ => (!hot && decide (tb.xn = none)) && ((h0 :: hs).all (hdOk sc tb) && mSs N tb hot b sc body)
    | _ => false
  | .try_ ks b c v h, sc, st => match st with
    | .Try body [.ExceptHandler (some (.Name x _)) nm (h0 :: hs) _] [] [] _ => (!hot && decide (tb.xn = none)) && (gOk sc x && (okN x && (tb.ex.any (fun p => decide (p.1 = c) && decide (p.2 = x)) && ((ks.all fun k => tb.ex.any fun p => decide (p.1 = k)) && (mSs N tb hot b sc body && (match v, nm with
      | none, none => mSs N tb true h sc (h0 :: hs)
      | some i, some y => decide (N[i]? = some y) && (decide (sc.names.lookup y = some .local) && ((!decide (i ∈ tb.hs)) && (ks.all GL.bare && mSs N { tb with xn := some i, hs := i :: tb.hs } true h sc (h0 :: hs))))
      | _, _ => false))))))
    | _ => false
def mSs (N : List Str) (tb : Tb) (hot : Bool) : CSs → Scope → List Stmt → Bool
  | .nil, _, sts => match sts with
    | [] => true
    | _ => false
  | .cons c cs, sc, sts => match c with
    | .frz _ => mSs N tb hot cs sc sts
    | .eat _ => mSs N tb hot cs sc sts
    | c' => match sts with
      | st :: sts => mS N tb hot c sc st && mSs N tb hot cs sc sts
      | [] => false
end
end GL

/-! GL23: a block that is held against the core's does what the evaluator says. -/
namespace GL
open PySem L2 PyProof.Rows
/-- .. as a def's body -/
structure Gs (X : Cx) (W : Wd) (N : List Str) (sc : Scope) (wx : WX) (F : Fn) (tb : Tb) (hot : Bool) : Prop where
  g : Gx X W N sc wx F tb hot
  po : PassesOwn (model X.prog X.w) X.A X.env X.xe
  stk : X.stack = X.env :: X.outer
  frm : X.env.frame = some X.env.locals
theorem mP_ok {X : Cx} {W : Wd} {N : List Str} {sc : Scope} {wx : WX} {F : Fn} {tb : Tb} {hot : Bool} (G : Gx X W N sc wx F tb hot) : ∀ {p : CP} {e : Expr}, mP N tb hot p sc e = true → PE X e (tP W F p)
  | .var i, e, h => by
    simp only [mP] at h
    split at h <;> first | (cases h; done) | skip
    simp only [nmOk, Bool.and_eq_true, decide_eq_true_eq] at h
    have q := okN1 h.2.2
    exact sp_var (by rw [G.hN]; exact h.1) (G.vis h.2.1) q.1 q.2
  | .idx p c, e, h => by
    simp only [mP] at h
    split at h <;> first | (cases h; done) | skip
    simp only [Bool.and_eq_true] at h
    exact sp_idx G.hK G.room (mP_ok G h.2.1) (mE_ok c G h.2.2).pe h.1
theorem few1 {e : Expr} {pos : Pos} {env : PySem.Env} (hs : nstar e = true) : ((backTo pos (starEach [e] env)).all (fun x => !x.1) && (backToKw pos (keywordEach [] env)).all (fun x => x.1.isSome) && decide ([e].length + ([] : List Keyword).length + (if ([] : List Keyword).isEmpty then 0 else 1) < 30)) = true := by
  rw [star_cons hs]; rfl
theorem few2 {e f : Expr} {pos : Pos} {env : PySem.Env} (hs : nstar e = true) (hf : nstar f = true) : ((backTo pos (starEach [e, f] env)).all (fun x => !x.1) && (backToKw pos (keywordEach [] env)).all (fun x => x.1.isSome) && decide ([e, f].length + ([] : List Keyword).length + (if ([] : List Keyword).isEmpty then 0 else 1) < 30)) = true := by
  rw [star_cons hs, star_cons hf]; rfl
theorem nms_ok {X : Cx} {W : Wd} {N : List Str} {sc : Scope} {wx : WX} {F : Fn} {tb : Tb} {hot : Bool} (G : Gx X W N sc wx F tb hot) : ∀ {is : List Nat} {es : List Expr}, nmsOk N sc is es = true → PA X es (tNm is)
  | [], [], _ => pa_nm0
  | [], _ :: _, h => by simp [nmsOk] at h
  | _ :: _, [], h => by simp [nmsOk] at h
  | i :: is, t :: ts, h => by
    cases t <;> simp only [nmsOk] at h <;> first | (cases h; done) | skip
    rename_i x p
    simp only [Bool.and_eq_true, nmOk, decide_eq_true_eq] at h
    obtain ⟨⟨h1, h2, h3⟩, h4⟩ := h
    have q := okN1 h3
    exact pa_nm (by rw [G.hN]; exact h1) (G.vis h2) q.1 q.2 (nms_ok G h4)
theorem mX_ok {X : Cx} {W : Wd} {N : List Str} {sc : Scope} {wx : WX} {F : Fn} {tb : Tb} {hot : Bool} (G : Gx X W N sc wx F tb hot) : ∀ {c : CX} {e : Expr}, mX N tb hot c sc e = true → PE X e (tX W F wx c)
  | .pure c, e, h => by
    simp only [mX] at h
    exact sx_pure (mE_ok c G h).pe
  | .pop p, e, h => by
    simp only [mX] at h
    split at h <;> first | (cases h; done) | skip
    simp only [Bool.and_eq_true, decide_eq_true_eq] at h
    obtain ⟨rfl, h1, h2, h3⟩ := h
    exact sx_pop (mP_ok G h1) (abase h2) h3
  | .pop0 p, e, h => by
    simp only [mX] at h
    split at h <;> first | (cases h; done) | skip
    simp only [Bool.and_eq_true, decide_eq_true_eq] at h
    obtain ⟨rfl, rfl, h1, h2, h3⟩ := h
    exact sx_pop0 (mP_ok G h1) (abase h2) (few1 rfl) h3
  | .tuple x, e, h => by
    simp only [mX] at h
    split at h <;> first | (cases h; done) | skip
    simp only [Bool.and_eq_true, decide_eq_true_eq] at h
    obtain ⟨rfl, h1, h2, h3⟩ := h
    exact sx_tuple (G.gl h1) (G.blt _ (by decide)) (mX_ok G h3) h2
  | .tup2 a b, e, h => by
    simp only [mX] at h
    split at h <;> first | (cases h; done) | skip
    simp only [Bool.and_eq_true] at h
    obtain ⟨h1, h2, h3, h4⟩ := h
    exact sx_tup2 (mX_ok G h3) (mX_ok G h4) h1 h2
  | .tup3 a b c, e, h => by
    simp only [mX] at h
    split at h <;> first | (cases h; done) | skip
    simp only [Bool.and_eq_true] at h
    obtain ⟨h1, h2, h3, h4, h5, h6⟩ := h
    exact sx_tup3 (mX_ok G h4) (mX_ok G h5) (mX_ok G h6) h1 h2 h3
  | .cio f s is, e, h => by
    simp only [mX] at h
    split at h <;> first | (cases h; done) | skip
    simp only [Bool.and_eq_true, Bool.not_eq_true', decide_eq_true_eq] at h
    obtain ⟨hh, h1, h2, h3, h4, h5, h6⟩ := h
    split at h3
    · rename_i x' io hx
      simp only [Bool.and_eq_true, decide_eq_true_eq] at h3
      obtain ⟨rfl, rfl⟩ := h3
      exact sx_cio (G.calls hh f _ _ hx) G.tk (G.gl h1) (nms_ok G h4) h6 (okN1 h2).1 h5
    · cases h3
theorem asgEach1 {t : Expr} {env : PySem.Env} (h : nstar t = true) : (assignEach [t] env).map (·.2) = [assign t env] := by
  cases t <;> first | rfl | simp [nstar] at h
variable {W : Wd} {N : List Str} {F : Fn} {tb : Tb} {hot : Bool}
theorem asg_comp_ok {X : Cx} {sc : Scope} {wx : WX} (G : Gx X W N sc wx F tb hot) {i : Nat} {y : Str} {py spos : Pos} {e : Expr} {c : CE} (hh : hot = false) (hpi : W.pn i = none) (h1 : stOk N sc i y = true) (h2 : swB sc y py e = true) (h3 : mE N tb hot c sc e = true) : PS X (.Assign [.Name y py] e spos) (tS W F wx (.asg i (.pure c))) := by
  cases e <;> simp only [swB] at h2 <;> first | (cases h2; done) | skip
  rename_i elt gens scope pos
  simp only [Bool.and_eq_true, decide_eq_true_eq, Bool.not_eq_true'] at h2
  obtain ⟨⟨q1, q2⟩, q3⟩ := h2
  have hyl : X.env.scope.names.lookup y = some .local := by
    rcases G.kd y _ q1 with q | ⟨q, _⟩
    · exact q
    · cases q
  simp only [stOk, Bool.and_eq_true, decide_eq_true_eq] at h1
  cases c <;> first | (simp only [mE] at h3; cases h3; done) | skip
  rename_i n tgs it cs el
  unfold mE at h3
  split at h3 <;> first | (cases h3; done) | skip
  rename_i elt' tg iter ifs scope' p he
  cases he
  simp only [Bool.and_eq_true, Bool.not_eq_true', decide_eq_true_eq] at h3
  obtain ⟨⟨_, hxn⟩, hn, hns, ⟨hi, hit⟩, ht, hl, hb, hel, hcs⟩ := h3
  have bo := blkOk_by hb
  have hk : scope.kind = .function := bo.kind
  have hu := bo.uniq
  have GB : ∀ (s : Shared) (H : Hp) (C : Addr) (cl : List (Str × Addr)) (fp : List Addr), Gx (X.blk s H scope (compEnvC scope cl C X.env) fp) W N scope (fun _ _ _ _ => False) F tb hot := fun s H C cl fp => G.blk hh hxn hk hu
  have hcalm := G.calm hh
  have bo2 : BlkOk X.N X.env.scope scope ((tgNames tg).zip tgs) := by
    refine ⟨bo.kind, bo.uniq, by rw [G.hN]; exact bo.ix, fun y hy e => ?_, by rw [G.hN]; exact bo.own⟩
    rcases bo.free y hy e with q | q
    · rcases G.kd _ _ q with q | ⟨q, _⟩
      · exact .inl q
      · cases q
    · rcases G.kd _ _ q with q | ⟨_, q⟩
      · exact .inr q
      · exact .inl q
  have hpn : ∀ i ∈ tgs, W.pn i = none := by
    split at hcs
    · exact G.np hcs
    · rw [Bool.and_eq_true] at hcs; exact G.np hcs.2
    · cases hcs
  refine ss_asgLc hpi hpn hcalm (by rw [G.hN]; exact G.nd) (by rw [G.hN]; exact h1.1) hyl (sw_true G.kind hyl q2 q3) (mI_ok it G hi hit) bo2 (tgNames_ix ht hl) (fun s H C cl fp => by have := tg1_ok (GB s H C cl fp) hcalm ht; rw [show (X.blk s H scope (compEnvC scope cl C X.env) fp).K = W.K from G.hK] at this; exact this) (fun s H C cl fp => ?_) (fun s H C cl fp => (mE_ok el (GB s H C cl fp) hel).pe) (fsi hns) hn
  split at hcs
  · exact .inl ⟨rfl, rfl⟩
  · rw [Bool.and_eq_true] at hcs; exact .inr ⟨_, _, rfl, rfl, (mE_ok _ (GB s H C cl fp) hcs.1).pt⟩
  · cases hcs
/-! ### raise, try -/
theorem ss_rse {X : Cx} {sc : Scope} {wx : WX} (G : Gx X W N sc wx F tb hot) (hh : hot = false) {q : Nat × Str} {e : Expr} {es : List Expr} {cs : CEs} {x : String} {p p2 pos : Pos} (h1 : gOk sc q.2 = true) (h2 : okN q.2 = true) (hq : q ∈ tb.ex) (hf : GL.bare q.1 = true) (h5 : mEs N tb hot cs sc (e :: es) = true) (h6 : ∀ y ∈ e :: es, nstar y = true) (h7 : cs.len ≤ 1000) :
    PS X (.Raise (some (.Call (.Name q.2 p) (e :: es) [] p2)) none pos) (tS W F wx (.rse q.1 x cs)) := by
  have E := G.exs q hq
  have hfl := G.fl q.1 hf
  refine PS.imp (ps_raise (G.calm hh) G.tk (pmk_ownA PySem.F.excBase_ValueError (E.xi hfl) E.g E.k (raises_own E.is.hs E.t) (G.gl h1) (mEs_ok cs G h5) (okN1 h2).1 (star_cons (h6 e List.mem_cons_self)) (star_any (List.all_eq_true.mpr fun y hy => h6 y (List.mem_cons_of_mem _ hy))))) fun D σ H h => ?_
  obtain ⟨ac, Γ, As, s, h⟩ := h
  refine ⟨ac, Γ, As, s, ?_⟩
  simp only [evS] at h
  cases e1 : evA F cs Γ with
  | bad => rw [e1] at h; exact h.elim
  | ex k fs => rw [e1] at h; exact fun cls od H' x r => h ac As cls od σ H' (Le.refl _) (s.mono x) r
  | ok vs =>
    rw [e1] at h
    simp only at h
    split at h
    · intro us H1 x1 ar
      refine ⟨?_, h ac As _ none σ H1 (Le.refl _) (s.mono x1) ⟨rfl, by rw [hfl]⟩⟩
      rw [← ar.len, evA_len e1, sizeLine_eq]
      omega
    · exact h.elim
theorem StOk.pn {ac : Ac} {H : Hp} {σ : L2.St} {Γ : Env} {As : List (List Addr)} (s : StOk W ac H σ Γ As) {q : Nat → Option V} (hq : ∀ i v, q i = some v → σ[i]? = some (some v)) : StOk { W with bf := W.bf, pn := q } ac H σ Γ As :=
  ⟨s.len, s.len2, s.pres, s.nd, s.own, s.frn, fun i d n e => let ⟨v, A, a1, a2, a3⟩ := s.slot i d n e; ⟨v, A, a1, a2, own_pn.mpr a3⟩, s.bare, s.a0, s.fz, s.fb, hq⟩
theorem XOut.pn {ac : Ac} {Γ : Env} {d : GL.D} {n : Nat} {v : V} {σ : L2.St} {H : Hp} {q : Nat → Option V} (h : XOut { W with bf := W.bf, pn := q } ac Γ d n v σ H) (hq : ∀ i v, W.pn i = some v → q i = some v) : XOut W ac Γ d n v σ H := by
  obtain ⟨ac', As', A, l, nd, hA, s, o⟩ := h.ex
  refine ⟨ac', As', A, l, nd, hA, ?_, own_pn.mp o⟩
  exact ⟨s.len, s.len2, s.pres, s.nd, s.own, s.frn, fun i d n e => let ⟨v, A, a1, a2, a3⟩ := s.slot i d n e; ⟨v, A, a1, a2, own_pn.mp a3⟩, s.bare, s.a0, s.fz, s.fb, fun i v e => s.pin i v (hq i v e)⟩
theorem Gs.tr {X : Cx} {sc : Scope} {wx wx' : WX} (G : Gs X W N sc wx F tb false) (hxn : tb.xn = none) {pn : List (Addr × Obj)} {xe : Value → Shared → Prop} (tk : Takes (X.tr pn xe) wx') (po : PassesOwn (model X.prog X.w) X.A X.env xe) : Gs (X.tr pn xe) W N sc wx' F tb false :=
  ⟨⟨G.g.hK, G.g.hN, G.g.nd, G.g.kind, G.g.kd, G.g.fnc, G.g.calm, G.g.hsq, G.g.room, tk, fun h f x io q => (G.g.calls h f x io q).ex |> fun ⟨k, f, fd, ps, a⟩ => ⟨⟨k, f, fd, ps, a⟩⟩, G.g.glb, G.g.blt, fun h p q => (G.g.mks h p q).ex |> fun ⟨k, C, f, fd, ps, spi, a⟩ => ⟨⟨k, C, f, fd, ps, spi, a⟩⟩, fun h p q => (G.g.mts h p q).ex |> fun ⟨k, C, f, fd, ps, spi, a⟩ => ⟨⟨k, C, f, fd, ps, spi, a⟩⟩, G.g.exs, G.g.exm, G.g.fl, fun i e => by rw [hxn] at e; cases e⟩, po, G.stk, G.frm⟩
/-- one of several readings -/
theorem pss_of {X : Cx} {sts : List Stmt} {α : Type} {P : α → Prop} {t : α → TS} (h : ∀ a, P a → PSs X sts (t a)) : PSs X sts (fun D σ H => ∃ a, P a ∧ t a D σ H) :=
  ⟨fun pins s σ H D I ⟨a, pa, q⟩ => (h a pa).run pins s σ H D I q⟩
theorem pss_ofL {X : Cx} {sts : List Stmt} {α : Type} {P : α → Prop} {t : α → TS} {n : Nat} (hn : n < X.N.length) (h : ∀ a, P a → PSs X sts (t a)) : PSs X sts (fun D σ H => n < σ.length → ∃ a, P a ∧ t a D σ H) :=
  ⟨fun pins s σ H D I q => let ⟨a, pa, q⟩ := q (by rw [I.len]; exact hn); (h a pa).run pins s σ H D I q⟩
theorem exm_at {X : Cx} {sc : Scope} {wx : WX} (G : Gx X W N sc wx F tb hot) {ks : List Nat} (hks : ∀ k ∈ ks, ∃ p ∈ tb.ex, p.1 = k) {k : Nat} (hk : k ∈ ks) {q : Nat × Str} (hq : q ∈ tb.ex) : PySem.W.exmOne X.K (.ref (W.cls k)) (.ref (W.cls q.1)) = some (subEx k q.1) := by
  obtain ⟨p, hp, rfl⟩ := hks k hk
  exact G.exm p hp q hq
theorem ss_try0 {X : Cx} {sc : Scope} {wx : WX} (G : Gs X W N sc wx F tb false) (hxn : tb.xn = none) {ks : List Nat} {q : Nat × Str} {b hd : CSs} {body hs : List Stmt} {h0 : Stmt} {np pos' pos : Pos} (h1 : gOk sc q.2 = true) (h2 : okN q.2 = true) (hq : q ∈ tb.ex) (hks : ∀ k ∈ ks, ∃ p ∈ tb.ex, p.1 = k)
    (hb : ∀ {X : Cx} {wx : WX}, Gs X W N sc wx F tb false → PSs X body (tSs W F wx b)) (hh : ∀ {X : Cx} {wx : WX} {F : Fn}, Gs X W N sc wx F tb true → PSs X (h0 :: hs) (tSs W F wx hd)) :
    PS X (.Try body [.ExceptHandler (some (.Name q.2 np)) none (h0 :: hs) pos'] [] [] pos) (tS W F wx (.try_ ks b q.1 none hd)) := by
  refine PS.imp (ps_try_only (tb := fun W' => tSs W F W' b) (ts := fun a cls d E σ H => ∃ z : Nat × List GL.D, True ∧ tSs W (withEx F z.1 z.2) (fun _ _ _ _ => False) hd E σ H) (Wout := wx) G.stk G.frm ⟨G.g.gl h1, (okN1 h2).1, .inl (G.g.exs q hq).g⟩ G.g.tk (fun W' pn xe tk po => hb (G.tr hxn tk po)) fun a oe cls d pn _ _ => pss_of fun z _ => hh ?_) fun D σ H h => ?_
  · exact ⟨⟨G.g.hK, G.g.hN, G.g.nd, G.g.kind, G.g.kd, G.g.fnc, (fun z => by cases z), G.g.hsq, G.g.room, takes0, (fun z => by cases z), G.g.glb, G.g.blt, (fun z => by cases z), (fun z => by cases z), G.g.exs, G.g.exm, G.g.fl, fun i e => by rw [hxn] at e; cases e⟩, PassesOwn.never, G.stk, G.frm⟩
  · obtain ⟨ac, Γ, As, s, h⟩ := h
    refine ⟨ac, Γ, As, s, ?_⟩
    simp only [evS] at h
    cases e1 : evSs F b Γ with
    | bad => rw [e1] at h; exact h
    | rt d n Γ' => rw [e1] at h; exact h
    | nx Γ' => rw [e1] at h; exact h
    | ex k fs Γ' =>
      rw [e1] at h
      simp only at h
      intro ac' As' cls od σ' H' l s' r
      by_cases hk : k ∈ ks
      · rw [if_pos hk] at h
        refine ⟨subEx k q.1, by rw [r.1]; exact exm_at G.g hks hk hq, fun hs a ha => ?_, fun hs => ?_⟩
        · rw [if_pos hs] at h
          refine ⟨(k, fs), trivial, ac', Γ', As', s', ?_⟩
          show rS W (fun _ _ _ _ => False) ac' D (evSs (withEx F k fs) hd Γ')
          cases e2 : evSs (withEx F k fs) hd Γ' with
          | bad => rw [e2] at h; exact h.elim
          | ex _ _ _ => rw [e2] at h; exact h.elim
          | rt d n Γ2 => rw [e2] at h; exact rS.le (r := .rt d n Γ2) h l
          | nx Γ2 => rw [e2] at h; exact rS.le (r := .nx Γ2) h l
        · rw [if_neg (by rw [hs]; decide)] at h
          exact h ac' As' cls od σ' H' l s' r
      · rw [if_neg hk] at h; exact h.elim
theorem hds_ok {X : Cx} {sc : Scope} {wx : WX} (G : Gx X W N sc wx F tb hot) : ∀ {hs : List ExceptHandler}, hs.all (hdOk sc tb) = true → ∃ l, HdsOk X hs l
  | [], _ => ⟨[], .nil⟩
  | h0 :: hs, h => by
    rw [List.all_cons, Bool.and_eq_true] at h
    obtain ⟨l, hl⟩ := hds_ok G h.2
    have h1 := h.1
    unfold hdOk at h1
    split at h1
    · simp only [Bool.and_eq_true, List.any_eq_true, decide_eq_true_eq] at h1
      obtain ⟨g1, g2, q, hq, rfl⟩ := h1
      exact ⟨_ :: l, .cons (ts := fun _ _ _ _ _ _ => False) ⟨G.gl g1, (okN1 g2).1, .inl (G.exs q hq).g⟩ (fun a oe cls d pn _ _ => ⟨fun pins s σ H D I h => h.elim⟩) hl⟩
    · cases h1
/-- several clauses, none of them reached -/
theorem ss_tryP {X : Cx} {sc : Scope} {wx : WX} (G : Gs X W N sc wx F tb false) (hxn : tb.xn = none) {b : CSs} {body : List Stmt} {h0 : ExceptHandler} {hs : List ExceptHandler} {pos : Pos} (hh : (h0 :: hs).all (hdOk sc tb) = true)
    (hb : ∀ {X : Cx} {wx : WX}, Gs X W N sc wx F tb false → PSs X body (tSs W F wx b)) :
    PS X (.Try body (h0 :: hs) [] [] pos) (tS W F wx (.tryP b)) := by
  obtain ⟨l, hl⟩ := hds_ok G.g hh
  refine PS.imp (ps_try_many (tb := fun W' => tSs W F W' b) (Wout := wx) G.stk G.frm G.g.tk (fun W' pn xe tk po => hb (G.tr hxn tk po)) hl) fun D σ H h => ?_
  obtain ⟨ac, Γ, As, s, h⟩ := h
  refine ⟨ac, Γ, As, s, ?_⟩
  simp only [evS] at h
  cases e1 : evSs F b Γ with
  | bad => rw [e1] at h; exact h
  | rt d n Γ' => rw [e1] at h; exact h
  | nx Γ' => rw [e1] at h; exact h
  | ex k fs Γ' => rw [e1] at h; exact h.elim
theorem ss_try1 {X : Cx} {sc : Scope} {wx : WX} (G : Gs X W N sc wx F tb false) (hxn : tb.xn = none) {ks : List Nat} {q : Nat × Str} {b hd : CSs} {body hs : List Stmt} {h0 : Stmt} {i : Nat} {y : Str} {np pos' pos : Pos} (h1 : gOk sc q.2 = true) (h2 : okN q.2 = true) (hq : q ∈ tb.ex) (hks : ∀ k ∈ ks, ∃ p ∈ tb.ex, p.1 = k)
    (hy : N[i]? = some y) (hyl : sc.names.lookup y = some .local) (hi : i ∉ tb.hs) (hbare : ∀ k ∈ ks, GL.bare k = true)
    (hb : ∀ {X : Cx} {wx : WX}, Gs X W N sc wx F tb false → PSs X body (tSs W F wx b)) (hh : ∀ {X : Cx} {W : Wd} {wx : WX} {F : Fn}, Gs X W N sc wx F { tb with xn := some i, hs := i :: tb.hs } true → PSs X (h0 :: hs) (tSs W F wx hd)) :
    PS X (.Try body [.ExceptHandler (some (.Name q.2 np)) (some y) (h0 :: hs) pos'] [] [] pos) (tS W F wx (.try_ ks b q.1 (some i) hd)) := by
  have hpi : W.pn i = none := by
    cases e : W.pn i with
    | none => rfl
    | some w => exact absurd (G.g.hsq i w e) hi
  have hyl' : X.env.scope.names.lookup y = some .local := by
    rcases G.g.kd _ _ hyl with z | ⟨z, _⟩
    · exact z
    · cases z
  refine PS.imp (ps_try_as (i := i) (tb := fun W' => tSs W F W' b) (ts := fun a cls d E σ H => i < σ.length → ∃ z : (Nat × Str) × List GL.D, (z.1 ∈ tb.ex ∧ cls = .ref (W.cls z.1.1) ∧ d = none) ∧ tSs { W with bf := W.bf, pn := fun j => if j = i then some (.ref a) else W.pn j } (withEx F z.1.1 z.2) (fun _ _ _ _ => False) hd E σ H) (Wout := wx) G.stk G.frm (by rw [G.g.hN]; exact G.g.nd) (by rw [G.g.hN]; exact hy) hyl' ⟨G.g.gl h1, (okN1 h2).1, .inl (G.g.exs q hq).g⟩ G.g.tk (fun W' pn xe tk po => hb (G.tr hxn tk po)) fun a oe cls d pn hz hfs => pss_ofL (by have := G.g.hN; rw [show (X.suite a ((a, oe) :: pn)).N = N from this]; exact (List.getElem?_eq_some_iff.mp hy).1) fun z hzz => hh ?_) fun D σ H h => ?_
  · obtain ⟨z1, rfl, rfl⟩ := hzz
    refine ⟨⟨G.g.hK, G.g.hN, G.g.nd, G.g.kind, G.g.kd, G.g.fnc, (fun z => by cases z), fun j w e => ?_, G.g.room, takes0, (fun z => by cases z), fun p hp => ?_, G.g.blt, (fun z => by cases z), (fun z => by cases z), G.g.exs, G.g.exm, G.g.fl, fun j e => ?_⟩, PassesOwn.never, G.stk, G.frm⟩
    · have e : (if j = i then some (V.ref a) else W.pn j) = some w := e
      split at e
      · rename_i hji; subst hji; exact List.mem_cons_self
      · exact List.mem_cons_of_mem _ (G.g.hsq j w e)
    · obtain ⟨u, v, a1, a2, a3⟩ := G.g.glb p hp
      exact ⟨u, v, a1, a2, fun H => fro_pn.mpr (a3 H)⟩
    · have e : i = j := Option.some.inj e
      subst e
      exact ⟨a, z.1, z.2, if_pos rfl, rfl, z1, call_isE (G.g.exs z.1 z1).is hz hfs⟩
  · obtain ⟨ac, Γ, As, s, h⟩ := h
    refine ⟨ac, Γ, As, s, ?_⟩
    simp only [evS] at h
    cases e1 : evSs F b Γ with
    | bad => rw [e1] at h; exact h
    | rt d n Γ' => rw [e1] at h; exact h
    | nx Γ' => rw [e1] at h; exact h
    | ex k fs Γ' =>
      rw [e1] at h
      simp only at h
      intro ac' As' cls od σ' H' l s' r
      by_cases hk : k ∈ ks
      · rw [if_pos hk] at h
        refine ⟨subEx k q.1, by rw [r.1]; exact exm_at G.g hks hk hq, fun hs a ha hσ0 => ?_, fun hs => ?_⟩
        · rw [if_pos hs] at h
          obtain ⟨p, hp, rfl⟩ := hks k hk
          have hod : od = none := by
            have := r.2
            rw [G.g.fl _ (hbare _ hk)] at this
            exact this
          have hil : i < As'.length := by
            rw [List.length_set] at hσ0
            rw [s'.len, ← s'.len2]; exact hσ0
          have hA : As'[i]? = some (As'[i]'hil) := List.getElem?_eq_getElem hil
          have s2 := s'.hide hA (x := some (.ref a)) (fun w e => by rw [hpi] at e; cases e)
          have hσ : i < σ'.length := by rw [s'.len2, ← s'.len]; exact hil
          have s3 := s2.pn (q := fun j => if j = i then some (.ref a) else W.pn j) fun j w e => by
            have e : (if j = i then some (V.ref a) else W.pn j) = some w := e
            by_cases hji : j = i
            · rw [if_pos hji] at e
              rw [hji, List.getElem?_set_self hσ, e]
            · rw [if_neg hji] at e
              rw [List.getElem?_set_ne (fun z => hji z.symm)]
              exact s'.pin j w e
          refine ⟨(p, fs), ⟨hp, r.1, hod⟩, _, Γ'.set i none, _, s3, ?_⟩
          have hback : ∀ {ac2 : Ac} {As2 : List (List Addr)} {σ2 : L2.St} {H2 : Hp} {Γ2 : Env}, StOk { W with bf := W.bf, pn := fun j => if j = i then some (.ref a) else W.pn j } ac2 H2 σ2 Γ2 As2 → StOk W ac2 H2 σ2 Γ2 As2 := fun s => by
            exact ⟨s.len, s.len2, s.pres, s.nd, s.own, s.frn, fun i d n e => let ⟨v, A, a1, a2, a3⟩ := s.slot i d n e; ⟨v, A, a1, a2, own_pn.mp a3⟩, s.bare, s.a0, s.fz, s.fb, fun j w e => s.pin j w (by
              show (if j = i then some (V.ref a) else W.pn j) = some w
              rw [if_neg (fun z => by subst z; rw [hpi] at e; cases e)]; exact e)⟩
          have l2 : Le ac { ac' with S := fun x => ac'.S x ∨ x ∈ As'[i]'hil } := l.trans Le.more
          show rS _ (fun _ _ _ _ => False) _ _ (evSs (withEx F p.1 fs) hd (Γ'.set i none))
          cases e2 : evSs (withEx F p.1 fs) hd (Γ'.set i none) with
          | bad => rw [e2] at h; exact h.elim
          | ex _ _ _ => rw [e2] at h; exact h.elim
          | rt d n Γ2 =>
            rw [e2] at h
            intro v σ2 H2 x
            refine h v σ2 H2 (XOut.le (XOut.pn x fun j w e => ?_) l2)
            show (if j = i then some (V.ref a) else W.pn j) = some w
            rw [if_neg (fun z => by subst z; rw [hpi] at e; cases e)]; exact e
          | nx Γ2 =>
            rw [e2] at h
            intro ac2 As2 σ2 H2 l3 s4
            have s5 := hback s4
            by_cases hi2 : i < As2.length
            · exact h _ _ _ H2 (l2.trans (l3.trans Le.more)) (s5.hide (List.getElem?_eq_getElem hi2) (x := none) fun w e => by rw [hpi] at e; cases e)
            · have g1 : Γ2.set i none = Γ2 := List.set_eq_of_length_le (by rw [← s5.len]; omega)
              have g2 : σ2.set i none = σ2 := List.set_eq_of_length_le (by rw [s5.len2, ← s5.len]; omega)
              simp only [g1] at h
              simp only [g2]
              exact h ac2 As2 σ2 H2 (l2.trans l3) s5
        · rw [if_neg (by rw [hs]; decide)] at h
          exact h ac' As' cls od σ' H' l s' r
      · rw [if_neg hk] at h; exact h.elim
mutual
theorem mS_ok : ∀ (c : CS) {W : Wd} {F : Fn} {tb : Tb} {hot : Bool} {X : Cx} {sc : Scope} {wx : WX} {st : Stmt}, Gs X W N sc wx F tb hot → mS N tb hot c sc st = true → PS X st (tS W F wx c)
  | .asg i x, W, F, tb, hot, X, sc, wx, st, G, h => by
    simp only [mS] at h
    split at h <;> first | (cases h; done) | skip
    simp only [Bool.and_eq_true, Bool.or_eq_true, Bool.not_eq_true', decide_eq_true_eq] at h
    obtain ⟨h1, h0, h2⟩ := h
    have hpi : W.pn i = none := by
      cases q : W.pn i with
      | none => rfl
      | some w => rw [decide_eq_false_iff_not] at h0; exact absurd (G.g.hsq i w q) h0
    rcases h2 with ⟨hh, h3, h4⟩ | ⟨h3, h4⟩
    · split at h4
      · exact asg_comp_ok G.g hh hpi h1 h3 h4
      · cases h4
    · simp only [stOk, Bool.and_eq_true, decide_eq_true_eq] at h1
      obtain ⟨l1, l2⟩ := G.g.loc h1.2
      exact ss_asg hpi (by rw [G.g.hN]; exact G.g.nd) (by rw [G.g.hN]; exact h1.1) l1 l2 (mX_ok G.g h4) (swN_ok G.g h3)
  | .asgT is x, W, F, tb, hot, X, sc, wx, st, G, h => by
    simp only [mS] at h
    split at h <;> first | (cases h; done) | skip
    simp only [Bool.and_eq_true, Bool.not_eq_true'] at h
    obtain ⟨hh, h1, h2, h3, h4⟩ := h
    exact ss_asgT (G.g.np h4) G.g.hK (tg1_ok G.g (G.g.calm hh) h2) (mX_ok G.g h3) sw_tup (ss_tup h1) rfl
  | .app p x, W, F, tb, hot, X, sc, wx, st, G, h => by
    simp only [mS] at h
    split at h <;> first | (cases h; done) | skip
    simp only [Bool.and_eq_true, decide_eq_true_eq] at h
    obtain ⟨rfl, h1, h2, h3, h4, h5⟩ := h
    exact ss_app (mP_ok G.g h1) (mX_ok G.g h2) (abase h3) (few1 h5) h4 h5 (sw_none rfl)
  | .ext p c, W, F, tb, hot, X, sc, wx, st, G, h => by
    simp only [mS] at h
    split at h <;> first | (cases h; done) | skip
    simp only [Bool.and_eq_true, decide_eq_true_eq] at h
    obtain ⟨rfl, h1, h2, h3, h4, h5⟩ := h
    exact ss_ext (mP_ok G.g h1) (mE_ok c G.g h2).pe (abase h3) (few1 h5) h4 h5 (sw_none rfl)
  | .clr p, W, F, tb, hot, X, sc, wx, st, G, h => by
    simp only [mS] at h
    split at h <;> first | (cases h; done) | skip
    simp only [Bool.and_eq_true, decide_eq_true_eq] at h
    obtain ⟨rfl, h1, h3, h4⟩ := h
    exact ss_clr (mP_ok G.g h1) (abase h3) h4 (sw_none rfl)
  | .setI p k c, W, F, tb, hot, X, sc, wx, st, G, h => by
    simp only [mS] at h
    split at h <;> first | (cases h; done) | skip
    simp only [Bool.and_eq_true] at h
    obtain ⟨h1, h2, h3, h4⟩ := h
    exact ss_setI (by have := G.g.room; omega) (mP_ok G.g h2) (mE_ok k G.g h3).pe (mE_ok c G.g h4).pe h1 sw_sub ss_sub rfl
  | .sdapp i k c, W, F, tb, hot, X, sc, wx, st, G, h => by
    simp only [mS] at h
    split at h <;> first | (cases h; done) | skip
    simp only [Bool.and_eq_true, decide_eq_true_eq, nmOk] at h
    obtain ⟨rfl, rfl, ⟨h1, h2, h3⟩, h4, h5, h6, h7, h8, h9⟩ := h
    have q := okN1 h3
    exact ss_sdapp (le := .Constant .none 0 ⟨0, 0, 0, 0⟩) (by have := G.g.room; omega) (by rw [G.g.hN]; exact h1) (G.g.vis h2) q.1 q.2 (mE_ok k G.g h4).pe (mE_ok c G.g h5).pe ⟨rfl, few2 h9 rfl, h6, by rw [star_cons h9]; rfl⟩ (abase rfl) (few1 h8) h7 h8 (sw_none rfl)
  | .ifs c a b, W, F, tb, hot, X, sc, wx, st, G, h => by
    simp only [mS] at h
    split at h <;> first | (cases h; done) | skip
    simp only [Bool.and_eq_true] at h
    exact ss_if (mE_ok c G.g h.1).pt (mSs_ok a G h.2.1) (mSs_ok b G h.2.2)
  | .for_ tgs it keep b, W, F, tb, hot, X, sc, wx, st, G, h => by
    simp only [mS] at h
    split at h <;> first | (cases h; done) | skip
    simp only [Bool.and_eq_true, Bool.not_eq_true'] at h
    obtain ⟨hh, h1, ⟨h2, h2t⟩, h3, h4, h5⟩ := h
    have ht := tg1_ok G.g (G.g.calm hh) h1
    rw [G.g.hK] at ht
    exact ss_for (G.g.np h5) G.po (G.g.calm hh) (mI_ok it G.g h2 h2t) ht (mSs_ok b G h4) (fsi h3)
  | .whl fuel c keep b, W, F, tb, hot, X, sc, wx, st, G, h => by
    simp only [mS] at h
    split at h <;> first | (cases h; done) | skip
    simp only [Bool.and_eq_true, Bool.not_eq_true'] at h
    exact ss_whl G.po (mE_ok c G.g h.2.1).pt (mSs_ok b G h.2.2)
  | .ret x, W, F, tb, hot, X, sc, wx, st, G, h => by
    simp only [mS] at h
    split at h <;> first | (cases h; done) | skip
    exact ss_ret (mX_ok G.g h)
  | .retv i, W, F, tb, hot, X, sc, wx, st, G, h => by
    simp only [mS] at h
    split at h <;> first | (cases h; done) | skip
    simp only [nmOk, Bool.and_eq_true, decide_eq_true_eq] at h
    have q := okN1 h.2.2
    exact ss_retv (by rw [G.g.hN]; exact h.1) (G.g.vis h.2.1) q.1 q.2
  | .retN, W, F, tb, hot, X, sc, wx, st, G, h => by
    simp only [mS] at h
    split at h <;> first | (cases h; done) | skip
    exact ss_retN
  | .expr x, W, F, tb, hot, X, sc, wx, st, G, h => by
    simp only [mS] at h
    split at h <;> first | (cases h; done) | skip
    simp only [Bool.and_eq_true] at h
    exact ss_expr (mX_ok G.g h.2) (sw_none h.1)
  | .pass, W, F, tb, hot, X, sc, wx, st, G, h => by
    simp only [mS] at h
    split at h <;> first | (cases h; done) | skip
    · exact ss_pass
    · exact ss_doc
  | .rse c x es, W, F, tb, hot, X, sc, wx, st, G, h => by
    simp only [mS] at h
    split at h <;> first | (cases h; done) | skip
    simp only [Bool.and_eq_true, Bool.not_eq_true', decide_eq_true_eq, List.any_eq_true] at h
    obtain ⟨hh, rfl, h1, h2, ⟨q, hq, rfl, e2⟩, h4, h5, h6, h7⟩ := h
    rw [← e2] at h1 h2 ⊢
    exact ss_rse G.g hh h1 h2 hq h4 h5 (List.all_eq_true.mp h6) h7
  | .frz _, W, F, tb, hot, X, sc, wx, st, G, h => by simp only [mS] at h; cases h
  | .prim _, W, F, tb, hot, X, sc, wx, st, G, h => by simp only [mS] at h; cases h
  | .eat _, W, F, tb, hot, X, sc, wx, st, G, h => by simp only [mS] at h; cases h
  | .tryP b, W, F, tb, hot, X, sc, wx, st, G, h => by
    simp only [mS] at h
    split at h <;> first | (cases h; done) | skip
    simp only [Bool.and_eq_true, Bool.not_eq_true', decide_eq_true_eq] at h
    obtain ⟨⟨hh, hxn⟩, h1, h2⟩ := h
    subst hh
    exact ss_tryP G hxn h1 fun G' => mSs_ok b G' h2
  | .try_ ks b c v hd, W, F, tb, hot, X, sc, wx, st, G, h => by
    simp only [mS] at h
    split at h <;> first | (cases h; done) | skip
    simp only [Bool.and_eq_true, Bool.not_eq_true', decide_eq_true_eq, List.any_eq_true, List.all_eq_true] at h
    obtain ⟨⟨hh, hxn⟩, h1, h2, ⟨q, hq, rfl, rfl⟩, h4, h5, h6⟩ := h
    subst hh
    split at h6
    · exact ss_try0 G hxn h1 h2 hq h4 (fun G' => mSs_ok b G' h5) fun G' => mSs_ok hd G' h6
    · rename_i i y
      simp only [Bool.and_eq_true, Bool.not_eq_true', decide_eq_true_eq, List.all_eq_true] at h6
      obtain ⟨h7, h8, h9, h10, h11⟩ := h6
      exact ss_try1 G hxn h1 h2 hq h4 h7 h8 (of_decide_eq_false h9) h10 (fun G' => mSs_ok b G' h5) fun G' => mSs_ok hd G' h11
    · cases h6
theorem mSs_ok : ∀ (cs : CSs) {W : Wd} {F : Fn} {tb : Tb} {hot : Bool} {X : Cx} {sc : Scope} {wx : WX} {sts : List Stmt}, Gs X W N sc wx F tb hot → mSs N tb hot cs sc sts = true → PSs X sts (tSs W F wx cs)
  | .nil, W, F, tb, hot, X, sc, wx, sts, G, h => by
    simp only [mSs] at h
    split at h <;> first | (cases h; done) | skip
    exact sss_nil
  | .cons c cs, W, F, tb, hot, X, sc, wx, sts, G, h => by
    unfold mSs at h
    split at h
    · exact sss_frz (mSs_ok cs G h)
    · exact sss_eat (mSs_ok cs G h)
    · split at h
      · simp only [Bool.and_eq_true] at h
        exact sss_cons (mS_ok c G h.1) (mSs_ok cs G h.2)
      · cases h
end
end GL

/-! GL24: a def by its core text; the tower of all defs. -/
namespace GL
open PySem L2 PyProof.Rows
theorem AllO.get {W : Wd} {Hf H : Hp} {ds : List (D × Nat)} {vs : List V} {As : List (List Addr)} (h : AllO W Hf H ds vs As) : ∀ {i : Nat} {d : D} {n : Nat}, ds[i]? = some (d, n) → ∃ v A, vs[i]? = some v ∧ As[i]? = some A ∧ Own W Hf H n d v A := by
  induction h with
  | nil => intro i d n e; simp at e
  | cons o _ ih =>
    intro i d n e
    cases i with
    | zero => simp only [List.getElem?_cons_zero, Option.some.injEq, Prod.mk.injEq] at e; obtain ⟨rfl, rfl⟩ := e; exact ⟨_, _, rfl, rfl, o⟩
    | succ i =>
      obtain ⟨v, A, h1, h2, h3⟩ := ih (i := i) (by simpa using e)
      exact ⟨v, A, by simpa using h1, by simpa using h2, h3⟩
/-- the world with slots that stay -/
def pinW (W : Wd) (io : List Nat) (vs : List V) : Wd := { W with pn := fun i => if i ∈ io then vs[i]? else none }
theorem allO_pn {W : Wd} {b : Hp} {q : Nat → Option V} {Hf H : Hp} {ds : List (D × Nat)} {vs : List V} {As : List (List Addr)} : AllO { W with bf := b, pn := q } Hf H ds vs As ↔ AllO W Hf H ds vs As := by
  constructor
  · intro h
    induction h with
    | nil => exact .nil
    | cons o _ ih => exact .cons (own_pn.mp o) ih
  · intro h
    induction h with
    | nil => exact .nil
    | cons o _ ih => exact .cons (own_pn.mpr o) ih
theorem exr_pn {W : Wd} {b : Hp} {q : Nat → Option V} {Hf H : Hp} {k : Nat} {fs : List D} {cls : Value} {od : Option Addr} : ExR { W with bf := b, pn := q } Hf k fs cls od H ↔ ExR W Hf k fs cls od H := by
  unfold ExR
  constructor
  · rintro ⟨h1, h2⟩
    refine ⟨h1, ?_⟩
    show (match W.flds k with | [] => _ | n :: ns => _)
    have h2 : (match W.flds k with | [] => od = none | n :: ns => ∃ dd vs, od = some dd ∧ H dd = some (.xd ((n :: ns).zip vs)) ∧ (n :: ns).length = vs.length ∧ Fros { W with bf := b, pn := q } Hf fs vs) := h2
    split
    · rename_i e; rw [e] at h2; exact h2
    · rename_i n ns e; rw [e] at h2; obtain ⟨dd, vs, a1, a2, a3, a4⟩ := h2; exact ⟨dd, vs, a1, a2, a3, fros_pn.mp a4⟩
  · rintro ⟨h1, h2⟩
    refine ⟨h1, ?_⟩
    show (match W.flds k with | [] => od = none | n :: ns => ∃ dd vs, od = some dd ∧ H dd = some (.xd ((n :: ns).zip vs)) ∧ (n :: ns).length = vs.length ∧ Fros { W with bf := b, pn := q } Hf fs vs)
    split
    · rename_i e; rw [e] at h2; exact h2
    · rename_i n ns e; rw [e] at h2; obtain ⟨dd, vs, a1, a2, a3, a4⟩ := h2; exact ⟨dd, vs, a1, a2, a3, fros_pn.mpr a4⟩
theorem spOf_pn {W : Wd} {b : Hp} {q : Nat → Option V} {io : List Nat} {np : Nat} {sp : List (D × Nat) → RR} {vs : List V} {H : Hp} {Q : VK} {E : XK} (h : spOf { W with bf := b, pn := q } io np sp vs H Q E) : spOf W io np sp vs H Q E := by
  obtain ⟨args, S, As, h1, h2, h3, h4, h5, h6⟩ := h
  refine ⟨args, S, As, h1, h2, h3, h4, allO_pn.mp h5, ?_⟩
  cases e : sp args with
  | bad => rw [e] at h6; exact h6
  | ok d n os =>
    rw [e] at h6
    exact fun v H' A Bs a1 a2 a3 a4 a5 a6 => h6 v H' A Bs a1 a2 a3 a4 (own_pn.mpr a5) (allO_pn.mpr a6)
  | ex k fs =>
    rw [e] at h6
    exact fun cls od H' a1 a2 => h6 cls od H' a1 (exr_pn.mpr a2)
theorem FnAt.pn {X : Cx} {W : Wd} {b : Hp} {q : Nat → Option V} {x : Str} {io : List Nat} {sp : List (D × Nat) → RR} (h : FnAt X W x io sp) : FnAt X { W with bf := b, pn := q } x io sp := by
  obtain ⟨k, f, fd, ps, a, F, r⟩ := h.ex
  exact ⟨k, f, fd, ps, a, F.imp fun vs H Q E h => spOf_pn h, r⟩
/-- all defs: at level k -/
def Fk (cs : List Code) : Nat → Fn
  | 0 => fun _ _ => .bad
  | k + 1 => fun f args => match cs[f]? with
    | some c => run (Fk cs k) c args
    | none => .bad
/-- what is known of one def's text: its slots' names, its parameters, its statement -/
structure DefOk (tb : Tb) (N ps : List Str) (st : Stmt) (c : Code) : Prop where
  sc : FnScope N ps (defScope st)
  np : c.np = ps.length
  ns : c.ns = N.length
  io : c.io.Nodup ∧ ∀ i ∈ c.io, i < c.np
  ok : mSs N { tb with hs := c.io } false c.body (defScope st) (defBody st) = true
theorem pick_val {vs : List V} : ∀ {io : List Nat} {σ : L2.St} {Bs : List (List Addr)} {Γ : Env} {As : List (List Addr)} {W : Wd} {Hf H : Hp} {os : List (D × Nat)}, (∀ i ∈ io, ∃ v, vs[i]? = some v ∧ σ[i]? = some (some v)) → outs Γ io = some os →
    (∀ (i : Nat) (d : D) (n : Nat), Γ[i]? = some (some (d, n)) → ∃ v A, σ[i]? = some (some v) ∧ As[i]? = some A ∧ Own W Hf H n d v A) → ∃ Bs : List (List Addr), AllO W Hf H os (pick vs io) Bs ∧ Bs = io.map fun i => As.getD i []
  | [], σ, _, Γ, As, W, Hf, H, os, _, ho, _ => by
    simp only [outs, Option.some.injEq] at ho
    subst ho
    exact ⟨[], .nil, rfl⟩
  | i :: io, σ, Bs0, Γ, As, W, Hf, H, os, hv, ho, hs => by
    simp only [outs] at ho
    split at ho
    · rename_i p hp
      obtain ⟨d, n⟩ := p
      rw [Option.map_eq_some_iff] at ho
      obtain ⟨q, hq, rfl⟩ := ho
      obtain ⟨Bs, h1, h2⟩ := pick_val (Bs := Bs0) (fun j hj => hv j (List.mem_cons_of_mem _ hj)) hq hs
      obtain ⟨v, A, a1, a2, a3⟩ := hs i d n hp
      obtain ⟨w, b1, b2⟩ := hv i List.mem_cons_self
      rw [a1] at b2; cases b2
      refine ⟨A :: Bs, ?_, by rw [h2]; simp [List.getD, a2]⟩
      show AllO W Hf H ((d, n) :: q) (vs.getD i .non :: pick vs io) (A :: Bs)
      rw [show vs.getD i .non = v by simp [List.getD, b1]]
      exact .cons a3 h1
    · cases ho
theorem mem_outs {As : List (List Addr)} {io : List Nat} {p : Addr} (h : p ∈ (io.map fun i => As.getD i []).flatten) : p ∈ As.flatten := by
  obtain ⟨A, hA, hp⟩ := List.mem_flatten.mp h
  obtain ⟨i, hi, rfl⟩ := List.mem_map.mp hA
  cases e : As[i]? with
  | none => simp [List.getD, e] at hp
  | some B => rw [show As.getD i [] = B by simp [List.getD, e]] at hp; exact mem_flat_of e hp
theorem nodup_outs {As : List (List Addr)} (nd : As.flatten.Nodup) : ∀ {io : List Nat}, io.Nodup → (io.map fun i => As.getD i []).flatten.Nodup
  | [], _ => .nil
  | i :: io, h => by
    rw [List.nodup_cons] at h
    rw [List.map_cons, List.flatten_cons, List.nodup_append]
    refine ⟨?_, nodup_outs nd h.2, fun a ha b hb e => ?_⟩
    · cases e : As[i]? with
      | none => simp [List.getD, e]
      | some B => rw [show As.getD i [] = B by simp [List.getD, e]]; exact flat_one nd e
    · subst e
      obtain ⟨A, hA, hp⟩ := List.mem_flatten.mp hb
      obtain ⟨j, hj, rfl⟩ := List.mem_map.mp hA
      cases e1 : As[i]? with
      | none => simp [List.getD, e1] at ha
      | some B =>
        cases e2 : As[j]? with
        | none => simp [List.getD, e2] at hp
        | some C =>
          rw [show As.getD i [] = B by simp [List.getD, e1]] at ha
          rw [show As.getD j [] = C by simp [List.getD, e2]] at hp
          exact flat_sep nd (show i ≠ j from fun z => h.1 (by rw [z]; exact hj)) e1 e2 a ha hp
section
variable {P : Program} {w : World} {K : PySem.W.Frag} {mg : Str → Option Value} {base : Heap}
/-- what is known of the module -/
structure Md (W : Wd) (K : PySem.W.Frag) (mg : Str → Option Value) (tb : Tb) : Prop where
  hK : K = W.K
  bf : ∀ a, W.bf a = none
  pn : ∀ i, W.pn i = none
  glb : ∀ p ∈ tb.gl, ∃ u v, mg p.1 = some u ∧ RelV v u ∧ ∀ H, Fro W H p.2 v
  blt : ∀ b ∈ bltNames, mg (Str.ofString b) = none
  xn : tb.xn = none
  exs : ∀ p ∈ tb.ex, ExOk K mg (W.cls p.1) p.2 (W.flds p.1)
  exm : ∀ p ∈ tb.ex, ∀ q ∈ tb.ex, PySem.W.exmOne K (.ref (W.cls p.1)) (.ref (W.cls q.1)) = some (subEx p.1 q.1)
  fl : ∀ c, GL.bare c = true → W.flds c = []
/-- a def that stands there -/
structure DefAt (K : PySem.W.Frag) (mg : Str → Option Value) (x : Str) (st : Stmt) (ps : List Str) (f : Addr) (fd : FuncData) : Prop where
  fn : Fun K x x st f fd
  mg : mg x = some (.ref f)
  bind : Binds K fd ps []
  b0 : ∀ (s : Shared) (us : List Value), us.length = ps.length → BindsTo s fd ⟨us, []⟩ (ps.zip us)
/-- what a class's making does, at a level -/
structure MkK (P : Program) (w : World) (K : PySem.W.Frag) (mg : Str → Option Value) (base : Heap) (W : Wd) (lev : Nat) (x : Str) (sp : List (D × Nat) → RR) : Prop where
  ex : ∃ k C f fd ps spi, k + 1 ≤ lev ∧ Mk K C f ∧ FnOk P w K mg base CX0 k f fd ps spi ∧ mg x = some (.ref C) ∧ Binds K fd ps [] ∧
    ∀ vs H Q E, spMk W sp vs H Q → ∀ x dx, H x = none → H dx = none → dx ≠ x → spi (.ref x :: vs) (upd (upd H dx (.own x)) x (.ins C dx [])) (fun v H2 => v = .non ∧ Q (.ref x) H2) E
structure MtK (P : Program) (w : World) (K : PySem.W.Frag) (mg : Str → Option Value) (base : Heap) (W : Wd) (lev : Nat) (c : Nat) (m : Str) (sp : List (D × Nat) → RR) : Prop where
  ex : ∃ k C f fd ps spi, k ≤ lev ∧ Cls K C ∧ Meth K C m f ∧ FnOk P w K mg base CX0 k f fd ps spi ∧ Binds K fd ps [] ∧
    (∀ ds v H, W.OB c ds v H → ∃ a dx fs, v = .ref a ∧ H a = some (.ins C dx fs) ∧ fs.lookup m = none) ∧
    ∀ vs H Q E, spFr W sp vs H Q → spi vs H Q E
theorem MkK.weak {P : Program} {w : World} {K : PySem.W.Frag} {mg : Str → Option Value} {base : Heap} {W : Wd} {l l' : Nat} {x : Str} {sp sp' : List (D × Nat) → RR} (h : MkK P w K mg base W l x sp) (hl : l ≤ l') (hs : ∀ vs H Q, spMk W sp' vs H Q → spMk W sp vs H Q) : MkK P w K mg base W l' x sp' := by
  obtain ⟨k, C, f, fd, ps, spi, a0, a1, a2, a3, a4, a5⟩ := h.ex
  exact ⟨k, C, f, fd, ps, spi, by omega, a1, a2, a3, a4, fun vs H Q E z => a5 vs H Q E (hs _ _ _ z)⟩
theorem MtK.weak {P : Program} {w : World} {K : PySem.W.Frag} {mg : Str → Option Value} {base : Heap} {W : Wd} {l l' c : Nat} {x : Str} {sp sp' : List (D × Nat) → RR} (h : MtK P w K mg base W l c x sp) (hl : l ≤ l') (hs : ∀ vs H Q, spFr W sp' vs H Q → spFr W sp vs H Q) : MtK P w K mg base W l' c x sp' := by
  obtain ⟨k, C, f, fd, ps, spi, a0, a1, a2, a3, a4, a5, a6⟩ := h.ex
  exact ⟨k, C, f, fd, ps, spi, by omega, a1, a2, a3, a4, a5, fun vs H Q E z => a6 vs H Q E (hs _ _ _ z)⟩
theorem spMk_bad {W : Wd} {vs : List V} {H : Hp} {Q : VK} (h : spMk W (fun _ => .bad) vs H Q) : False := by
  obtain ⟨ds, S, h1, h2, h3⟩ := h
  exact h3
theorem spFr_bad {W : Wd} {vs : List V} {H : Hp} {Q : VK} (h : spFr W (fun _ => .bad) vs H Q) : False := by
  obtain ⟨ds, S, h1, h2, h3⟩ := h
  exact h3
theorem fn_run {W : Wd} {tb : Tb} {F : Fn} {k : Nat} {x q : Str} {st : Stmt} {f : Addr} {fd : FuncData} {N ps : List Str} {c : Code} (M : Md W K mg tb) (A : Fun K x q st f fd) (dk : DefOk tb N ps st c)
    (calls : ∀ g y io, tb.fn[g]? = some (y, io) → ∃ fa fd ps, (∀ args, F g args ≠ .bad → args.length = ps.length) ∧ FnOk P w K mg base (L2.CX P w) k fa fd ps (spOf W io ps.length (F g)) ∧ mg y = some (.ref fa) ∧ PySem.W.keepIn K (.ref fa) = true ∧ Binds K fd ps [])
    (mo : ∀ p ∈ tb.cl, MkK P w K mg base W k p.2 (F p.1)) (me : ∀ p ∈ tb.me, MtK P w K mg base W k p.2.1 p.2.2 (F p.1)) :
    FnOk P w K mg base (L2.CX P w) (k + 1) f fd ps (spOf W c.io ps.length (run F c)) := by
  refine A.okX dk.sc (fun vs H Q E h => ?_) (fun cdv A' outer s H vs Q E hr h => ?_)
  · obtain ⟨_, _, _, h1, _⟩ := h; exact h1
  · obtain ⟨args, S, As, h1, h2, h3, h4, h5, h6⟩ := h
    have hk := M.hK
    have hs1 : StOk (pinW W c.io vs) ⟨H, S, As.flatten, hid H fun a => S a ∨ a ∈ As.flatten⟩ H (L2.start N vs) (GL.start c args) (As ++ List.replicate (c.ns - c.np) []) ∨ args.length ≠ c.np := by
      by_cases hl : args.length = c.np
      · left
        have hvl : vs.length = c.np := by rw [dk.np]; exact h1
        have hAl : As.length = c.np := by rw [← h5.len.2]; exact hl
        have hnl : N.length - vs.length = c.ns - c.np := by rw [dk.ns, hvl]
        have hfl : (As ++ List.replicate (c.ns - c.np) ([] : List Addr)).flatten = As.flatten := by rw [flat_app, flat_nils, List.append_nil]
        refine ⟨by simp [GL.start, hAl, hl], by simp [L2.start, GL.start, hvl, hl, dk.ns], fun a o _ h => h, by rw [hfl]; exact h3, fun p hp => ?_, h2, fun i d n e => ?_, fun i A e1 e2 => ?_, fun a ha => h5.there a ha, ?_, fun a o q => ?_, fun i v q => ?_⟩
        · rw [hfl] at hp; exact ⟨.inl hp, h4 p hp⟩
        · unfold GL.start at e
          by_cases hi : i < args.length
          · rw [List.getElem?_append_left (by simpa using hi), List.getElem?_map] at e
            cases ea : args[i]? with
            | none => rw [ea] at e; cases e
            | some p =>
              rw [ea] at e
              simp only [Option.map_some, Option.some.injEq] at e
              subst e
              obtain ⟨v, A, g1, g2, g3⟩ := h5.get ea
              refine ⟨v, A, ?_, ?_, ?_⟩
              · unfold L2.start
                rw [List.getElem?_append_left (by rw [List.length_map, hvl, ← hl]; exact hi), List.getElem?_map, g1]; rfl
              · rw [List.getElem?_append_left (by rw [hAl, ← hl]; exact hi)]; exact g2
              · have : tot ⟨H, S, As.flatten, hid H fun a => S a ∨ a ∈ As.flatten⟩ (As ++ List.replicate (c.ns - c.np) []) = fun a => S a ∨ a ∈ As.flatten := by funext a; unfold tot; rw [hfl]
                rw [this]; exact own_pn.mpr g3
          · rw [List.getElem?_append_right (by simpa using hi), List.getElem?_replicate] at e
            split at e <;> cases e
        · unfold GL.start at e1
          by_cases hi : i < args.length
          · rw [List.getElem?_append_left (by simpa using hi), List.getElem?_map] at e1
            cases ea : args[i]? with
            | none => rw [ea] at e1; cases e1
            | some p => rw [ea] at e1; cases e1
          · rw [List.getElem?_append_right (by rw [hAl, ← hl]; omega), List.getElem?_replicate] at e2
            split at e2
            · cases e2; rfl
            · cases e2
        · show Ex (hid H fun a => S a ∨ a ∈ As.flatten) (hid H (tot _ _))
          refine hid_le fun a t => ?_
          unfold tot at t
          rw [hfl] at t
          exact t
        · rw [show (pinW W c.io vs).bf a = none from M.bf a] at q; cases q
        · have q : (if i ∈ c.io then vs[i]? else none) = some v := q
          split at q
          · unfold L2.start
            rw [List.getElem?_append_left (by rw [List.length_map]; exact (List.getElem?_eq_some_iff.mp q).1), List.getElem?_map, q]; rfl
          · cases q
      · exact .inr hl
    have hrun : run F c args = if args.length = c.np ∧ fits (c.io ++ eats c) 0 args = true then (match evSs F c.body (GL.start c args) with
      | .nx Γ => rr .non 0 (outs Γ c.io)
      | .rt d n Γ => rr d n (outs Γ c.io)
      | .ex k fs _ => .ex k fs
      | .bad => .bad) else .bad := rfl
    by_cases hc : args.length = c.np ∧ fits (c.io ++ eats c) 0 args = true
    · rw [hrun, if_pos hc] at h6
      have s0 := hs1.resolve_right (fun z => z hc.1)
      refine ⟨tSs (pinW W c.io vs) F (fun cls d _ H => E cls d H) c.body, ?_, ?_⟩
      · refine mSs_ok c.body (N := N) (tb := { tb with hs := c.io }) (hot := false) ⟨⟨hk, rfl, dk.sc.nd, dk.sc.kind, fun x k h => .inl h, fun _ _ => rfl, fun _ => rfl, fun i v q => ?_, by have := hr.un; show (A'.deeper (envOfC q (defScope st) s.heap.objs.size f cdv)).units + 65 < cLine; omega, takes_of rfl rfl rfl rfl, fun _ g y io hg => ?_, fun p hp => ?_, M.blt, fun _ p hp => ?_, fun _ p hp => ?_, M.exs, M.exm, M.fl, fun i e => by rw [M.xn] at e; cases e⟩, passes_of rfl, rfl, rfl⟩ dk.ok
        · have q : (if i ∈ c.io then vs[i]? else none) = some v := q
          split at q
          · assumption
          · cases q
        · obtain ⟨fa, fd', ps', a1, a2, a3, a4, a5⟩ := calls g y io hg
          exact FnAt.pn (W := W) (b := W.bf) ⟨k, fa, fd', ps', a1, a2, hr, a3, a4, a5⟩
        · obtain ⟨u, v, a1, a2, a3⟩ := M.glb p hp
          exact ⟨u, v, a1, a2, fun H => fro_pn.mpr (a3 H)⟩
        · obtain ⟨k', C, f', fd', ps', spi, a0, a1, a2, a3, a4, a5⟩ := (mo p hp).ex
          exact MkAt.pn (W := W) (b := W.bf) ⟨k', C, f', fd', ps', spi, a1, a2, hr.mono a0, a3, a4, a5⟩
        · obtain ⟨k', C, f', fd', ps', spi, a0, a1, a2, a3, a4, a5, a6⟩ := (me p hp).ex
          exact MtAt.pn (W := W) (b := W.bf) ⟨k', C, f', fd', ps', spi, a1, a2, a3, hr.mono a0, a4, a5, a6⟩
      · refine ⟨_, _, _, s0, ?_⟩
        have hval : ∀ {σ' : L2.St} {Γ' : Env} {ac' : Ac} {As' : List (List Addr)} {H' : Hp}, StOk (pinW W c.io vs) ac' H' σ' Γ' As' → ∀ i ∈ c.io, ∃ v, vs[i]? = some v ∧ σ'[i]? = some (some v) := fun s' i hi => by
          have hil : i < vs.length := by rw [h1, ← dk.np]; exact dk.io.2 i hi
          refine ⟨vs[i], List.getElem?_eq_getElem hil, s'.pin i vs[i] ?_⟩
          show (if i ∈ c.io then vs[i]? else none) = _
          rw [if_pos hi]; exact List.getElem?_eq_getElem hil
        have fin : ∀ {d : D} {n : Nat} {Γ' : Env} {os : List (D × Nat)} {v : V} {σ' : L2.St} {H' : Hp}, XOut (pinW W c.io vs) ⟨H, S, As.flatten, hid H fun a => S a ∨ a ∈ As.flatten⟩ Γ' d n v σ' H' → outs Γ' c.io = some os →
            (∀ v H' A Bs, (∀ a o, a ∉ As.flatten → H a = some o → H' a = some o) → (∀ a ∈ As.flatten, ∃ o, H' a = some o) → (A ++ Bs.flatten).Nodup → (∀ p ∈ A ++ Bs.flatten, (p ∈ As.flatten ∨ H p = none) ∧ ¬ S p) →
              Own W (hid H' fun a => S a ∨ a ∈ A ++ Bs.flatten) H' n d v A → AllO W (hid H' fun a => S a ∨ a ∈ A ++ Bs.flatten) H' os (pick vs c.io) Bs → Q v H') → Q v H' := fun {d n Γ' os v σ' H'} x ho hq => by
          obtain ⟨ac', As', A, l, nd, hA, s', o⟩ := x.ex
          have nAs : ∀ p ∈ A, p ∉ As'.flatten := fun p hp hq => (s'.own p hq).2 (.inr hp)
          obtain ⟨Bs, al, eB⟩ := pick_val (Bs := []) (hval s') ho s'.slot
          have hB : ∀ p ∈ Bs.flatten, p ∈ As'.flatten := fun p hp => mem_outs (by rw [← eB]; exact hp)
          have le : ∀ a, (S a ∨ a ∈ A ++ Bs.flatten) → (ac'.S a ∨ a ∈ A ∨ a ∈ As'.flatten) := fun a t => by
            rcases t with t | t
            · exact .inl (l.s a t)
            · rcases List.mem_append.mp t with t | t
              · exact .inr (.inl t)
              · exact .inr (.inr (hB a t))
          refine hq v H' A Bs (fun a o ha h => ?_) (fun a ha => ?_) ?_ (fun p hp => ?_) (own_pn.mp (o.mono (hid_le le) fun _ _ _ q => q)) ?_
          · refine s'.pres a o ?_ ?_
            · show a ∉ ac'.A0; rw [l.a0]; exact ha
            · show ac'.H0 a = _; rw [l.h]; exact h
          · exact s'.a0 a (by show a ∈ ac'.A0; rw [l.a0]; exact ha)
          · rw [List.nodup_append]
            exact ⟨nd, by rw [eB]; exact nodup_outs s'.nd dk.io.1, fun a ha b hb e => nAs a ha (hB a (e ▸ hb))⟩
          · have : (p ∈ ac'.A0 ∨ ac'.H0 p = none) ∧ ¬ ac'.S p := by
              rcases List.mem_append.mp hp with z | z
              · exact hA p z
              · exact let y := s'.own p (hB p z); ⟨y.1, fun t => y.2 (.inl t)⟩
            rw [l.a0, l.h] at this
            exact ⟨this.1, fun t => this.2 (l.s p t)⟩
          · have al2 := allO_pn.mp al
            have gen : ∀ {Hf Hg : Hp} {os vs Bs}, AllO W Hf H' os vs Bs → Ex Hf Hg → AllO W Hg H' os vs Bs := fun h x => by
              induction h with
              | nil => exact .nil
              | cons o _ ih => exact .cons (o.mono x fun _ _ _ q => q) ih
            refine gen al2 (hid_le fun a t => ?_)
            rcases le a t with z | z | z
            · exact .inl (.inl z)
            · exact .inl (.inr z)
            · exact .inr z
        cases er : evSs F c.body (GL.start c args) with
        | bad => rw [er] at h6; exact h6.elim
        | nx Γ' =>
          rw [er] at h6
          dsimp only at h6
          cases ho : outs Γ' c.io with
          | none => rw [ho] at h6; exact h6.elim
          | some os =>
            rw [ho] at h6
            intro ac' As' σ' H' l s'
            exact fin (XOut.le (XOut.non s') l) ho h6
        | rt d n Γ' =>
          rw [er] at h6
          dsimp only at h6
          cases ho : outs Γ' c.io with
          | none => rw [ho] at h6; exact h6.elim
          | some os =>
            rw [ho] at h6
            intro v σ' H' x
            exact fin x ho h6
        | ex k fs Γ' =>
          rw [er] at h6
          intro ac' As' cls od σ' H' l s' r
          refine h6 cls od H' (fun a o ha h => s'.pres a o (by rw [l.a0]; exact ha) (by rw [l.h]; exact h)) (exr_pn.mp (r.mono (hid_le fun a t => ?_)))
          exact .inl (l.s a t)
    · rw [hrun, if_neg hc] at h6; exact h6.elim
/-- the law's defs: name, statement, slots, parameters, core text -/
structure Def where
  x : Str
  st : Stmt
  N : List Str
  ps : List Str
  c : Code
/-- a def that is given by what it does -/
def PrimOk (P : Program) (w : World) (K : PySem.W.Frag) (mg : Str → Option Value) (base : Heap) (W : Wd) (d : GL.Def) : Prop :=
  d.c.np = d.ps.length ∧ ∀ f fd, DefAt K mg d.x d.st d.ps f fd → ∀ F, FnOk P w K mg base (L2.CX P w) 3 f fd d.ps (spOf W d.c.io d.ps.length (run F d.c))
/-- every def at every level -/
theorem tower {W : Wd} {tb : Tb} {ds : List GL.Def} {cs : List Code} (M : Md W K mg tb) (htb : tb.fn = ds.map fun d => (d.x, d.c.io)) (hcs : ∀ (g : Nat) (d : GL.Def), ds[g]? = some d → cs[g]? = some d.c) (hA : ∀ d ∈ ds, ∃ f fd, DefAt K mg d.x d.st d.ps f fd)
    (hD : ∀ d ∈ ds, DefOk tb d.N d.ps d.st d.c ∨ PrimOk P w K mg base W d) (hcl : ∀ p ∈ tb.cl, ∃ c, cs[p.1]? = some c ∧ ∀ F, MkK P w K mg base W 3 p.2 (run F c)) (hme : ∀ p ∈ tb.me, ∃ c, cs[p.1]? = some c ∧ ∀ F, MtK P w K mg base W 3 p.2.1 p.2.2 (run F c)) :
    ∀ k, ∀ g d, ds[g]? = some d → ∃ f fd, DefAt K mg d.x d.st d.ps f fd ∧ FnOk P w K mg base (L2.CX P w) (k + 3) f fd d.ps (spOf W d.c.io d.ps.length (Fk cs k g))
  | 0, g, d, hg => by
    obtain ⟨f, fd, a⟩ := hA d (List.mem_of_getElem? hg)
    refine ⟨f, fd, a, ⟨fun vs H Q E h => ?_, fun A outer s H args us vs Q E hr e hb hv h => ?_⟩⟩
    · obtain ⟨_, _, _, h1, _⟩ := h; exact h1
    · obtain ⟨args, S, As, h1, h2, h3, h4, h5, h6⟩ := h
      exact h6.elim
  | k + 1, g, d, hg => by
    obtain ⟨f, fd, a⟩ := hA d (List.mem_of_getElem? hg)
    refine ⟨f, fd, a, ?_⟩
    have hc := hcs g d hg
    have e : Fk cs (k + 1) g = run (Fk cs k) d.c := by
      funext args
      show (match cs[g]? with | some c => run (Fk cs k) c args | none => .bad) = _
      rw [hc]
    rw [e]
    rcases hD d (List.mem_of_getElem? hg) with hd | ⟨_, hd⟩
    · have at_ : ∀ i c, cs[i]? = some c → k = 0 ∧ Fk cs k i = (fun _ => .bad) ∨ ∃ j, Fk cs k i = run (Fk cs j) c := fun i c hi => by
        cases k with
        | zero => exact .inl ⟨rfl, rfl⟩
        | succ j =>
          refine .inr ⟨j, ?_⟩
          funext args
          show (match cs[i]? with | some c => run (Fk cs j) c args | none => .bad) = _
          rw [hi]
      refine fn_run M a.fn hd (fun g' y io hy => ?_) (fun p hp => ?_) (fun p hp => ?_)
      · rw [htb, List.getElem?_map] at hy
        obtain ⟨d', hd', e'⟩ := Option.map_eq_some_iff.mp hy
        cases e'
        obtain ⟨f', fd', a', F'⟩ := tower M htb hcs hA hD hcl hme k g' d' hd'
        refine ⟨f', fd', d'.ps, fun args h => ?_, F', a'.mg, a'.fn.kp, a'.bind⟩
        rcases at_ g' d'.c (hcs g' d' hd') with ⟨_, z⟩ | ⟨j, z⟩
        · rw [z] at h; exact absurd rfl h
        · rw [z] at h
          unfold run at h
          split at h
          · rename_i hc
            rw [hc.1]
            rcases hD d' (List.mem_of_getElem? hd') with q | q
            · exact q.np
            · exact q.1
          · exact absurd rfl h
      · obtain ⟨c, h1, h2⟩ := hcl p hp
        rcases at_ p.1 c h1 with ⟨_, z⟩ | ⟨j, z⟩
        · rw [z]; exact (h2 (Fk cs 0)).weak (by omega) fun vs H Q h => (spMk_bad h).elim
        · rw [z]; exact (h2 _).weak (by omega) fun vs H Q h => h
      · obtain ⟨c, h1, h2⟩ := hme p hp
        rcases at_ p.1 c h1 with ⟨_, z⟩ | ⟨j, z⟩
        · rw [z]; exact (h2 (Fk cs 0)).weak (by omega) fun vs H Q h => (spFr_bad h).elim
        · rw [z]; exact (h2 _).weak (by omega) fun vs H Q h => h
    · exact (hd f fd a _).mono (by omega)
end
end GL

/-! GL25: a law's end. -/
namespace GL
open PySem L2 PyProof.Rows
/-- the fields of the exceptions -/
def fldsOf : Nat → List Str
  | 3 => ["row"]
  | 8 => ["ring"]
  | 9 => ["thing", "at"]
  | 11 => ["thing", "at", "tellings"]
  | _ => []
theorem fldsOf_bare {c : Nat} (h : GL.bare c = true) : fldsOf c = [] := by
  unfold fldsOf
  split <;> first | rfl | (simp [GL.bare] at h; done)
/-- the world of a law without objects -/
def w0 (K : PySem.W.Frag) (cl : List (Nat × Addr)) : Wd := ⟨K, fun _ => none, fun _ => none, fun _ _ _ _ => False, fun _ _ _ _ _ _ h => h, fun k => (cl.lookup k).getD 0, fldsOf⟩
/-- a class's facts -/
theorem exOk_mk {K : PySem.W.Frag} {h : Heap} {mg : Str → Option Value} (X : K.In h) (G : h.Ns mainGlobals mg) {C : Addr} {x : Str} {fl : List Str} (g : PySem.W.nsIn K mainGlobals x = some (some (.ref C))) (k : PySem.W.keepIn K (.ref C) = true) (b : PySem.W.subIn K (.ref C) (.type "BaseException") = some true) (t : PySem.W.typeIn K (.ref C) = some (.type "type"))
    (d : PySem.W.hasDictIn K C = true) (i1 : PySem.W.findIn K (.ref C) "__getattribute__" = some (some (.builtin "BaseException.__getattribute__"))) (i2 : PySem.W.findIn K (.ref C) "__getattr__" = some none) (i3 : PySem.W.findIn K (.ref C) "__class__" = some (some (.builtin "object.__class__"))) (i4 : PySem.W.specialIn K (.builtin "object.__class__") "__get__" = some (some (.builtin "getset_descriptor.__get__")))
    (i5 : PySem.W.takesIn K (.builtin "object.__class__") = some true) (i6 : PySem.W.mroIn K C (.type "object") = some true) (v : PySem.W.subIn K (.ref C) (.type "ValueError") = some true) (xi : fl = [] → PySem.W.excIn K C veT "ValueError.__new__" = true) : ExOk K mg C x fl :=
  ⟨PySem.W.mg_of X G g, k, t, ⟨i1, i2, b, d, i3, i4, i5, i6⟩, by
    unfold PySem.W.kitOne PySem.W.kitCls
    have e : ((Value.ref C) == .type "ValueError") = false := rfl
    rw [e, if_neg (by decide)]
    show (if PySem.W.kitMeta "ValueError" = true then _ else none) = _
    rw [if_pos (by decide +kernel)]; exact v, xi⟩
theorem exm_mk {K : PySem.W.Frag} {C D : Addr} {b : Bool} (h1 : PySem.W.subIn K (.ref D) (.type "BaseException") = some true) (h2 : PySem.W.hasDictIn K D = true) (h3 : PySem.W.typeIn K (.ref D) = some (.type "type")) (h4 : PySem.W.subIn K (.ref C) (.ref D) = some b) : PySem.W.exmOne K (.ref C) (.ref D) = some b := PySem.W.exm_ref h1 h2 h3 h4
def spLaw (K : PySem.W.Frag) : Sp := fun vs H Q _ => ∃ (a : Addr) (ns : List Int), vs = [.ref a] ∧ SqL K H a (ns.map V.int) ∧ ns.length ≤ 63 ∧ ∀ H', Q (.bl true) H'
theorem fros_ints {W : Wd} {H : Hp} : ∀ ns : List Int, Fros W H (ns.map D.int) (ns.map V.int)
  | [] => rfl
  | n :: ns => ⟨_, _, rfl, rfl, fros_ints ns⟩
theorem law_sp {W : Wd} {F : List (D × Nat) → RR} (h : ∀ ns : List Int, ns.length ≤ 63 → ∃ n os, F [(.ro true (ns.map D.int), 0)] = .ok (.bl true) n os) {vs : List V} {H : Hp} {Q : VK} {E : XK} (q : spLaw W.K vs H Q E) : spOf W [] 1 F vs H Q E := by
  obtain ⟨a, ns, rfl, hS, hl, q⟩ := q
  obtain ⟨n, os, hr⟩ := h ns hl
  refine ⟨[(.ro true (ns.map D.int), 0)], fun _ => False, [[]], rfl, fun a h => h.elim, by simp, fun p hp => by simp at hp, .cons ⟨rfl, a, ns.map V.int, rfl, ?_, fros_ints ns⟩ .nil, ?_⟩
  · refine ex_l (fun b o e => ?_) hS
    rw [hid_at]
    · exact e
    · rintro (z | z)
      · exact z
      · simp at z
  · rw [hr]
    intro v H' A Bs _ _ _ _ o _
    have : v = .bl true := by cases n <;> exact o.2
    subst this
    exact q H'
section
variable {P : Program} {w : World} {K : PySem.W.Frag} {mg : Str → Option Value} {h : Heap}
theorem defAt_mk {x : Str} {st : Stmt} {ps : List Str} {f : Addr} {oc : Value} {od an : Option Addr} {osl : Array (Option Value)} {kV doc pm cdv ct : Value} (X : K.In h) (G : h.Ns mainGlobals mg) (a : PySem.W.nsIn K mainGlobals x = some (some (.ref f)))
    (l : K.lookup f = some ⟨oc, od, .func (PySem.W.fnOf x x (defArgs st) (defBody st) (defScope st) .none kV doc pm an cdv ct), osl⟩) (c : PySem.W.codeIn K cdv x = true) (k : PySem.W.keepIn K (.ref f) = true)
    (b : ∀ (kV doc pm : Value) (an : Option Addr) (cdv ct : Value) (us : List Value), us.length = ps.length → bindArgs (PySem.W.fnOf x x (defArgs st) (defBody st) (defScope st) .none kV doc pm an cdv ct) ⟨us, []⟩ = pure (ps.zip us)) :
    ∃ f fd, DefAt K mg x st ps f fd :=
  ⟨f, _, fun_mk l c k, PySem.W.mg_of X G a, (fun_mk l c k).binds b, fun s us hl => .of_eq (b _ _ _ _ _ _ us hl)⟩
theorem law_allM {W : Wd} {tb : Tb} {ds : List GL.Def} {cs : List Code} {k g : Nat} {d : GL.Def} {p : Str} {fa : Addr} (M : Md W K mg tb) (htb : tb.fn = ds.map fun d => (d.x, d.c.io)) (hcs : ∀ (g : Nat) (d : GL.Def), ds[g]? = some d → cs[g]? = some d.c) (hA : ∀ d ∈ ds, ∃ f fd, DefAt K mg d.x d.st d.ps f fd)
    (hD : ∀ base : Heap, K.In base → base.Ns mainGlobals mg → ∀ d ∈ ds, DefOk tb d.N d.ps d.st d.c ∨ PrimOk P w K mg base W d) (hcl : ∀ base : Heap, K.In base → base.Ns mainGlobals mg → ∀ p ∈ tb.cl, ∃ c, cs[p.1]? = some c ∧ ∀ F, MkK P w K mg base W 3 p.2 (run F c)) (hme : ∀ base : Heap, K.In base → base.Ns mainGlobals mg → ∀ p ∈ tb.me, ∃ c, cs[p.1]? = some c ∧ ∀ F, MtK P w K mg base W 3 p.2.1 p.2.2 (run F c))
    (hg : ds[g]? = some d) (hps : d.ps = [p]) (hio : d.c.io = []) (hfa : mg d.x = some (.ref fa))
    (hrun : ∀ ns : List Int, ns.length ≤ 63 → ∃ n os, Fk cs k g [(.ro true (ns.map D.int), 0)] = .ok (.bl true) n os) :
    ∃ fd : FuncData, (∀ (s : Shared) (u : Value), BindsTo s fd ⟨[u], []⟩ [(p, u)]) ∧ ∀ base : Heap, K.In base → base.Ns mainGlobals mg → FnOk P w K mg base (L2.CX P w) (k + 3) fa fd [p] (spLaw K) := by
  obtain ⟨f, fd, a⟩ := hA d (List.mem_of_getElem? hg)
  have e := a.mg
  rw [hfa] at e
  cases e
  refine ⟨fd, fun s u => by have := a.b0 s [u] (by rw [hps]; rfl); rw [hps] at this; exact this, fun base hb hn => ?_⟩
  obtain ⟨f', fd', a', F⟩ := tower (P := P) (w := w) (base := base) M htb hcs hA (hD base hb hn) (hcl base hb hn) (hme base hb hn) k g d hg
  have e := a'.mg
  rw [hfa] at e
  cases e
  have e2 : fd' = fd := by
    obtain ⟨_, _, _, _, _, _, _, _, _, _, l1, _⟩ := a.fn.ex
    obtain ⟨_, _, _, _, _, _, _, _, _, _, l2, _⟩ := a'.fn.ex
    rw [l1] at l2
    cases l2; rfl
  subst e2
  rw [hps, hio] at F
  have hK := M.hK
  subst hK
  exact F.imp fun vs H Q E h => law_sp hrun h
theorem law_all {W : Wd} {tb : Tb} {ds : List GL.Def} {k g : Nat} {d : GL.Def} {p : Str} {fa : Addr} (M : Md W K mg tb) (htb : tb.fn = ds.map fun d => (d.x, d.c.io)) (hcl : tb.cl = []) (hme : tb.me = []) (hA : ∀ d ∈ ds, ∃ f fd, DefAt K mg d.x d.st d.ps f fd) (hD : ∀ d ∈ ds, DefOk tb d.N d.ps d.st d.c) (hg : ds[g]? = some d) (hps : d.ps = [p]) (hio : d.c.io = []) (hfa : mg d.x = some (.ref fa))
    (hrun : ∀ ns : List Int, ns.length ≤ 63 → ∃ n os, Fk (ds.map GL.Def.c) k g [(.ro true (ns.map D.int), 0)] = .ok (.bl true) n os) :
    ∃ fd : FuncData, (∀ (s : Shared) (u : Value), BindsTo s fd ⟨[u], []⟩ [(p, u)]) ∧ ∀ base : Heap, K.In base → base.Ns mainGlobals mg → FnOk P w K mg base (L2.CX P w) (k + 3) fa fd [p] (spLaw K) :=
  law_allM M htb (fun g d h => by rw [List.getElem?_map, h]; rfl) hA (fun _ _ _ d hd => .inl (hD d hd)) (fun _ _ _ p hp => by rw [hcl] at hp; cases hp) (fun _ _ _ p hp => by rw [hme] at hp; cases hp) hg hps hio hfa hrun
end
end GL

/-! GLP: running core texts. -/
namespace GL
theorem R.bind_ok (d : D) (n : Nat) (k : D → Nat → R) : (R.ok d n).bind k = k d n := rfl
theorem R.bind_ex (c : Nat) (fs : List D) (k : D → Nat → R) : (R.ex c fs).bind k = .ex c fs := rfl
theorem R.bind_ite (p : Prop) [Decidable p] (a b : R) (k : D → Nat → R) : (if p then a else b).bind k = if p then a.bind k else b.bind k := by split <;> rfl
theorem opAdd (a b : Int) (n m : Nat) : opBin .add (.int a) n (.int b) m = .ok (.int (a + b)) 0 := rfl
theorem opSub (a b : Int) (n m : Nat) : opBin .sub (.int a) n (.int b) m = .ok (.int (a - b)) 0 := rfl
theorem opMulR (a b : Int) (n m : Nat) (h1 : -18446744073709551616 < b) (h2 : b < 18446744073709551616) : opBin .mul (.int a) n (.int b) m = .ok (.int (a * b)) 0 := by
  simp [opBin, mulOk, h1, h2]
theorem opMulL (a b : Int) (n m : Nat) (h1 : -18446744073709551616 < a) (h2 : a < 18446744073709551616) : opBin .mul (.int a) n (.int b) m = .ok (.int (a * b)) 0 := by
  simp [opBin, mulOk, h1, h2]
theorem opFdiv (a b : Int) (n m : Nat) (h1 : 0 < b) (h2 : b < 1073741824) : opBin .fdiv (.int a) n (.int b) m = .ok (.int (a / b)) 0 := by
  simp [opBin, h1, h2]
theorem opMod (a b : Int) (n m : Nat) (h1 : 0 < b) : opBin .mod (.int a) n (.int b) m = .ok (.int (a % b)) 0 := by
  simp [opBin, h1]
theorem opAddS (a b : Tx) (n m : Nat) (h : a.length + b.length ≤ 16777216) : opBin .add (.str a) n (.str b) m = .ok (.str (a ++ b)) 0 := by
  simp [opBin, h]
theorem opAddT (a b : List D) (n m : Nat) (h : a.length + b.length ≤ 16777216) : opBin .add (.tup a) n (.tup b) m = .ok (.tup (a ++ b)) 0 := by
  simp [opBin, h]
theorem opAddL (a b : List D) (n m : Nat) (h0 : n ≤ 1) (h1 : m ≤ 1) (h : a.length + b.length ≤ 16777216) : opBin .add (.lst a) n (.lst b) m = .ok (.lst (a ++ b)) 1 := by
  simp [opBin, h0, h1, h]
theorem cLt (a b : Int) : opCmp .lt (.int a) (.int b) = some (decide (a < b)) := rfl
theorem cLe (a b : Int) : opCmp .le (.int a) (.int b) = some (decide (a ≤ b)) := rfl
theorem cGt (a b : Int) : opCmp .gt (.int a) (.int b) = some (decide (b < a)) := rfl
theorem cGe (a b : Int) : opCmp .ge (.int a) (.int b) = some (decide (b ≤ a)) := rfl
theorem cLtS (a b : Tx) : opCmp .lt (.str a) (.str b) = some (tlt a b) := rfl
theorem cLeS (a b : Tx) : opCmp .le (.str a) (.str b) = some (!(tlt b a)) := rfl
theorem cGtS (a b : Tx) : opCmp .gt (.str a) (.str b) = some (tlt b a) := rfl
theorem cGeS (a b : Tx) : opCmp .ge (.str a) (.str b) = some (!(tlt a b)) := rfl
theorem cEqI (a b : Int) : opCmp .eq (.int a) (.int b) = some (decide (a = b)) := by simp [opCmp, D.flat, D.peq]
theorem cNeI (a b : Int) : opCmp .ne (.int a) (.int b) = some (!decide (a = b)) := by simp [opCmp, D.flat, D.peq]
theorem cEqB (a b : Bool) : opCmp .eq (.bl a) (.bl b) = some (a == b) := by simp [opCmp, D.flat, D.peq]
theorem cNeB (a b : Bool) : opCmp .ne (.bl a) (.bl b) = some (!(a == b)) := by simp [opCmp, D.flat, D.peq]
theorem cEqS (a b : Tx) : opCmp .eq (.str a) (.str b) = some (decide (a = b)) := by simp [opCmp, D.flat, D.peq]
theorem cNeS (a b : Tx) : opCmp .ne (.str a) (.str b) = some (!decide (a = b)) := by simp [opCmp, D.flat, D.peq]
theorem cIsN (a : D) (h : a.isObj = false) : opCmp .is_ a .non = some a.isNon := by simp [opCmp, h]
theorem cIsNotN (a : D) (h : a.isObj = false) : opCmp .isnot a .non = some (!a.isNon) := by simp [opCmp, h]
theorem cInS (c : Nat) (t : Tx) : opCmp .in_ (.str [c]) (.str t) = some (decide (c ∈ t)) := rfl
theorem cNotInS (c : Nat) (t : Tx) : opCmp .notin (.str [c]) (.str t) = some (!decide (c ∈ t)) := rfl
theorem rB_some (b : Bool) : rB (some b) = .ok (.bl b) 0 := rfl
theorem rO_some (n : Nat) (d : D) : rO n (some d) = .ok d n := rfl
theorem bLenRo (l : Bool) (xs : List D) (n : Nat) (f : Bool) : opBi .len [(.ro l xs, n, f)] = .ok (.int xs.length) 0 := rfl
theorem bLenL (xs : List D) (n : Nat) (f : Bool) : opBi .len [(.lst xs, n, f)] = .ok (.int xs.length) 0 := rfl
theorem bLenT (xs : List D) (n : Nat) (f : Bool) : opBi .len [(.tup xs, n, f)] = .ok (.int xs.length) 0 := rfl
theorem bLenS (t : Tx) (n : Nat) (f : Bool) (h : t.length ≤ 16777216) : opBi .len [(.str t, n, f)] = .ok (.int t.length) 0 := by simp [opBi, h]
theorem bTupL (xs : List D) (n : Nat) (f : Bool) (h : n ≤ 1) : opBi .tuple [(.lst xs, n, f)] = .ok (.tup xs) 0 := by simp [opBi, h]
theorem bTupT (xs : List D) (n : Nat) (f : Bool) : opBi .tuple [(.tup xs, n, f)] = .ok (.tup xs) 0 := rfl
theorem bListL (xs : List D) (n : Nat) (f : Bool) (h : n ≤ 1) : opBi .list [(.lst xs, n, f)] = .ok (.lst xs) 1 := by simp [opBi, h]
theorem bListT (xs : List D) (n : Nat) (f : Bool) : opBi .list [(.tup xs, n, f)] = .ok (.lst xs) 1 := rfl
theorem bIntI (i : Int) (n : Nat) (f : Bool) : opBi .int [(.int i, n, f)] = .ok (.int i) 0 := rfl
theorem bIntB (b : Bool) (n : Nat) (f : Bool) : opBi .int [(.bl b, n, f)] = .ok (.int (if b then 1 else 0)) 0 := rfl
theorem bMin (i j : Int) (n m : Nat) (f g : Bool) : opBi .min2 [(.int i, n, f), (.int j, m, g)] = .ok (.int (min i j)) 0 := by
  simp only [opBi]; congr 2; split <;> omega
theorem bMax (i j : Int) (n m : Nat) (f g : Bool) : opBi .max2 [(.int i, n, f), (.int j, m, g)] = .ok (.int (max i j)) 0 := by
  simp only [opBi]; congr 2; split <;> omega
theorem atI_some {α : Type} (xs : List α) (i : Int) (h0 : 0 ≤ i) (h1 : i < xs.length) : atI xs i = some (xs[i.toNat]'(by omega)) := by
  unfold atI ixN
  rw [if_pos h0, if_pos h1]
  simp only [Option.bind_some]
  exact List.getElem?_eq_getElem (by omega)
theorem atI_getD {α : Type} (d : α) (xs : List α) (i : Int) (h0 : 0 ≤ i) (h1 : i < xs.length) : atI xs i = some (xs.getD i.toNat d) := by
  rw [atI_some xs i h0 h1]
  simp [List.getD, List.getElem?_eq_getElem (show i.toNat < xs.length by omega)]
theorem atI_neg1 {α : Type} (xs : List α) (x : α) : atI (xs ++ [x]) (-1) = some x := by
  have e : ((-1 : Int) + ((xs ++ [x]).length : Nat)).toNat = xs.length := by simp only [List.length_append, List.length_singleton]; omega
  unfold atI ixN
  rw [if_neg (by omega), if_pos (by simp only [List.length_append, List.length_singleton]; omega), e]
  simp
theorem iRoI (l : Bool) (ns : List Int) (n : Nat) (i : Int) (h0 : 0 ≤ i) (h1 : i < ns.length) : opIdx (.ro l (ns.map D.int)) n (.int i) = .ok (.int (ns.getD i.toNat 0)) 0 := by
  simp only [opIdx]
  rw [atI_some _ _ h0 (by simpa using h1)]
  simp [rO, List.getD, List.getElem?_eq_getElem (show i.toNat < ns.length by omega)]
theorem iStr (t : Tx) (n : Nat) (i : Int) (h0 : 0 ≤ i) (h1 : i < t.length) (h : t.length ≤ 16777216) : opIdx (.str t) n (.int i) = .ok (.str [t.getD i.toNat 0]) 0 := by
  simp only [opIdx, LINE, h, if_true]
  rw [atI_getD 0 t i h0 h1]; rfl
theorem iTup (xs : List D) (n : Nat) (i : Int) (h0 : 0 ≤ i) (h1 : i < xs.length) : opIdx (.tup xs) n (.int i) = .ok (xs.getD i.toNat .non) 0 := by
  simp only [opIdx]
  rw [atI_getD .non xs i h0 h1]; rfl
theorem iLst (xs : List D) (n : Nat) (i : Int) (h0 : 0 ≤ i) (h1 : i < xs.length) : opIdx (.lst xs) n (.int i) = .ok (xs.getD i.toNat .non) (n - 1) := by
  simp only [opIdx]
  rw [atI_getD .non xs i h0 h1]; rfl
theorem slS (t : Tx) (n : Nat) (lo hi : Option Int) (h : t.length ≤ 16777216) : opSl (.str t) n lo hi = .ok (.str (cut t lo hi)) 0 := by simp [opSl, h]
theorem slT (xs : List D) (n : Nat) (lo hi : Option Int) : opSl (.tup xs) n lo hi = .ok (.tup (cut xs lo hi)) 0 := rfl
theorem slL (xs : List D) (n : Nat) (lo hi : Option Int) (h : n ≤ 1) : opSl (.lst xs) n lo hi = .ok (.lst (cut xs lo hi)) 1 := by simp [opSl, h]
/-! ### blocks -/
def CSs.app : CSs → CSs → CSs
  | .nil, t => t
  | .cons s ss, t => .cons s (ss.app t)
theorem evSs_app (F : Fn) : ∀ (a b : CSs) (Γ : Env), (match evSs F a Γ with | .nx Γ' => evSs F b Γ' | r => r) = evSs F (a.app b) Γ
  | .nil, b, Γ => by simp only [evSs, CSs.app]
  | .cons s ss, b, Γ => by
    simp only [evSs, CSs.app]
    cases evS F s Γ with
    | nx Γ' => exact evSs_app F ss b Γ'
    | rt d n Γ' => rfl
    | ex k fs Γ' => rfl
    | bad => rfl
/-- what is wanted behind a block -/
@[irreducible] def Wp (F : Fn) (Q : SR → Prop) (ss : CSs) (Γ : Env) : Prop := Q (evSs F ss Γ)
section
variable {F : Fn} {Γ : Env} {Q : SR → Prop} {ss : CSs}
theorem s_nil (h : Q (.nx Γ)) : Wp F Q .nil Γ := by simp only [Wp, evSs]; exact h
theorem s_asg {i : Nat} {x : CX} {d : D} {n : Nat} {Γ' : Env} (h : evX F x Γ = .ok d n Γ') (k : Wp F Q ss (Γ'.set i (some (d, n)))) : Wp F Q (.cons (.asg i x) ss) Γ := by
  simp only [Wp, evSs, evS, h, evX_n h]; first | exact k | (unfold Wp at k; exact k)
theorem s_asgT {is : List Nat} {x : CX} {d : D} {n : Nat} {Γ' Γ2 : Env} (h : evX F x Γ = .ok d n Γ') (h2 : setT Γ' is d = some Γ2) (k : Wp F Q ss Γ2) : Wp F Q (.cons (.asgT is x) ss) Γ := by
  simp only [Wp, evSs, evS, h, h2, nxO]; first | exact k | (unfold Wp at k; exact k)
theorem s_ret {x : CX} {d : D} {n : Nat} {Γ' : Env} (h : evX F x Γ = .ok d n Γ') (k : Q (.rt d n Γ')) : Wp F Q (.cons (.ret x) ss) Γ := by
  simp only [Wp, evSs, evS, h, evX_n h]; first | exact k | (unfold Wp at k; exact k)
theorem s_retv {i : Nat} {d : D} {n : Nat} (h : Γ[i]? = some (some (d, n))) (k : Q (.rt d n (Γ.set i none))) : Wp F Q (.cons (.retv i) ss) Γ := by
  simp only [Wp, evSs, evS, h]; first | exact k | (unfold Wp at k; exact k)
theorem s_frz {i : Nat} {d : D} {n : Nat} (h : Γ[i]? = some (some (d, n))) (k : Wp F Q ss (Γ.set i (some (d, 0)))) : Wp F Q (.cons (.frz i) ss) Γ := by
  simp only [Wp, evSs, evS, h]; first | exact k | (unfold Wp at k; exact k)
theorem s_expr {x : CX} {d : D} {n : Nat} {Γ' : Env} (h : evX F x Γ = .ok d n Γ') (k : Wp F Q ss Γ') : Wp F Q (.cons (.expr x) ss) Γ := by
  simp only [Wp, evSs, evS, h]; first | exact k | (unfold Wp at k; exact k)
theorem s_if {c : CE} {a b : CSs} {t : Bool} {n : Nat} (h : ev F c Γ = .ok (.bl t) n) (ht : t = true → Wp F Q (a.app ss) Γ) (hf : t = false → Wp F Q (b.app ss) Γ) : Wp F Q (.cons (.ifs c a b) ss) Γ := by
  simp only [Wp, evSs, evS, h]
  cases t with
  | true => have := ht rfl; unfold Wp at this; rw [← evSs_app] at this; exact this
  | false => have := hf rfl; unfold Wp at this; rw [← evSs_app] at this; exact this
theorem s_app {p : CP} {x : CX} {d : D} {n m : Nat} {xs : List D} {Γ' Γ2 : Env} (h0 : getE (path F Γ p) Γ = some (.lst xs, m + 1)) (h : evX F x Γ = .ok d n Γ') (h1 : (decide (p.slot ∈ x.slots)) = false) (h2 : modE (appD d n x.fresh) (path F Γ p) Γ' = some Γ2) (k : Wp F Q ss Γ2) :
    Wp F Q (.cons (.app p x) ss) Γ := by
  have h1 : ¬ p.slot ∈ x.slots := of_decide_eq_false h1
  simp only [Wp, evSs, evS, h0, h, if_neg h1, h2, nxO]; first | exact k | (unfold Wp at k; exact k)
theorem s_setI {p : CP} {q v : CE} {d e kd : D} {n m kn : Nat} {Γ2 : Env} (h : ev F v Γ = .ok d n) (h0 : getE (path F Γ p) Γ = some (e, m + 1)) (h1 : ev F q Γ = .ok kd kn) (h2 : modE (setD kd d n v.fresh) (path F Γ p) Γ = some Γ2) (k : Wp F Q ss Γ2) : Wp F Q (.cons (.setI p q v) ss) Γ := by
  simp only [Wp, evSs, evS, h0, h, h1, h2, nxO]; first | exact k | (unfold Wp at k; exact k)
/-- what a turn must do -/
def Turn {α : Type} (Q : SR → Prop) (keep : List Nat) (mk : α → Env) (I : α → Prop) (r : SR) : Prop := match r with
  | .nx Γ => ∃ a, rs keep Γ = mk a ∧ I a
  | .rt d n Γ => Q (.rt d n Γ)
  | .ex k fs Γ => Q (.ex k fs Γ)
  | .bad => False
theorem s_for {α : Type} {tg keep : List Nat} {it : CI} {b : CSs} {xs : List D} (h : evI F it Γ = .ok xs false) (mk : α → Env) (I : Nat → α → Prop) (a0 : α) (h0 : rs keep Γ = mk a0) (hI : I 0 a0)
    (hs : ∀ i x a, xs[i]? = some x → I i a → ∃ Γ1, setT (mk a) tg x = some Γ1 ∧ Wp F (Turn Q keep mk (I (i + 1))) b Γ1) (hd : ∀ a, I xs.length a → Wp F Q ss (mk a)) : Wp F Q (.cons (.for_ tg it keep b) ss) Γ := by
  simp only [Wp, evSs, evS, h, h0]
  have gen : ∀ (ys : List D) (i : Nat) (a : α), xs.drop i = ys → i ≤ xs.length → I i a → Q (match forL (evSs F b) tg keep ys (mk a) with | .nx Γ' => evSs F ss Γ' | r => r) := by
    intro ys
    induction ys with
    | nil =>
      intro i a e hi hIa
      have : i = xs.length := by
        have := congrArg List.length e
        rw [List.length_drop] at this
        simp at this; omega
      subst this
      simp only [forL]
      have := hd a hIa
      unfold Wp at this
      exact this
    | cons y ys ih =>
      intro i a e hi hIa
      have hlt : i < xs.length := by
        have := congrArg List.length e
        rw [List.length_drop] at this
        simp at this; omega
      have hx : xs[i]? = some y := by
        have := List.drop_eq_getElem_cons hlt
        rw [e] at this
        rw [List.getElem?_eq_getElem hlt]
        exact congrArg some (List.cons.inj this).1.symm
      have hys : xs.drop (i + 1) = ys := by
        have := List.drop_eq_getElem_cons hlt
        rw [e] at this
        exact (List.cons.inj this).2.symm
      obtain ⟨Γ1, g1, g2⟩ := hs i y a hx hIa
      unfold Wp at g2
      simp only [forL, g1]
      cases er : evSs F b Γ1 with
      | bad => rw [er] at g2; exact g2.elim
      | rt d n Γ2 => rw [er] at g2; exact g2
      | ex k fs Γ2 => rw [er] at g2; exact g2
      | nx Γ2 =>
        rw [er] at g2
        obtain ⟨a', e', hI'⟩ := g2
        simp only [e']
        exact ih (i + 1) a' hys hlt hI'
  exact gen xs 0 a0 rfl (Nat.zero_le _) hI
theorem s_whl {α : Type} {fuel : Nat} {c : CE} {keep : List Nat} {b : CSs} (mk : α → Env) (I : α → Prop) (μ : α → Nat) (a0 : α) (h0 : rs keep Γ = mk a0) (hI : I a0) (hf : μ a0 < fuel)
    (hs : ∀ a, I a → ∃ t n, ev F c (mk a) = .ok (.bl t) n ∧ (t = true → Wp F (Turn Q keep mk (fun a' => I a' ∧ μ a' < μ a)) b (mk a)) ∧ (t = false → Wp F Q ss (mk a))) : Wp F Q (.cons (.whl fuel c keep b) ss) Γ := by
  simp only [Wp, evSs, evS, h0]
  have gen : ∀ (k : Nat) (a : α), I a → μ a < k → Q (match whlL (ev F c) (evSs F b) keep k (mk a) with | .nx Γ' => evSs F ss Γ' | r => r) := by
    intro k
    induction k with
    | zero => intro a _ h; omega
    | succ k ih =>
      intro a hIa hm
      obtain ⟨t, n, e1, e2, e3⟩ := hs a hIa
      cases t with
      | false => simp only [whlL, e1]; have := e3 rfl; unfold Wp at this; exact this
      | true =>
        have g2 := e2 rfl
        unfold Wp at g2
        simp only [whlL, e1]
        cases er : evSs F b (mk a) with
        | bad => rw [er] at g2; exact g2.elim
        | rt d n Γ2 => rw [er] at g2; exact g2
        | ex k fs Γ2 => rw [er] at g2; exact g2
        | nx Γ2 =>
          rw [er] at g2
          obtain ⟨a', e', hI', hm'⟩ := g2
          simp only [e']
          exact ih a' hI' (by omega)
  exact gen fuel a0 hI hf
end
/-- a def's run -/
def fin (io : List Nat) : SR → RR
  | .nx Γ => rr .non 0 (outs Γ io)
  | .rt d n Γ => rr d n (outs Γ io)
  | .ex k fs _ => .ex k fs
  | .bad => .bad
theorem run_of {F : Fn} {c : Code} {args : List (D × Nat)} {P : RR → Prop} (h1 : args.length = c.np) (h2 : fits (c.io ++ eats c) 0 args = true) (h : Wp F (fun r => P (fin c.io r)) c.body (start c args)) : P (run F c args) := by
  unfold run
  unfold Wp at h
  rw [if_pos ⟨h1, h2⟩]
  cases e : evSs F c.body (start c args) <;> (rw [e] at h; exact h)
theorem Fk_at {cs : List Code} {k f : Nat} {c : Code} {args : List (D × Nat)} (hk : 1 ≤ k) (hc : cs[f]? = some c) : Fk cs k f args = run (Fk cs (k - 1)) c args := by
  obtain ⟨k, rfl⟩ : ∃ j, k = j + 1 := ⟨k - 1, by omega⟩
  show (match cs[f]? with | some c => run (Fk cs k) c args | none => .bad) = _
  rw [hc]; rfl
/-- a comprehension that leaves nothing out -/
theorem compL_map {n : Nat} {f : Bool} {tg : List Nat} {Γ : Env} {e : Env → R} {g : D → D} : ∀ {xs acc : List D}, (∀ x ∈ xs, ∃ Γ' m, setT Γ tg x = some Γ' ∧ e Γ' = .ok (g x) m ∧ (own (n - 1) f (.ok (g x) m)) = .ok (g x) (n - 1)) → acc.length + xs.length ≤ 16777216 →
    compL n f tg Γ (fun _ => .ok (.bl true) 0) e xs acc = .ok (.lst (acc ++ xs.map g)) n
  | [], acc, _, _ => by simp [compL]
  | x :: xs, acc, h, hl => by
    obtain ⟨Γ', m, h1, h2, h3⟩ := h x (by simp)
    simp only [List.length_cons] at hl
    unfold compL
    simp only [h1, h2, h3]
    rw [if_pos (by show acc.length < 16777216; omega), compL_map (fun y hy => h y (List.mem_cons_of_mem _ hy)) (by simp; omega)]
    simp
end GL

/-! GLQ: how core texts are reckoned, rule by rule. -/
namespace GL
def R.ofSl (s : Option Sl) : R := match s with
  | some (some p) => .ok p.1 p.2
  | _ => .bad
def R.and_ (r k : R) : R := r.bind fun x _ => match x with
    | .bl true => k.bind fun y _ => match y with
      | .bl c => .ok (.bl c) 0
      | _ => .bad
    | .bl false => .ok (.bl false) 0
    | _ => .bad
def R.or_ (r k : R) : R := r.bind fun x _ => match x with
    | .bl false => k.bind fun y _ => match y with
      | .bl c => .ok (.bl c) 0
      | _ => .bad
    | .bl true => .ok (.bl true) 0
    | _ => .bad
def R.not_ (r : R) : R := r.bind fun x _ => match x with
    | .bl c => .ok (.bl (!c)) 0
    | _ => .bad
def R.neg_ (r : R) : R := r.bind fun x _ => match x with
    | .int i => .ok (.int (-i)) 0
    | _ => .bad
def R.chn (t : Option Bool) (k : R) : R := match t with
    | some true => k
    | some false => .ok (.bl false) 0
    | none => .bad
def R.sll_ (x : D) (n : Nat) (y : D) : R := match y with
    | .int i => opSl x n (some i) none
    | _ => .bad
def R.slu_ (x : D) (n : Nat) (y : D) : R := match y with
    | .int i => opSl x n none (some i)
    | _ => .bad
def R.slb_ (x : D) (n : Nat) (y : D) (k : R) : R := match y with
    | .int i => k.bind fun z _ => (match z with
      | .int j => opSl x n (some i) (some j)
      | _ => .bad)
    | _ => .bad
def RA.tup_ (r : RA) : R := match r with
    | .ok vs => if fixed vs then .ok (.tup (vs.map (·.1))) 0 else .bad
    | .ex c fs => .ex c fs
    | .bad => .bad
def RA.lst_ (n : Nat) (r : RA) : R := match r with
    | .ok vs => if deep (n - 1) vs then .ok (.lst (vs.map (·.1))) n else .bad
    | .ex c fs => .ex c fs
    | .bad => .bad
def RA.cons_ (r : R) (f : Bool) (q : RA) : RA := match r with
    | .ok d n => (match q with
      | .ok vs => .ok ((d, n, f) :: vs)
      | r => r)
    | .ex c fs => .ex c fs
    | .bad => .bad
def RR.post (vs : List (D × Nat × Bool)) (r : RR) : R := match r with
      | .ok d n _ => if fixed vs || d.safe n then .ok d n else .bad
      | .ex c fs => if fixed vs || D.imms fs then .ex c fs else .bad
      | .bad => .bad
def RA.call_ (F : Fn) (f : Nat) (r : RA) : R := match r with
    | .ok vs => RR.post vs (F f (vs.map fun v => (v.1, 0)))
    | .ex c fs => .ex c fs
    | .bad => .bad
def RA.blt_ (b : Bi) (r : RA) : R := match r with
    | .ok vs => opBi b vs
    | .ex c fs => .ex c fs
    | .bad => .bad
def RA.mth_ (m : Me) (x : D) (n : Nat) (f : Bool) (r : RA) : R := if meOk m x then (match r with
    | .ok vs => opMe m (x, n, f) vs
    | .ex c fs => .ex c fs
    | .bad => .bad) else .bad
section
variable (F : Fn) (Γ : Env)
theorem e_var (i : Nat) : ev F (.var i) Γ = R.ofSl Γ[i]? := by simp only [ev]; rfl
theorem e_cst (d : D) : ev F (.cst d) Γ = .ok d 0 := by simp only [ev]
theorem e_glo (x : String) (d : D) : ev F (.glo x d) Γ = .ok d 0 := by simp only [ev]
theorem e_tup (es : CEs) : ev F (.tup es) Γ = RA.tup_ (evA F es Γ) := by simp only [ev]; rfl
theorem e_lst (n : Nat) (es : CEs) : ev F (.lst n es) Γ = RA.lst_ n (evA F es Γ) := by simp only [ev]; rfl
theorem e_dnew (t : Bool) (n : Nat) : ev F (.dnew t n) Γ = .ok (.dct t [] []) n := by simp only [ev]
theorem e_bin (o : Op) (a b : CE) : ev F (.bin o a b) Γ = (ev F a Γ).bind fun x n => (ev F b Γ).bind fun y m => opBin o x n y m := by simp only [ev]
theorem e_neg (a : CE) : ev F (.neg a) Γ = R.neg_ (ev F a Γ) := by simp only [ev]; rfl
theorem e_cmp (o : Cm) (a b : CE) : ev F (.cmp o a b) Γ = (ev F a Γ).bind fun x _ => (ev F b Γ).bind fun y _ => rB (opCmp o x y) := by simp only [ev]
theorem e_chain (o p : Cm) (a b c : CE) : ev F (.chain o p a b c) Γ = (ev F a Γ).bind fun x _ => (ev F b Γ).bind fun y _ => R.chn (opCmp o x y) ((ev F c Γ).bind fun z _ => rB (opCmp p y z)) := by simp only [ev]; rfl
theorem e_and (a b : CE) : ev F (.and a b) Γ = R.and_ (ev F a Γ) (ev F b Γ) := by simp only [ev]; rfl
theorem e_or (a b : CE) : ev F (.or a b) Γ = R.or_ (ev F a Γ) (ev F b Γ) := by simp only [ev]; rfl
theorem e_not (a : CE) : ev F (.not a) Γ = R.not_ (ev F a Γ) := by simp only [ev]; rfl
theorem e_idx (a b : CE) : ev F (.idx a b) Γ = (ev F a Γ).bind fun x n => (ev F b Γ).bind fun y _ => opIdx x n y := by simp only [ev]
theorem e_sll (a b : CE) : ev F (.sll a b) Γ = (ev F a Γ).bind fun x n => (ev F b Γ).bind fun y _ => R.sll_ x n y := by simp only [ev]; rfl
theorem e_slu (a b : CE) : ev F (.slu a b) Γ = (ev F a Γ).bind fun x n => (ev F b Γ).bind fun y _ => R.slu_ x n y := by simp only [ev]; rfl
theorem e_slb (a b c : CE) : ev F (.slb a b c) Γ = (ev F a Γ).bind fun x n => (ev F b Γ).bind fun y _ => R.slb_ x n y (ev F c Γ) := by simp only [ev]; rfl
theorem e_call (f : Nat) (x : String) (es : CEs) : ev F (.call f x es) Γ = RA.call_ F f (evA F es Γ) := by simp only [ev]; rfl
theorem e_blt (b : Bi) (es : CEs) : ev F (.blt b es) Γ = RA.blt_ b (evA F es Γ) := by simp only [ev]; rfl
theorem e_mth (m : Me) (a : CE) (es : CEs) : ev F (.mth m a es) Γ = (ev F a Γ).bind fun x n => RA.mth_ m x n a.fresh (evA F es Γ) := by simp only [ev]; rfl
theorem e_isi (a : CE) (t : Ty) : ev F (.isi a t) Γ = (ev F a Γ).bind fun x _ => rB (isiOf t x) := by simp only [ev]
theorem e_anil : evA F .nil Γ = .ok [] := by simp only [evA]
theorem e_acons (e : CE) (es : CEs) : evA F (.cons e es) Γ = RA.cons_ (ev F e Γ) e.fresh (evA F es Γ) := by simp only [evA]; rfl
end
theorem q_sl (p : D × Nat) : R.ofSl (some (some p)) = .ok p.1 p.2 := rfl
theorem q_and (x y : Bool) (n m : Nat) : R.and_ (.ok (.bl x) n) (.ok (.bl y) m) = .ok (.bl (x && y)) 0 := by cases x <;> rfl
theorem q_andF (n : Nat) (k : R) : R.and_ (.ok (.bl false) n) k = .ok (.bl false) 0 := rfl
theorem q_or (x y : Bool) (n m : Nat) : R.or_ (.ok (.bl x) n) (.ok (.bl y) m) = .ok (.bl (x || y)) 0 := by cases x <;> rfl
theorem q_orT (n : Nat) (k : R) : R.or_ (.ok (.bl true) n) k = .ok (.bl true) 0 := rfl
theorem q_not (x : Bool) (n : Nat) : R.not_ (.ok (.bl x) n) = .ok (.bl (!x)) 0 := rfl
theorem q_neg (x : Int) (n : Nat) : R.neg_ (.ok (.int x) n) = .ok (.int (-x)) 0 := rfl
theorem q_chn (x y : Bool) : R.chn (some x) (.ok (.bl y) 0) = .ok (.bl (x && y)) 0 := by cases x <;> rfl
theorem q_sll (x : D) (n : Nat) (i : Int) : R.sll_ x n (.int i) = opSl x n (some i) none := rfl
theorem q_slu (x : D) (n : Nat) (i : Int) : R.slu_ x n (.int i) = opSl x n none (some i) := rfl
theorem q_slb (x : D) (n m : Nat) (i j : Int) : R.slb_ x n (.int i) (.ok (.int j) m) = opSl x n (some i) (some j) := rfl
theorem q_acons (d : D) (n : Nat) (f : Bool) (vs : List (D × Nat × Bool)) : RA.cons_ (.ok d n) f (.ok vs) = .ok ((d, n, f) :: vs) := rfl
theorem q_tup (vs : List (D × Nat × Bool)) (h : fixed vs = true) : RA.tup_ (.ok vs) = .ok (.tup (vs.map (·.1))) 0 := by simp only [RA.tup_, h, if_true]
theorem q_lst (n : Nat) (vs : List (D × Nat × Bool)) (h : deep (n - 1) vs = true) : RA.lst_ n (.ok vs) = .ok (.lst (vs.map (·.1))) n := by simp only [RA.lst_, h, if_true]
theorem q_call (F : Fn) (f : Nat) (vs : List (D × Nat × Bool)) : RA.call_ F f (.ok vs) = RR.post vs (F f (vs.map fun v => (v.1, 0))) := rfl
theorem q_post (vs : List (D × Nat × Bool)) (d : D) (n : Nat) (os : List (D × Nat)) (h : fixed vs = true) : RR.post vs (.ok d n os) = .ok d n := by simp only [RR.post, h, Bool.true_or, if_true]
theorem q_posts (vs : List (D × Nat × Bool)) (d : D) (n : Nat) (os : List (D × Nat)) (h : d.safe n = true) : RR.post vs (.ok d n os) = .ok d n := by simp only [RR.post, h, Bool.or_true, if_true]
theorem q_postx (vs : List (D × Nat × Bool)) (c : Nat) (fs : List D) (h : fixed vs = true) : RR.post vs (.ex c fs) = .ex c fs := by simp only [RR.post, h, Bool.true_or, if_true]
theorem q_blt (b : Bi) (vs : List (D × Nat × Bool)) : RA.blt_ b (.ok vs) = opBi b vs := rfl
theorem q_mth (m : Me) (x : D) (n : Nat) (f : Bool) (vs : List (D × Nat × Bool)) (h : meOk m x = true) : RA.mth_ m x n f (.ok vs) = opMe m (x, n, f) vs := by simp only [RA.mth_, h, if_true]
theorem fixed_nil : fixed [] = true := rfl
theorem fixed_c0 (d : D) (f : Bool) (vs : List (D × Nat × Bool)) : fixed ((d, 0, f) :: vs) = fixed vs := by simp [fixed]
theorem fixed_ct (d : D) (n : Nat) (vs : List (D × Nat × Bool)) : fixed ((d, n, true) :: vs) = fixed vs := by simp [fixed]
theorem strsD_map : ∀ ts : List Tx, strsD (ts.map D.str) = some ts
  | [] => rfl
  | t :: r => by simp only [List.map_cons, strsD, strsD_map r, Option.map_some]
theorem m_joinL (s : Tx) (ts : List Tx) (n m : Nat) (f g : Bool) (h : (ts.map List.length).sum + ts.length * s.length ≤ LINE) : opMe .join (.str s, n, f) [(.lst (ts.map D.str), m, g)] = .ok (.str (joinT s ts)) 0 := by
  simp only [opMe, strsD_map, if_pos h]
theorem m_joinT (s : Tx) (ts : List Tx) (n m : Nat) (f g : Bool) (h : (ts.map List.length).sum + ts.length * s.length ≤ LINE) : opMe .join (.str s, n, f) [(.tup (ts.map D.str), m, g)] = .ok (.str (joinT s ts)) 0 := by
  simp only [opMe, strsD_map, if_pos h]
theorem evAnd {F : Fn} {Γ : Env} {a b : CE} {x y : Bool} {n : Nat} (h1 : ev F a Γ = .ok (.bl x) n) (h2 : x = true → ∃ m, ev F b Γ = .ok (.bl y) m) : ev F (.and a b) Γ = .ok (.bl (x && y)) 0 := by
  rw [e_and, h1]
  cases x with
  | false => rfl
  | true => obtain ⟨m, h⟩ := h2 rfl; rw [h]; rfl
theorem evOr {F : Fn} {Γ : Env} {a b : CE} {x y : Bool} {n : Nat} (h1 : ev F a Γ = .ok (.bl x) n) (h2 : x = false → ∃ m, ev F b Γ = .ok (.bl y) m) : ev F (.or a b) Γ = .ok (.bl (x || y)) 0 := by
  rw [e_or, h1]
  cases x with
  | true => rfl
  | false => obtain ⟨m, h⟩ := h2 rfl; rw [h]; rfl
theorem xPure0 {F : Fn} {Γ : Env} {e : CE} {d : D} (h : ev F e Γ = .ok d 0) : evX F (.pure e) Γ = .ok d 0 Γ := by
  simp only [evX, h, own, true_or, if_true]
theorem xPureF {F : Fn} {Γ : Env} {e : CE} {d : D} {n : Nat} (hf : e.fresh = true) (h : ev F e Γ = .ok d n) : evX F (.pure e) Γ = .ok d n Γ := by
  simp only [evX, h, own, hf, or_true, if_true]
/-- a comprehension over what is told by a list -/
theorem compL_of {α : Type} {n : Nat} {f : Bool} {tg : List Nat} {Γ : Env} {e : Env → R} {mk : α → D} {g : α → D} : ∀ {l : List α} {acc : List D}, (∀ a ∈ l, ∃ Γ' m, setT Γ tg (mk a) = some Γ' ∧ e Γ' = .ok (g a) m ∧ (own (n - 1) f (.ok (g a) m)) = .ok (g a) (n - 1)) → acc.length + l.length ≤ 16777216 →
    compL n f tg Γ (fun _ => .ok (.bl true) 0) e (l.map mk) acc = .ok (.lst (acc ++ l.map g)) n
  | [], acc, _, _ => by simp [compL]
  | x :: xs, acc, h, hl => by
    obtain ⟨Γ', m, h1, h2, h3⟩ := h x (by simp)
    simp only [List.length_cons] at hl
    rw [List.map_cons]
    unfold compL
    simp only [h1, h2, h3]
    rw [if_pos (by show acc.length < 16777216; omega), compL_of (fun y hy => h y (List.mem_cons_of_mem _ hy)) (by simp; omega)]
    simp
theorem evT_nil (F : Fn) : evT F .nil = fun _ => .ok (.bl true) 0 := by funext Γ; simp only [evT]
theorem e_comp {α : Type} {F : Fn} {Γ : Env} {n : Nat} {tg : List Nat} {it : CI} {e : CE} {b : Bool} {l : List α} {mk g : α → D} (h1 : evI F it Γ = .ok (l.map mk) b)
    (h2 : ∀ a ∈ l, ∃ Γ' m, setT (wipeG Γ tg) tg (mk a) = some Γ' ∧ ev F e Γ' = .ok (g a) m ∧ (own (n - 1) e.fresh (.ok (g a) m)) = .ok (g a) (n - 1)) (h3 : l.length ≤ 16777216) :
    ev F (.comp n tg it .nil e) Γ = .ok (.lst (l.map g)) n := by
  simp only [ev, h1, evT_nil]
  rw [compL_of h2 (by simpa using h3)]
  rfl
theorem i_rng1 {F : Fn} {Γ : Env} {a : CE} {i : Int} {n : Nat} (h : ev F a Γ = .ok (.int i) n) (h1 : -1000000000 ≤ i) (h2 : i ≤ 1000000000) : evI F (.rng1 a) Γ = .ok ((List.range i.toNat).map fun k : Nat => .int (0 + (k : Int))) false := by
  simp only [evI, h, if_pos (And.intro h1 h2)]; rfl
theorem i_rng2 {F : Fn} {Γ : Env} {a b : CE} {i j : Int} {n m : Nat} (h : ev F a Γ = .ok (.int i) n) (h' : ev F b Γ = .ok (.int j) m) (h1 : -1000000000 ≤ i) (h2 : i ≤ 1000000000) (h3 : -1000000000 ≤ j) (h4 : j ≤ 1000000000) : evI F (.rng2 a b) Γ = .ok ((List.range (j - i).toNat).map fun k : Nat => .int (i + (k : Int))) false := by
  simp only [evI, h, h', if_pos (And.intro h3 (And.intro h4 (And.intro h1 h2)))]; rfl
theorem i_str {F : Fn} {Γ : Env} {a : CE} {t : Tx} (h : ev F a Γ = .ok (.str t) 0) (hl : t.length ≤ 16777216) : evI F (.val a) Γ = .ok (t.map fun c => .str [c]) false := by
  simp only [evI, h, itemsOf, LINE, if_pos hl, Nat.zero_le, true_or, if_true]; rfl
theorem i_lst0 {F : Fn} {Γ : Env} {a : CE} {xs : List D} (h : ev F a Γ = .ok (.lst xs) 0) : evI F (.val a) Γ = .ok xs false := by
  simp only [evI, h, itemsOf, Nat.zero_le, true_or, if_true]; rfl
theorem i_lstF {F : Fn} {Γ : Env} {a : CE} {xs : List D} {n : Nat} (hf : a.fresh = true) (h : ev F a Γ = .ok (.lst xs) n) : evI F (.val a) Γ = .ok xs false := by
  simp only [evI, h, itemsOf, hf, or_true, if_true, Bool.or_true, Bool.not_true]
theorem i_tup0 {F : Fn} {Γ : Env} {a : CE} {xs : List D} (h : ev F a Γ = .ok (.tup xs) 0) : evI F (.val a) Γ = .ok xs false := by
  simp only [evI, h, itemsOf, Nat.zero_le, true_or, if_true]; rfl
theorem tlt1 (a b : Nat) : tlt [a] [b] = decide (a < b) := by
  unfold tlt
  have : ([a] < [b]) ↔ a < b := by simp [List.cons_lt_cons_iff]
  simp [this]
end GL

namespace GL
/-- a loop that goes on or ends the def, and keeps nothing -/
theorem s_all {α : Type} {F : Fn} {Γ Γk : Env} {Q : SR → Prop} {ss : CSs} {tg keep : List Nat} {it : CI} {b : CSs} {l : List α} {mk : α → D} (h : evI F it Γ = .ok (l.map mk) false) (h0 : rs keep Γ = Γk)
    (p : α → Prop) (hs : ∀ a ∈ l, ∃ Γ1, setT Γk tg (mk a) = some Γ1 ∧ Wp F (fun r => match r with | .nx Γ => rs keep Γ = Γk ∧ p a | .bad => False | r => Q r) b Γ1) (hd : (∀ a ∈ l, p a) → Wp F Q ss Γk) : Wp F Q (.cons (.for_ tg it keep b) ss) Γ := by
  refine s_for (α := Unit) h (fun _ => Γk) (fun i _ => ∀ a ∈ l.take i, p a) () h0 (by simp) ?_ ?_
  · intro i x a hx hI
    rw [List.getElem?_map] at hx
    cases e : l[i]? with
    | none => rw [e] at hx; cases hx
    | some y =>
      rw [e] at hx
      simp only [Option.map_some, Option.some.injEq] at hx
      subst hx
      have hy : y ∈ l := List.mem_of_getElem? e
      obtain ⟨Γ1, g1, g2⟩ := hs y hy
      refine ⟨Γ1, g1, ?_⟩
      unfold Wp at g2 ⊢
      cases er : evSs F b Γ1 with
      | nx Γ2 =>
        rw [er] at g2
        refine ⟨(), g2.1, ?_⟩
        rw [List.take_succ, e]
        intro a ha
        simp only [Option.toList_some, List.mem_append, List.mem_singleton] at ha
        rcases ha with ha | rfl
        · exact hI a ha
        · exact g2.2
      | rt d n Γ2 => rw [er] at g2; exact g2
      | ex k fs Γ2 => rw [er] at g2; exact g2
      | bad => rw [er] at g2; exact g2
  · intro a hI
    rw [List.length_map, List.take_length] at hI
    exact hd hI
theorem setT_one (Γ : Env) (i : Nat) (d : D) : setT Γ [i] d = some (Γ.set i (some (d, 0))) := rfl
theorem mo_str (m : Me) (t : Tx) (h : m ≠ .get1 ∧ m ≠ .get2) : meOk m (.str t) = true := by cases m <;> first | rfl | simp at h
theorem mo_split (t : Tx) : meOk .split (.str t) = true := mo_str _ _ (by decide)
theorem mo_join (t : Tx) : meOk .join (.str t) = true := mo_str _ _ (by decide)
theorem mo_ends (t : Tx) : meOk .endswith (.str t) = true := mo_str _ _ (by decide)
theorem mo_index (t : Tx) : meOk .index (.str t) = true := mo_str _ _ (by decide)
theorem mo_part (t : Tx) : meOk .partition (.str t) = true := mo_str _ _ (by decide)
theorem isi_bl (t : Ty) (b : Bool) : isiOf t (.bl b) = some (t == .bool || t == .int) := rfl
theorem isi_int (t : Ty) (b : Int) : isiOf t (.int b) = some (t == .int) := rfl
theorem isi_str (t : Ty) (b : Tx) : isiOf t (.str b) = some (t == .str) := rfl
theorem isi_tup (t : Ty) (b : List D) : isiOf t (.tup b) = some (t == .tuple) := rfl
theorem isi_lst (t : Ty) (b : List D) : isiOf t (.lst b) = some (t == .list) := rfl
theorem isi_dct (t : Ty) (b : Bool) (x y : List D) : isiOf t (.dct b x y) = some (t == .dict) := rfl
theorem isi_non (t : Ty) : isiOf t .non = some false := rfl
end GL

/-! GLC: what the laws share. -/
namespace GL
local macro_rules | `(tactic| walk_at "ev") => `(tactic| (simp -implicitDefEqProofs (disch := first | omega | assumption | decide | (simp only [mo_split, mo_join, mo_ends, mo_index, mo_part]; done) | (simp only [fixed, deep, D.safe, D.imm, D.imms, List.all_cons, List.all_nil, beq_self_eq_true, Bool.true_or, Bool.or_true, Bool.and_true, Bool.and_self, decide_true, Nat.reduceSub, Nat.reduceBEq, Nat.reduceEqDiff]; done) | fail) only [e_var, e_cst, e_glo, e_tup, e_lst, e_dnew, e_bin, e_neg, e_cmp, e_chain, e_and, e_or, e_not, e_idx, e_sll, e_slu, e_slb, e_call, e_blt, e_mth, e_isi, e_anil, e_acons, q_sl, q_and, q_andF, q_or, q_orT, q_not, q_neg, q_chn, q_sll, q_slu, q_slb, q_acons, q_tup, q_lst, q_call, q_post, q_posts, q_postx, q_blt, q_mth, fixed_nil, fixed_c0, fixed_ct, R.bind_ok, R.bind_ex, opAdd, opSub, opMulR, opMulL, opFdiv, opMod, opAddS, opAddT, cLt, cLe, cGt, cGe, cEqI, cNeI, cEqB, cEqS, cNeS, cInS, cNotInS, cLeS, cLtS, rB_some, rO_some, bLenRo, bLenL, bLenT, bLenS, bTupL, bTupT, bIntB, bMin, bMax, iRoI, iStr, iTup, iLst, slS, slT, isi_bl, isi_int, isi_str, isi_tup, isi_lst, isi_dct, isi_non, List.getElem?_cons_succ, List.getElem?_cons_zero, List.length_map, List.map_cons, List.map_nil, CE.fresh, or_true, true_or, if_true, Bool.not_false, Bool.not_true, List.set_cons_zero, List.set_cons_succ]))
local macro_rules | `(tactic| walk_at "ex") => `(tactic| first | (apply xPure0; walk_at "ev"; done) | (apply xPure0; walk_at "ev"; rfl) | (apply xPureF rfl; walk_at "ev"; done) | (apply xPureF rfl; walk_at "ev"; rfl))
local macro_rules | `(tactic| walk_at "eb") => `(tactic| first | (walk_at "ev"; done) | (walk_at "ev"; rfl))
local macro_rules | `(tactic| walk_at "nx") => `(tactic| (try dsimp only [CSs.app, List.set_cons_zero, List.set_cons_succ, List.cons_append, List.nil_append]))
local macro_rules | `(tactic| walk_at "rs") => `(tactic| first | (simp (decide := true) only [rs, rsA, if_true, if_false]; done) | (simp (decide := true) only [rs, rsA, if_true, if_false]; rfl) | rfl)
def cell (ns : List Int) (i : Int) : Int :=
  if i < ns.length then ns.getD i.toNat 0 else
    if (0 : Int) < ns.length then ((ns.getD (i * 7 % ns.length).toNat 0 * 48271 + i * 7919) % 2147483647) * ((ns.getD (i * 7 % ns.length).toNat 0 * 48271 + i * 7919) % 2147483647) % 2147483629
    else (i * 7919 + 5) * (i * 7919 + 5) % 2147483629
def cellC : Code := ⟨2, 3, [], (.cons (.ifs (.cmp .lt (.var 1) (.blt .len (.cons (.var 0) .nil))) (.cons (.ret (.pure (.idx (.var 0) (.var 1)))) .nil) .nil) (.cons (.asg 2 (.pure (.bin .add (.bin .mul (.var 1) (.cst (.int 7919))) (.cst (.int 5))))) (.cons (.ifs (.cmp .gt (.blt .len (.cons (.var 0) .nil)) (.cst (.int 0))) (.cons (.asg 2 (.pure (.bin .mod (.bin .add (.bin .mul (.idx (.var 0) (.bin .mod (.bin .mul (.var 1) (.cst (.int 7))) (.blt .len (.cons (.var 0) .nil)))) (.cst (.int 48271))) (.bin .mul (.var 1) (.cst (.int 7919)))) (.cst (.int 2147483647))))) .nil) .nil) (.cons (.ret (.pure (.bin .mod (.bin .mul (.var 2) (.var 2)) (.cst (.int 2147483629))))) .nil))))⟩
theorem cell_run (F : Fn) (ns : List Int) (i : Int) (h0 : 0 ≤ i) (hi : i < 1000000) : run F cellC [(.ro true (ns.map D.int), 0), (.int i, 0)] = .ok (.int (cell ns i)) 0 [] := by
  refine run_of (P := fun r => r = _) rfl rfl ?_
  simp only [GL.start, cellC, List.map_cons, List.map_nil, List.replicate, List.cons_append, List.nil_append]
  refine s_if (by walk_at "eb") (fun h => ?_) (fun h => ?_)
  · have h := of_decide_eq_true h
    walk_at "nx"
    refine s_ret (by walk_at "ex") ?_
    simp only [fin, rr, outs, cell, if_pos h]
  · have h := of_decide_eq_false h
    walk_at "nx"
    refine s_asg (by walk_at "ex") ?_
    walk_at "nx"
    refine s_if (by walk_at "eb") (fun h2 => ?_) (fun h2 => ?_)
    · have h2 := of_decide_eq_true h2
      walk_at "nx"
      have h3 : 0 ≤ i * 7 % (ns.length : Int) := Int.emod_nonneg _ (by omega)
      have h4 : i * 7 % (ns.length : Int) < ns.length := Int.emod_lt_of_pos _ h2
      refine s_asg (by walk_at "ex") ?_
      walk_at "nx"
      refine s_ret (by walk_at "ex") ?_
      simp only [fin, rr, outs, cell, if_neg h, if_pos h2]
    · have h2 := of_decide_eq_false h2
      walk_at "nx"
      refine s_ret (by walk_at "ex") ?_
      simp only [fin, rr, outs, cell, if_neg h, if_neg h2]
theorem cell_at {cs : List Code} {c k : Nat} (hc : cs[c]? = some cellC) (hk : 1 ≤ k) (ns : List Int) (i : Int) (h0 : 0 ≤ i) (hi : i < 1000000) : Fk cs k c [(.ro true (ns.map D.int), 0), (.int i, 0)] = .ok (.int (cell ns i)) 0 [] := by
  rw [Fk_at hk hc]; exact cell_run _ ns i h0 hi
/-! ### words -/
def sgs : Tx := [97, 98, 99, 100, 101, 102, 103, 104, 105, 106, 107, 108, 109, 110, 111, 112, 113, 114, 115, 116, 117, 118, 119, 120, 121, 122, 65, 66, 67, 68, 69, 70, 71, 72, 73, 74, 75, 76, 77, 78, 79, 80, 81, 82, 83, 84, 85, 86, 87, 88, 89, 90, 48, 49, 50, 51, 52, 53, 54, 55, 56, 57]
def sga : Tx := [32, 33, 34, 35, 36, 38, 39, 40, 41, 42, 43, 44, 45, 46, 47, 48, 49, 50, 51, 52, 53, 54, 55, 56, 57, 58, 59, 60, 61, 62, 63, 64, 65, 66, 67, 68, 69, 70, 71, 72, 73, 74, 75, 76, 77, 78, 79, 80, 81, 82, 83, 84, 85, 86, 87, 88, 89, 90, 91, 92, 93, 94, 95, 96, 97, 98, 99, 100, 101, 102, 103, 104, 105, 106, 107, 108, 109, 110, 111, 112, 113, 114, 115, 116, 117, 118, 119, 120, 121, 122, 123, 124, 125, 126, 10]
def good (c : Nat) : Bool := decide (c ∈ sgs)
def hasC : Code := ⟨1, 2, [], (.cons (.for_ [1] (.val (.var 0)) [0] (.cons (.ifs (.cmp .notin (.var 1) (.glo "SIGNS" (.str sgs))) (.cons (.ret (.pure (.cst (.bl false)))) .nil) .nil) .nil)) (.cons (.ret (.pure (.cst (.bl true)))) .nil))⟩
theorem has_at {cs : List Code} {c k : Nat} (hc : cs[c]? = some hasC) (hk : 1 ≤ k) (t : Tx) (h : t.length ≤ 16777216) : Fk cs k c [(.str t, 0)] = .ok (.bl (t.all good)) 0 [] := by
  rw [Fk_at hk hc]
  refine run_of (P := fun r => r = _) rfl rfl ?_
  simp only [GL.start, hasC, List.map_cons, List.map_nil, List.replicate, List.cons_append, List.nil_append]
  refine s_all (i_str (by walk_at "eb") h) (by walk_at "rs") (fun c => good c = true) ?_ ?_
  · intro c hc
    refine ⟨_, rfl, ?_⟩
    walk_at "nx"
    refine s_if (by walk_at "eb") (fun h => ?_) (fun h => ?_)
    · walk_at "nx"
      refine s_ret (by walk_at "ex") ?_
      simp only [fin, rr, outs]
      have : t.all good = false := by
        rw [List.all_eq_false]
        refine ⟨c, hc, ?_⟩
        have h : (!good c) = true := h
        simpa using h
      rw [this]
    · walk_at "nx"
      refine s_nil ?_
      refine ⟨rfl, ?_⟩
      have h : (!good c) = false := h
      simpa using h
  · intro hI
    refine s_ret (by walk_at "ex") ?_
    simp only [fin, rr, outs, List.all_eq_true.2 hI]
theorem good_due (c : Nat) : good c = (!decide (c < 97) && !decide (122 < c) || (!decide (c < 65) && !decide (90 < c) || (!decide (c < 48) && !decide (57 < c)))) := by
  by_cases h : c < 128
  · have : ∀ c : Fin 128, good c.1 = (!decide (c.1 < 97) && !decide (122 < c.1) || (!decide (c.1 < 65) && !decide (90 < c.1) || (!decide (c.1 < 48) && !decide (57 < c.1)))) := by decide +kernel
    exact this ⟨c, h⟩
  · have e1 : good c = false := by
      unfold good sgs
      simp only [List.mem_cons, List.not_mem_nil, or_false, decide_eq_false_iff_not]
      omega
    rw [e1]
    simp; omega
def word (t : Tx) : Bool := t.all good && (decide (1 ≤ t.length) && decide (t.length ≤ 20))
def wordC (f : Nat) : Code := ⟨1, 1, [], (.cons (.ret (.pure (.and (.isi (.var 0) .str) (.and (.chain .le .le (.cst (.int 1)) (.blt .len (.cons (.var 0) .nil)) (.glo "LONGEST" (.int 20))) (.call f "has_signs" (.cons (.var 0) .nil)))))) .nil)⟩
theorem word_at {cs : List Code} {c f k : Nat} (hf : cs[f]? = some hasC) (hc : cs[c]? = some (wordC f)) (hk : 2 ≤ k) (t : Tx) (h : t.length ≤ 16777216) : Fk cs k c [(.str t, 0)] = .ok (.bl (word t)) 0 [] := by
  rw [Fk_at (by omega) hc]
  refine run_of (P := fun r => r = _) rfl rfl ?_
  simp only [GL.start, wordC, List.map_cons, List.map_nil, List.replicate, List.cons_append, List.nil_append]
  have hh := has_at (k := k - 1) hf (by omega) t h
  refine s_ret (by apply xPure0; walk_at "ev"; rw [hh]; walk_at "ev"; rfl) ?_
  simp only [fin, rr, outs, word]
  congr 2
  have e1 : decide (1 ≤ (t.length : Int)) = decide (1 ≤ t.length) := by simp; omega
  have e2 : decide ((t.length : Int) ≤ 20) = decide (t.length ≤ 20) := by simp; omega
  rw [e1, e2]
  generalize decide (1 ≤ t.length) = a
  generalize decide (t.length ≤ 20) = b
  generalize t.all good = c
  cases a <;> cases b <;> cases c <;> rfl
theorem noword_at {cs : List Code} {c f k : Nat} (hc : cs[c]? = some (wordC f)) (hk : 1 ≤ k) (x : D) (h : isiOf .str x = some false) : Fk cs k c [(x, 0)] = .ok (.bl false) 0 [] := by
  rw [Fk_at (by omega) hc]
  refine run_of (P := fun r => r = _) rfl rfl ?_
  simp only [GL.start, wordC, List.map_cons, List.map_nil, List.replicate, List.cons_append, List.nil_append]
  refine s_ret (by apply xPure0; simp only [e_and, e_isi, e_var, List.getElem?_cons_zero, q_sl, R.bind_ok, h, rB_some, q_andF]; rfl) ?_
  simp only [fin, rr, outs]
def anyC : Code := ⟨1, 2, [], (.cons (.asg 1 (.pure (.cst (.str (sga.take 64))))) (.cons (.asg 1 (.pure (.bin .add (.var 1) (.cst (.str (sga.drop 64)))))) (.cons (.ret (.pure (.idx (.var 1) (.bin .mod (.var 0) (.cst (.int 95)))))) .nil)))⟩
def any (i : Int) : Nat := sga.getD (i % 95).toNat 0
theorem any_at {cs : List Code} {c k : Nat} (hc : cs[c]? = some anyC) (hk : 1 ≤ k) (i : Int) : Fk cs k c [(.int i, 0)] = .ok (.str [any i]) 0 [] := by
  rw [Fk_at hk hc]
  refine run_of (P := fun r => r = _) rfl rfl ?_
  simp only [GL.start, anyC, List.map_cons, List.map_nil, List.replicate, List.cons_append, List.nil_append]
  refine s_asg (by walk_at "ex") ?_
  walk_at "nx"
  have e : sga.take 64 ++ sga.drop 64 = sga := List.take_append_drop _ _
  refine s_asg (by apply xPure0; walk_at "ev"; rw [e]) ?_
  walk_at "nx"
  have h3 : 0 ≤ i % 95 := Int.emod_nonneg _ (by omega)
  have h4 : i % 95 < 95 := Int.emod_lt_of_pos _ (by omega)
  have h5 : i % 95 < (sga.length : Int) := h4
  refine s_ret (by walk_at "ex") ?_
  simp only [fin, rr, outs, any]
/-- a text of good signs alone, of 1 to 20 -/
def goodC : Code := ⟨1, 2, [], (.cons (.for_ [1] (.val (.var 0)) [0] (.cons (.ifs (.not (.or (.chain .le .le (.cst (.str [97])) (.var 1) (.cst (.str [122]))) (.or (.chain .le .le (.cst (.str [65])) (.var 1) (.cst (.str [90]))) (.chain .le .le (.cst (.str [48])) (.var 1) (.cst (.str [57])))))) (.cons (.ret (.pure (.cst (.bl false)))) .nil) .nil) .nil)) (.cons (.ret (.pure (.chain .le .le (.cst (.int 1)) (.blt .len (.cons (.var 0) .nil)) (.cst (.int 20))))) .nil))⟩
theorem good_at {cs : List Code} {c k : Nat} (hc : cs[c]? = some goodC) (hk : 1 ≤ k) (t : Tx) (h : t.length ≤ 16777216) : Fk cs k c [(.str t, 0)] = .ok (.bl (word t)) 0 [] := by
  rw [Fk_at hk hc]
  refine run_of (P := fun r => r = _) rfl rfl ?_
  simp only [GL.start, goodC, List.map_cons, List.map_nil, List.replicate, List.cons_append, List.nil_append]
  refine s_all (i_str (by walk_at "eb") h) (by walk_at "rs") (fun c => good c = true) ?_ ?_
  · intro c hc
    refine ⟨_, rfl, ?_⟩
    walk_at "nx"
    refine s_if (by walk_at "eb") (fun h => ?_) (fun h => ?_)
    · walk_at "nx"
      refine s_ret (by walk_at "ex") ?_
      simp only [fin, rr, outs]
      have : t.all good = false := by
        rw [List.all_eq_false]
        refine ⟨c, hc, ?_⟩
        rw [good_due, Bool.not_eq_true]
        simpa only [tlt1, Bool.not_eq_true'] using h
      simp [word, this]
    · walk_at "nx"
      refine s_nil ?_
      refine ⟨rfl, ?_⟩
      rw [good_due]
      simpa only [tlt1, Bool.not_eq_false'] using h
  · intro hI
    refine s_ret (by walk_at "ex") ?_
    simp only [fin, rr, outs, word, List.all_eq_true.2 hI, Bool.true_and]
    congr 3
    · simp; omega
    · simp; omega
theorem joinT_one : ∀ cs : Tx, joinT [] (cs.map fun c => [c]) = cs
  | [] => rfl
  | [a] => rfl
  | a :: b :: r => by
    have := joinT_one (b :: r)
    simp only [List.map_cons] at this ⊢
    simp only [joinT, this, List.nil_append, List.cons_append]
end GL

/-! GLS: exceptions on the plain side; comparing. -/
namespace GL
section
variable {F : Fn} {Γ : Env} {Q : SR → Prop} {ss : CSs}
def putV (v : Option Nat) (Γ : Env) : Env := match v with | some i => Γ.set i none | none => Γ
/-- behind a try's body -/
def TryQ (F : Fn) (Q : SR → Prop) (ss : CSs) (ks : List Nat) (c : Nat) (v : Option Nat) (h : CSs) (r : SR) : Prop := match r with
  | .nx Γ' => Wp F Q ss Γ'
  | .rt d n Γ' => Q (.rt d n Γ')
  | .ex k fs Γ' => k ∈ ks ∧ (subEx k c = true → Wp (withEx F k fs) (fun r2 => match r2 with | .nx Γ2 => Wp F Q ss (putV v Γ2) | .rt d n Γ2 => Q (.rt d n Γ2) | _ => False) h (putV v Γ')) ∧ (subEx k c = false → Q (.ex k fs Γ'))
  | .bad => False
theorem s_try {ks : List Nat} {b h : CSs} {c : Nat} {v : Option Nat} (hb : Wp F (TryQ F Q ss ks c v h) b Γ) : Wp F Q (.cons (.try_ ks b c v h) ss) Γ := by
  unfold Wp at hb ⊢
  simp only [evSs, evS]
  cases e : evSs F b Γ with
  | bad => rw [e] at hb; exact hb.elim
  | nx Γ' => rw [e] at hb; unfold TryQ Wp at hb; exact hb
  | rt d n Γ' => rw [e] at hb; exact hb
  | ex k fs Γ' =>
    rw [e] at hb
    obtain ⟨h1, h2, h3⟩ := hb
    simp only [if_pos h1]
    cases hs : subEx k c with
    | false => simp only [Bool.false_eq_true, if_false]; exact h3 hs
    | true =>
      have h2 := h2 hs
      unfold Wp at h2
      simp only [if_true]
      cases v with
      | none =>
        dsimp only [putV] at h2 ⊢
        cases e2 : evSs (withEx F k fs) h Γ' with
        | bad => rw [e2] at h2; exact h2.elim
        | ex _ _ _ => rw [e2] at h2; exact h2.elim
        | rt d n Γ2 => rw [e2] at h2; exact h2
        | nx Γ2 => rw [e2] at h2; exact h2
      | some i =>
        dsimp only [putV] at h2 ⊢
        cases e2 : evSs (withEx F k fs) h (Γ'.set i none) with
        | bad => rw [e2] at h2; exact h2.elim
        | ex _ _ _ => rw [e2] at h2; exact h2.elim
        | rt d n Γ2 => rw [e2] at h2; exact h2
        | nx Γ2 => rw [e2] at h2; exact h2
theorem s_rse {c : Nat} {x : String} {es : CEs} {vs : List (D × Nat × Bool)} (h : evA F es Γ = .ok vs) (hf : fixed vs = true) (k : Q (.ex c (exFs c (vs.map (·.1))) Γ)) : Wp F Q (.cons (.rse c x es) ss) Γ := by
  simp only [Wp, evSs, evS, h, if_pos hf]; exact k
theorem s_asgX {i : Nat} {x : CX} {k : Nat} {fs : List D} (h : evX F x Γ = .ex k fs) (q : Q (.ex k fs Γ)) : Wp F Q (.cons (.asg i x) ss) Γ := by
  simp only [Wp, evSs, evS, h]; exact q
theorem s_exprX {x : CX} {k : Nat} {fs : List D} (h : evX F x Γ = .ex k fs) (q : Q (.ex k fs Γ)) : Wp F Q (.cons (.expr x) ss) Γ := by
  simp only [Wp, evSs, evS, h]; exact q
theorem s_retX {x : CX} {k : Nat} {fs : List D} (h : evX F x Γ = .ex k fs) (q : Q (.ex k fs Γ)) : Wp F Q (.cons (.ret x) ss) Γ := by
  simp only [Wp, evSs, evS, h]; exact q
theorem xPureX {e : CE} {k : Nat} {fs : List D} (h : ev F e Γ = .ex k fs) : evX F (.pure e) Γ = .ex k fs := by
  simp only [evX, h, own]
theorem e_exval {k : Nat} {fs : List D} : ev (withEx F k fs) .exval Γ = .ok (.bl true) 0 := rfl
theorem e_exis {k : Nat} {fs : List D} (cs : List Nat) : ev (withEx F k fs) (.exis cs) Γ = .ok (.bl (cs.any fun c => subEx k c)) 0 := rfl
end
theorem flat_str (n : Nat) (t : Tx) : D.flat n (.str t) = true := by cases n <;> rfl
theorem flats_strs (n : Nat) : ∀ a : List Tx, D.flats n (a.map D.str) = true
  | [] => rfl
  | t :: r => by simp only [List.map_cons, D.flats, flat_str, flats_strs n r, Bool.and_self]
theorem peqs_strs : ∀ a b : List Tx, D.peqs (a.map D.str) (b.map D.str) = decide (a = b)
  | [], [] => rfl
  | [], _ :: _ => rfl
  | _ :: _, [] => rfl
  | x :: a, y :: b => by
    simp only [List.map_cons, D.peqs, D.peq, peqs_strs a b]
    by_cases h : x = y <;> by_cases g : a = b <;> simp [h, g]
theorem cEqSs (a b : List Tx) : opCmp .eq (.lst (a.map D.str)) (.lst (b.map D.str)) = some (decide (a = b)) := by
  simp only [opCmp, D.flat, flats_strs, Bool.and_self, if_true, D.peq, peqs_strs]
theorem cNeSs (a b : List Tx) : opCmp .ne (.lst (a.map D.str)) (.lst (b.map D.str)) = some (!decide (a = b)) := by
  simp only [opCmp, D.flat, flats_strs, Bool.and_self, if_true, D.peq, peqs_strs]
theorem cEqTs (a b : List Tx) : opCmp .eq (.tup (a.map D.str)) (.tup (b.map D.str)) = some (decide (a = b)) := by
  simp only [opCmp, D.flat, flats_strs, Bool.and_self, if_true, D.peq, peqs_strs]
theorem cNeTs (a b : List Tx) : opCmp .ne (.tup (a.map D.str)) (.tup (b.map D.str)) = some (!decide (a = b)) := by
  simp only [opCmp, D.flat, flats_strs, Bool.and_self, if_true, D.peq, peqs_strs]
/-! splitting and joining -/
theorem splitC_free {c : Nat} : ∀ {t : Tx}, c ∉ t → splitC c t = [t]
  | [], _ => rfl
  | a :: r, h => by
    simp only [List.mem_cons, not_or] at h
    unfold splitC
    rw [if_neg (fun z => h.1 z.symm), splitC_free h.2]
theorem splitC_app {c : Nat} {s : Tx} : ∀ {t : Tx}, c ∉ t → splitC c (t ++ c :: s) = t :: splitC c s
  | [], _ => by
    rw [List.nil_append]
    conv => lhs; unfold splitC
    rw [if_pos rfl]
  | a :: r, h => by
    simp only [List.mem_cons, not_or] at h
    rw [List.cons_append]
    conv => lhs; unfold splitC
    rw [if_neg (fun z => h.1 z.symm), splitC_app h.2]
theorem split_join {c : Nat} : ∀ {ts : List Tx}, ts ≠ [] → (∀ t ∈ ts, c ∉ t) → splitC c (joinT [c] ts) = ts
  | [], h, _ => absurd rfl h
  | [t], _, h => by simp only [joinT]; exact splitC_free (h t List.mem_cons_self)
  | a :: b :: r, _, h => by
    simp only [joinT]
    rw [show a ++ ([c] ++ joinT [c] (b :: r)) = a ++ c :: joinT [c] (b :: r) from rfl, splitC_app (h a List.mem_cons_self), split_join (by simp) fun t ht => h t (List.mem_cons_of_mem _ ht)]
theorem m_split (s : Tx) (c n m : Nat) (f g : Bool) (h1 : c < 128) (h2 : s.length + 2 ≤ 16777216) : opMe .split (.str s, n, f) [(.str [c], m, g)] = .ok (.lst ((splitC c s).map .str)) 1 := by
  show (if c < 128 ∧ s.length + 2 ≤ LINE then R.ok (.lst ((splitC c s).map .str)) 1 else .bad) = _
  rw [if_pos ⟨h1, h2⟩]
theorem m_ends (s t : Tx) (n m : Nat) (f g : Bool) : opMe .endswith (.str s, n, f) [(.str t, m, g)] = .ok (.bl (decide (t.length ≤ s.length) && decide (s.drop (s.length - t.length) = t))) 0 := by
  show opMe .endswith (.str s, n, f) [(.str t, m, g)] = _
  simp only [opMe]
theorem cEqS0 (a : List Tx) : opCmp .eq (.lst (a.map D.str)) (.lst []) = some (decide (a = [])) := cEqSs a []
theorem cNeS0 (a : List Tx) : opCmp .ne (.lst (a.map D.str)) (.lst []) = some (!decide (a = [])) := cNeSs a []
theorem cIsntB (a b : Bool) : opCmp .isnot (.bl a) (.bl b) = some (!decide (a = b)) := rfl
theorem cIsB (a b : Bool) : opCmp .is_ (.bl a) (.bl b) = some (decide (a = b)) := rfl
/-- a comprehension with a test -/
theorem compL_fil {α : Type} {n : Nat} {f : Bool} {tg : List Nat} {Γ : Env} {t e : Env → R} {mk : α → D} {g : α → D} {p : α → Bool} : ∀ {l : List α} {acc : List D}, (∀ a ∈ l, ∃ Γ' m, setT Γ tg (mk a) = some Γ' ∧ t Γ' = .ok (.bl (p a)) m ∧ (p a = true → ∃ m, e Γ' = .ok (g a) m ∧ (own (n - 1) f (.ok (g a) m)) = .ok (g a) (n - 1))) → acc.length + l.length ≤ 16777216 →
    compL n f tg Γ t e (l.map mk) acc = .ok (.lst (acc ++ (l.filter p).map g)) n
  | [], acc, _, _ => by simp [compL]
  | x :: xs, acc, h, hl => by
    obtain ⟨Γ', m, h1, h2, h3⟩ := h x (by simp)
    simp only [List.length_cons] at hl
    rw [List.map_cons]
    unfold compL
    simp only [h1, h2]
    cases hp : p x with
    | false =>
      simp only
      rw [compL_fil (fun y hy => h y (List.mem_cons_of_mem _ hy)) (by omega), List.filter_cons_of_neg (by rw [hp]; decide)]
    | true =>
      obtain ⟨m2, h4, h5⟩ := h3 hp
      simp only [h4, h5]
      rw [if_pos (by show acc.length < 16777216; omega), compL_fil (fun y hy => h y (List.mem_cons_of_mem _ hy)) (by simp; omega), List.filter_cons_of_pos hp]
      simp
theorem e_compF {α : Type} {F : Fn} {Γ : Env} {n : Nat} {tg : List Nat} {it : CI} {c e : CE} {b : Bool} {l : List α} {mk g : α → D} {p : α → Bool} (h1 : evI F it Γ = .ok (l.map mk) b)
    (h2 : ∀ a ∈ l, ∃ Γ' m, setT (wipeG Γ tg) tg (mk a) = some Γ' ∧ ev F c Γ' = .ok (.bl (p a)) m ∧ (p a = true → ∃ m, ev F e Γ' = .ok (g a) m ∧ (own (n - 1) e.fresh (.ok (g a) m)) = .ok (g a) (n - 1))) (h3 : l.length ≤ 16777216) :
    ev F (.comp n tg it (.cons c .nil) e) Γ = .ok (.lst ((l.filter p).map g)) n := by
  simp only [ev, h1]
  have e0 : evT F (.cons c .nil) = ev F c := by funext Γ; simp only [evT]
  rw [e0, compL_fil h2 (by simpa using h3)]
  rfl
theorem i_lst {F : Fn} {Γ : Env} {a : CE} {xs : List D} {n : Nat} (hn : n ≤ 1) (h : ev F a Γ = .ok (.lst xs) n) : ∃ b, evI F (.val a) Γ = .ok xs b := by
  simp only [evI, h, itemsOf, hn, true_or, if_true]; exact ⟨_, rfl⟩
theorem splitC_snoc (c a : Nat) : ∀ s : Tx, ∃ i l, splitC c s = i ++ [l] ∧ splitC c (s ++ [a]) = if a = c then i ++ [l, []] else i ++ [l ++ [a]]
  | [] => ⟨[], [], rfl, by by_cases h : a = c <;> simp [splitC, h]⟩
  | b :: r => by
    obtain ⟨i, l, h1, h2⟩ := splitC_snoc c a r
    rw [List.cons_append]
    by_cases hb : b = c
    · refine ⟨[] :: i, l, ?_, ?_⟩
      · conv => lhs; unfold splitC
        rw [if_pos hb, h1]; rfl
      · conv => lhs; unfold splitC
        rw [if_pos hb, h2]
        split <;> rfl
    · cases i with
      | nil =>
        refine ⟨[], b :: l, ?_, ?_⟩
        · conv => lhs; unfold splitC
          rw [if_neg hb, h1]; rfl
        · conv => lhs; unfold splitC
          rw [if_neg hb, h2]
          by_cases ha : a = c
          · rw [if_pos ha, if_pos ha]; rfl
          · rw [if_neg ha, if_neg ha]; rfl
      | cons x i =>
        refine ⟨(b :: x) :: i, l, ?_, ?_⟩
        · conv => lhs; unfold splitC
          rw [if_neg hb, h1]; rfl
        · conv => lhs; unfold splitC
          rw [if_neg hb, h2]
          by_cases ha : a = c
          · rw [if_pos ha, if_pos ha]; rfl
          · rw [if_neg ha, if_neg ha]; rfl
theorem joinT_snoc (s t : Tx) : ∀ {ts : List Tx}, ts ≠ [] → joinT s (ts ++ [t]) = joinT s ts ++ (s ++ t)
  | [], h => absurd rfl h
  | [a], _ => rfl
  | a :: b :: r, _ => by
    have := joinT_snoc s t (ts := b :: r) (by simp)
    simp only [List.cons_append, joinT] at this ⊢
    rw [this]
    simp only [List.append_assoc]
theorem e_bin2 {F : Fn} {Γ : Env} {o : Op} {a b : CE} {x y : D} {n m : Nat} {r : R} (h1 : ev F a Γ = .ok x n) (h2 : ev F b Γ = .ok y m) (h3 : opBin o x n y m = r) : ev F (.bin o a b) Γ = r := by
  rw [e_bin, h1, R.bind_ok, h2, R.bind_ok, h3]
theorem slRo (xs : List D) (lo hi : Option Int) : opSl (.ro true xs) 0 lo hi = .ok (.lst (cut xs lo hi)) 1 := by simp [opSl]
theorem cut_map {α β : Type} (f : α → β) (xs : List α) (lo hi : Option Int) : cut (xs.map f) lo hi = (cut xs lo hi).map f := by
  simp only [cut, List.length_map, List.map_take, List.map_drop]
theorem cut_len {α : Type} (xs : List α) (lo hi : Option Int) : (cut xs lo hi).length ≤ xs.length := by
  simp only [cut, List.length_take, List.length_drop]; omega
theorem cut_mem {α : Type} {xs : List α} {lo hi : Option Int} {x : α} (h : x ∈ cut xs lo hi) : x ∈ xs := List.mem_of_mem_drop (List.mem_of_mem_take h)
theorem cut_from1 {α : Type} (x : α) (xs : List α) : cut (x :: xs) (some 1) none = xs := by
  simp [cut, sIx]
theorem evAndF {F : Fn} {Γ : Env} {a b : CE} {n : Nat} (h : ev F a Γ = .ok (.bl false) n) : ev F (.and a b) Γ = .ok (.bl false) 0 := by rw [e_and, h]; rfl
theorem evOrT {F : Fn} {Γ : Env} {a b : CE} {n : Nat} (h : ev F a Γ = .ok (.bl true) n) : ev F (.or a b) Γ = .ok (.bl true) 0 := by rw [e_or, h]; rfl
theorem cut_to {α : Type} (xs : List α) (i : Int) (h : 0 ≤ i) : cut xs none (some i) = xs.take i.toNat := by
  have e : sIx xs.length xs.length (some i) = min i.toNat xs.length := by simp only [sIx, if_neg (show ¬ i < 0 by omega)]
  have e0 : sIx xs.length 0 none = 0 := rfl
  unfold cut
  rw [e, e0, List.drop_zero, Nat.sub_zero]
  exact (List.take_eq_take_min).symm
theorem cut_from {α : Type} (xs : List α) (i : Int) (h : 0 ≤ i) : cut xs (some i) none = xs.drop i.toNat := by
  have e : sIx xs.length 0 (some i) = min i.toNat xs.length := by simp only [sIx, if_neg (show ¬ i < 0 by omega)]
  have e0 : sIx xs.length xs.length none = xs.length := rfl
  unfold cut
  rw [e, e0, List.take_of_length_le (by rw [List.length_drop]; omega)]
  by_cases g : i.toNat ≤ xs.length
  · rw [Nat.min_eq_left g]
  · rw [Nat.min_eq_right (by omega), List.drop_of_length_le (Nat.le_refl _), List.drop_of_length_le (by omega)]
theorem cut_m1 {α : Type} (xs : List α) (x : α) : cut (xs ++ [x]) none (some (-1)) = xs := by
  have e : sIx (xs ++ [x]).length (xs ++ [x]).length (some (-1)) = xs.length := by
    simp only [sIx, if_pos (show (-1 : Int) < 0 by omega), List.length_append, List.length_singleton]; omega
  have e0 : sIx (xs ++ [x]).length 0 none = 0 := rfl
  unfold cut
  rw [e, e0, List.drop_zero, Nat.sub_zero, List.take_left]
theorem opIdxLastT (xs : List D) (x : D) (n : Nat) : opIdx (.tup (xs ++ [x])) n (.int (-1)) = .ok x 0 := by
  simp only [opIdx]
  rw [atI_neg1]; rfl
theorem opIdxT0 (x : D) (xs : List D) (n : Nat) : opIdx (.tup (x :: xs)) n (.int 0) = .ok x 0 := by
  rw [iTup _ _ _ (by omega) (by simp only [List.length_cons]; omega)]; rfl
theorem opIdxT1 (x y : D) (xs : List D) (n : Nat) : opIdx (.tup (x :: y :: xs)) n (.int 1) = .ok y 0 := by
  rw [iTup _ _ _ (by omega) (by simp only [List.length_cons]; omega)]; rfl
theorem opIdxT2 (x y z : D) (xs : List D) (n : Nat) : opIdx (.tup (x :: y :: z :: xs)) n (.int 2) = .ok z 0 := by
  rw [iTup _ _ _ (by omega) (by simp only [List.length_cons]; omega)]; rfl
theorem m_index (s : Tx) (c : Nat) (n m : Nat) (f g : Bool) (h : c ∈ s) : opMe .index (.str s, n, f) [(.str [c], m, g)] = .ok (.int (s.idxOf c : Nat)) 0 := by
  show (if c ∈ s then R.ok (.int (s.idxOf c : Nat)) 0 else .bad) = _
  rw [if_pos h]
/-- signs drawn from a cell -/
def wsign (c : Int) (k : Nat) : Nat := sgs.getD ((c * 48271 + (0 + (k : Int)) * (0 + (k : Int)) * 69621 + (0 + (k : Int)) * 7) % 2147483647 % 62).toNat 0
theorem sgs_getD (k : Nat) (h : k < 62) : sgs.getD k 0 ∈ sgs := by
  rw [List.getD_eq_getElem?_getD, List.getElem?_eq_getElem (show k < sgs.length from h)]
  exact List.getElem_mem _
theorem wsign_good (c : Int) (k : Nat) : good (wsign c k) = true := by
  have h1 : 0 ≤ (c * 48271 + (0 + (k : Int)) * (0 + (k : Int)) * 69621 + (0 + (k : Int)) * 7) % 2147483647 % 62 := Int.emod_nonneg _ (by omega)
  have h2 : (c * 48271 + (0 + (k : Int)) * (0 + (k : Int)) * 69621 + (0 + (k : Int)) * 7) % 2147483647 % 62 < 62 := Int.emod_lt_of_pos _ (by omega)
  exact decide_eq_true (sgs_getD _ (by omega))
theorem joinT_len (s : Tx) : ∀ ts : List Tx, (joinT s ts).length ≤ (ts.map List.length).sum + ts.length * s.length
  | [] => by simp [joinT]
  | [a] => by simp [joinT]
  | a :: b :: r => by
    have := joinT_len s (b :: r)
    simp only [joinT, List.length_append, List.map_cons, List.sum_cons, List.length_cons] at this ⊢
    have e : (r.length + 1 + 1) * s.length = (r.length + 1) * s.length + s.length := by rw [Nat.add_mul, Nat.one_mul]
    omega
theorem sum_le {k : Nat} : ∀ {l : List Nat}, (∀ x ∈ l, x ≤ k) → l.sum ≤ l.length * k
  | [], _ => by simp
  | a :: r, h => by
    have := sum_le (l := r) fun x hx => h x (List.mem_cons_of_mem _ hx)
    have := h a List.mem_cons_self
    simp only [List.sum_cons, List.length_cons, Nat.add_mul, Nat.one_mul]
    omega
end GL

/-! GLD: the builders of documents that many laws share. -/
namespace GL
local macro_rules | `(tactic| walk_at "ev") => `(tactic| (simp -implicitDefEqProofs (disch := first | omega | assumption | decide | (simp only [mo_split, mo_join, mo_ends, mo_index, mo_part]; done) | (simp only [fixed, deep, D.safe, D.imm, D.imms, List.all_cons, List.all_nil, beq_self_eq_true, Bool.true_or, Bool.or_true, Bool.and_true, Bool.and_self, decide_true, Nat.reduceSub, Nat.reduceBEq, Nat.reduceEqDiff]; done) | (simp only [List.length_map, List.length_range, List.length_cons, List.length_nil, List.length_append]; omega) | fail) only [e_var, e_cst, e_glo, e_tup, e_lst, e_dnew, e_bin, e_neg, e_cmp, e_chain, e_and, e_or, e_not, e_idx, e_sll, e_slu, e_slb, e_call, e_blt, e_mth, e_isi, e_anil, e_acons, q_sl, q_and, q_andF, q_or, q_orT, q_not, q_neg, q_chn, q_sll, q_slu, q_slb, q_acons, q_tup, q_lst, q_call, q_post, q_posts, q_postx, q_blt, q_mth, fixed_nil, fixed_c0, fixed_ct, R.bind_ok, R.bind_ex, opAdd, opSub, opMulR, opMulL, opFdiv, opMod, opAddS, opAddT, cLt, cLe, cGt, cGe, cEqI, cNeI, cEqB, cEqS, cNeS, cInS, cNotInS, cLeS, cLtS, rB_some, rO_some, bLenRo, bLenL, bLenT, bLenS, bTupL, bTupT, bIntB, bMin, bMax, iRoI, iStr, iTup, iLst, slS, slT, isi_bl, isi_int, isi_str, isi_tup, isi_lst, isi_dct, isi_non, List.getElem?_cons_succ, List.getElem?_cons_zero, List.length_map, List.map_cons, List.map_nil, CE.fresh, or_true, true_or, if_true, Bool.not_false, Bool.not_true, List.set_cons_zero, List.set_cons_succ]))
local macro_rules | `(tactic| walk_at "ex") => `(tactic| first | (apply xPure0; walk_at "ev"; done) | (apply xPure0; walk_at "ev"; rfl) | (apply xPureF rfl; walk_at "ev"; done) | (apply xPureF rfl; walk_at "ev"; rfl))
local macro_rules | `(tactic| walk_at "eb") => `(tactic| first | (walk_at "ev"; done) | (walk_at "ev"; rfl))
local macro_rules | `(tactic| walk_at "nx") => `(tactic| (try dsimp only [CSs.app, List.set_cons_zero, List.set_cons_succ, List.cons_append, List.nil_append]))
local macro_rules | `(tactic| walk_at "rs") => `(tactic| first | (simp (decide := true) only [rs, rsA, if_true, if_false]; done) | (simp (decide := true) only [rs, rsA, if_true, if_false]; rfl) | rfl)
def C_law_mixed : Code := ⟨1, 1, [], (.cons (.ret (.pure (.bin .mod (.bin .add (.bin .mul (.var 0) (.cst (.int 48271))) (.cst (.int 12345))) (.cst (.int 2147483647))))) .nil)⟩
def C_law_menu (f_cell f_mixed : Nat) : Code := ⟨1, 12, [], (.cons (.asg 1 (.pure (.cst (.str sgs)))) (.cons (.asg 2 (.pure (.call f_cell "_law_cell" (.cons (.var 0) (.cons (.cst (.int 0)) .nil))))) (.cons (.asg 3 (.pure (.bin .add (.cst (.int 1)) (.bin .mod (.var 2) (.cst (.int 19)))))) (.cons (.asg 4 (.pure (.bin .mod (.bin .fdiv (.var 2) (.cst (.int 19))) (.var 3)))) (.cons (.asg 5 (.pure (.bin .mod (.var 2) (.cst (.int 2147483647))))) (.cons (.asg 6 (.pure (.lst 1 .nil))) (.cons (.for_ [7] (.rng1 (.var 3)) [0, 1, 2, 3, 4, 5, 6] (.cons (.asg 5 (.pure (.call f_mixed "_law_mixed" (.cons (.var 5) .nil)))) (.cons (.app (.var 6) (.pure (.bin .mod (.var 5) (.cst (.int 62))))) .nil))) (.cons (.frz 6) (.cons (.asg 8 (.pure (.lst 1 .nil))) (.cons (.for_ [7] (.rng1 (.cst (.int 8))) [0, 1, 2, 3, 4, 5, 6, 8] (.cons (.asg 9 (.pure (.cst (.str [])))) (.cons (.for_ [10] (.rng1 (.var 3)) [0, 1, 2, 3, 4, 5, 6, 7, 8, 9] (.cons (.asg 11 (.pure (.bin .mod (.bin .add (.idx (.var 6) (.var 10)) (.bin .mul (.bin .mul (.cst (.int 7)) (.var 7)) (.blt .int (.cons (.cmp .eq (.var 10) (.var 4)) .nil)))) (.cst (.int 62))))) (.cons (.ifs (.and (.cmp .eq (.var 10) (.var 4)) (.cmp .eq (.bin .mod (.var 2) (.cst (.int 3))) (.cst (.int 1)))) (.cons (.asg 11 (.pure (.bin .add (.bin .mod (.bin .add (.idx (.var 6) (.var 10)) (.bin .fdiv (.var 7) (.cst (.int 2)))) (.cst (.int 26))) (.bin .mul (.bin .mod (.var 7) (.cst (.int 2))) (.cst (.int 26)))))) .nil) .nil) (.cons (.asg 9 (.pure (.bin .add (.var 9) (.idx (.var 1) (.var 11))))) .nil)))) (.cons (.app (.var 8) (.pure (.var 9))) .nil)))) (.cons (.frz 8) (.cons (.ret (.pure (.bin .add (.var 8) (.lst 1 (.cons (.bin .add (.idx (.var 8) (.cst (.int 0))) (.idx (.var 1) (.idx (.var 6) (.cst (.int 0))))) (.cons (.bin .add (.idx (.var 8) (.cst (.int 1))) (.idx (.var 1) (.bin .mod (.bin .fdiv (.var 5) (.cst (.int 62))) (.cst (.int 62))))) .nil)))))) .nil))))))))))))⟩
def C_law_row (f_mixed : Nat) : Code := ⟨3, 6, [], (.cons (.asg 3 (.pure (.call f_mixed "_law_mixed" (.cons (.var 0) .nil)))) (.cons (.asg 4 (.pure (.lst 1 .nil))) (.cons (.for_ [5] (.rng1 (.var 2)) [0, 1, 2, 3, 4] (.cons (.asg 3 (.pure (.call f_mixed "_law_mixed" (.cons (.var 3) .nil)))) (.cons (.app (.var 4) (.pure (.idx (.var 1) (.bin .mod (.var 3) (.cst (.int 10)))))) .nil))) (.cons (.frz 4) (.cons (.ret (.pure (.blt .tuple (.cons (.var 4) .nil)))) .nil)))))⟩
def C_law_thing (f_row f_mixed : Nat) : Code := ⟨4, 8, [], (.cons (.ifs (.cmp .lt (.bin .mod (.var 0) (.cst (.int 9))) (.cst (.int 5))) (.cons (.ret (.pure (.tup (.cons (.cst (.str [115, 97, 121])) (.cons (.var 1) (.cons (.call f_row "_law_row" (.cons (.bin .fdiv (.var 0) (.cst (.int 9))) (.cons (.var 2) (.cons (.var 3) .nil)))) .nil)))))) .nil) .nil) (.cons (.asg 4 (.pure (.idx (.lst 1 (.cons (.cst (.str [97, 108, 108])) (.cons (.cst (.str [112, 97, 114, 116])) (.cons (.cst (.str [104, 101, 114, 101])) (.cons (.cst (.str [101, 108, 115, 101])) .nil))))) (.bin .mod (.bin .fdiv (.var 0) (.cst (.int 9))) (.cst (.int 4)))))) (.cons (.asg 5 (.pure (.call f_mixed "_law_mixed" (.cons (.bin .fdiv (.var 0) (.cst (.int 36))) .nil)))) (.cons (.asg 6 (.pure (.idx (.lst 1 (.cons (.tup .nil) (.cons (.tup (.cons (.tup (.cons (.cst (.str [])) (.cons (.cst (.str [115])) .nil))) .nil)) .nil))) (.bin .mod (.var 5) (.cst (.int 2)))))) (.cons (.asg 7 (.pure (.sll (.tup (.cons (.idx (.var 2) (.bin .mod (.bin .fdiv (.var 5) (.cst (.int 2))) (.cst (.int 8)))) (.cons (.cst (.str [68, 97, 121])) .nil))) (.bin .mod (.bin .fdiv (.var 5) (.cst (.int 16))) (.cst (.int 2)))))) (.cons (.ret (.pure (.tup (.cons (.cst (.str [116, 101, 108, 108])) (.cons (.var 1) (.cons (.var 4) (.cons (.var 7) (.cons (.var 6) (.cons (.call f_row "_law_row" (.cons (.var 5) (.cons (.var 2) (.cons (.var 3) .nil)))) .nil))))))))) .nil))))))⟩
def C_law_number (f_cell : Nat) : Code := ⟨2, 4, [], (.cons (.asg 2 (.pure (.call f_cell "_law_cell" (.cons (.var 0) (.cons (.cst (.int 1)) .nil))))) (.cons (.asg 3 (.pure (.bin .add (.cst (.int 1)) (.bin .mod (.call f_cell "_law_cell" (.cons (.var 0) (.cons (.cst (.int 2)) .nil))) (.cst (.int 9)))))) (.cons (.ifs (.cmp .eq (.bin .mod (.bin .fdiv (.var 2) (.cst (.int 42))) (.cst (.int 2))) (.cst (.int 1))) (.cons (.asg 3 (.pure (.bin .add (.cst (.int 1)) (.bin .mod (.call f_cell "_law_cell" (.cons (.var 0) (.cons (.cst (.int 2)) .nil))) (.bin .pow (.cst (.int 10)) (.cst (.int 59))))))) .nil) .nil) (.cons (.ret (.pure (.bin .add (.var 3) (.bin .mul (.bin .mod (.bin .mul (.var 1) (.bin .add (.cst (.int 1)) (.bin .mod (.var 2) (.cst (.int 42))))) (.cst (.int 43))) (.bin .add (.cst (.int 1)) (.bin .mod (.bin .fdiv (.var 2) (.cst (.int 84))) (.cst (.int 1000)))))))) .nil))))⟩
def C_law_ended : Code := ⟨2, 3, [0, 1], (.cons (.asg 2 (.tup3 (.pure (.cst (.str [112, 97, 114, 116]))) (.pop (.var 0)) (.tuple (.pop (.var 1))))) (.cons (.app (.idx (.var 1) (.neg (.cst (.int 1)))) (.pure (.var 2))) .nil))⟩
def C_law_document (f_menu f_cell f_ended f_number f_thing : Nat) : Code := ⟨2, 10, [], (.cons (.asg 2 (.pure (.call f_menu "_law_menu" (.cons (.var 0) .nil)))) (.cons (.asg 3 (.pure (.bin .sub (.cst (.int 5)) (.bin .mul (.cst (.int 2)) (.blt .int (.cons (.cmp .eq (.bin .mod (.call f_cell "_law_cell" (.cons (.var 0) (.cons (.cst (.int 3)) .nil))) (.cst (.int 8))) (.cst (.int 1))) .nil)))))) (.cons (.asg 4 (.pure (.lst 1 (.cons (.cst (.int 0)) .nil)))) (.cons (.asg 5 (.pure (.lst 2 (.cons (.lst 1 .nil) .nil)))) (.cons (.asg 6 (.pure (.cst (.int 0)))) (.cons (.for_ [7] (.rng2 (.cst (.int 4)) (.blt .max2 (.cons (.cst (.int 10)) (.cons (.blt .min2 (.cons (.bin .add (.cst (.int 4)) (.var 1)) (.cons (.blt .len (.cons (.var 0) .nil)) .nil))) .nil)))) [0, 1, 2, 3, 4, 5, 6] (.cons (.asg 8 (.pure (.call f_cell "_law_cell" (.cons (.var 0) (.cons (.var 7) .nil))))) (.cons (.ifs (.and (.cmp .eq (.bin .mod (.var 8) (.cst (.int 7))) (.cst (.int 6))) (.cmp .gt (.blt .len (.cons (.var 4) .nil)) (.cst (.int 1)))) (.cons (.expr (.cio f_ended "_law_ended" [(4, true), (5, true)])) .nil) (.cons (.ifs (.and (.chain .le .le (.var 3) (.bin .mod (.var 8) (.cst (.int 7))) (.cst (.int 5))) (.cmp .le (.blt .len (.cons (.var 4) .nil)) (.cst (.int 8)))) (.cons (.app (.var 4) (.pure (.call f_number "_law_number" (.cons (.var 0) (.cons (.var 6) .nil))))) (.cons (.app (.var 5) (.pure (.lst 1 .nil))) (.cons (.asg 6 (.pure (.bin .add (.var 6) (.cst (.int 1))))) .nil))) (.cons (.asg 9 (.pure (.bin .add (.cst (.int 1)) (.bin .mod (.bin .fdiv (.var 8) (.cst (.int 63))) (.cst (.int 6)))))) (.cons (.ifs (.cmp .eq (.var 7) (.bin .add (.cst (.int 4)) (.bin .mod (.bin .fdiv (.call f_cell "_law_cell" (.cons (.var 0) (.cons (.cst (.int 3)) .nil))) (.cst (.int 8))) (.cst (.int 16))))) (.cons (.asg 9 (.pure (.bin .add (.cst (.int 197)) (.bin .fdiv (.bin .add (.var 9) (.cst (.int 1))) (.cst (.int 2)))))) .nil) .nil) (.cons (.app (.idx (.var 5) (.neg (.cst (.int 1)))) (.pure (.call f_thing "_law_thing" (.cons (.bin .fdiv (.var 8) (.cst (.int 7))) (.cons (.call f_number "_law_number" (.cons (.var 0) (.cons (.var 6) .nil))) (.cons (.var 2) (.cons (.var 9) .nil))))))) (.cons (.asg 6 (.pure (.bin .add (.var 6) (.cst (.int 1))))) .nil))))) .nil)) .nil))) (.cons (.whl 1000000 (.cmp .gt (.blt .len (.cons (.var 4) .nil)) (.cst (.int 1))) [0, 1, 2, 3, 4, 5, 6, 7, 8, 9] (.cons (.expr (.cio f_ended "_law_ended" [(4, true), (5, true)])) .nil)) (.cons (.frz 5) (.cons (.ret (.pure (.tup (.cons (.cst (.str [112, 97, 114, 116])) (.cons (.cst (.int 0)) (.cons (.blt .tuple (.cons (.idx (.var 5) (.cst (.int 0))) .nil)) .nil)))))) .nil)))))))))⟩
def C_things_of (fthings_of : Nat) : Code := ⟨1, 3, [], (.cons (.asg 1 (.pure (.lst 1 .nil))) (.cons (.for_ [2] (.val (.idx (.var 0) (.cst (.int 2)))) [0, 1] (.cons (.app (.var 1) (.pure (.var 2))) (.cons (.ifs (.cmp .eq (.idx (.var 2) (.cst (.int 0))) (.cst (.str [112, 97, 114, 116]))) (.cons (.ext (.var 1) (.call fthings_of "things_of" (.cons (.var 2) .nil))) .nil) .nil) .nil))) (.cons (.retv 1) .nil)))⟩
def C_law_order : Code := ⟨1, 4, [], (.cons (.asg 1 (.pure (.lst 1 .nil))) (.cons (.asg 2 (.pure (.blt .list (.cons (.idx (.var 0) (.cst (.int 2))) .nil)))) (.cons (.whl 1000000 (.cmp .ne (.var 2) (.lst 1 .nil)) [0, 1, 2] (.cons (.asg 3 (.pop0 (.var 2))) (.cons (.app (.var 1) (.pure (.var 3))) (.cons (.ifs (.cmp .eq (.idx (.var 3) (.cst (.int 0))) (.cst (.str [112, 97, 114, 116]))) (.cons (.asg 2 (.pure (.bin .add (.blt .list (.cons (.idx (.var 3) (.cst (.int 2))) .nil)) (.var 2)))) .nil) .nil) .nil)))) (.cons (.retv 1) .nil))))⟩
def mixed (n : Int) : Int := (n * 48271 + 12345) % 2147483647
theorem mixed_b (n : Int) : 0 ≤ mixed n ∧ mixed n < 2147483647 := ⟨Int.emod_nonneg _ (by omega), Int.emod_lt_of_pos _ (by omega)⟩
theorem mixed_at {cs : List Code} {c k : Nat} (hc : cs[c]? = some C_law_mixed) (hk : 1 ≤ k) (n : Int) : Fk cs k c [(.int n, 0)] = .ok (.int (mixed n)) 0 [] := by
  rw [Fk_at hk hc]
  refine run_of (P := fun r => r = _) rfl rfl ?_
  simp only [GL.start, C_law_mixed, List.map_cons, List.map_nil, List.replicate, List.cons_append, List.nil_append]
  refine s_ret (by walk_at "ex") ?_
  simp only [fin, rr, outs, mixed]
theorem iInts (ns : List Int) (n : Nat) (i : Int) (h0 : 0 ≤ i) (h1 : i < ns.length) : opIdx (.lst (ns.map D.int)) n (.int i) = .ok (.int (ns.getD i.toNat 0)) (n - 1) := by
  rw [iLst _ _ _ h0 (by simpa using h1)]
  simp [List.getD, List.getElem?_eq_getElem (show i.toNat < ns.length by omega)]
theorem iStrs (ws : List Tx) (n : Nat) (i : Int) (h0 : 0 ≤ i) (h1 : i < ws.length) : opIdx (.lst (ws.map D.str)) n (.int i) = .ok (.str (ws.getD i.toNat [])) (n - 1) := by
  rw [iLst _ _ _ h0 (by simpa using h1)]
  simp [List.getD, List.getElem?_eq_getElem (show i.toNat < ws.length by omega)]
theorem getD_mem {α : Type} {l : List α} {i : Nat} {d : α} (h : i < l.length) : l.getD i d ∈ l := by
  rw [List.getD_eq_getElem?_getD, List.getElem?_eq_getElem h]
  exact List.getElem_mem _
/-- one thing is added at the end of a slot's list -/
theorem modE_app {Γ : Env} {i : Nat} {xs : List D} {n : Nat} {x : D} {m : Nat} {f : Bool} (h : Γ[i]? = some (some (.lst xs, n + 1))) (ho : own n f (.ok x m) = .ok x n) (hl : xs.length < 16777216) : modE (appD x m f) (some (i, [])) Γ = some (Γ.set i (some (.lst (xs ++ [x]), n + 1))) := by
  simp only [modE, modS, h, modP, appD, ho, LINE, if_pos hl, Option.map_some]
theorem s_appv {F : Fn} {Γ : Env} {Q : SR → Prop} {ss : CSs} {i : Nat} {e : CE} {xs : List D} {n m : Nat} {x : D} (h : Γ[i]? = some (some (.lst xs, n + 1))) (he : evX F (.pure e) Γ = .ok x m Γ) (ho : own n e.fresh (.ok x m) = .ok x n) (hl : xs.length < 16777216)
    (k : Wp F Q ss (Γ.set i (some (.lst (xs ++ [x]), n + 1)))) : Wp F Q (.cons (.app (.var i) (.pure e)) ss) Γ := by
  refine s_app (d := x) (n := m) (xs := xs) (m := n) ?_ he (by simp [CX.slots]) ?_ k
  · simp only [path, getE, h, getP]
  · exact modE_app h ho hl
theorem menu_at {cs : List Code} {c fc fm k : Nat} (hc : cs[c]? = some (C_law_menu fc fm)) (h1 : cs[fc]? = some cellC) (h2 : cs[fm]? = some C_law_mixed) (hk : 2 ≤ k) (ns : List Int) : ∃ M : List Tx, M.length = 10 ∧ (∀ t ∈ M, word t = true) ∧ Fk cs k c [(.ro true (ns.map D.int), 0)] = .ok (.lst (M.map D.str)) 1 [] := by
  have c0 := cell_at h1 (k := k - 1) (by omega) ns 0 (by omega) (by omega)
  have hm := fun n => mixed_at h2 (k := k - 1) (by omega) n
  rw [Fk_at (by omega) hc]
  have key : ∃ r, run (Fk cs (k - 1)) (C_law_menu fc fm) [(.ro true (ns.map D.int), 0)] = r ∧ ∃ M : List Tx, M.length = 10 ∧ (∀ t ∈ M, word t = true) ∧ r = .ok (.lst (M.map D.str)) 1 [] := by
    refine ⟨_, rfl, ?_⟩
    refine run_of (P := fun r => ∃ M : List Tx, M.length = 10 ∧ (∀ t ∈ M, word t = true) ∧ r = .ok (.lst (M.map D.str)) 1 []) rfl rfl ?_
    simp only [GL.start, C_law_menu, List.map_cons, List.map_nil, List.replicate, List.cons_append, List.nil_append, Nat.reduceSub]
    refine s_asg (d := .str sgs) (n := 0) (xPure0 rfl) ?_
    walk_at "nx"
    refine s_asg (by apply xPure0; walk_at "ev"; simp only [c0]; walk_at "eb") ?_
    walk_at "nx"
    refine s_asg (by walk_at "ex") ?_
    walk_at "nx"
    have z1 : 0 ≤ cell ns 0 % 19 := Int.emod_nonneg _ (by omega)
    have z2 : cell ns 0 % 19 < 19 := Int.emod_lt_of_pos _ (by omega)
    generalize hsz : 1 + cell ns 0 % 19 = sz
    refine s_asg (by walk_at "ex") ?_
    walk_at "nx"
    have z3 : 0 ≤ cell ns 0 / 19 % sz := Int.emod_nonneg _ (by omega)
    have z4 : cell ns 0 / 19 % sz < sz := Int.emod_lt_of_pos _ (by omega)
    generalize hat : cell ns 0 / 19 % sz = at_ at z3 z4
    refine s_asg (by walk_at "ex") ?_
    walk_at "nx"
    refine s_asg (by walk_at "ex") ?_
    walk_at "nx"
    refine s_for (α := Int × List Int) (i_rng1 (by walk_at "eb") (by omega) (by omega)) (fun a => [some (.ro true (ns.map D.int), 0), some (.str sgs, 0), some (.int (cell ns 0), 0), some (.int sz, 0), some (.int at_, 0), some (.int a.1, 0), some (.lst (a.2.map D.int), 1), none, none, none, none, none]) (fun i a => a.2.length = i ∧ ∀ s ∈ a.2, 0 ≤ s ∧ s < 62) (cell ns 0 % 2147483647, []) (by walk_at "rs") ⟨rfl, by simp⟩ ?_ ?_
    · rintro i x ⟨num, S⟩ hx ⟨hS, hSb⟩
      rw [List.getElem?_map] at hx
      obtain ⟨j, hj, rfl⟩ := Option.map_eq_some_iff.mp hx
      obtain ⟨hi, rfl⟩ := List.getElem?_eq_some_iff.mp hj
      rw [List.length_range] at hi
      refine ⟨_, setT_one _ _ _, ?_⟩
      walk_at "nx"
      dsimp only at hS hSb
      refine s_asg (by apply xPure0; walk_at "ev"; simp only [hm]; walk_at "eb") ?_
      walk_at "nx"
      have w1 : 0 ≤ mixed num % 62 := Int.emod_nonneg _ (by omega)
      have w2 : mixed num % 62 < 62 := Int.emod_lt_of_pos _ (by omega)
      refine s_appv (x := .int (mixed num % 62)) (m := 0) rfl (by walk_at "ex") rfl (by rw [List.length_map]; omega) ?_
      walk_at "nx"
      refine s_nil ⟨(mixed num, S ++ [mixed num % 62]), by simp [rs, rsA], by simp [hS], fun s hs => ?_⟩
      rcases List.mem_append.mp hs with hs | hs
      · exact hSb s hs
      · rw [List.mem_singleton.mp hs]; exact ⟨w1, w2⟩
    · rintro ⟨num, S⟩ ⟨hS, hSb⟩
      dsimp only at hS hSb ⊢
      rw [List.length_map, List.length_range] at hS
      refine s_frz rfl ?_
      walk_at "nx"
      refine s_asg (by walk_at "ex") ?_
      walk_at "nx"
      refine s_for (α := List Tx) (xs := (List.range (8 : Int).toNat).map fun k : Nat => .int (0 + (k : Int))) (i_rng1 (i := 8) (n := 0) (by walk_at "ev") (by omega) (by omega)) (fun M => [some (.ro true (ns.map D.int), 0), some (.str sgs, 0), some (.int (cell ns 0), 0), some (.int sz, 0), some (.int at_, 0), some (.int num, 0), some (.lst (S.map D.int), 0), none, some (.lst (M.map D.str), 1), none, none, none]) (fun i M => M.length = i ∧ ∀ t ∈ M, t.length = sz.toNat ∧ t.all good = true) [] (by walk_at "rs") ⟨rfl, by simp⟩ ?_ ?_
      · rintro q x M hx ⟨hM, hMb⟩
        rw [List.getElem?_map] at hx
        obtain ⟨j, hj, rfl⟩ := Option.map_eq_some_iff.mp hx
        obtain ⟨hq, rfl⟩ := List.getElem?_eq_some_iff.mp hj
        rw [List.length_range] at hq
        rw [List.getElem_range]
        refine ⟨_, setT_one _ _ _, ?_⟩
        walk_at "nx"
        refine s_asg (by walk_at "ex") ?_
        walk_at "nx"
        refine s_for (α := Tx) (i_rng1 (by walk_at "eb") (by omega) (by omega)) (fun w => [some (.ro true (ns.map D.int), 0), some (.str sgs, 0), some (.int (cell ns 0), 0), some (.int sz, 0), some (.int at_, 0), some (.int num, 0), some (.lst (S.map D.int), 0), some (.int (0 + (q : Int)), 0), some (.lst (M.map D.str), 1), some (.str w, 0), none, none]) (fun i w => w.length = i ∧ w.all good = true) [] (by walk_at "rs") ⟨rfl, rfl⟩ ?_ ?_
        · rintro p x w hx ⟨hw, hwg⟩
          rw [List.getElem?_map] at hx
          obtain ⟨j, hj, rfl⟩ := Option.map_eq_some_iff.mp hx
          obtain ⟨hp, rfl⟩ := List.getElem?_eq_some_iff.mp hj
          rw [List.length_range] at hp
          rw [List.getElem_range]
          refine ⟨_, setT_one _ _ _, ?_⟩
          walk_at "nx"
          have hs0 := iInts S 0 (0 + (p : Int)) (by omega) (by omega)
          have hsb := hSb _ (getD_mem (d := 0) (show (0 + (p : Int)).toNat < S.length by omega))
          generalize S.getD (0 + (p : Int)).toNat 0 = sp at hs0 hsb
          have hite : 0 ≤ (if decide ((0 + (p : Int)) = at_) = true then (1 : Int) else 0) ∧ (if decide ((0 + (p : Int)) = at_) = true then (1 : Int) else 0) ≤ 1 := by split <;> omega
          have fin_ : ∀ g : Int, 0 ≤ g → g < 62 → Wp (Fk cs (k - 1)) (Turn (Turn (fun r => ∃ M : List Tx, M.length = 10 ∧ (∀ t ∈ M, word t = true) ∧ fin [] r = .ok (.lst (M.map D.str)) 1 []) [0, 1, 2, 3, 4, 5, 6, 8] (fun M : List Tx => [some (.ro true (ns.map D.int), 0), some (.str sgs, 0), some (.int (cell ns 0), 0), some (.int sz, 0), some (.int at_, 0), some (.int num, 0), some (.lst (S.map D.int), 0), none, some (.lst (M.map D.str), 1), none, none, none]) (fun M => M.length = q + 1 ∧ ∀ t ∈ M, t.length = sz.toNat ∧ t.all good = true)) [0, 1, 2, 3, 4, 5, 6, 7, 8, 9] (fun w : Tx => [some (.ro true (ns.map D.int), 0), some (.str sgs, 0), some (.int (cell ns 0), 0), some (.int sz, 0), some (.int at_, 0), some (.int num, 0), some (.lst (S.map D.int), 0), some (.int (0 + (q : Int)), 0), some (.lst (M.map D.str), 1), some (.str w, 0), none, none]) (fun w => w.length = p + 1 ∧ w.all good = true))
              (.cons (.asg 9 (.pure (.bin .add (.var 9) (.idx (.var 1) (.var 11))))) .nil)
              [some (.ro true (ns.map D.int), 0), some (.str sgs, 0), some (.int (cell ns 0), 0), some (.int sz, 0), some (.int at_, 0), some (.int num, 0), some (.lst (S.map D.int), 0), some (.int (0 + (q : Int)), 0), some (.lst (M.map D.str), 1), some (.str w, 0), some (.int (0 + (p : Int)), 0), some (.int g, 0)] := fun g g0 g1 => by
            have h2 : g < (sgs.length : Int) := g1
            have h3 : sgs.length ≤ 16777216 := by decide
            refine s_asg (by walk_at "ex") ?_
            walk_at "nx"
            refine s_nil ⟨_, rfl, by simp [hw], ?_⟩
            rw [List.all_append, hwg]
            simp only [Bool.true_and, List.all_cons, List.all_nil, Bool.and_true]
            exact decide_eq_true (sgs_getD _ (by omega))
          refine s_asg (d := .int ((sp + 7 * (0 + (q : Int)) * (if decide ((0 + (p : Int)) = at_) = true then (1 : Int) else 0)) % 62)) (n := 0) (by apply xPure0; simp -implicitDefEqProofs only [e_bin, e_idx, e_var, e_cst, e_blt, e_acons, e_anil, e_cmp, List.getElem?_cons_zero, List.getElem?_cons_succ, q_sl, R.bind_ok, hs0, cEqI, rB_some, q_acons, q_blt, CE.fresh, bIntB]; rw [opMulL _ _ _ _ (by omega) (by omega), R.bind_ok, opMulR _ _ _ _ (by omega) (by omega), R.bind_ok, opAdd, R.bind_ok, opMod _ _ _ _ (by omega)]) ?_
          walk_at "nx"
          have v1 : 0 ≤ (sp + 7 * (0 + (q : Int)) * (if decide ((0 + (p : Int)) = at_) = true then (1 : Int) else 0)) % 62 := Int.emod_nonneg _ (by omega)
          have v2 : (sp + 7 * (0 + (q : Int)) * (if decide ((0 + (p : Int)) = at_) = true then (1 : Int) else 0)) % 62 < 62 := Int.emod_lt_of_pos _ (by omega)
          refine s_if (by walk_at "eb") (fun _ => ?_) (fun _ => ?_)
          · walk_at "nx"
            have u1 : 0 ≤ (sp + (0 + (q : Int)) / 2) % 26 := Int.emod_nonneg _ (by omega)
            have u2 : (sp + (0 + (q : Int)) / 2) % 26 < 26 := Int.emod_lt_of_pos _ (by omega)
            refine s_asg (d := .int ((sp + (0 + (q : Int)) / 2) % 26 + (0 + (q : Int)) % 2 * 26)) (n := 0) (by apply xPure0; simp -implicitDefEqProofs only [e_bin, e_idx, e_var, e_cst, List.getElem?_cons_zero, List.getElem?_cons_succ, q_sl, R.bind_ok, hs0]; rw [opFdiv _ _ _ _ (by omega) (by omega), R.bind_ok, opAdd, R.bind_ok, opMod _ _ _ _ (by omega), R.bind_ok, opMod _ _ _ _ (by omega), R.bind_ok, opMulR _ _ _ _ (by omega) (by omega), R.bind_ok, opAdd]) ?_
            walk_at "nx"
            exact fin_ _ (by omega) (by omega)
          · walk_at "nx"
            exact fin_ _ v1 v2
        · rintro w ⟨hw, hwg⟩
          rw [List.length_map, List.length_range] at hw
          refine s_appv (x := .str w) (m := 0) rfl (by walk_at "ex") rfl (by rw [List.length_map]; omega) ?_
          walk_at "nx"
          refine s_nil ⟨M ++ [w], by simp [rs, rsA], by simp [hM], fun t ht => ?_⟩
          rcases List.mem_append.mp ht with ht | ht
          · exact hMb t ht
          · rw [List.mem_singleton.mp ht]; exact ⟨hw, hwg⟩
      · rintro M ⟨hM, hMb⟩
        rw [List.length_map, List.length_range] at hM
        have hM : M.length = 8 := hM
        refine s_frz rfl ?_
        walk_at "nx"
        have i0 := iStrs M 0 0 (by omega) (by omega)
        have i1 := iStrs M 0 1 (by omega) (by omega)
        have b0 := hMb _ (getD_mem (d := []) (show (0 : Int).toNat < M.length by rw [hM]; decide))
        have b1 := hMb _ (getD_mem (d := []) (show (1 : Int).toNat < M.length by rw [hM]; decide))
        generalize M.getD (0 : Int).toNat [] = m0 at i0 b0
        generalize M.getD (1 : Int).toNat [] = m1 at i1 b1
        have s0 := iInts S 0 0 (by omega) (by omega)
        have sb := hSb _ (getD_mem (d := 0) (show (0 : Int).toNat < S.length by simp; omega))
        generalize S.getD (0 : Int).toNat 0 = sg0 at s0 sb
        have n1 : 0 ≤ num / 62 % 62 := Int.emod_nonneg _ (by omega)
        have n2 : num / 62 % 62 < 62 := Int.emod_lt_of_pos _ (by omega)
        have x0 := iStr sgs 0 sg0 sb.1 (show sg0 < (sgs.length : Int) from sb.2) (by decide)
        have x1 := iStr sgs 0 (num / 62 % 62) n1 (show num / 62 % 62 < (sgs.length : Int) from n2) (by decide)
        have a0 : good (sgs.getD sg0.toNat 0) = true := decide_eq_true (sgs_getD _ (by omega))
        have a1 : good (sgs.getD (num / 62 % 62).toNat 0) = true := decide_eq_true (sgs_getD _ (by omega))
        generalize sgs.getD sg0.toNat 0 = y0 at x0 a0
        generalize sgs.getD (num / 62 % 62).toNat 0 = y1 at x1 a1
        refine s_ret (d := .lst ((M ++ [m0 ++ [y0], m1 ++ [y1]]).map D.str)) (n := 1) (xPureF rfl (by
          simp -implicitDefEqProofs only [e_bin, e_idx, e_lst, e_var, e_cst, e_acons, e_anil, List.getElem?_cons_zero, List.getElem?_cons_succ, q_sl, R.bind_ok, i0, i1, s0, x0, CE.fresh, Nat.zero_sub]
          rw [opFdiv _ _ _ _ (by omega) (by omega), R.bind_ok, opMod _ _ _ _ (by omega), R.bind_ok, x1, R.bind_ok, opAddS _ _ _ _ (by simp only [List.length_cons, List.length_nil]; omega), opAddS _ _ _ _ (by simp only [List.length_cons, List.length_nil]; omega)]
          simp only [q_acons]
          rw [q_lst _ _ rfl, R.bind_ok, opAddL _ _ _ _ (by omega) (by omega) (by simp only [List.length_map, List.length_cons, List.length_nil]; omega)]
          simp)) ?_
        refine ⟨M ++ [m0 ++ [y0], m1 ++ [y1]], by simp [hM], fun t ht => ?_, by simp only [fin, rr, outs]⟩
        rcases List.mem_append.mp ht with ht | ht
        · have := hMb t ht
          unfold word
          rw [this.2, this.1]
          simp; omega
        · simp only [List.mem_cons, List.not_mem_nil, or_false] at ht
          rcases ht with rfl | rfl
          · unfold word
            rw [List.all_append, b0.2, List.length_append, b0.1]
            simp [a0]; omega
          · unfold word
            rw [List.all_append, b1.2, List.length_append, b1.1]
            simp [a1]; omega
  obtain ⟨r, hr, M, m1, m2, rfl⟩ := key
  exact ⟨M, m1, m2, hr⟩
theorem row_at {cs : List Code} {c fm k : Nat} (hc : cs[c]? = some (C_law_row fm)) (h2 : cs[fm]? = some C_law_mixed) (hk : 2 ≤ k) (n many : Int) (M : List Tx) (hM : M.length = 10) (h0 : 0 ≤ many) (hm : many ≤ 1000) :
    ∃ R : List Tx, R.length = many.toNat ∧ (∀ t ∈ R, t ∈ M) ∧ Fk cs k c [(.int n, 0), (.lst (M.map D.str), 0), (.int many, 0)] = .ok (.tup (R.map D.str)) 0 [] := by
  have hmx := fun n => mixed_at h2 (k := k - 1) (by omega) n
  rw [Fk_at (by omega) hc]
  have key : ∃ r, run (Fk cs (k - 1)) (C_law_row fm) [(.int n, 0), (.lst (M.map D.str), 0), (.int many, 0)] = r ∧ ∃ R : List Tx, R.length = many.toNat ∧ (∀ t ∈ R, t ∈ M) ∧ r = .ok (.tup (R.map D.str)) 0 [] := by
    refine ⟨_, rfl, ?_⟩
    refine run_of (P := fun r => ∃ R : List Tx, R.length = many.toNat ∧ (∀ t ∈ R, t ∈ M) ∧ r = .ok (.tup (R.map D.str)) 0 []) rfl rfl ?_
    simp only [GL.start, C_law_row, List.map_cons, List.map_nil, List.replicate, List.cons_append, List.nil_append, Nat.reduceSub]
    refine s_asg (by apply xPure0; walk_at "ev"; simp only [hmx]; walk_at "eb") ?_
    walk_at "nx"
    refine s_asg (by walk_at "ex") ?_
    walk_at "nx"
    refine s_for (α := Int × List Tx) (i_rng1 (by walk_at "eb") (by omega) (by omega)) (fun a => [some (.int n, 0), some (.lst (M.map D.str), 0), some (.int many, 0), some (.int a.1, 0), some (.lst (a.2.map D.str), 1), none]) (fun i a => a.2.length = i ∧ ∀ t ∈ a.2, t ∈ M) (mixed n, []) (by walk_at "rs") ⟨rfl, by simp⟩ ?_ ?_
    · rintro i x ⟨num, R⟩ hx ⟨hR, hRm⟩
      rw [List.getElem?_map] at hx
      obtain ⟨j, hj, rfl⟩ := Option.map_eq_some_iff.mp hx
      obtain ⟨hi, rfl⟩ := List.getElem?_eq_some_iff.mp hj
      rw [List.length_range] at hi
      refine ⟨_, setT_one _ _ _, ?_⟩
      walk_at "nx"
      dsimp only at hR hRm
      refine s_asg (by apply xPure0; walk_at "ev"; simp only [hmx]; walk_at "eb") ?_
      walk_at "nx"
      have w1 : 0 ≤ mixed num % 10 := Int.emod_nonneg _ (by omega)
      have w2 : mixed num % 10 < 10 := Int.emod_lt_of_pos _ (by omega)
      have ix := iStrs M 0 (mixed num % 10) w1 (by omega)
      have ixm := getD_mem (l := M) (i := (mixed num % 10).toNat) (d := []) (by omega)
      generalize M.getD (mixed num % 10).toNat [] = y at ix ixm
      refine s_appv (x := .str y) (m := 0) rfl (xPure0 (by simp -implicitDefEqProofs only [e_bin, e_idx, e_var, e_cst, List.getElem?_cons_zero, List.getElem?_cons_succ, q_sl, GL.R.bind_ok]; rw [opMod _ _ _ _ (by omega), GL.R.bind_ok, ix])) rfl (by rw [List.length_map]; omega) ?_
      walk_at "nx"
      refine s_nil ⟨(mixed num, R ++ [y]), by simp [rs, rsA], by simp [hR], fun t ht => ?_⟩
      rcases List.mem_append.mp ht with ht | ht
      · exact hRm t ht
      · rw [List.mem_singleton.mp ht]; exact ixm
    · rintro ⟨num, R⟩ ⟨hR, hRm⟩
      dsimp only at hR hRm ⊢
      rw [List.length_map, List.length_range] at hR
      refine s_frz rfl ?_
      walk_at "nx"
      refine s_ret (d := .tup (R.map D.str)) (n := 0) (by walk_at "ex") ?_
      exact ⟨R, hR, hRm, by simp only [fin, rr, outs]⟩
  obtain ⟨r, hr, R, m1, m2, rfl⟩ := key
  exact ⟨R, m1, m2, hr⟩
/-! ### things -/
inductive Th where
  | say (n : Int) (row : List Tx)
  | tell (n : Int) (scope : Tx) (phrase : List Tx) (bends : List (Tx × Tx)) (row : List Tx)
  | part (n : Int) (ks : List Th)
mutual
def Th.D : Th → D
  | .say n row => .tup [.str [115, 97, 121], .int n, .tup (row.map D.str)]
  | .tell n scope phrase bends row => .tup [.str [116, 101, 108, 108], .int n, .str scope, .tup (phrase.map D.str), .tup (bends.map fun p => .tup [.str p.1, .str p.2]), .tup (row.map D.str)]
  | .part n ks => .tup [.str [112, 97, 114, 116], .int n, .tup (Th.Ds ks)]
def Th.Ds : List Th → List D
  | [] => []
  | t :: ts => t.D :: Th.Ds ts
end
def Th.num : Th → Int
  | .say n _ => n
  | .tell n _ _ _ _ => n
  | .part n _ => n
theorem Th.Ds_map : ∀ ts : List Th, Th.Ds ts = ts.map Th.D
  | [] => rfl
  | t :: ts => by rw [Th.Ds, Th.Ds_map ts]; rfl
mutual
def Th.depth : Th → Nat
  | .part _ ks => Th.depths ks + 1
  | _ => 0
def Th.depths : List Th → Nat
  | [] => 0
  | t :: ts => max t.depth (Th.depths ts)
end
mutual
/-- how many things, itself among them -/
def Th.size : Th → Nat
  | .part _ ks => Th.sizes ks + 1
  | _ => 1
def Th.sizes : List Th → Nat
  | [] => 0
  | t :: ts => t.size + Th.sizes ts
end
/-- words of a menu -/
def okRow (M : List Tx) (R : List Tx) : Prop := 1 ≤ R.length ∧ R.length ≤ 200 ∧ ∀ t ∈ R, t ∈ M
def scopes : List Tx := [[97, 108, 108], [112, 97, 114, 116], [104, 101, 114, 101], [101, 108, 115, 101]]
/-- what is no part -/
def Th.leaf (M : List Tx) : Th → Prop
  | .say _ row => okRow M row
  | .tell _ s p b row => s ∈ scopes ∧ (p = [[68, 97, 121]] ∨ ∃ w ∈ M, p = [w, [68, 97, 121]]) ∧ (b = [] ∨ b = [([], [115])]) ∧ okRow M row
  | .part _ _ => False
theorem thing_at {cs : List Code} {c fr fm k : Nat} (hc : cs[c]? = some (C_law_thing fr fm)) (h1 : cs[fr]? = some (C_law_row fm)) (h2 : cs[fm]? = some C_law_mixed) (hk : 3 ≤ k) (x n many : Int) (M : List Tx) (hM : M.length = 10) (h0 : 1 ≤ many) (hm : many ≤ 200) :
    ∃ t : Th, t.leaf M ∧ t.num = n ∧ Fk cs k c [(.int x, 0), (.int n, 0), (.lst (M.map D.str), 0), (.int many, 0)] = .ok t.D 0 [] := by
  rw [Fk_at (by omega) hc]
  by_cases hx : x % 9 < 5
  · obtain ⟨R, r1, r2, r3⟩ := row_at h1 h2 (k := k - 1) (by omega) (x / 9) many M hM (by omega) (by omega)
    refine ⟨.say n R, ⟨by omega, by omega, r2⟩, rfl, ?_⟩
    refine run_of (P := fun r => r = _) rfl rfl ?_
    simp only [GL.start, C_law_thing, List.map_cons, List.map_nil, List.replicate, List.cons_append, List.nil_append, Nat.reduceSub]
    refine s_if (by walk_at "eb") (fun _ => ?_) (fun h => absurd hx (of_decide_eq_false h))
    walk_at "nx"
    refine s_ret (d := (Th.say n R).D) (n := 0) (by apply xPure0; walk_at "ev"; simp only [r3]; walk_at "ev"; rfl) ?_
    simp only [fin, rr, outs]
  · have hmx := mixed_at h2 (k := k - 1) (by omega) (x / 36)
    have mb := mixed_b (x / 36)
    generalize mixed (x / 36) = f at hmx mb
    obtain ⟨R, r1, r2, r3⟩ := row_at h1 h2 (k := k - 1) (by omega) f many M hM (by omega) (by omega)
    have a1 : 0 ≤ x / 9 % 4 := Int.emod_nonneg _ (by omega)
    have a2 : x / 9 % 4 < 4 := Int.emod_lt_of_pos _ (by omega)
    have b1 : 0 ≤ f % 2 := Int.emod_nonneg _ (by omega)
    have b2 : f % 2 < 2 := Int.emod_lt_of_pos _ (by omega)
    have d1 : 0 ≤ f / 2 % 8 := Int.emod_nonneg _ (by omega)
    have d2 : f / 2 % 8 < 8 := Int.emod_lt_of_pos _ (by omega)
    have e1 : 0 ≤ f / 16 % 2 := Int.emod_nonneg _ (by omega)
    have e2 : f / 16 % 2 < 2 := Int.emod_lt_of_pos _ (by omega)
    have sc := iStrs scopes 1 (x / 9 % 4) a1 a2
    have scm := getD_mem (l := scopes) (i := (x / 9 % 4).toNat) (d := []) (by show _ < 4; omega)
    generalize scopes.getD (x / 9 % 4).toNat [] = s at sc scm
    have wd := iStrs M 0 (f / 2 % 8) d1 (by omega)
    have wdm := getD_mem (l := M) (i := (f / 2 % 8).toNat) (d := []) (by omega)
    generalize M.getD (f / 2 % 8).toNat [] = w at wd wdm
    have bd : ∃ b : List (Tx × Tx), (b = [] ∨ b = [([], [115])]) ∧ opIdx (.lst [.tup [], .tup [.tup [.str [], .str [115]]]]) 1 (.int (f % 2)) = .ok (.tup (b.map fun p => .tup [.str p.1, .str p.2])) 0 := by
      rcases (show f % 2 = 0 ∨ f % 2 = 1 by omega) with h | h
      · exact ⟨[], .inl rfl, by rw [h]; rfl⟩
      · exact ⟨[([], [115])], .inr rfl, by rw [h]; rfl⟩
    obtain ⟨b, hb1, hb2⟩ := bd
    have pd : ∃ p : List Tx, (p = [[68, 97, 121]] ∨ ∃ w ∈ M, p = [w, [68, 97, 121]]) ∧ opSl (.tup [.str w, .str [68, 97, 121]]) 0 (some (f / 16 % 2)) none = .ok (.tup (p.map D.str)) 0 := by
      rcases (show f / 16 % 2 = 0 ∨ f / 16 % 2 = 1 by omega) with h | h
      · exact ⟨[w, [68, 97, 121]], .inr ⟨w, wdm, rfl⟩, by rw [h]; rfl⟩
      · exact ⟨[[68, 97, 121]], .inl rfl, by rw [h]; rfl⟩
    obtain ⟨p, hp1, hp2⟩ := pd
    refine ⟨.tell n s p b R, ⟨scm, hp1, hb1, ⟨by omega, by omega, r2⟩⟩, rfl, ?_⟩
    refine run_of (P := fun r => r = _) rfl rfl ?_
    simp only [GL.start, C_law_thing, List.map_cons, List.map_nil, List.replicate, List.cons_append, List.nil_append, Nat.reduceSub]
    refine s_if (by walk_at "eb") (fun h => absurd (of_decide_eq_true h) hx) (fun _ => ?_)
    walk_at "nx"
    refine s_asg (d := .str s) (n := 0) (xPure0 (by
      simp -implicitDefEqProofs only [e_idx, e_lst, e_bin, e_var, e_cst, e_acons, e_anil, List.getElem?_cons_zero, List.getElem?_cons_succ, q_sl, GL.R.bind_ok, q_acons, CE.fresh]
      rw [q_lst _ _ rfl, GL.R.bind_ok, opFdiv _ _ _ _ (by omega) (by omega), GL.R.bind_ok, opMod _ _ _ _ (by omega), GL.R.bind_ok]
      exact sc)) ?_
    walk_at "nx"
    refine s_asg (d := .int f) (n := 0) (by apply xPure0; walk_at "ev"; simp only [hmx]; walk_at "ev") ?_
    walk_at "nx"
    refine s_asg (d := .tup (b.map fun p => .tup [.str p.1, .str p.2])) (n := 0) (xPure0 (by
      simp -implicitDefEqProofs only [e_idx, e_lst, e_tup, e_bin, e_var, e_cst, e_acons, e_anil, List.getElem?_cons_zero, List.getElem?_cons_succ, q_sl, GL.R.bind_ok, q_acons, CE.fresh]
      rw [q_tup _ rfl, q_tup _ rfl]
      simp -implicitDefEqProofs only [q_acons]
      rw [q_tup _ rfl]
      simp -implicitDefEqProofs only [q_acons]
      rw [q_lst _ _ rfl, GL.R.bind_ok, opMod _ _ _ _ (by omega), GL.R.bind_ok]
      exact hb2)) ?_
    walk_at "nx"
    refine s_asg (d := .tup (p.map D.str)) (n := 0) (xPure0 (by
      simp -implicitDefEqProofs only [e_sll, e_idx, e_tup, e_bin, e_var, e_cst, e_acons, e_anil, List.getElem?_cons_zero, List.getElem?_cons_succ, q_sl, GL.R.bind_ok, CE.fresh]
      rw [opFdiv _ _ _ _ (by omega) (by omega), GL.R.bind_ok, opMod _ _ _ _ (by omega), GL.R.bind_ok, wd]
      simp -implicitDefEqProofs only [q_acons]
      rw [q_tup _ rfl, GL.R.bind_ok, opFdiv _ _ _ _ (by omega) (by omega), GL.R.bind_ok, opMod _ _ _ _ (by omega), GL.R.bind_ok, q_sll]
      exact hp2)) ?_
    walk_at "nx"
    refine s_ret (d := (Th.tell n s p b R).D) (n := 0) (by apply xPure0; walk_at "ev"; simp only [r3]; walk_at "ev"; rfl) ?_
    simp only [fin, rr, outs]
def num (ns : List Int) (m : Int) : Int :=
  (if cell ns 1 / 42 % 2 = 1 then 1 + cell ns 2 % 100000000000000000000000000000000000000000000000000000000000 else 1 + cell ns 2 % 9) + m * (1 + cell ns 1 % 42) % 43 * (1 + cell ns 1 / 84 % 1000)
theorem opPow59 (n m : Nat) : opBin .pow (.int 10) n (.int 59) m = .ok (.int 100000000000000000000000000000000000000000000000000000000000) 0 := by
  show (if (0 : Int) ≤ 59 ∧ (59 : Int) ≤ 1000000 ∧ (10 : Int).natAbs < 18446744073709551616 then R.ok (.int (10 ^ (59 : Int).toNat)) 0 else .bad) = _
  rw [if_pos (by decide)]
  have : (10 : Int) ^ (59 : Int).toNat = 100000000000000000000000000000000000000000000000000000000000 := by decide +kernel
  rw [this]
theorem number_at {cs : List Code} {c fc k : Nat} (hc : cs[c]? = some (C_law_number fc)) (h1 : cs[fc]? = some cellC) (hk : 2 ≤ k) (ns : List Int) (m : Int) : Fk cs k c [(.ro true (ns.map D.int), 0), (.int m, 0)] = .ok (.int (num ns m)) 0 [] := by
  have c1 := cell_at h1 (k := k - 1) (by omega) ns 1 (by omega) (by omega)
  have c2 := cell_at h1 (k := k - 1) (by omega) ns 2 (by omega) (by omega)
  rw [Fk_at (by omega) hc]
  refine run_of (P := fun r => r = _) rfl rfl ?_
  simp only [GL.start, C_law_number, List.map_cons, List.map_nil, List.replicate, List.cons_append, List.nil_append, Nat.reduceSub]
  have a1 : 0 ≤ cell ns 1 % 42 := Int.emod_nonneg _ (by omega)
  have a2 : cell ns 1 % 42 < 42 := Int.emod_lt_of_pos _ (by omega)
  have a3 : 0 ≤ cell ns 1 / 84 % 1000 := Int.emod_nonneg _ (by omega)
  have a4 : cell ns 1 / 84 % 1000 < 1000 := Int.emod_lt_of_pos _ (by omega)
  refine s_asg (by apply xPure0; walk_at "ev"; simp only [c1]; walk_at "eb") ?_
  walk_at "nx"
  refine s_asg (by apply xPure0; walk_at "ev"; simp only [c2]; walk_at "eb") ?_
  walk_at "nx"
  have fin_ : ∀ b : Int, Wp (Fk cs (k - 1)) (fun r => fin [] r = .ok (.int (b + m * (1 + cell ns 1 % 42) % 43 * (1 + cell ns 1 / 84 % 1000))) 0 []) (match (C_law_number fc).body with | .cons _ (.cons _ (.cons _ r)) => r | _ => .nil) [some (.ro true (ns.map D.int), 0), some (.int m, 0), some (.int (cell ns 1), 0), some (.int b, 0)] := fun b => by
    dsimp only [C_law_number]
    refine s_ret (by walk_at "ex") ?_
    simp only [fin, rr, outs]
  refine s_if (by walk_at "eb") (fun h => ?_) (fun h => ?_)
  · walk_at "nx"
    refine s_asg (d := .int (1 + cell ns 2 % 100000000000000000000000000000000000000000000000000000000000)) (n := 0) (by apply xPure0; walk_at "ev"; simp only [c2, opPow59]; walk_at "ev") ?_
    walk_at "nx"
    rw [num, if_pos (of_decide_eq_true h)]
    exact fin_ _
  · walk_at "nx"
    rw [num, if_neg (of_decide_eq_false h)]
    exact fin_ _
/-! ### changing -/
theorem x_pop {F : Fn} {Γ : Env} {i n : Nat} {xs : List D} {x : D} (h : Γ[i]? = some (some (.lst (xs ++ [x]), n + 1))) : evX F (.pop (.var i)) Γ = .ok x n (Γ.set i (some (.lst xs, n + 1))) := by
  have e1 : (xs ++ [x])[(xs ++ [x]).length - 1]? = some x := by simp
  simp only [evX, path, getE, h, getP, lastD, e1, Option.map_some, modE, modS, modP, dropD, List.dropLast_concat]
theorem x_tuple {F : Fn} {Γ Γ' : Env} {x : CX} {xs : List D} {n : Nat} (h : evX F x Γ = .ok (.lst xs) n Γ') (hn : n ≤ 1) : evX F (.tuple x) Γ = .ok (.tup xs) 0 Γ' := by
  simp only [evX, h, if_pos hn]
theorem x_tup3 {F : Fn} {Γ Γ1 Γ2 Γ3 : Env} {a b c : CX} {x y z : D} {n m l : Nat} (h1 : evX F a Γ = .ok x n Γ1) (h2 : evX F b Γ1 = .ok y m Γ2) (h3 : evX F c Γ2 = .ok z l Γ3) : evX F (.tup3 a b c) Γ = .ok (.tup [x, y, z]) 0 Γ3 := by
  simp only [evX, h1, h2, h3]
def innerD (inner : List (List Th)) : D := .lst (inner.map fun ts => .lst (Th.Ds ts))
theorem Th.Ds_app (a b : List Th) : Th.Ds (a ++ b) = Th.Ds a ++ Th.Ds b := by simp [Th.Ds_map]
theorem ixN_last {α : Type} (xs : List α) (x : α) : ixN (xs ++ [x]).length (-1) = some xs.length := by
  unfold ixN
  rw [if_neg (by omega), if_pos (by simp only [List.length_append, List.length_singleton]; omega)]
  congr 1
  simp only [List.length_append, List.length_singleton]; omega
/-- one thing more in the last of a slot's lists -/
theorem s_appLast {F : Fn} {Γ : Env} {Q : SR → Prop} {ss : CSs} {i : Nat} {e : CE} {L : List D} {xs : List D} {x : D} (h : Γ[i]? = some (some (.lst (L ++ [.lst xs]), 2))) (he : evX F (.pure e) Γ = .ok x 0 Γ) (hl : xs.length < 16777216)
    (k : Wp F Q ss (Γ.set i (some (.lst (L ++ [.lst (xs ++ [x])]), 2)))) : Wp F Q (.cons (.app (.idx (.var i) (.neg (.cst (.int 1)))) (.pure e)) ss) Γ := by
  have hp : path F Γ (.idx (.var i) (.neg (.cst (.int 1)))) = some (i, [.int (-1)]) := by
    simp only [path, ev]; rfl
  refine s_app (d := x) (n := 0) (xs := xs) (m := 0) ?_ he (by simp [CX.slots]) ?_ k
  · rw [hp]
    simp only [getE, h, getP, atI_neg1, Option.bind_some]
  · rw [hp]
    have e1 : (L ++ [D.lst xs])[L.length]? = some (.lst xs) := by simp
    have e2 : (L ++ [D.lst xs]).set L.length (.lst (xs ++ [x])) = L ++ [.lst (xs ++ [x])] := by
      rw [List.set_append_right _ _ (by omega)]; simp
    simp only [modE, modS, h, modP, ixN_last, e1, appD, own, true_or, if_true, LINE, if_pos hl, Option.map_some, e2]
theorem ended_at {cs : List Code} {c k : Nat} (hc : cs[c]? = some C_law_ended) (hk : 1 ≤ k) (A : List Int) (n : Int) (L : List (List Th)) (x y : List Th) (hx : x.length < 16777216) :
    Fk cs k c [(.lst ((A ++ [n]).map D.int), 1), (innerD (L ++ [x, y]), 2)] = .ok .non 0 [(.lst (A.map D.int), 1), (innerD (L ++ [x ++ [.part n y]]), 2)] := by
  rw [Fk_at hk hc]
  refine run_of (P := fun r => r = _) rfl rfl ?_
  simp only [GL.start, C_law_ended, List.map_cons, List.map_nil, List.replicate, List.cons_append, List.nil_append, Nat.reduceSub]
  refine s_asg (d := .tup [.str [112, 97, 114, 116], .int n, .tup (Th.Ds y)]) (n := 0) (Γ' := [some (.lst (A.map D.int), 1), some (innerD (L ++ [x]), 2), none]) (x_tup3 (x := .str [112, 97, 114, 116]) (n := 0) (y := .int n) (m := 0) (xPure0 rfl) (x_pop (xs := A.map D.int) (by simp)) (x_tuple (xs := Th.Ds y) (n := 1) (x_pop (xs := (L ++ [x]).map fun ts => .lst (Th.Ds ts)) (by simp [innerD])) (by omega))) ?_
  walk_at "nx"
  refine s_appLast (L := L.map fun ts => .lst (Th.Ds ts)) (xs := Th.Ds x) (x := (Th.part n y).D) (by simp [innerD]) (xPure0 rfl) (by rw [Th.Ds_map, List.length_map]; exact hx) ?_
  walk_at "nx"
  refine s_nil ?_
  have e : (L.map fun ts => D.lst (Th.Ds ts)) ++ [D.lst (Th.Ds x ++ [(Th.part n y).D])] = (L ++ [x ++ [Th.part n y]]).map fun ts => D.lst (Th.Ds ts) := by
    simp [Th.Ds_app, Th.Ds]
  rw [e]
  rfl
mutual
def Th.nums : Th → List Int
  | .say n _ => [n]
  | .tell n _ _ _ _ => [n]
  | .part n ks => n :: Th.numss ks
def Th.numss : List Th → List Int
  | [] => []
  | t :: ts => t.nums ++ Th.numss ts
end
theorem Th.numss_app : ∀ a b : List Th, Th.numss (a ++ b) = Th.numss a ++ Th.numss b
  | [], _ => rfl
  | t :: ts, b => by rw [List.cons_append, Th.numss, Th.numss_app ts b, Th.numss, List.append_assoc]
theorem Th.sizes_app : ∀ a b : List Th, Th.sizes (a ++ b) = Th.sizes a + Th.sizes b
  | [], _ => by simp [Th.sizes]
  | t :: ts, b => by rw [List.cons_append, Th.sizes, Th.sizes_app ts b, Th.sizes]; omega
theorem Th.depths_app : ∀ a b : List Th, Th.depths (a ++ b) = max (Th.depths a) (Th.depths b)
  | [], _ => by simp [Th.depths]
  | t :: ts, b => by rw [List.cons_append, Th.depths, Th.depths_app ts b, Th.depths]; omega
mutual
/-- all in it that is no part is of the menu -/
def Th.okAll (M : List Tx) : Th → Prop
  | .part _ ks => Th.okAlls M ks
  | .say n row => Th.leaf M (.say n row)
  | .tell n s p b row => Th.leaf M (.tell n s p b row)
def Th.okAlls (M : List Tx) : List Th → Prop
  | [] => True
  | t :: ts => t.okAll M ∧ Th.okAlls M ts
end
theorem Th.okAlls_app (M : List Tx) : ∀ a b : List Th, Th.okAlls M (a ++ b) ↔ Th.okAlls M a ∧ Th.okAlls M b
  | [], _ => by simp [Th.okAlls]
  | t :: ts, b => by rw [List.cons_append, Th.okAlls, Th.okAlls_app M ts b, Th.okAlls, and_assoc]
theorem Th.leaf_ok {M : List Tx} {t : Th} (h : t.leaf M) : t.okAll M ∧ t.depth = 0 ∧ t.size = 1 ∧ t.nums = [t.num] := by
  cases t with
  | say n r => exact ⟨h, rfl, rfl, rfl⟩
  | tell n s p b r => exact ⟨h, rfl, rfl, rfl⟩
  | part n ks => exact h.elim
/-- the parts that are begun, the outermost first -/
structure DocSt (ns : List Int) (M : List Tx) (nums : List Int) (inner : List (List Th)) (many : Nat) : Prop where
  len : nums.length = inner.length
  few : inner.length ≤ 9
  ne : 1 ≤ inner.length
  zero : nums.head? = some 0
  ok : ∀ ts ∈ inner, Th.okAlls M ts
  dep : ∀ (j : Nat) (ts : List Th), inner[j]? = some ts → Th.depths ts + j ≤ 8
  cnt : (inner.map Th.sizes).sum + inner.length = many + 1
  perm : ((inner.map Th.numss).flatten ++ nums.tail).Perm ((List.range many).map fun m : Nat => num ns (m : Int))
theorem DocSt.begin {ns : List Int} {M : List Tx} {nums : List Int} {inner : List (List Th)} {many : Nat} (s : DocSt ns M nums inner many) (h : inner.length ≤ 8) : DocSt ns M (nums ++ [num ns (many : Int)]) (inner ++ [[]]) (many + 1) where
  len := by simp [s.len]
  few := by simp; omega
  ne := by simp
  zero := by have := s.zero; cases h : nums <;> simp_all
  ok := fun ts h => by
    rcases List.mem_append.mp h with h | h
    · exact s.ok ts h
    · rw [List.mem_singleton.mp h]; trivial
  dep := fun j ts h => by
    by_cases hj : j < inner.length
    · rw [List.getElem?_append_left hj] at h; exact s.dep j ts h
    · have : j = inner.length := by
        have := (List.getElem?_eq_some_iff.mp h).1
        simp at this; omega
      subst this
      simp at h; subst h; simp [Th.depths]; omega
  cnt := by have := s.cnt; simp [Th.sizes] at this ⊢; omega
  perm := by
    have hne : nums ≠ [] := fun z => by have := s.zero; rw [z] at this; cases this
    rw [List.map_append, List.flatten_append, List.range_succ, List.map_append]
    have e : ([[]].map Th.numss).flatten = ([] : List Int) := rfl
    rw [e, List.append_nil, List.tail_append_of_ne_nil hne, ← List.append_assoc]
    exact List.Perm.append s.perm (List.Perm.refl _)
theorem DocSt.add {ns : List Int} {M : List Tx} {nums : List Int} {L : List (List Th)} {x : List Th} {many : Nat} (s : DocSt ns M nums (L ++ [x]) many) {t : Th} (ht : t.leaf M) (hn : t.num = num ns (many : Int)) : DocSt ns M nums (L ++ [x ++ [t]]) (many + 1) where
  len := by have := s.len; simp at this ⊢; exact this
  few := by have := s.few; simp at this ⊢; exact this
  ne := by simp
  zero := s.zero
  ok := fun ts h => by
    rcases List.mem_append.mp h with h | h
    · exact s.ok ts (List.mem_append_left _ h)
    · rw [List.mem_singleton.mp h, Th.okAlls_app]
      exact ⟨s.ok x (by simp), (Th.leaf_ok ht).1, trivial⟩
  dep := fun j ts h => by
    by_cases hj : j < L.length
    · rw [List.getElem?_append_left hj] at h
      exact s.dep j ts (by rw [List.getElem?_append_left hj]; exact h)
    · have : j = L.length := by
        have := (List.getElem?_eq_some_iff.mp h).1
        simp at this; omega
      subst this
      simp at h; subst h
      have := s.dep L.length x (by simp)
      rw [Th.depths_app]
      simp only [Th.depths, (Th.leaf_ok ht).2.1]; omega
  cnt := by
    have := s.cnt
    simp [Th.sizes_app, Th.sizes, (Th.leaf_ok ht).2.2.1] at this ⊢; omega
  perm := by
    have e : ((List.range (many + 1)).map fun m : Nat => num ns (m : Int)) = ((List.range many).map fun m : Nat => num ns (m : Int)) ++ [num ns (many : Int)] := by rw [List.range_succ, List.map_append]; rfl
    rw [e]
    refine List.Perm.trans ?_ (List.Perm.append s.perm (List.Perm.refl _))
    rw [List.perm_iff_count]
    intro a
    simp only [List.map_append, List.flatten_append, List.map_cons, List.map_nil, List.flatten_cons, List.flatten_nil, Th.numss_app, Th.numss, (Th.leaf_ok ht).2.2.2, hn, List.append_nil, List.count_append]
    omega
theorem DocSt.ended {ns : List Int} {M : List Tx} {A : List Int} {n : Int} {L : List (List Th)} {x y : List Th} {many : Nat} (s : DocSt ns M (A ++ [n]) (L ++ [x, y]) many) : DocSt ns M A (L ++ [x ++ [.part n y]]) many where
  len := by have := s.len; simp at this ⊢; omega
  few := by have := s.few; simp at this ⊢; omega
  ne := by simp
  zero := by
    have := s.zero
    have hl := s.len
    cases A with
    | nil => simp at hl
    | cons a r => simpa using this
  ok := fun ts h => by
    rcases List.mem_append.mp h with h | h
    · exact s.ok ts (List.mem_append_left _ h)
    · rw [List.mem_singleton.mp h, Th.okAlls_app]
      exact ⟨s.ok x (by simp), s.ok y (by simp), trivial⟩
  dep := fun j ts h => by
    by_cases hj : j < L.length
    · rw [List.getElem?_append_left hj] at h
      exact s.dep j ts (by rw [List.getElem?_append_left hj]; exact h)
    · have : j = L.length := by
        have := (List.getElem?_eq_some_iff.mp h).1
        simp at this; omega
      subst this
      simp at h; subst h
      have h1 := s.dep L.length x (by simp)
      have h2 := s.dep (L.length + 1) y (by rw [List.getElem?_append_right (by omega)]; simp)
      rw [Th.depths_app]
      simp only [Th.depths, Th.depth]; omega
  cnt := by
    have := s.cnt
    simp [Th.sizes_app, Th.sizes, Th.size] at this ⊢; omega
  perm := by
    refine List.Perm.trans ?_ s.perm
    have hA : A ≠ [] := fun z => by have := s.len; rw [z] at this; simp at this
    rw [List.tail_append_of_ne_nil hA, List.perm_iff_count]
    intro a
    simp only [List.map_append, List.flatten_append, List.map_cons, List.map_nil, List.flatten_cons, List.flatten_nil, Th.numss_app, Th.numss, Th.nums, List.append_nil, List.count_append, List.count_cons, List.count_nil]
    omega
theorem last2 {α : Type} : ∀ {l : List α}, 2 ≤ l.length → ∃ L x y, l = L ++ [x, y]
  | [], h => by simp at h
  | [_], h => by simp at h
  | [a, b], _ => ⟨[], a, b, rfl⟩
  | a :: b :: c :: r, _ => by
    obtain ⟨L, x, y, e⟩ := last2 (l := b :: c :: r) (by simp)
    exact ⟨a :: L, x, y, by rw [e]; rfl⟩
theorem last1 {α : Type} : ∀ {l : List α}, 1 ≤ l.length → ∃ L x, l = L ++ [x]
  | [], h => by simp at h
  | [a], _ => ⟨[], a, rfl⟩
  | a :: b :: r, _ => by
    obtain ⟨L, x, e⟩ := last1 (l := b :: r) (by simp)
    exact ⟨a :: L, x, by rw [e]; rfl⟩
theorem imms_strs : ∀ R : List Tx, D.imms (R.map D.str) = true
  | [] => rfl
  | t :: r => by simp only [List.map_cons, D.imms, D.imm, imms_strs r, Bool.and_self]
theorem leaf_imm {M : List Tx} {t : Th} (h : t.leaf M) : t.D.imm = true := by
  cases t with
  | say n r => simp only [Th.D, D.imm, D.imms, imms_strs, Bool.and_self]
  | tell n s p b r =>
    have hb : D.imms (b.map fun p => .tup [.str p.1, .str p.2]) = true := by
      rcases h.2.2.1 with rfl | rfl <;> rfl
    simp only [Th.D, D.imm, D.imms, imms_strs, hb, Bool.and_self]
  | part n ks => exact h.elim
theorem s_exprCio {F : Fn} {Γ Γ' : Env} {Q : SR → Prop} {ss : CSs} {f : Nat} {s : String} {is : List (Nat × Bool)} {vs os : List (D × Nat)} {d : D} {n : Nat} (h1 : argsIO Γ is = some vs) (h2 : F f vs = .ok d n os) (h3 : putsIO (wipeG Γ (trues is)) is os = some Γ') (k : Wp F Q ss Γ') : Wp F Q (.cons (.expr (.cio f s is)) ss) Γ := by
  refine s_expr (d := d) (n := n) (Γ' := Γ') ?_ k
  simp only [evX, h1, h2, h3]
theorem Th.len_sizes : ∀ ts : List Th, ts.length ≤ Th.sizes ts
  | [] => Nat.le_refl _
  | t :: r => by
    have : 1 ≤ t.size := by cases t <;> simp [Th.size]
    have := Th.len_sizes r
    simp only [List.length_cons, Th.sizes]; omega
theorem mem_sum : ∀ {l : List Nat} {a : Nat}, a ∈ l → a ≤ l.sum
  | b :: r, a, h => by
    rw [List.sum_cons]
    rcases List.mem_cons.mp h with rfl | h
    · omega
    · have := mem_sum h; omega
theorem DocSt.len_le {ns : List Int} {M : List Tx} {nums : List Int} {inner : List (List Th)} {many : Nat} (s : DocSt ns M nums inner many) {ts : List Th} (h : ts ∈ inner) : ts.length ≤ many := by
  have h1 := mem_sum (List.mem_map.mpr ⟨ts, h, rfl⟩ : Th.sizes ts ∈ inner.map Th.sizes)
  have h2 := Th.len_sizes ts
  have h3 := s.cnt
  have h4 := s.ne
  omega
theorem document_at {cs : List Code} {c fm fc fe fn ft fr fx k : Nat} (hc : cs[c]? = some (C_law_document fm fc fe fn ft)) (h1 : cs[fm]? = some (C_law_menu fc fx)) (h2 : cs[fc]? = some cellC) (h3 : cs[fe]? = some C_law_ended) (h4 : cs[fn]? = some (C_law_number fc)) (h5 : cs[ft]? = some (C_law_thing fr fx)) (h6 : cs[fr]? = some (C_law_row fx)) (h7 : cs[fx]? = some C_law_mixed)
    (hk : 4 ≤ k) (ns : List Int) (hns : ns.length ≤ 63) (most : Int) (m0 : 0 ≤ most) (m1 : most ≤ 1000) :
    ∃ (M : List Tx) (ks : List Th) (many : Nat), M.length = 10 ∧ (∀ t ∈ M, word t = true) ∧ DocSt ns M [0] [ks] many ∧ 1 ≤ many ∧ many ≤ 59 ∧ (many : Int) ≤ max 6 most ∧ Fk cs k c [(.ro true (ns.map D.int), 0), (.int most, 0)] = .ok (Th.part 0 ks).D 0 [] := by
  obtain ⟨M, M1, M2, hM⟩ := menu_at h1 h2 h7 (k := k - 1) (by omega) ns
  have c3 := cell_at h2 (k := k - 1) (by omega) ns 3 (by omega) (by omega)
  rw [Fk_at (by omega) hc]
  have key : ∃ r, run (Fk cs (k - 1)) (C_law_document fm fc fe fn ft) [(.ro true (ns.map D.int), 0), (.int most, 0)] = r ∧ ∃ (ks : List Th) (many : Nat), DocSt ns M [0] [ks] many ∧ 1 ≤ many ∧ many ≤ 59 ∧ (many : Int) ≤ max 6 most ∧ r = .ok (Th.part 0 ks).D 0 [] := by
    refine ⟨_, rfl, ?_⟩
    refine run_of (P := fun r => ∃ (ks : List Th) (many : Nat), DocSt ns M [0] [ks] many ∧ 1 ≤ many ∧ many ≤ 59 ∧ (many : Int) ≤ max 6 most ∧ r = .ok (Th.part 0 ks).D 0 []) rfl rfl ?_
    simp only [GL.start, C_law_document, List.map_cons, List.map_nil, List.replicate, List.cons_append, List.nil_append, Nat.reduceSub]
    refine s_asg (d := .lst (M.map D.str)) (n := 1) (xPureF rfl (by walk_at "ev"; simp only [hM]; walk_at "ev")) ?_
    walk_at "nx"
    have low : ∃ low : Int, 3 ≤ low ∧ low ≤ 5 ∧ ev (Fk cs (k - 1)) (.bin .sub (.cst (.int 5)) (.bin .mul (.cst (.int 2)) (.blt .int (.cons (.cmp .eq (.bin .mod (.call fc "_law_cell" (.cons (.var 0) (.cons (.cst (.int 3)) .nil))) (.cst (.int 8))) (.cst (.int 1))) .nil)))) [some (.ro true (ns.map D.int), 0), some (.int most, 0), some (.lst (M.map D.str), 1), none, none, none, none, none, none, none] = .ok (.int low) 0 := by
      refine ⟨5 - 2 * (if decide (cell ns 3 % 8 = 1) = true then 1 else 0), by split <;> omega, by split <;> omega, ?_⟩
      walk_at "ev"
      simp only [c3]
      walk_at "ev"
    obtain ⟨low, l1, l2, hlow⟩ := low
    refine s_asg (xPure0 hlow) ?_
    walk_at "nx"
    refine s_asg (d := .lst [.int 0]) (n := 1) (xPureF rfl (by walk_at "ev")) ?_
    walk_at "nx"
    refine s_asg (d := .lst [.lst []]) (n := 2) (xPureF rfl (by
      simp -implicitDefEqProofs only [e_lst, e_acons, e_anil, CE.fresh]
      rw [q_lst _ _ rfl, q_acons, q_lst _ _ rfl]; rfl)) ?_
    walk_at "nx"
    refine s_asg (by walk_at "ex") ?_
    walk_at "nx"
    have hN : ∃ N : Nat, N = (max 10 (min (4 + most) (ns.length : Int)) - 4).toNat := ⟨_, rfl⟩
    obtain ⟨N, hN⟩ := hN
    refine s_for (α := List Int × List (List Th) × Nat) (xs := (List.range N).map fun k : Nat => .int (4 + (k : Int))) (by rw [hN]; exact i_rng2 (n := 0) (m := 0) (by walk_at "ev") (by walk_at "ev") (by omega) (by omega) (by omega) (by omega))
      (fun a => [some (.ro true (ns.map D.int), 0), some (.int most, 0), some (.lst (M.map D.str), 1), some (.int low, 0), some (.lst (a.1.map D.int), 1), some (innerD a.2.1, 2), some (.int (a.2.2 : Int), 0), none, none, none])
      (fun i a => DocSt ns M a.1 a.2.1 a.2.2 ∧ a.2.2 ≤ i ∧ (0 < i → 1 ≤ a.2.2) ∧ (i = 0 → a.1.length = 1)) ([0], [[]], 0) (by walk_at "rs") ⟨⟨rfl, by decide, by decide, rfl, fun ts h => by rw [List.mem_singleton.mp h]; trivial, fun j ts h => by
        cases j with
        | zero => simp at h; subst h; simp [Th.depths]
        | succ j => simp at h, by simp [Th.sizes], by simp [Th.numss]⟩, Nat.le_refl _, fun h => absurd h (by omega), fun _ => rfl⟩ ?_ ?_
    · rintro i x ⟨nums, inner, many⟩ hx ⟨st, hmi, hm1, hz⟩
      rw [List.getElem?_map] at hx
      obtain ⟨j, hj, rfl⟩ := Option.map_eq_some_iff.mp hx
      obtain ⟨hi, rfl⟩ := List.getElem?_eq_some_iff.mp hj
      rw [List.length_range] at hi
      rw [List.getElem_range]
      dsimp only at st hmi hm1 hz ⊢
      have hiN : i < 59 := by omega
      have ci := cell_at h2 (k := k - 1) (by omega) ns (4 + (i : Int)) (by omega) (by omega)
      generalize cell ns (4 + (i : Int)) = ce at ci
      have hlen := st.len
      have hfew := st.few
      have hne := st.ne
      refine ⟨_, setT_one _ _ _, ?_⟩
      walk_at "nx"
      refine s_asg (d := .int ce) (n := 0) (by apply xPure0; walk_at "ev"; simp only [ci]; walk_at "ev") ?_
      walk_at "nx"
      refine s_if (by walk_at "eb") (fun hb => ?_) (fun _ => ?_)
      · walk_at "nx"
        rw [Bool.and_eq_true] at hb
        have hl2 : (1 : Int) < (nums.length : Int) := by have := of_decide_eq_true hb.2; simpa using this
        obtain ⟨L, x, y, rfl⟩ := last2 (l := inner) (by omega)
        obtain ⟨A, n, rfl⟩ := last1 (l := nums) (by omega)
        have hxl : x.length < 16777216 := by
          have := st.len_le (ts := x) (by simp)
          omega
        have he := ended_at h3 (k := k - 1) (by omega) A n L x y hxl
        refine s_exprCio (vs := [(.lst ((A ++ [n]).map D.int), 1), (innerD (L ++ [x, y]), 2)]) (os := [(.lst (A.map D.int), 1), (innerD (L ++ [x ++ [.part n y]]), 2)]) (Γ' := [some (.ro true (ns.map D.int), 0), some (.int most, 0), some (.lst (M.map D.str), 1), some (.int low, 0), some (.lst (A.map D.int), 1), some (innerD (L ++ [x ++ [.part n y]]), 2), some (.int (many : Int), 0), some (.int (4 + (i : Int)), 0), some (.int ce, 0), none]) rfl he rfl ?_
        refine s_nil ⟨(A, L ++ [x ++ [.part n y]], many), rfl, st.ended, Nat.le_succ_of_le hmi, fun _ => ?_, fun h => by omega⟩
        by_cases h0 : 0 < i
        · exact hm1 h0
        · have := hz (by omega)
          rw [this] at hl2; omega
      · walk_at "nx"
        refine s_if (by walk_at "eb") (fun hb => ?_) (fun _ => ?_)
        · walk_at "nx"
          rw [Bool.and_eq_true] at hb
          have hl8 : (nums.length : Int) ≤ 8 := by have := of_decide_eq_true hb.2; simpa using this
          have hn := number_at h4 h2 (k := k - 1) (by omega) ns (many : Int)
          refine s_appv (x := .int (num ns (many : Int))) (m := 0) rfl (by apply xPure0; walk_at "ev"; simp only [hn]; walk_at "ev") rfl (by rw [List.length_map]; omega) ?_
          walk_at "nx"
          refine s_appv (x := .lst []) (m := 1) (n := 1) (xs := inner.map fun ts => .lst (Th.Ds ts)) rfl (xPureF rfl (by simp -implicitDefEqProofs only [e_lst, e_anil]; rw [q_lst _ _ rfl]; rfl)) rfl (by rw [List.length_map]; omega) ?_
          walk_at "nx"
          refine s_asg (by walk_at "ex") ?_
          walk_at "nx"
          refine s_nil ⟨(nums ++ [num ns (many : Int)], inner ++ [[]], many + 1), ?_, st.begin (by omega), Nat.succ_le_succ hmi, fun _ => Nat.succ_le_succ (Nat.zero_le _), fun h => by omega⟩
          simp [rs, rsA, innerD, Th.Ds]
        · walk_at "nx"
          have b1 : 0 ≤ ce / 63 % 6 := Int.emod_nonneg _ (by omega)
          have b2 : ce / 63 % 6 < 6 := Int.emod_lt_of_pos _ (by omega)
          have hn := number_at h4 h2 (k := k - 1) (by omega) ns (many : Int)
          obtain ⟨L, x, rfl⟩ := last1 (l := inner) (by omega)
          have hxl : x.length < 16777216 := by
            have := st.len_le (ts := x) (by simp)
            omega
          have fin_ : ∀ q : Int, 1 ≤ q → q ≤ 200 → Wp (Fk cs (k - 1)) (Turn (fun r => ∃ (ks : List Th) (many : Nat), DocSt ns M [0] [ks] many ∧ 1 ≤ many ∧ many ≤ 59 ∧ (many : Int) ≤ max 6 most ∧ fin [] r = .ok (Th.part 0 ks).D 0 []) [0, 1, 2, 3, 4, 5, 6] (fun a : List Int × List (List Th) × Nat => [some (.ro true (ns.map D.int), 0), some (.int most, 0), some (.lst (M.map D.str), 1), some (.int low, 0), some (.lst (a.1.map D.int), 1), some (innerD a.2.1, 2), some (.int (a.2.2 : Int), 0), none, none, none])
              (fun a => DocSt ns M a.1 a.2.1 a.2.2 ∧ a.2.2 ≤ i + 1 ∧ (0 < i + 1 → 1 ≤ a.2.2) ∧ (i + 1 = 0 → a.1.length = 1)))
              (.cons (.app (.idx (.var 5) (.neg (.cst (.int 1)))) (.pure (.call ft "_law_thing" (.cons (.bin .fdiv (.var 8) (.cst (.int 7))) (.cons (.call fn "_law_number" (.cons (.var 0) (.cons (.var 6) .nil))) (.cons (.var 2) (.cons (.var 9) .nil))))))) (.cons (.asg 6 (.pure (.bin .add (.var 6) (.cst (.int 1))))) .nil))
              [some (.ro true (ns.map D.int), 0), some (.int most, 0), some (.lst (M.map D.str), 1), some (.int low, 0), some (.lst (nums.map D.int), 1), some (innerD (L ++ [x]), 2), some (.int (many : Int), 0), some (.int (4 + (i : Int)), 0), some (.int ce, 0), some (.int q, 0)] := fun q q1 q2 => by
            obtain ⟨t, t1, t2, t3⟩ := thing_at h5 h6 h7 (k := k - 1) (by omega) (ce / 7) (num ns (many : Int)) q M M1 q1 q2
            have timm := leaf_imm t1
            have tsafe : D.safe 0 t.D = true := by
              cases t with
              | say _ _ => exact timm
              | tell _ _ _ _ _ => exact timm
              | part _ _ => exact t1.elim
            refine s_appLast (L := L.map fun ts => .lst (Th.Ds ts)) (xs := Th.Ds x) (x := t.D) (by simp [innerD]) (by apply xPure0; walk_at "ev"; simp only [hn]; walk_at "ev"; simp only [t3]; rw [q_posts _ _ _ _ tsafe]) (by rw [Th.Ds_map, List.length_map]; exact hxl) ?_
            walk_at "nx"
            refine s_asg (by walk_at "ex") ?_
            walk_at "nx"
            refine s_nil ⟨(nums, L ++ [x ++ [t]], many + 1), ?_, st.add t1 t2, Nat.succ_le_succ hmi, fun _ => Nat.succ_le_succ (Nat.zero_le _), fun h => by omega⟩
            simp [rs, rsA, innerD, Th.Ds, Th.Ds_app]
          refine s_asg (by walk_at "ex") ?_
          walk_at "nx"
          refine s_if (by walk_at "ev"; simp only [c3]; walk_at "eb") (fun _ => ?_) (fun _ => ?_)
          · walk_at "nx"
            refine s_asg (by walk_at "ex") ?_
            walk_at "nx"
            exact fin_ _ (by omega) (by omega)
          · walk_at "nx"
            exact fin_ _ (by omega) (by omega)
    · rintro ⟨nums, inner, many⟩ ⟨st, hmi, hm1, _⟩
      rw [List.length_map, List.length_range] at hmi hm1
      dsimp only at st hmi hm1 ⊢
      have hm1 := hm1 (by omega)
      refine s_whl (α := List Int × List (List Th)) (fun a => [some (.ro true (ns.map D.int), 0), some (.int most, 0), some (.lst (M.map D.str), 1), some (.int low, 0), some (.lst (a.1.map D.int), 1), some (innerD a.2, 2), some (.int (many : Int), 0), none, none, none])
        (fun a => DocSt ns M a.1 a.2 many) (fun a => a.2.length) (nums, inner) (by simp [rs, rsA]) st (by show inner.length < 1000000; have := st.few; omega) ?_
      rintro ⟨nums, inner⟩ st
      dsimp only at st ⊢
      have hlen := st.len
      have hfew := st.few
      have hne := st.ne
      refine ⟨decide (1 < (nums.length : Int)), 0, by walk_at "ev", fun hb => ?_, fun hb => ?_⟩
      · have hb := of_decide_eq_true hb
        obtain ⟨L, x, y, rfl⟩ := last2 (l := inner) (by omega)
        obtain ⟨A, n, rfl⟩ := last1 (l := nums) (by omega)
        have hxl : x.length < 16777216 := by
          have := st.len_le (ts := x) (by simp)
          omega
        have he := ended_at h3 (k := k - 1) (by omega) A n L x y hxl
        refine s_exprCio (vs := [(.lst ((A ++ [n]).map D.int), 1), (innerD (L ++ [x, y]), 2)]) (os := [(.lst (A.map D.int), 1), (innerD (L ++ [x ++ [.part n y]]), 2)]) (Γ' := [some (.ro true (ns.map D.int), 0), some (.int most, 0), some (.lst (M.map D.str), 1), some (.int low, 0), some (.lst (A.map D.int), 1), some (innerD (L ++ [x ++ [.part n y]]), 2), some (.int (many : Int), 0), none, none, none]) rfl he rfl ?_
        refine s_nil ⟨(A, L ++ [x ++ [.part n y]]), rfl, st.ended, ?_⟩
        show (L ++ [x ++ [Th.part n y]]).length < (L ++ [x, y]).length
        simp
      · have hb := of_decide_eq_false hb
        obtain ⟨L, ks, rfl⟩ := last1 (l := inner) (by omega)
        have hL : L = [] := by
          cases L with
          | nil => rfl
          | cons a r => simp at hlen; omega
        subst hL
        have hnums : nums = [0] := by
          have hz := st.zero
          have hl1 : nums.length = 1 := by rw [hlen]; rfl
          cases nums with
          | nil => cases hz
          | cons a r =>
            simp at hz hl1
            rw [hz, hl1]
        subst hnums
        refine s_frz rfl ?_
        walk_at "nx"
        refine s_ret (d := (Th.part 0 ks).D) (n := 0) (xPure0 (by
          simp -implicitDefEqProofs only [e_tup, e_acons, e_anil, e_blt, e_idx, e_var, e_cst, CE.fresh, List.getElem?_cons_zero, List.getElem?_cons_succ, q_sl, R.bind_ok]
          have e1 : opIdx (innerD [ks]) 0 (.int 0) = .ok (.lst (Th.Ds ks)) 0 := rfl
          rw [e1]
          simp -implicitDefEqProofs only [q_acons, q_blt]
          rw [bTupL _ _ _ (by omega)]
          simp -implicitDefEqProofs only [q_acons]
          rw [q_tup _ rfl]
          rfl)) ?_
        exact ⟨ks, many, st, hm1, by omega, by omega, by simp only [fin, rr, outs]⟩
  obtain ⟨r, hr, ks, many, d1, d2, d3, d4, rfl⟩ := key
  exact ⟨M, ks, many, M1, M2, d1, d2, d3, d4, hr⟩
mutual
def Th.flat : Th → List Th
  | .say n r => [.say n r]
  | .tell n s p b r => [.tell n s p b r]
  | .part n ks => .part n ks :: Th.flats ks
def Th.flats : List Th → List Th
  | [] => []
  | t :: ts => t.flat ++ Th.flats ts
end
theorem Th.flats_app : ∀ a b : List Th, Th.flats (a ++ b) = Th.flats a ++ Th.flats b
  | [], _ => rfl
  | t :: ts, b => by rw [List.cons_append, Th.flats, Th.flats_app ts b, Th.flats, List.append_assoc]
mutual
theorem Th.flat_len : ∀ t : Th, t.flat.length = t.size
  | .say _ _ => rfl
  | .tell _ _ _ _ _ => rfl
  | .part n ks => by simp only [Th.flat, List.length_cons, Th.flats_len ks, Th.size]
theorem Th.flats_len : ∀ ts : List Th, (Th.flats ts).length = Th.sizes ts
  | [] => rfl
  | t :: ts => by simp only [Th.flats, List.length_append, Th.flat_len t, Th.flats_len ts, Th.sizes]
end
/-- what a thing's kind is -/
def Th.kind : Th → Tx
  | .say _ _ => [115, 97, 121]
  | .tell _ _ _ _ _ => [116, 101, 108, 108]
  | .part _ _ => [112, 97, 114, 116]
theorem Th.ix0 (t : Th) : opIdx t.D 0 (.int 0) = .ok (.str t.kind) 0 := by cases t <;> rfl
theorem s_extv {F : Fn} {Γ : Env} {Q : SR → Prop} {ss : CSs} {i n : Nat} {e : CE} {xs ys : List D} (h : Γ[i]? = some (some (.lst xs, 1))) (he : ev F e Γ = .ok (.lst ys) n) (hn : n ≤ 1) (hl : xs.length + ys.length ≤ 16777216)
    (k : Wp F Q ss (Γ.set i (some (.lst (xs ++ ys), 1)))) : Wp F Q (.cons (.ext (.var i) e) ss) Γ := by
  have e2 : modE (extD ys) (some (i, [])) Γ = some (Γ.set i (some (.lst (xs ++ ys), 1))) := by
    simp only [modE, modS, h, modP, extD, LINE, if_pos hl, Option.map_some]
  unfold Wp at k ⊢
  simp only [evSs, evS, path, getE, h, getP, he, hn, true_or, if_true, e2, nxO]
  exact k
theorem things_at {cs : List Code} {c : Nat} (hc : cs[c]? = some (C_things_of c)) : ∀ (k : Nat) (n : Int) (ks : List Th), Th.depths ks + 1 ≤ k → Th.sizes ks ≤ 1000 → Fk cs k c [((Th.part n ks).D, 0)] = .ok (.lst ((Th.flats ks).map Th.D)) 1 []
  | 0, _, _, h, _ => by omega
  | k + 1, n, ks, hk, hs => by
    rw [Fk_at (by omega) hc]
    refine run_of (P := fun r => r = _) rfl rfl ?_
    simp only [GL.start, C_things_of, List.map_cons, List.map_nil, List.replicate, List.cons_append, List.nil_append, Nat.reduceSub, Nat.add_sub_cancel]
    refine s_asg (by walk_at "ex") ?_
    walk_at "nx"
    have hdoc : opIdx (Th.part n ks).D 0 (.int 2) = .ok (.tup (Th.Ds ks)) 0 := rfl
    refine s_for (α := List Th) (xs := Th.Ds ks) (i_tup0 (by simp -implicitDefEqProofs only [e_idx, e_var, e_cst, List.getElem?_cons_zero, q_sl, R.bind_ok, hdoc])) (fun a => [some ((Th.part n ks).D, 0), some (.lst (a.map Th.D), 1), none]) (fun i a => a = Th.flats (ks.take i)) [] (by walk_at "rs") rfl ?_ ?_
    · rintro i x a hx rfl
      rw [Th.Ds_map, List.getElem?_map] at hx
      obtain ⟨t, ht, rfl⟩ := Option.map_eq_some_iff.mp hx
      have htk : ks.take (i + 1) = ks.take i ++ [t] := by rw [List.take_succ, ht]; rfl
      have hsz : Th.sizes (ks.take i) + t.size ≤ 1000 ∧ t.depth ≤ Th.depths ks := by
        have e : ks = ks.take (i + 1) ++ ks.drop (i + 1) := (List.take_append_drop _ _).symm
        have h1 : Th.sizes ks = Th.sizes (ks.take i) + t.size + Th.sizes (ks.drop (i + 1)) := by
          conv => lhs; rw [e, htk]
          simp only [Th.sizes_app, Th.sizes]; omega
        have h2 : Th.depths ks = max (max (Th.depths (ks.take i)) t.depth) (Th.depths (ks.drop (i + 1))) := by
          conv => lhs; rw [e, htk]
          simp only [Th.depths_app, Th.depths]; omega
        omega
      have hfl : (Th.flats (ks.take i)).length = Th.sizes (ks.take i) := Th.flats_len _
      refine ⟨_, setT_one _ _ _, ?_⟩
      walk_at "nx"
      refine s_appv (x := t.D) (m := 0) rfl (xPure0 (by rfl)) rfl (by rw [List.length_map]; omega) ?_
      walk_at "nx"
      have hix := Th.ix0 t
      refine s_if (t := decide (t.kind = [112, 97, 114, 116])) (n := 0) (by simp -implicitDefEqProofs only [e_cmp, e_idx, e_var, e_cst, List.getElem?_cons_zero, List.getElem?_cons_succ, q_sl, R.bind_ok, hix, cEqS, rB_some]) (fun h => ?_) (fun h => ?_)
      · walk_at "nx"
        cases t with
        | say _ _ => simp [Th.kind] at h
        | tell _ _ _ _ _ => simp [Th.kind] at h
        | part m js =>
          have ih := things_at hc k m js (by simp only [Th.depth] at hsz; omega) (by simp only [Th.size] at hsz; omega)
          have hjl : (Th.flats js).length = Th.sizes js := Th.flats_len _
          refine s_extv (n := 1) (xs := (Th.flats (ks.take i)).map Th.D ++ [(Th.part m js).D]) (ys := (Th.flats js).map Th.D) rfl (by
            simp -implicitDefEqProofs only [e_call, e_acons, e_anil, e_var, CE.fresh, List.getElem?_cons_zero, List.getElem?_cons_succ, q_sl, q_acons, q_call, List.map_cons, List.map_nil, ih]
            rw [q_post _ _ _ _ rfl]) (by omega) (by simp only [Th.size] at hsz; simp only [List.length_append, List.length_map, List.length_singleton]; omega) ?_
          walk_at "nx"
          refine s_nil ⟨_, ?_, rfl⟩
          rw [htk, Th.flats_app]
          simp [rs, rsA, Th.flats, Th.flat]
      · walk_at "nx"
        refine s_nil ⟨_, ?_, rfl⟩
        rw [htk, Th.flats_app]
        cases t with
        | part m js => simp [Th.kind] at h
        | say _ _ => simp [rs, rsA, Th.flats, Th.flat]
        | tell _ _ _ _ _ => simp [rs, rsA, Th.flats, Th.flat]
    · rintro a rfl
      refine s_retv rfl ?_
      simp only [fin, rr, outs]
      rw [Th.Ds_map, List.length_map, List.take_length]
end GL

/-! GLE: comparing documents; the order of things. -/
namespace GL
local macro_rules | `(tactic| walk_at "ev") => `(tactic| (simp -implicitDefEqProofs (disch := first | omega | assumption | decide | (simp only [mo_split, mo_join, mo_ends, mo_index, mo_part]; done) | (simp only [fixed, deep, D.safe, D.imm, D.imms, List.all_cons, List.all_nil, beq_self_eq_true, Bool.true_or, Bool.or_true, Bool.and_true, Bool.and_self, decide_true, Nat.reduceSub, Nat.reduceBEq, Nat.reduceEqDiff]; done) | (simp only [List.length_map, List.length_range, List.length_cons, List.length_nil, List.length_append]; omega) | fail) only [e_var, e_cst, e_glo, e_tup, e_lst, e_dnew, e_bin, e_neg, e_cmp, e_chain, e_and, e_or, e_not, e_idx, e_sll, e_slu, e_slb, e_call, e_blt, e_mth, e_isi, e_anil, e_acons, q_sl, q_and, q_andF, q_or, q_orT, q_not, q_neg, q_chn, q_sll, q_slu, q_slb, q_acons, q_tup, q_lst, q_call, q_post, q_posts, q_postx, q_blt, q_mth, fixed_nil, fixed_c0, fixed_ct, R.bind_ok, R.bind_ex, opAdd, opSub, opMulR, opMulL, opFdiv, opMod, opAddS, opAddT, cLt, cLe, cGt, cGe, cEqI, cNeI, cEqB, cEqS, cNeS, cInS, cNotInS, cLeS, cLtS, rB_some, rO_some, bLenRo, bLenL, bLenT, bLenS, bTupL, bTupT, bIntB, bMin, bMax, iRoI, iStr, iTup, iLst, slS, slT, isi_bl, isi_int, isi_str, isi_tup, isi_lst, isi_dct, isi_non, List.getElem?_cons_succ, List.getElem?_cons_zero, List.length_map, List.map_cons, List.map_nil, CE.fresh, or_true, true_or, if_true, Bool.not_false, Bool.not_true, List.set_cons_zero, List.set_cons_succ]))
local macro_rules | `(tactic| walk_at "ex") => `(tactic| first | (apply xPure0; walk_at "ev"; done) | (apply xPure0; walk_at "ev"; rfl) | (apply xPureF rfl; walk_at "ev"; done) | (apply xPureF rfl; walk_at "ev"; rfl))
local macro_rules | `(tactic| walk_at "eb") => `(tactic| first | (walk_at "ev"; done) | (walk_at "ev"; rfl))
local macro_rules | `(tactic| walk_at "nx") => `(tactic| (try dsimp only [CSs.app, List.set_cons_zero, List.set_cons_succ, List.cons_append, List.nil_append]))
local macro_rules | `(tactic| walk_at "rs") => `(tactic| first | (simp (decide := true) only [rs, rsA, if_true, if_false]; done) | (simp (decide := true) only [rs, rsA, if_true, if_false]; rfl) | rfl)
theorem flats_ints (n : Nat) : ∀ a : List Int, D.flats n (a.map D.int) = true
  | [] => rfl
  | t :: r => by cases n <;> simp only [List.map_cons, D.flats, D.flat, flats_ints _ r, Bool.and_self]
theorem flats_bends (n : Nat) : ∀ b : List (Tx × Tx), D.flats (n + 1) (b.map fun p => .tup [.str p.1, .str p.2]) = true
  | [] => rfl
  | t :: r => by simp only [List.map_cons, D.flats, D.flat, flat_str, flats_bends n r, Bool.and_self]
mutual
theorem Th.flatD : ∀ (t : Th) (m : Nat), 2 * t.depth + 3 ≤ m → D.flat m t.D = true
  | .say n r, m, h => by
    obtain ⟨m, rfl⟩ : ∃ j, m = j + 3 := ⟨m - 3, by simp only [Th.depth] at h; omega⟩
    simp only [Th.D, D.flat, D.flats, flats_strs, flat_str, Bool.and_self]
  | .tell n s p b r, m, h => by
    obtain ⟨m, rfl⟩ : ∃ j, m = j + 3 := ⟨m - 3, by simp only [Th.depth] at h; omega⟩
    simp only [Th.D, D.flat, D.flats, flats_strs, flat_str, flats_bends, Bool.and_self]
  | .part n ks, m, h => by
    obtain ⟨m, rfl⟩ : ∃ j, m = j + 2 := ⟨m - 2, by simp only [Th.depth] at h; omega⟩
    simp only [Th.D, D.flat, D.flats, flat_str, Th.flatsD ks m (by simp only [Th.depth] at h; omega), Bool.and_self]
theorem Th.flatsD : ∀ (ts : List Th) (m : Nat), 2 * Th.depths ts + 3 ≤ m → D.flats m (Th.Ds ts) = true
  | [], _, _ => by simp only [Th.Ds, D.flats]
  | t :: ts, m, h => by
    simp only [Th.Ds, D.flats, Th.flatD t m (by simp only [Th.depths] at h; omega), Th.flatsD ts m (by simp only [Th.depths] at h; omega), Bool.and_self]
end
mutual
theorem peq_refl : ∀ (d : D) (m : Nat), D.flat m d = true → D.peq d d = true
  | .non, _, _ => by simp only [D.peq]
  | .bl b, _, _ => by simp [D.peq]
  | .int i, _, _ => by simp [D.peq]
  | .str t, _, _ => by simp [D.peq]
  | .tup xs, m, h => by
    cases m with
    | zero => simp [D.flat] at h
    | succ m => simp only [D.flat] at h; simp only [D.peq]; exact peqs_refl xs m h
  | .lst xs, m, h => by
    cases m with
    | zero => simp [D.flat] at h
    | succ m => simp only [D.flat] at h; simp only [D.peq]; exact peqs_refl xs m h
  | .dct _ _ _, m, h => by cases m <;> simp [D.flat] at h
  | .ro _ _, m, h => by cases m <;> simp [D.flat] at h
  | .obj _ _, m, h => by cases m <;> simp [D.flat] at h
theorem peqs_refl : ∀ (ds : List D) (m : Nat), D.flats m ds = true → D.peqs ds ds = true
  | [], _, _ => by simp only [D.peqs]
  | d :: ds, m, h => by
    simp only [D.flats, Bool.and_eq_true] at h
    simp only [D.peqs, peq_refl d m h.1, peqs_refl ds m h.2, Bool.and_self]
end
theorem cEq_self {d : D} (h : D.flat 64 d = true) : opCmp .eq d d = some true := by simp only [opCmp, h, Bool.and_self, if_true, peq_refl d 64 h]
theorem cNe_self {d : D} (h : D.flat 64 d = true) : opCmp .ne d d = some false := by simp only [opCmp, h, Bool.and_self, if_true, peq_refl d 64 h]; rfl
theorem cNe_nil {xs : List D} (h : D.flats 63 xs = true) : opCmp .ne (.lst xs) (.lst []) = some (!xs.isEmpty) := by
  have h1 : D.flat 64 (.lst xs) = true := by simp only [D.flat]; exact h
  have h2 : D.flat 64 (.lst []) = true := rfl
  simp only [opCmp, h1, h2, Bool.and_self, if_true]
  cases xs <;> rfl
theorem cEq_nil {xs : List D} (h : D.flats 63 xs = true) : opCmp .eq (.lst xs) (.lst []) = some xs.isEmpty := by
  have h1 : D.flat 64 (.lst xs) = true := by simp only [D.flat]; exact h
  have h2 : D.flat 64 (.lst []) = true := rfl
  simp only [opCmp, h1, h2, Bool.and_self, if_true]
  cases xs <;> rfl
mutual
theorem Th.flat_depth : ∀ (t : Th), ∀ u ∈ t.flat, u.depth ≤ t.depth
  | .say _ _, u, h => by rw [List.mem_singleton.mp h]; exact Nat.le_refl _
  | .tell _ _ _ _ _, u, h => by rw [List.mem_singleton.mp h]; exact Nat.le_refl _
  | .part n ks, u, h => by
    rcases List.mem_cons.mp h with rfl | h
    · exact Nat.le_refl _
    · have := Th.flats_depth ks u h; simp only [Th.depth]; omega
theorem Th.flats_depth : ∀ (ts : List Th), ∀ u ∈ Th.flats ts, u.depth ≤ Th.depths ts
  | [], u, h => by cases h
  | t :: ts, u, h => by
    rcases List.mem_append.mp h with h | h
    · have := Th.flat_depth t u h; simp only [Th.depths]; omega
    · have := Th.flats_depth ts u h; simp only [Th.depths]; omega
end
theorem depths_le {m : Nat} : ∀ {ts : List Th}, (∀ t ∈ ts, t.depth ≤ m) → Th.depths ts ≤ m
  | [], _ => by simp [Th.depths]
  | t :: ts, h => by
    have := depths_le (ts := ts) fun u hu => h u (List.mem_cons_of_mem _ hu)
    have := h t List.mem_cons_self
    simp only [Th.depths]; omega
theorem x_pop0 {F : Fn} {Γ : Env} {i n : Nat} {xs : List D} {x : D} (h : Γ[i]? = some (some (.lst (x :: xs), n + 1))) : evX F (.pop0 (.var i)) Γ = .ok x n (Γ.set i (some (.lst xs, n + 1))) := by
  simp only [evX, path, getE, h, getP, headD, modE, modS, modP, tailD, Option.map_some]
theorem order_at {cs : List Code} {c k : Nat} (hc : cs[c]? = some C_law_order) (hk : 1 ≤ k) (n : Int) (ks : List Th) (hd : Th.depths ks ≤ 20) (hs : Th.sizes ks ≤ 1000) : Fk cs k c [((Th.part n ks).D, 0)] = .ok (.lst ((Th.flats ks).map Th.D)) 1 [] := by
  rw [Fk_at (by omega) hc]
  refine run_of (P := fun r => r = _) rfl rfl ?_
  simp only [GL.start, C_law_order, List.map_cons, List.map_nil, List.replicate, List.cons_append, List.nil_append, Nat.reduceSub]
  refine s_asg (by walk_at "ex") ?_
  walk_at "nx"
  have hdoc : ∀ n ks, opIdx (Th.part n ks).D 0 (.int 2) = .ok (.tup (Th.Ds ks)) 0 := fun _ _ => rfl
  refine s_asg (d := .lst (Th.Ds ks)) (n := 1) (xPureF rfl (by simp -implicitDefEqProofs only [e_blt, e_acons, e_anil, CE.fresh, e_idx, e_var, e_cst, List.getElem?_cons_zero, q_sl, R.bind_ok, hdoc, q_acons, q_blt, bListT])) ?_
  walk_at "nx"
  refine s_whl (α := List Th × List Th) (fun a => [some ((Th.part n ks).D, 0), some (.lst (a.1.map Th.D), 1), some (.lst (Th.Ds a.2), 1), none]) (fun a => a.1 ++ Th.flats a.2 = Th.flats ks ∧ Th.depths a.2 ≤ 20) (fun a => Th.sizes a.2) ([], ks) (by simp [rs, rsA]) ⟨rfl, hd⟩ (by show Th.sizes ks < 1000000; omega) ?_
  rintro ⟨due, left⟩ ⟨he, hdl⟩
  dsimp only at he hdl ⊢
  have hl1 : due.length + Th.sizes left = Th.sizes ks := by
    have := congrArg List.length he
    rw [List.length_append, Th.flats_len, Th.flats_len] at this
    exact this
  refine ⟨!(Th.Ds left).isEmpty, 0, by
    simp -implicitDefEqProofs only [e_cmp, e_var, e_lst, e_anil, List.getElem?_cons_succ, List.getElem?_cons_zero, q_sl, R.bind_ok]
    rw [q_lst _ _ rfl, R.bind_ok]
    show rB (opCmp .ne (.lst (Th.Ds left)) (.lst [])) = _
    rw [cNe_nil (Th.flatsD left 63 (by omega)), rB_some], fun ht => ?_, fun hf => ?_⟩
  · cases left with
    | nil => simp [Th.Ds] at ht
    | cons t ts =>
      refine s_asg (x_pop0 (x := t.D) (xs := Th.Ds ts) rfl) ?_
      walk_at "nx"
      have htd : t.depth ≤ 20 ∧ Th.depths ts ≤ 20 := by simp only [Th.depths] at hdl; omega
      refine s_appv (x := t.D) (m := 0) rfl (xPure0 (by rfl)) rfl (by rw [List.length_map]; omega) ?_
      walk_at "nx"
      have hix := Th.ix0 t
      refine s_if (t := decide (t.kind = [112, 97, 114, 116])) (n := 0) (by simp -implicitDefEqProofs only [e_cmp, e_idx, e_var, e_cst, List.getElem?_cons_zero, List.getElem?_cons_succ, q_sl, R.bind_ok, hix, cEqS, rB_some]) (fun h => ?_) (fun h => ?_)
      · walk_at "nx"
        cases t with
        | say _ _ => simp [Th.kind] at h
        | tell _ _ _ _ _ => simp [Th.kind] at h
        | part m js =>
          have hjs : js.length ≤ Th.sizes js := Th.len_sizes js
          have hts : ts.length ≤ Th.sizes ts := Th.len_sizes ts
          simp only [Th.sizes, Th.size] at hl1
          refine s_asg (d := .lst (Th.Ds (js ++ ts))) (n := 1) (xPureF rfl (by
            simp -implicitDefEqProofs only [e_bin, e_blt, e_acons, e_anil, CE.fresh, e_idx, e_var, e_cst, List.getElem?_cons_zero, List.getElem?_cons_succ, q_sl, R.bind_ok, hdoc, q_acons, q_blt, bListT]
            rw [opAddL _ _ _ _ (by omega) (by omega) (by rw [Th.Ds_map, Th.Ds_map, List.length_map, List.length_map]; omega), Th.Ds_app])) ?_
          walk_at "nx"
          refine s_nil ⟨(due ++ [.part m js], js ++ ts), by simp [rs, rsA], ⟨?_, ?_⟩, ?_⟩
          · rw [← he]; simp [Th.flats, Th.flat, Th.flats_app]
          · show Th.depths (js ++ ts) ≤ 20
            rw [Th.depths_app]; simp only [Th.depth] at htd; omega
          · show Th.sizes (js ++ ts) < Th.sizes (.part m js :: ts)
            simp only [Th.sizes_app, Th.sizes, Th.size]; omega
      · walk_at "nx"
        have hflat : t.flat = [t] ∧ t.size = 1 := by
          cases t with
          | part m js => simp [Th.kind] at h
          | say _ _ => exact ⟨rfl, rfl⟩
          | tell _ _ _ _ _ => exact ⟨rfl, rfl⟩
        refine s_nil ⟨(due ++ [t], ts), by simp [rs, rsA], ⟨?_, htd.2⟩, ?_⟩
        · rw [← he]; simp [Th.flats, hflat.1]
        · show Th.sizes ts < Th.sizes (t :: ts)
          simp only [Th.sizes, hflat.2]; omega
  · have hleft : left = [] := by
      cases left with
      | nil => rfl
      | cons t ts => simp [Th.Ds] at hf
    subst hleft
    rw [Th.flats, List.append_nil] at he
    subst he
    refine s_retv rfl ?_
    simp only [fin, rr, outs]
end GL

/-! GLT: bent, forms. -/
namespace GL
local macro_rules | `(tactic| walk_at "ev") => `(tactic| (simp -implicitDefEqProofs (disch := first | omega | assumption | decide | (simp only [mo_split, mo_join, mo_ends, mo_index, mo_part]; done) | (simp only [fixed, deep, D.safe, D.imm, D.imms, List.all_cons, List.all_nil, beq_self_eq_true, Bool.true_or, Bool.or_true, Bool.and_true, Bool.and_self, decide_true, Nat.reduceSub, Nat.reduceBEq, Nat.reduceEqDiff]; done) | (simp only [List.length_map, List.length_range, List.length_cons, List.length_nil, List.length_append]; omega) | fail) only [e_var, e_cst, e_glo, e_tup, e_lst, e_dnew, e_bin, e_neg, e_cmp, e_chain, e_and, e_or, e_not, e_idx, e_sll, e_slu, e_slb, e_call, e_blt, e_mth, e_isi, e_anil, e_acons, q_sl, q_and, q_andF, q_or, q_orT, q_not, q_neg, q_chn, q_sll, q_slu, q_slb, q_acons, q_tup, q_lst, q_call, q_post, q_posts, q_postx, q_blt, q_mth, fixed_nil, fixed_c0, fixed_ct, R.bind_ok, R.bind_ex, opAdd, opSub, opMulR, opMulL, opFdiv, opMod, opAddS, opAddT, cLt, cLe, cGt, cGe, cEqI, cNeI, cEqB, cEqS, cNeS, cInS, cNotInS, cLeS, cLtS, rB_some, rO_some, bLenRo, bLenL, bLenT, bLenS, bTupL, bTupT, bIntB, bMin, bMax, iRoI, iStr, iTup, iLst, slS, slT, isi_bl, isi_int, isi_str, isi_tup, isi_lst, isi_dct, isi_non, List.getElem?_cons_succ, List.getElem?_cons_zero, List.length_map, List.map_cons, List.map_nil, CE.fresh, or_true, true_or, if_true, Bool.not_false, Bool.not_true, List.set_cons_zero, List.set_cons_succ]))
local macro_rules | `(tactic| walk_at "ex") => `(tactic| first | (apply xPure0; walk_at "ev"; done) | (apply xPure0; walk_at "ev"; rfl) | (apply xPureF rfl; walk_at "ev"; done) | (apply xPureF rfl; walk_at "ev"; rfl))
local macro_rules | `(tactic| walk_at "eb") => `(tactic| first | (walk_at "ev"; done) | (walk_at "ev"; rfl))
local macro_rules | `(tactic| walk_at "nx") => `(tactic| (try dsimp only [CSs.app, List.set_cons_zero, List.set_cons_succ, List.cons_append, List.nil_append]))
local macro_rules | `(tactic| walk_at "rs") => `(tactic| first | (simp (decide := true) only [rs, rsA, if_true, if_false]; done) | (simp (decide := true) only [rs, rsA, if_true, if_false]; rfl) | rfl)
def C_bent (fw : Nat) : Code := ⟨2, 5, [], (.cons (.asg 2 (.pure (.idx (.var 1) (.cst (.int 0))))) (.cons (.asg 3 (.pure (.idx (.var 0) (.neg (.cst (.int 1)))))) (.cons (.ifs (.not (.mth .endswith (.var 3) (.cons (.var 2) .nil))) (.cons (.rse 2 "NoForm" (.cons (.cst (.str [116, 104, 101, 32, 108, 97, 115, 116, 32, 119, 111, 114, 100, 32, 101, 110, 100, 115, 32, 111, 116, 104, 101, 114, 119, 105, 115, 101])) .nil)) .nil) .nil) (.cons (.asg 4 (.pure (.bin .add (.slu (.var 3) (.bin .sub (.blt .len (.cons (.var 3) .nil)) (.blt .len (.cons (.var 2) .nil)))) (.idx (.var 1) (.cst (.int 1)))))) (.cons (.ifs (.not (.call fw "is_word" (.cons (.var 4) .nil))) (.cons (.rse 2 "NoForm" (.cons (.cst (.str [110, 111, 32, 119, 111, 114, 100])) .nil)) .nil) .nil) (.cons (.ret (.pure (.bin .add (.slu (.var 0) (.neg (.cst (.int 1)))) (.tup (.cons (.var 4) .nil))))) .nil))))))⟩
def C_forms (fb : Nat) : Code := ⟨2, 5, [], (.cons (.asg 2 (.pure (.lst 1 (.cons (.var 0) .nil)))) (.cons (.for_ [3] (.val (.var 1)) [0, 1, 2] (.cons (.asg 4 (.pure (.call fb "bent" (.cons (.var 0) (.cons (.var 3) .nil))))) (.cons (.ifs (.cmp .in_ (.var 4) (.var 2)) (.cons (.rse 2 "NoForm" (.cons (.cst (.str [97, 32, 102, 111, 114, 109, 32, 116, 119, 105, 99, 101])) .nil)) .nil) .nil) (.cons (.app (.var 2) (.pure (.var 4))) .nil)))) (.cons (.frz 2) (.cons (.ret (.pure (.blt .tuple (.cons (.var 2) .nil)))) .nil))))⟩
def tupP (p : List Tx) : D := .tup (p.map D.str)
def dueV (init : List Tx) (last cut put : Tx) : Option (List Tx) :=
  if cut.length ≤ last.length ∧ last.drop (last.length - cut.length) = cut ∧ 1 ≤ (last.length - cut.length) + put.length ∧ (last.length - cut.length) + put.length ≤ 20
  then some (init ++ [last.take (last.length - cut.length) ++ put]) else none
def dueR : Option (List Tx) → RR
  | some P => .ok (.tup (P.map D.str)) 0 []
  | none => .ex 2 []
abbrev ph (init : List Tx) (last : Tx) : D := .tup (init.map D.str ++ [.str last])
theorem ph_eq (init : List Tx) (last : Tx) : ph init last = tupP (init ++ [last]) := by unfold ph tupP; rw [List.map_append]; rfl
theorem peq_tupP (a b : List Tx) : (tupP a).peq (tupP b) = decide (a = b) := by
  show D.peqs (a.map D.str) (b.map D.str) = _
  exact peqs_strs a b
theorem flats_tups (n : Nat) : ∀ ps : List (List Tx), D.flats (n + 1) (ps.map tupP) = true
  | [] => rfl
  | p :: ps => by
    have h := flats_tups n ps
    simp only [List.map_cons, D.flats, h, Bool.and_true]
    exact flats_strs n p
theorem flat_lst (ps : List (List Tx)) : D.flat 64 (.lst (ps.map tupP)) = true := flats_tups 62 ps
theorem cInTs (P : List Tx) (l : List (List Tx)) : opCmp .in_ (tupP P) (.lst (l.map tupP)) = some (decide (P ∈ l)) := by
  have h1 : D.flat 64 (tupP P) = true := flats_strs 63 P
  have h2 : D.flats 63 (l.map tupP) = true := flats_tups 62 l
  show (if D.flat 64 (tupP P) && D.flats 63 (l.map tupP) then some ((l.map tupP).any fun z => z.peq (tupP P)) else none) = _
  rw [h1, h2, Bool.and_self, if_pos rfl, List.any_map]
  congr 1
  induction l with
  | nil => rfl
  | cons q l ih =>
    rw [List.any_cons, ih (flats_tups 62 l), Function.comp_apply, peq_tupP]
    by_cases e : q = P
    · subst e; simp
    · have e2 : ¬ P = q := fun z => e z.symm
      simp [e, e2]
theorem bent_at {cs : List Code} {c fw fh k : Nat} (hc : cs[c]? = some (C_bent fw)) (hfw : cs[fw]? = some (wordC fh)) (hfh : cs[fh]? = some hasC) (hk : 3 ≤ k) (init : List Tx) (last cut put : Tx) (h0 : init.length ≤ 100) (h1 : last.length ≤ 100) (h2 : cut.length ≤ 100) (h3 : put.length ≤ 100) (g1 : last.all good = true) (g2 : put.all good = true) :
    Fk cs k c [(ph init last, 0), (.tup [.str cut, .str put], 0)] = dueR (dueV init last cut put) := by
  rw [Fk_at (by omega) hc]
  refine run_of (P := fun r => r = _) rfl rfl ?_
  simp only [GL.start, C_bent, List.map_cons, List.map_nil, List.replicate, List.cons_append, List.nil_append]
  refine s_asg (d := .str cut) (n := 0) (xPure0 (by simp only [e_idx, e_var, e_cst, List.getElem?_cons_zero, List.getElem?_cons_succ, q_sl, R.bind_ok, opIdxT0])) ?_
  walk_at "nx"
  refine s_asg (d := .str last) (n := 0) (xPure0 (by simp only [e_idx, e_var, e_cst, e_neg, q_neg, List.getElem?_cons_zero, List.getElem?_cons_succ, q_sl, R.bind_ok, opIdxLastT])) ?_
  walk_at "nx"
  refine s_if (t := !(decide (cut.length ≤ last.length) && decide (last.drop (last.length - cut.length) = cut))) (n := 0) (by walk_at "ev"; rw [m_ends]; rfl) (fun h => ?_) (fun h => ?_)
  · walk_at "nx"
    refine s_rse (vs := [(.str [116, 104, 101, 32, 108, 97, 115, 116, 32, 119, 111, 114, 100, 32, 101, 110, 100, 115, 32, 111, 116, 104, 101, 114, 119, 105, 115, 101], 0, true)]) (by walk_at "ev") rfl ?_
    have hn : dueV init last cut put = none := by
      unfold dueV
      rw [if_neg]
      rintro ⟨a, b, _⟩
      simp [a, b] at h
    show RR.ex 2 _ = dueR _
    rw [hn]; rfl
  · have h : cut.length ≤ last.length ∧ last.drop (last.length - cut.length) = cut := by simpa using h
    walk_at "nx"
    have ec : GL.cut last none (some ((last.length : Int) - (cut.length : Int))) = last.take (last.length - cut.length) := by
      rw [cut_to _ _ (by omega)]; congr 1; omega
    have hl4 : (last.take (last.length - cut.length)).length + put.length ≤ 16777216 := by rw [List.length_take]; omega
    refine s_asg (d := .str (last.take (last.length - cut.length) ++ put)) (n := 0) (by apply xPure0; walk_at "ev"; rw [ec]; exact opAddS _ _ _ _ hl4) ?_
    walk_at "nx"
    have hw := word_at hfh hfw (k := k - 1) (by omega) (last.take (last.length - cut.length) ++ put) (by rw [List.length_append]; omega)
    have hgood : (last.take (last.length - cut.length) ++ put).all good = true := by
      rw [List.all_append, g2, Bool.and_true, List.all_eq_true]
      intro x hx
      exact List.all_eq_true.mp g1 x (List.mem_of_mem_take hx)
    have hlen : (last.take (last.length - cut.length) ++ put).length = last.length - cut.length + put.length := by
      rw [List.length_append, List.length_take]; omega
    have hword : word (last.take (last.length - cut.length) ++ put) = (decide (1 ≤ last.length - cut.length + put.length) && decide (last.length - cut.length + put.length ≤ 20)) := by
      unfold word
      rw [hgood, hlen, Bool.true_and]
    refine s_if (by walk_at "ev"; simp only [hw]; walk_at "ev"; rfl) (fun h5 => ?_) (fun h5 => ?_)
    · walk_at "nx"
      refine s_rse (vs := [(.str [110, 111, 32, 119, 111, 114, 100], 0, true)]) (by walk_at "ev") rfl ?_
      have hn : dueV init last cut put = none := by
        unfold dueV
        rw [if_neg]
        rintro ⟨_, _, a, b⟩
        rw [hword] at h5
        simp [a, b] at h5
      show RR.ex 2 _ = dueR _
      rw [hn]; rfl
    · walk_at "nx"
      have h5 : word (last.take (last.length - cut.length) ++ put) = true := by simpa using h5
      rw [hword] at h5
      have h6 : 1 ≤ last.length - cut.length + put.length ∧ last.length - cut.length + put.length ≤ 20 := by simpa using h5
      have hn : dueV init last cut put = some (init ++ [last.take (last.length - cut.length) ++ put]) := by
        unfold dueV
        rw [if_pos ⟨h.1, h.2, h6.1, h6.2⟩]
      refine s_ret (d := .tup ((init ++ [last.take (last.length - cut.length) ++ put]).map D.str)) (n := 0) (xPure0 (e_bin2 (x := .tup (init.map D.str)) (n := 0) (y := .tup [.str (last.take (last.length - cut.length) ++ put)]) (m := 0) ?_ ?_ ?_)) ?_
      · simp only [e_slu, e_var, e_neg, e_cst, q_neg, List.getElem?_cons_zero, q_sl, R.bind_ok, q_slu, slT, cut_m1]
      · walk_at "ev"
      · rw [opAddT _ _ _ _ (by simp only [List.length_map, List.length_cons, List.length_nil]; omega)]; simp
      · rw [hn]
        simp only [fin, rr, outs, dueR]
/-- the forms of a phrase by its bends, or none -/
def formsV (init : List Tx) (last : Tx) : List (Tx × Tx) → List (List Tx) → Option (List (List Tx))
  | [], acc => some acc
  | b :: bs, acc => match dueV init last b.1 b.2 with
    | some P => if P ∈ acc then none else formsV init last bs (acc ++ [P])
    | none => none
def bD (b : Tx × Tx) : D := .tup [.str b.1, .str b.2]
def formsR : Option (List (List Tx)) → RR
  | some l => .ok (.tup (l.map tupP)) 0 []
  | none => .ex 2 []
theorem forms_at {cs : List Code} {c fb fw fh k : Nat} (hc : cs[c]? = some (C_forms fb)) (hfb : cs[fb]? = some (C_bent fw)) (hfw : cs[fw]? = some (wordC fh)) (hfh : cs[fh]? = some hasC) (hk : 4 ≤ k) (init : List Tx) (last : Tx) (bs : List (Tx × Tx)) (h0 : init.length ≤ 100) (h1 : last.length ≤ 100)
    (hb : ∀ b ∈ bs, b.1.length ≤ 100 ∧ b.2.length ≤ 100 ∧ b.2.all good = true) (hbl : bs.length ≤ 100) (g1 : last.all good = true) :
    Fk cs k c [(ph init last, 0), (.tup (bs.map bD), 0)] = formsR (formsV init last bs [init ++ [last]]) := by
  have hbt := fun (b : Tx × Tx) (h : b ∈ bs) => bent_at hfb hfw hfh (k := k - 1) (by omega) init last b.1 b.2 h0 h1 (hb b h).1 (hb b h).2.1 g1 (hb b h).2.2
  rw [Fk_at (by omega) hc]
  refine run_of (P := fun r => r = _) rfl rfl ?_
  simp only [GL.start, C_forms, List.map_cons, List.map_nil, List.replicate, List.cons_append, List.nil_append]
  refine s_asg (d := .lst ([init ++ [last]].map tupP)) (n := 1) (xPureF rfl (by walk_at "ev"; rw [ph_eq])) ?_
  walk_at "nx"
  generalize hr : formsV init last bs [init ++ [last]] = r
  refine s_for (α := List (List Tx)) (xs := bs.map bD) (i_tup0 (by walk_at "eb")) (fun acc => [some (ph init last, 0), some (.tup (bs.map bD), 0), some (.lst (acc.map tupP), 1), none, none]) (fun i acc => formsV init last (bs.drop i) acc = r ∧ acc.length = i + 1) [init ++ [last]] (by walk_at "rs") ⟨hr, rfl⟩ ?_ ?_
  · rintro i x acc hx ⟨ha, hal⟩
    rw [List.getElem?_map] at hx
    obtain ⟨b, hbi, rfl⟩ := Option.map_eq_some_iff.mp hx
    have hm : b ∈ bs := List.mem_of_getElem? hbi
    have hil : i < bs.length := (List.getElem?_eq_some_iff.mp hbi).1
    have hd : bs.drop i = b :: bs.drop (i + 1) := by
      rw [List.drop_eq_getElem_cons hil, (List.getElem?_eq_some_iff.mp hbi).2]
    rw [hd] at ha
    refine ⟨_, setT_one _ _ _, ?_⟩
    walk_at "nx"
    have hw := hbt b hm
    simp only [formsV] at ha
    cases hv : dueV init last b.1 b.2 with
    | none =>
      rw [hv] at hw ha
      refine s_asgX (k := 2) (fs := []) (by apply xPureX; unfold bD; walk_at "ev"; simp only [hw, dueR]; walk_at "ev") ?_
      show fin [] (.ex 2 [] _) = _
      rw [← ha]; rfl
    | some P =>
      rw [hv] at hw ha
      refine s_asg (d := tupP P) (n := 0) (by apply xPure0; unfold bD; walk_at "ev"; simp only [hw, dueR]; walk_at "ev"; rfl) ?_
      walk_at "nx"
      have hin := cInTs P acc
      refine s_if (t := decide (P ∈ acc)) (n := 0) (by walk_at "ev"; rw [hin]; rfl) (fun h => ?_) (fun h => ?_)
      · have h := of_decide_eq_true h
        simp only [if_pos h] at ha
        walk_at "nx"
        refine s_rse (vs := [(.str [97, 32, 102, 111, 114, 109, 32, 116, 119, 105, 99, 101], 0, true)]) (by walk_at "ev") rfl ?_
        show fin [] (.ex 2 [] _) = _
        rw [← ha]; rfl
      · have h := of_decide_eq_false h
        simp only [if_neg h] at ha
        walk_at "nx"
        refine s_appv (x := tupP P) (m := 0) rfl (by walk_at "ex") rfl (by rw [List.length_map]; omega) ?_
        walk_at "nx"
        exact s_nil ⟨acc ++ [P], by simp [rs, rsA], ha, by simp [hal]⟩
  · rintro acc ⟨ha, hal⟩
    rw [List.length_map, List.drop_length] at ha
    rw [List.length_map] at hal
    refine s_frz (d := .lst (acc.map tupP)) (n := 1) rfl ?_
    walk_at "nx"
    refine s_ret (d := .tup (acc.map tupP)) (n := 0) (xPure0 (by walk_at "ev")) ?_
    simp only [formsV] at ha
    rw [← ha]
    simp only [fin, rr, outs, formsR]
end GL

/-! GLB: documents with bends. -/
namespace GL
local macro_rules | `(tactic| walk_at "ev") => `(tactic| (simp -implicitDefEqProofs (disch := first | omega | assumption | decide | (simp only [mo_split, mo_join, mo_ends, mo_index, mo_part]; done) | (simp only [fixed, deep, D.safe, D.imm, D.imms, List.all_cons, List.all_nil, beq_self_eq_true, Bool.true_or, Bool.or_true, Bool.and_true, Bool.and_self, decide_true, Nat.reduceSub, Nat.reduceBEq, Nat.reduceEqDiff]; done) | (simp only [List.length_map, List.length_range, List.length_cons, List.length_nil, List.length_append]; omega) | fail) only [e_var, e_cst, e_glo, e_tup, e_lst, e_dnew, e_bin, e_neg, e_cmp, e_chain, e_and, e_or, e_not, e_idx, e_sll, e_slu, e_slb, e_call, e_blt, e_mth, e_isi, e_anil, e_acons, q_sl, q_and, q_andF, q_or, q_orT, q_not, q_neg, q_chn, q_sll, q_slu, q_slb, q_acons, q_tup, q_lst, q_call, q_post, q_posts, q_postx, q_blt, q_mth, fixed_nil, fixed_c0, fixed_ct, R.bind_ok, R.bind_ex, opAdd, opSub, opMulR, opMulL, opFdiv, opMod, opAddS, opAddT, cLt, cLe, cGt, cGe, cEqI, cNeI, cEqB, cEqS, cNeS, cInS, cNotInS, cLeS, cLtS, rB_some, rO_some, bLenRo, bLenL, bLenT, bLenS, bTupL, bTupT, bIntB, bMin, bMax, iRoI, iStr, iTup, iLst, slS, slT, isi_bl, isi_int, isi_str, isi_tup, isi_lst, isi_dct, isi_non, List.getElem?_cons_succ, List.getElem?_cons_zero, List.length_map, List.map_cons, List.map_nil, CE.fresh, or_true, true_or, if_true, Bool.not_false, Bool.not_true, List.set_cons_zero, List.set_cons_succ]))
local macro_rules | `(tactic| walk_at "ex") => `(tactic| first | (apply xPure0; walk_at "ev"; done) | (apply xPure0; walk_at "ev"; rfl) | (apply xPureF rfl; walk_at "ev"; done) | (apply xPureF rfl; walk_at "ev"; rfl))
local macro_rules | `(tactic| walk_at "eb") => `(tactic| first | (walk_at "ev"; done) | (walk_at "ev"; rfl))
local macro_rules | `(tactic| walk_at "nx") => `(tactic| (try dsimp only [CSs.app, List.set_cons_zero, List.set_cons_succ, List.cons_append, List.nil_append]))
local macro_rules | `(tactic| walk_at "rs") => `(tactic| first | (simp (decide := true) only [rs, rsA, if_true, if_false]; done) | (simp (decide := true) only [rs, rsA, if_true, if_false]; rfl) | rfl)
def C_law_plain_words : Code := ⟨2, 4, [], (.cons (.eat 0) (.cons (.asg 2 (.pure (.lst 1 (.cons (.cst (.str [115, 97, 121])) (.cons (.cst (.str [116, 101, 108, 108])) (.cons (.cst (.str [112, 97, 114, 116])) (.cons (.cst (.str [101, 110, 100])) (.cons (.cst (.str [97, 108, 108])) (.cons (.cst (.str [104, 101, 114, 101])) (.cons (.cst (.str [101, 108, 115, 101])) (.cons (.cst (.str [110, 111, 110, 101])) (.cons (.cst (.str [116, 101, 120, 116])) (.cons (.cst (.str [117, 110, 100, 111])) .nil))))))))))))) (.cons (.frz 2) (.cons (.ifs (.cmp .eq (.bin .mod (.var 1) (.cst (.int 4))) (.cst (.int 1))) (.cons (.for_ [3] (.rng1 (.bin .add (.cst (.int 2)) (.bin .mod (.bin .fdiv (.var 1) (.cst (.int 4))) (.cst (.int 3))))) [0, 1, 2] (.cons (.setI (.var 0) (.bin .add (.bin .mul (.cst (.int 2)) (.var 3)) (.cst (.int 1))) (.idx (.var 2) (.bin .mod (.bin .add (.bin .fdiv (.var 1) (.cst (.int 12))) (.bin .mul (.cst (.int 3)) (.var 3))) (.cst (.int 10))))) .nil)) .nil) .nil) (.cons (.retv 0) .nil)))))⟩
def C_law_bends (f_mixed : Nat) : Code := ⟨3, 11, [], (.cons (.asg 3 (.pure (.cst (.str sgs)))) (.cons (.asg 4 (.pure (.tup .nil))) (.cons (.asg 5 (.pure (.lst 1 (.cons (.var 0) .nil)))) (.cons (.for_ [6] (.rng1 (.var 2)) [0, 1, 2, 3, 4, 5] (.cons (.asg 1 (.pure (.call f_mixed "_law_mixed" (.cons (.var 1) .nil)))) (.cons (.asg 7 (.pure (.bin .sub (.blt .len (.cons (.var 0) .nil)) (.blt .min2 (.cons (.blt .len (.cons (.var 0) .nil)) (.cons (.idx (.lst 1 (.cons (.cst (.int 0)) (.cons (.cst (.int 1)) (.cons (.cst (.int 2)) (.cons (.cst (.int 20)) .nil))))) (.bin .mod (.var 1) (.cst (.int 4)))) .nil)))))) (.cons (.asg 8 (.pure (.bin .add (.idx (.var 3) (.bin .mod (.bin .fdiv (.var 1) (.cst (.int 4))) (.cst (.int 62)))) (.idx (.var 3) (.bin .mod (.bin .fdiv (.var 1) (.cst (.int 248))) (.cst (.int 62))))))) (.cons (.asg 9 (.pure (.slu (.var 8) (.bin .mod (.bin .fdiv (.var 1) (.cst (.int 15376))) (.cst (.int 3)))))) (.cons (.ifs (.cmp .eq (.bin .mod (.bin .fdiv (.var 1) (.cst (.int 46128))) (.cst (.int 8))) (.cst (.int 1))) (.cons (.asg 9 (.pure (.slu (.bin .add (.var 8) (.bin .mul (.var 0) (.cst (.int 3)))) (.bin .sub (.cst (.int 20)) (.var 7))))) .nil) .nil) (.cons (.asg 10 (.pure (.bin .add (.slu (.var 0) (.var 7)) (.var 9)))) (.cons (.ifs (.and (.cmp .notin (.var 10) (.var 5)) (.chain .le .le (.cst (.int 1)) (.blt .len (.cons (.var 10) .nil)) (.cst (.int 20)))) (.cons (.app (.var 5) (.pure (.var 10))) (.cons (.asg 4 (.pure (.bin .add (.var 4) (.tup (.cons (.tup (.cons (.sll (.var 0) (.var 7)) (.cons (.var 9) .nil))) .nil))))) .nil)) .nil) .nil)))))))) (.cons (.retv 4) .nil)))))⟩
def C_law_thing2 (f_row f_mixed f_bends : Nat) : Code := ⟨4, 9, [], (.cons (.ifs (.cmp .lt (.bin .mod (.var 0) (.cst (.int 9))) (.cst (.int 5))) (.cons (.ret (.pure (.tup (.cons (.cst (.str [115, 97, 121])) (.cons (.var 1) (.cons (.call f_row "_law_row" (.cons (.bin .fdiv (.var 0) (.cst (.int 9))) (.cons (.var 2) (.cons (.var 3) .nil)))) .nil)))))) .nil) .nil) (.cons (.asg 4 (.pure (.idx (.lst 1 (.cons (.cst (.str [97, 108, 108])) (.cons (.cst (.str [112, 97, 114, 116])) (.cons (.cst (.str [104, 101, 114, 101])) (.cons (.cst (.str [101, 108, 115, 101])) .nil))))) (.bin .mod (.bin .fdiv (.var 0) (.cst (.int 9))) (.cst (.int 4)))))) (.cons (.asg 5 (.pure (.call f_mixed "_law_mixed" (.cons (.bin .fdiv (.var 0) (.cst (.int 36))) .nil)))) (.cons (.asg 6 (.pure (.blt .tuple (.cons (.comp 1 [7] (.rng1 (.bin .add (.cst (.int 1)) (.bin .mod (.bin .fdiv (.var 5) (.cst (.int 6))) (.cst (.int 4))))) .nil (.idx (.var 2) (.bin .mod (.bin .fdiv (.var 5) (.bin .add (.bin .mul (.cst (.int 7)) (.var 7)) (.cst (.int 1)))) (.cst (.int 10))))) .nil)))) (.cons (.asg 8 (.pure (.call f_bends "_law_bends" (.cons (.idx (.var 6) (.neg (.cst (.int 1)))) (.cons (.var 5) (.cons (.bin .mod (.var 5) (.cst (.int 6))) .nil)))))) (.cons (.ret (.pure (.tup (.cons (.cst (.str [116, 101, 108, 108])) (.cons (.var 1) (.cons (.var 4) (.cons (.var 6) (.cons (.var 8) (.cons (.call f_row "_law_row" (.cons (.var 5) (.cons (.var 2) (.cons (.var 3) .nil)))) .nil))))))))) .nil))))))⟩
def C_law_document2 (f_plain_words f_menu f_cell f_ended f_number f_thing : Nat) : Code := ⟨2, 10, [], (.cons (.asg 2 (.pure (.eatc f_plain_words "_law_plain_words" (.cons (.call f_menu "_law_menu" (.cons (.var 0) .nil)) (.cons (.bin .fdiv (.call f_cell "_law_cell" (.cons (.var 0) (.cons (.cst (.int 2)) .nil))) (.cst (.int 9))) .nil))))) (.cons (.asg 3 (.pure (.bin .sub (.cst (.int 5)) (.bin .mul (.cst (.int 2)) (.blt .int (.cons (.cmp .eq (.bin .mod (.call f_cell "_law_cell" (.cons (.var 0) (.cons (.cst (.int 3)) .nil))) (.cst (.int 8))) (.cst (.int 1))) .nil)))))) (.cons (.asg 4 (.pure (.lst 1 (.cons (.cst (.int 0)) .nil)))) (.cons (.asg 5 (.pure (.lst 2 (.cons (.lst 1 .nil) .nil)))) (.cons (.asg 6 (.pure (.cst (.int 0)))) (.cons (.for_ [7] (.rng2 (.cst (.int 4)) (.blt .max2 (.cons (.cst (.int 10)) (.cons (.blt .min2 (.cons (.bin .add (.cst (.int 4)) (.var 1)) (.cons (.blt .len (.cons (.var 0) .nil)) .nil))) .nil)))) [0, 1, 2, 3, 4, 5, 6] (.cons (.asg 8 (.pure (.call f_cell "_law_cell" (.cons (.var 0) (.cons (.var 7) .nil))))) (.cons (.ifs (.and (.cmp .eq (.bin .mod (.var 8) (.cst (.int 7))) (.cst (.int 6))) (.cmp .gt (.blt .len (.cons (.var 4) .nil)) (.cst (.int 1)))) (.cons (.expr (.cio f_ended "_law_ended" [(4, true), (5, true)])) .nil) (.cons (.ifs (.and (.chain .le .le (.var 3) (.bin .mod (.var 8) (.cst (.int 7))) (.cst (.int 5))) (.cmp .le (.blt .len (.cons (.var 4) .nil)) (.cst (.int 8)))) (.cons (.app (.var 4) (.pure (.call f_number "_law_number" (.cons (.var 0) (.cons (.var 6) .nil))))) (.cons (.app (.var 5) (.pure (.lst 1 .nil))) (.cons (.asg 6 (.pure (.bin .add (.var 6) (.cst (.int 1))))) .nil))) (.cons (.asg 9 (.pure (.bin .add (.cst (.int 1)) (.bin .mod (.bin .fdiv (.var 8) (.cst (.int 63))) (.cst (.int 6)))))) (.cons (.ifs (.cmp .eq (.var 7) (.bin .add (.cst (.int 4)) (.bin .mod (.bin .fdiv (.call f_cell "_law_cell" (.cons (.var 0) (.cons (.cst (.int 3)) .nil))) (.cst (.int 8))) (.cst (.int 16))))) (.cons (.asg 9 (.pure (.bin .add (.cst (.int 197)) (.bin .fdiv (.bin .add (.var 9) (.cst (.int 1))) (.cst (.int 2)))))) .nil) .nil) (.cons (.app (.idx (.var 5) (.neg (.cst (.int 1)))) (.pure (.call f_thing "_law_thing" (.cons (.bin .fdiv (.var 8) (.cst (.int 7))) (.cons (.call f_number "_law_number" (.cons (.var 0) (.cons (.var 6) .nil))) (.cons (.var 2) (.cons (.var 9) .nil))))))) (.cons (.asg 6 (.pure (.bin .add (.var 6) (.cst (.int 1))))) .nil))))) .nil)) .nil))) (.cons (.whl 1000000 (.cmp .gt (.blt .len (.cons (.var 4) .nil)) (.cst (.int 1))) [0, 1, 2, 3, 4, 5, 6, 7, 8, 9] (.cons (.expr (.cio f_ended "_law_ended" [(4, true), (5, true)])) .nil)) (.cons (.frz 5) (.cons (.ret (.pure (.tup (.cons (.cst (.str [112, 97, 114, 116])) (.cons (.cst (.int 0)) (.cons (.blt .tuple (.cons (.idx (.var 5) (.cst (.int 0))) .nil)) .nil)))))) .nil)))))))))⟩
theorem s_eat {F : Fn} {Q : SR → Prop} {i : Nat} {ss : CSs} {Γ : Env} (k : Wp F Q ss Γ) : Wp F Q (.cons (.eat i) ss) Γ := by
  unfold Wp at k ⊢
  simp only [evSs, evS]
  exact k
theorem ev_eatc {F : Fn} {Γ : Env} {f : Nat} {x : String} {es : CEs} {d : D} {n : Nat} {vs : List (D × Nat × Bool)} {d' : D} {n' : Nat} {os : List (D × Nat)} (h : evA F es Γ = .ok ((d, n, true) :: vs)) (hs : vs.all (fun v => v.1.scal) = true) (hr : F f ((d, n) :: vs.map fun v => (v.1, 0)) = .ok d' n' os) : ev F (.eatc f x es) Γ = .ok d' n' := by
  simp only [ev, h, hs, hr, and_self, if_true]
theorem opMulS (a : Tx) (k : Int) (n m : Nat) (h1 : 2 ≤ k) (h2 : k ≤ 1000) (h3 : 1 ≤ a.length) (h4 : a.length ≤ 1000) : opBin .mul (.str a) n (.int k) m = .ok (.str (List.replicate k.toNat a).flatten) 0 := by
  simp only [opBin]
  rw [if_pos ⟨⟨h1, h2⟩, h3, h4⟩]
theorem cInLs (f : Tx) (l : List Tx) : opCmp .in_ (.str f) (.lst (l.map D.str)) = some (decide (f ∈ l)) := by
  have h1 : D.flat 64 (.str f) = true := rfl
  have h2 : D.flats 63 (l.map D.str) = true := flats_strs 63 l
  show (if D.flat 64 (.str f) && D.flats 63 (l.map D.str) then some ((l.map D.str).any fun z => z.peq (.str f)) else none) = _
  rw [h1, h2, Bool.and_self, if_pos rfl, List.any_map]
  congr 1
  induction l with
  | nil => rfl
  | cons q l ih =>
    rw [List.any_cons, ih (flats_strs 63 l), Function.comp_apply]
    show (decide (q = f) || _) = _
    by_cases e : q = f
    · subst e; simp
    · have e2 : ¬ f = q := fun z => e z.symm
      simp [e, e2]
theorem cNotInLs (f : Tx) (l : List Tx) : opCmp .notin (.str f) (.lst (l.map D.str)) = some (!decide (f ∈ l)) := by
  have := cInLs f l
  simp only [opCmp] at this ⊢
  rw [this]; rfl
def plainW : List Tx := [[115, 97, 121], [116, 101, 108, 108], [112, 97, 114, 116], [101, 110, 100], [97, 108, 108], [104, 101, 114, 101], [101, 108, 115, 101], [110, 111, 110, 101], [116, 101, 120, 116], [117, 110, 100, 111]]
theorem plainW_word : ∀ t ∈ plainW, word t = true := by decide
theorem plain_at {cs : List Code} {c k : Nat} (hc : cs[c]? = some C_law_plain_words) (hk : 1 ≤ k) (M : List Tx) (hM : M.length = 10) (hw : ∀ t ∈ M, word t = true) (x : Int) :
    ∃ M' : List Tx, M'.length = 10 ∧ (∀ t ∈ M', word t = true) ∧ Fk cs k c [(.lst (M.map D.str), 1), (.int x, 0)] = .ok (.lst (M'.map D.str)) 1 [] := by
  rw [Fk_at (by omega) hc]
  refine run_of (P := fun r => ∃ M' : List Tx, M'.length = 10 ∧ (∀ t ∈ M', word t = true) ∧ r = .ok (.lst (M'.map D.str)) 1 []) rfl rfl ?_
  simp only [GL.start, C_law_plain_words, List.map_cons, List.map_nil, List.replicate, List.cons_append, List.nil_append, Nat.reduceSub]
  refine s_eat ?_
  refine s_asg (d := .lst (plainW.map D.str)) (n := 1) (xPureF rfl (by walk_at "ev"; rfl)) ?_
  walk_at "nx"
  refine s_frz rfl ?_
  walk_at "nx"
  refine s_if (by walk_at "eb") (fun _ => ?_) (fun _ => ?_)
  · walk_at "nx"
    have v1 : 0 ≤ x / 4 % 3 := Int.emod_nonneg _ (by omega)
    have v2 : x / 4 % 3 < 3 := Int.emod_lt_of_pos _ (by omega)
    refine s_for (α := List Tx) (i_rng1 (by walk_at "eb") (by omega) (by omega)) (fun M' => [some (.lst (M'.map D.str), 1), some (.int x, 0), some (.lst (plainW.map D.str), 0), none]) (fun i M' => M'.length = 10 ∧ ∀ t ∈ M', word t = true) M (by walk_at "rs") ⟨hM, hw⟩ ?_ ?_
    · rintro i y M' hx ⟨h1, h2⟩
      rw [List.getElem?_map] at hx
      obtain ⟨j, hj, rfl⟩ := Option.map_eq_some_iff.mp hx
      obtain ⟨hi, rfl⟩ := List.getElem?_eq_some_iff.mp hj
      rw [List.length_range] at hi
      rw [List.getElem_range]
      refine ⟨_, setT_one _ _ _, ?_⟩
      walk_at "nx"
      have w1 : 0 ≤ (x / 12 + 3 * (0 + (i : Int))) % 10 := Int.emod_nonneg _ (by omega)
      have w2 : (x / 12 + 3 * (0 + (i : Int))) % 10 < 10 := Int.emod_lt_of_pos _ (by omega)
      have ix := iStrs plainW 0 ((x / 12 + 3 * (0 + (i : Int))) % 10) w1 (by show _ < (10 : Int); omega)
      have ixm := getD_mem (l := plainW) (i := ((x / 12 + 3 * (0 + (i : Int))) % 10).toNat) (d := []) (by show _ < 10; omega)
      generalize plainW.getD ((x / 12 + 3 * (0 + (i : Int))) % 10).toNat [] = w at ix ixm
      have hin : ixN (M'.map D.str).length (2 * (0 + (i : Int)) + 1) = some (2 * i + 1) := by
        rw [List.length_map, h1]
        unfold ixN
        rw [if_pos (by omega), if_pos (by omega)]
        congr 1
        omega
      refine s_setI (d := .str w) (n := 0) (e := .lst (M'.map D.str)) (m := 0) (kd := .int (2 * (0 + (i : Int)) + 1)) (kn := 0) (Γ2 := [some (.lst ((M'.set (2 * i + 1) w).map D.str), 1), some (.int x, 0), some (.lst (plainW.map D.str), 0), some (.int (0 + (i : Int)), 0)]) ?_ rfl (by walk_at "ev") ?_ ?_
      · simp -implicitDefEqProofs only [e_idx, e_bin, e_var, e_cst, List.getElem?_cons_zero, List.getElem?_cons_succ, q_sl, GL.R.bind_ok]
        rw [opFdiv _ _ _ _ (by omega) (by omega), GL.R.bind_ok, opMulR _ _ _ _ (by omega) (by omega), GL.R.bind_ok, opAdd, GL.R.bind_ok, opMod _ _ _ _ (by omega), GL.R.bind_ok]
        exact ix
      · simp only [path, modE, modS, List.getElem?_cons_zero, modP, setD, GL.own, true_or, if_true, hin, Option.map_some, List.set_cons_zero, List.map_set]
      · refine s_nil ⟨M'.set (2 * i + 1) w, by simp [rs, rsA], by rw [List.length_set, h1], fun t ht => ?_⟩
        rcases List.mem_or_eq_of_mem_set ht with ht | ht
        · exact h2 t ht
        · rw [ht]; exact plainW_word w ixm
    · rintro M' ⟨h1, h2⟩
      refine s_retv (d := .lst (M'.map D.str)) (n := 1) rfl ?_
      exact ⟨M', h1, h2, rfl⟩
  · walk_at "nx"
    refine s_retv (d := .lst (M.map D.str)) (n := 1) rfl ?_
    exact ⟨M, hM, hw, rfl⟩
theorem formsV_snoc (init : List Tx) (last : Tx) (q : Tx × Tx) : ∀ (b : List (Tx × Tx)) (acc : List (List Tx)), formsV init last (b ++ [q]) acc = (formsV init last b acc).bind fun l => match dueV init last q.1 q.2 with
    | some P => if P ∈ l then none else some (l ++ [P])
    | none => none
  | [], acc => by
    simp only [List.nil_append, formsV, Option.bind_some]
    try (cases dueV init last q.1 q.2 <;> rfl)
  | p :: b, acc => by
    simp only [List.cons_append, formsV]
    cases dueV init last p.1 p.2 with
    | none => rfl
    | some P =>
      simp only
      by_cases h : P ∈ acc
      · simp only [if_pos h]; rfl
      · simp only [if_neg h]; exact formsV_snoc init last q b _
/-- a bend's two texts -/
def okBend (q : Tx × Tx) : Prop := q.1.length ≤ 20 ∧ q.2.length ≤ 20 ∧ q.1.all good = true ∧ q.2.all good = true
theorem all_take {p : Nat → Bool} {t : Tx} (n : Nat) (h : t.all p = true) : (t.take n).all p = true := by
  rw [List.all_eq_true] at h ⊢
  exact fun x hx => h x (List.mem_of_mem_take hx)
theorem all_drop {p : Nat → Bool} {t : Tx} (n : Nat) (h : t.all p = true) : (t.drop n).all p = true := by
  rw [List.all_eq_true] at h ⊢
  exact fun x hx => h x (List.mem_of_mem_drop hx)
theorem sgs_good {t : Nat} (h : t ∈ sgs) : good t = true := decide_eq_true h
theorem bends_at {cs : List Code} {c fm k : Nat} (hc : cs[c]? = some (C_law_bends fm)) (h2 : cs[fm]? = some C_law_mixed) (hk : 2 ≤ k) (last : Tx) (hl1 : 1 ≤ last.length) (hl2 : last.length ≤ 20) (hg : last.all good = true) (e many : Int) (h0 : 0 ≤ many) (h1 : many ≤ 5) :
    ∃ b : List (Tx × Tx), b.length ≤ 5 ∧ (∀ q ∈ b, okBend q) ∧ (∀ init, ∃ l, formsV init last b [init ++ [last]] = some l) ∧ Fk cs k c [(.str last, 0), (.int e, 0), (.int many, 0)] = .ok (.tup (b.map bD)) 0 [] := by
  have hmx := fun n => mixed_at h2 (k := k - 1) (by omega) n
  rw [Fk_at (by omega) hc]
  refine run_of (P := fun r => ∃ b : List (Tx × Tx), b.length ≤ 5 ∧ (∀ q ∈ b, okBend q) ∧ (∀ init, ∃ l, formsV init last b [init ++ [last]] = some l) ∧ r = .ok (.tup (b.map bD)) 0 []) rfl rfl ?_
  simp only [GL.start, C_law_bends, List.map_cons, List.map_nil, List.replicate, List.cons_append, List.nil_append, Nat.reduceSub]
  refine s_asg (d := .str sgs) (n := 0) (xPure0 rfl) ?_
  walk_at "nx"
  refine s_asg (by walk_at "ex") ?_
  walk_at "nx"
  refine s_asg (by walk_at "ex") ?_
  walk_at "nx"
  refine s_for (α := Int × List (Tx × Tx) × List Tx) (i_rng1 (by walk_at "eb") (by omega) (by omega)) (fun a => [some (.str last, 0), some (.int a.1, 0), some (.int many, 0), some (.str sgs, 0), some (.tup (a.2.1.map bD), 0), some (.lst (a.2.2.map D.str), 1), none, none, none, none, none])
    (fun i a => a.2.1.length ≤ i ∧ (∀ q ∈ a.2.1, okBend q) ∧ a.2.2.length = a.2.1.length + 1 ∧ ∀ init, formsV init last a.2.1 [init ++ [last]] = some (a.2.2.map fun f => init ++ [f])) (e, [], [last]) (by walk_at "rs") ⟨Nat.le_refl _, by simp, rfl, fun init => rfl⟩ ?_ ?_
  · rintro i x ⟨e, b, known⟩ hx ⟨ib, ok, il, ifo⟩
    rw [List.getElem?_map] at hx
    obtain ⟨j, hj, rfl⟩ := Option.map_eq_some_iff.mp hx
    obtain ⟨hi, rfl⟩ := List.getElem?_eq_some_iff.mp hj
    rw [List.length_range] at hi
    rw [List.getElem_range]
    dsimp only at ib ok il ifo ⊢
    refine ⟨_, setT_one _ _ _, ?_⟩
    walk_at "nx"
    refine s_asg (by apply xPure0; walk_at "ev"; simp only [hmx]; walk_at "eb") ?_
    walk_at "nx"
    generalize mixed e = e
    have w1 : 0 ≤ e % 4 := Int.emod_nonneg _ (by omega)
    have w2 : e % 4 < 4 := Int.emod_lt_of_pos _ (by omega)
    obtain ⟨v, v0, ix⟩ : ∃ v : Int, 0 ≤ v ∧ opIdx (.lst [.int 0, .int 1, .int 2, .int 20]) 1 (.int (e % 4)) = .ok (.int v) 0 := by
      rcases (show e % 4 = 0 ∨ e % 4 = 1 ∨ e % 4 = 2 ∨ e % 4 = 3 by omega) with h | h | h | h
      · exact ⟨0, by omega, by rw [h]; rfl⟩
      · exact ⟨1, by omega, by rw [h]; rfl⟩
      · exact ⟨2, by omega, by rw [h]; rfl⟩
      · exact ⟨20, by omega, by rw [h]; rfl⟩
    obtain ⟨left, hleft, hle⟩ : ∃ left : Nat, left ≤ last.length ∧ (last.length : Int) - min (last.length : Int) v = left := ⟨((last.length : Int) - min (last.length : Int) v).toNat, by omega, by omega⟩
    refine s_asg (d := .int left) (n := 0) (xPure0 (by
      rw [← hle]
      simp -implicitDefEqProofs only [e_bin, e_blt, e_acons, e_anil, e_idx, e_lst, e_var, e_cst, List.getElem?_cons_zero, List.getElem?_cons_succ, q_sl, GL.R.bind_ok, q_acons, CE.fresh]
      rw [q_lst _ _ rfl, GL.R.bind_ok, opMod _ _ _ _ (by omega), GL.R.bind_ok]
      simp -implicitDefEqProofs only [q_blt, List.map_cons, List.map_nil]
      rw [ix, bLenS _ _ _ (by omega)]
      simp -implicitDefEqProofs only [GL.R.bind_ok, q_acons, q_blt]
      rw [bMin, GL.R.bind_ok, opSub])) ?_
    walk_at "nx"
    have p1 : 0 ≤ e / 4 % 62 := Int.emod_nonneg _ (by omega)
    have p2 : e / 4 % 62 < 62 := Int.emod_lt_of_pos _ (by omega)
    have p3 : 0 ≤ e / 248 % 62 := Int.emod_nonneg _ (by omega)
    have p4 : e / 248 % 62 < 62 := Int.emod_lt_of_pos _ (by omega)
    have j1 := iStr sgs 0 (e / 4 % 62) p1 (by show _ < (62 : Int); omega) (by decide)
    have j2 := iStr sgs 0 (e / 248 % 62) p3 (by show _ < (62 : Int); omega) (by decide)
    have m1 := getD_mem (l := sgs) (i := (e / 4 % 62).toNat) (d := 0) (by show _ < 62; omega)
    have m2 := getD_mem (l := sgs) (i := (e / 248 % 62).toNat) (d := 0) (by show _ < 62; omega)
    generalize sgs.getD (e / 4 % 62).toNat 0 = c1 at j1 m1
    generalize sgs.getD (e / 248 % 62).toNat 0 = c2 at j2 m2
    have gp : [c1, c2].all good = true := by simp [sgs_good m1, sgs_good m2]
    refine s_asg (d := .str [c1, c2]) (n := 0) (xPure0 (by
      simp -implicitDefEqProofs only [e_bin, e_idx, e_var, e_cst, List.getElem?_cons_zero, List.getElem?_cons_succ, q_sl, GL.R.bind_ok]
      rw [opFdiv _ _ _ _ (by omega) (by omega), GL.R.bind_ok, opMod _ _ _ _ (by omega), GL.R.bind_ok, opFdiv _ _ _ _ (by omega) (by omega), GL.R.bind_ok, opMod _ _ _ _ (by omega), GL.R.bind_ok, j1, j2, GL.R.bind_ok, GL.R.bind_ok, opAddS _ _ _ _ (by simp)]
      rfl)) ?_
    walk_at "nx"
    have r1 : 0 ≤ e / 15376 % 3 := Int.emod_nonneg _ (by omega)
    have r2 : e / 15376 % 3 < 3 := Int.emod_lt_of_pos _ (by omega)
    refine s_asg (by walk_at "ex") ?_
    walk_at "nx"
    have rest : ∀ put : Tx, put.length ≤ 20 → put.all good = true → Wp (Fk cs (k - 1)) (Turn (fun r => ∃ b : List (Tx × Tx), b.length ≤ 5 ∧ (∀ q ∈ b, okBend q) ∧ (∀ init, ∃ l, formsV init last b [init ++ [last]] = some l) ∧ fin [] r = .ok (.tup (b.map bD)) 0 []) [0, 1, 2, 3, 4, 5] (fun a : Int × List (Tx × Tx) × List Tx => [some (.str last, 0), some (.int a.1, 0), some (.int many, 0), some (.str sgs, 0), some (.tup (a.2.1.map bD), 0), some (.lst (a.2.2.map D.str), 1), none, none, none, none, none])
        (fun a => a.2.1.length ≤ i + 1 ∧ (∀ q ∈ a.2.1, okBend q) ∧ a.2.2.length = a.2.1.length + 1 ∧ ∀ init, formsV init last a.2.1 [init ++ [last]] = some (a.2.2.map fun f => init ++ [f])))
        (.cons (.asg 10 (.pure (.bin .add (.slu (.var 0) (.var 7)) (.var 9)))) (.cons (.ifs (.and (.cmp .notin (.var 10) (.var 5)) (.chain .le .le (.cst (.int 1)) (.blt .len (.cons (.var 10) .nil)) (.cst (.int 20)))) (.cons (.app (.var 5) (.pure (.var 10))) (.cons (.asg 4 (.pure (.bin .add (.var 4) (.tup (.cons (.tup (.cons (.sll (.var 0) (.var 7)) (.cons (.var 9) .nil))) .nil))))) .nil)) .nil) .nil))
        [some (.str last, 0), some (.int e, 0), some (.int many, 0), some (.str sgs, 0), some (.tup (b.map bD), 0), some (.lst (known.map D.str), 1), some (.int (0 + (i : Int)), 0), some (.int left, 0), some (.str [c1, c2], 0), some (.str put, 0), none] := by
      intro put pl pg
      have ec : GL.cut last none (some (left : Int)) = last.take left := by rw [cut_to _ _ (by omega)]; rfl
      have ec2 : GL.cut last (some (left : Int)) none = last.drop left := by rw [cut_from _ _ (by omega)]; rfl
      have hl4 : (last.take left).length + put.length ≤ 16777216 := by rw [List.length_take]; omega
      refine s_asg (d := .str (last.take left ++ put)) (n := 0) (xPure0 (by walk_at "ev"; rw [ec]; exact opAddS _ _ _ _ hl4)) ?_
      walk_at "nx"
      have fl : (last.take left ++ put).length = left + put.length := by rw [List.length_append, List.length_take]; omega
      generalize hf : last.take left ++ put = f at fl
      have hni := cNotInLs f known
      refine s_if (t := (!decide (f ∈ known)) && (decide (1 ≤ f.length) && decide (f.length ≤ 20))) (n := 0) (by
        have hfl : f.length ≤ 16777216 := by omega
        walk_at "ev"
        rw [hni]
        walk_at "ev"
        congr 2
        congr 1
        congr 1 <;> (congr 1; apply propext; omega)) (fun h => ?_) (fun _ => ?_)
      · simp only [Bool.and_eq_true, Bool.not_eq_true', decide_eq_false_iff_not, decide_eq_true_eq] at h
        obtain ⟨h5, h6, h7⟩ := h
        walk_at "nx"
        refine s_appv (x := .str f) (m := 0) rfl (by walk_at "ex") rfl (by rw [List.length_map]; omega) ?_
        walk_at "nx"
        refine s_asg (d := .tup ((b ++ [(last.drop left, put)]).map bD)) (n := 0) (xPure0 (by walk_at "ev"; rw [ec2]; rw [List.map_append]; rfl)) ?_
        walk_at "nx"
        refine s_nil ⟨(e, b ++ [(last.drop left, put)], known ++ [f]), by simp [rs, rsA], ?_, fun q hq => ?_, ?_, fun init => ?_⟩
        · simp; omega
        · rcases List.mem_append.mp hq with hq | hq
          · exact ok q hq
          · rw [List.mem_singleton.mp hq]
            exact ⟨by show (last.drop left).length ≤ 20; rw [List.length_drop]; omega, pl, all_drop left hg, pg⟩
        · simp [il]
        · rw [formsV_snoc, ifo init, Option.bind_some]
          have hdl : last.length - (last.drop left).length = left := by rw [List.length_drop]; omega
          have hdue : dueV init last (last.drop left) put = some (init ++ [f]) := by
            unfold dueV
            rw [hdl, if_pos ⟨by rw [List.length_drop]; omega, rfl, by omega, by omega⟩, hf]
          rw [hdue]
          have hnm : ¬ (init ++ [f]) ∈ known.map fun f => init ++ [f] := by
            intro z
            obtain ⟨g, hg1, hg2⟩ := List.mem_map.mp z
            have := List.append_cancel_left hg2
            simp at this
            exact h5 (this ▸ hg1)
          simp only [if_neg hnm, List.map_append, List.map_cons, List.map_nil]
      · walk_at "nx"
        exact s_nil ⟨(e, b, known), by simp [rs, rsA], Nat.le_succ_of_le ib, ok, il, ifo⟩
    have cl0 := cut_len [c1, c2] none (some (e / 15376 % 3))
    have cg0 : (GL.cut [c1, c2] none (some (e / 15376 % 3))).all good = true := by rw [cut_to _ _ r1]; exact all_take _ gp
    refine s_if (by walk_at "eb") (fun _ => ?_) (fun _ => ?_)
    · walk_at "nx"
      have gr : (List.replicate (3 : Int).toNat last).flatten.all good = true := by
        show (List.replicate 3 last).flatten.all good = true
        simp [List.replicate, hg]
      have lr : (List.replicate (3 : Int).toNat last).flatten.length = 3 * last.length := by
        show (List.replicate 3 last).flatten.length = _
        simp [List.replicate]; omega
      have hm := opMulS last 3 0 0 (by omega) (by omega) hl1 (by omega)
      generalize (List.replicate (3 : Int).toNat last).flatten = rep at gr lr hm
      have lq : [c1, c2].length + rep.length ≤ 16777216 := by rw [lr]; simp; omega
      refine s_asg (d := .str (([c1, c2] ++ rep).take (20 - left))) (n := 0) (xPure0 (by
        walk_at "ev"
        rw [hm]
        walk_at "ev"
        rw [cut_to _ _ (by omega)]
        congr 3
        omega)) ?_
      walk_at "nx"
      refine rest _ (by rw [List.length_take]; omega) (all_take _ ?_)
      show ([c1, c2] ++ rep).all good = true
      rw [List.all_append, gp, gr]; rfl
    · walk_at "nx"
      exact rest _ (by simp at cl0; omega) cg0
  · rintro ⟨e, b, known⟩ ⟨ib, ok, il, ifo⟩
    rw [List.length_map, List.length_range] at ib
    dsimp only at ib ok il ifo ⊢
    refine s_retv (d := .tup (b.map bD)) (n := 0) rfl ?_
    exact ⟨b, by omega, ok, fun init => ⟨_, ifo init⟩, rfl⟩
/-- what is no part -/
def Th.leaf2 (M : List Tx) : Th → Prop
  | .say _ row => okRow M row
  | .tell _ s p b row => s ∈ scopes ∧ (∃ (i : List Tx) (l : Tx), p = i ++ [l] ∧ i.length ≤ 3 ∧ ∃ fs, formsV i l b [p] = some fs) ∧ (∀ t ∈ p, t ∈ M) ∧ (b.length ≤ 5 ∧ ∀ q ∈ b, okBend q) ∧ okRow M row
  | .part _ _ => False
theorem opMod' (a b : Int) (n m : Nat) (h : 0 < b) : opBin .mod (.int a) n (.int b) m = .ok (.int (a % b)) 0 := opMod _ _ _ _ h
theorem thing2_at {cs : List Code} {c fr fm fb k : Nat} (hc : cs[c]? = some (C_law_thing2 fr fm fb)) (h1 : cs[fr]? = some (C_law_row fm)) (h2 : cs[fm]? = some C_law_mixed) (h3 : cs[fb]? = some (C_law_bends fm)) (hk : 3 ≤ k) (x n many : Int) (M : List Tx) (hM : M.length = 10) (hw : ∀ t ∈ M, word t = true) (h0 : 1 ≤ many) (hm : many ≤ 200) :
    ∃ t : Th, t.leaf2 M ∧ t.num = n ∧ Fk cs k c [(.int x, 0), (.int n, 0), (.lst (M.map D.str), 0), (.int many, 0)] = .ok t.D 0 [] := by
  rw [Fk_at (by omega) hc]
  by_cases hx : x % 9 < 5
  · obtain ⟨R, r1, r2, r3⟩ := row_at h1 h2 (k := k - 1) (by omega) (x / 9) many M hM (by omega) (by omega)
    refine ⟨.say n R, ⟨by omega, by omega, r2⟩, rfl, ?_⟩
    refine run_of (P := fun r => r = _) rfl rfl ?_
    simp only [GL.start, C_law_thing2, List.map_cons, List.map_nil, List.replicate, List.cons_append, List.nil_append, Nat.reduceSub]
    refine s_if (by walk_at "eb") (fun _ => ?_) (fun h => absurd hx (of_decide_eq_false h))
    walk_at "nx"
    refine s_ret (d := (Th.say n R).D) (n := 0) (by apply xPure0; walk_at "ev"; simp only [r3]; walk_at "ev"; rfl) ?_
    simp only [fin, rr, outs]
  · have hmx := mixed_at h2 (k := k - 1) (by omega) (x / 36)
    have mb := mixed_b (x / 36)
    generalize mixed (x / 36) = f at hmx mb
    obtain ⟨R, r1, r2, r3⟩ := row_at h1 h2 (k := k - 1) (by omega) f many M hM (by omega) (by omega)
    have a1 : 0 ≤ x / 9 % 4 := Int.emod_nonneg _ (by omega)
    have a2 : x / 9 % 4 < 4 := Int.emod_lt_of_pos _ (by omega)
    have sc := iStrs scopes 1 (x / 9 % 4) a1 a2
    have scm := getD_mem (l := scopes) (i := (x / 9 % 4).toNat) (d := []) (by show _ < 4; omega)
    generalize scopes.getD (x / 9 % 4).toNat [] = s at sc scm
    have b1 : 0 ≤ f / 6 % 4 := Int.emod_nonneg _ (by omega)
    have b2 : f / 6 % 4 < 4 := Int.emod_lt_of_pos _ (by omega)
    have d1 : 0 ≤ f % 6 := Int.emod_nonneg _ (by omega)
    have d2 : f % 6 < 6 := Int.emod_lt_of_pos _ (by omega)
    let pick : Nat → Tx := fun j => M.getD (f / (7 * (0 + (j : Int)) + 1) % 10).toNat []
    have pickM : ∀ j, pick j ∈ M := fun j => getD_mem (l := M) (by
      have := Int.emod_nonneg (f / (7 * (0 + (j : Int)) + 1)) (show (10 : Int) ≠ 0 by omega)
      have := Int.emod_lt_of_pos (f / (7 * (0 + (j : Int)) + 1)) (show (0 : Int) < 10 by omega)
      omega)
    obtain ⟨init, last, hp⟩ := last1 (l := (List.range (1 + f / 6 % 4).toNat).map pick) (by rw [List.length_map, List.length_range]; omega)
    have hpl : init.length + 1 = (1 + f / 6 % 4).toNat := by
      have := congrArg List.length hp
      rw [List.length_map, List.length_range, List.length_append] at this
      simpa using this.symm
    have hpm : ∀ t ∈ init ++ [last], t ∈ M := by
      rw [← hp]
      intro t ht
      obtain ⟨j, _, rfl⟩ := List.mem_map.mp ht
      exact pickM j
    have lw := hw last (hpm last (by simp))
    simp only [word, Bool.and_eq_true, decide_eq_true_eq] at lw
    obtain ⟨b, hb1, hb2, hb3, hb4⟩ := bends_at h3 h2 (k := k - 1) (by omega) last lw.2.1 lw.2.2 lw.1 f (f % 6) (by omega) (by omega)
    obtain ⟨fs, hfs⟩ := hb3 init
    refine ⟨.tell n s (init ++ [last]) b R, ⟨scm, ⟨init, last, rfl, by omega, fs, hfs⟩, hpm, ⟨hb1, hb2⟩, ⟨by omega, by omega, r2⟩⟩, rfl, ?_⟩
    refine run_of (P := fun r => r = _) rfl rfl ?_
    simp only [GL.start, C_law_thing2, List.map_cons, List.map_nil, List.replicate, List.cons_append, List.nil_append, Nat.reduceSub]
    refine s_if (by walk_at "eb") (fun h => absurd (of_decide_eq_true h) hx) (fun _ => ?_)
    walk_at "nx"
    refine s_asg (d := .str s) (n := 0) (xPure0 (by
      simp -implicitDefEqProofs only [e_idx, e_lst, e_bin, e_var, e_cst, e_acons, e_anil, List.getElem?_cons_zero, List.getElem?_cons_succ, q_sl, GL.R.bind_ok, q_acons, CE.fresh]
      rw [q_lst _ _ rfl, GL.R.bind_ok, opFdiv _ _ _ _ (by omega) (by omega), GL.R.bind_ok, opMod _ _ _ _ (by omega), GL.R.bind_ok]
      exact sc)) ?_
    walk_at "nx"
    refine s_asg (d := .int f) (n := 0) (by apply xPure0; walk_at "ev"; simp only [hmx]; walk_at "ev") ?_
    walk_at "nx"
    refine s_asg (d := .tup ((init ++ [last]).map D.str)) (n := 0) (xPure0 (by
      rw [e_blt, e_acons, e_comp (l := List.range (1 + f / 6 % 4).toNat) (mk := fun k : Nat => .int (0 + (k : Int))) (g := D.str ∘ pick) (i_rng1 (by walk_at "eb") (by omega) (by omega)) (fun j hj => ⟨_, 0, setT_one _ _ _, by
        rw [List.mem_range] at hj
        dsimp only [wipeG, List.foldr, List.foldl, List.set_cons_zero, List.set_cons_succ]
        have w1 := Int.emod_nonneg (f / (7 * (0 + (j : Int)) + 1)) (show (10 : Int) ≠ 0 by omega)
        have w2 := Int.emod_lt_of_pos (f / (7 * (0 + (j : Int)) + 1)) (show (0 : Int) < 10 by omega)
        have ix := iStrs M 0 (f / (7 * (0 + (j : Int)) + 1) % 10) w1 (by omega)
        simp -implicitDefEqProofs only [e_idx, e_bin, e_var, e_cst, List.getElem?_cons_zero, List.getElem?_cons_succ, q_sl, GL.R.bind_ok]
        rw [opMulR _ _ _ _ (by omega) (by omega), GL.R.bind_ok, opAdd, GL.R.bind_ok, opFdiv _ _ _ _ (by omega) (by omega), GL.R.bind_ok, opMod _ _ _ _ (by omega), GL.R.bind_ok]
        exact ix, rfl⟩) (by rw [List.length_range]; omega)]
      simp -implicitDefEqProofs only [e_anil, q_acons, GL.R.bind_ok, q_blt, CE.fresh]
      rw [← List.map_map, hp]
      first | rfl | (rw [bTupL _ _ _ (by omega)]))) ?_
    walk_at "nx"
    have il : opIdx (.tup ((init ++ [last]).map D.str)) 0 (.int (-1)) = .ok (.str last) 0 := by
      rw [List.map_append]; exact opIdxLastT _ _ _
    refine s_asg (d := .tup (b.map bD)) (n := 0) (xPure0 (by
      simp -implicitDefEqProofs only [e_call, e_acons, e_anil, e_bin, e_idx, e_var, e_neg, e_cst, q_neg, List.getElem?_cons_zero, List.getElem?_cons_succ, q_sl, GL.R.bind_ok, q_acons, CE.fresh, il]
      rw [opMod _ _ _ _ (by omega)]
      simp -implicitDefEqProofs only [q_acons, q_call, List.map_cons, List.map_nil, hb4]
      rfl)) ?_
    walk_at "nx"
    refine s_ret (d := (Th.tell n s (init ++ [last]) b R).D) (n := 0) (by apply xPure0; walk_at "ev"; simp only [r3]; walk_at "ev"; rfl) ?_
    simp only [fin, rr, outs]
mutual
/-- all in it that is no part is of the menu -/
def Th.ok2 (M : List Tx) : Th → Prop
  | .part _ ks => Th.ok2s M ks
  | .say n row => Th.leaf2 M (.say n row)
  | .tell n s p b row => Th.leaf2 M (.tell n s p b row)
def Th.ok2s (M : List Tx) : List Th → Prop
  | [] => True
  | t :: ts => t.ok2 M ∧ Th.ok2s M ts
end
theorem Th.ok2s_app (M : List Tx) : ∀ a b : List Th, Th.ok2s M (a ++ b) ↔ Th.ok2s M a ∧ Th.ok2s M b
  | [], _ => by simp [Th.ok2s]
  | t :: ts, b => by rw [List.cons_append, Th.ok2s, Th.ok2s_app M ts b, Th.ok2s, and_assoc]
theorem Th.leaf2_ok {M : List Tx} {t : Th} (h : t.leaf2 M) : t.ok2 M ∧ t.depth = 0 ∧ t.size = 1 ∧ t.nums = [t.num] := by
  cases t with
  | say n r => exact ⟨h, rfl, rfl, rfl⟩
  | tell n s p b r => exact ⟨h, rfl, rfl, rfl⟩
  | part n ks => exact h.elim
/-- the parts that are begun, the outermost first -/
structure DocS2 (ns : List Int) (M : List Tx) (nums : List Int) (inner : List (List Th)) (many : Nat) : Prop where
  len : nums.length = inner.length
  few : inner.length ≤ 9
  ne : 1 ≤ inner.length
  zero : nums.head? = some 0
  ok : ∀ ts ∈ inner, Th.ok2s M ts
  dep : ∀ (j : Nat) (ts : List Th), inner[j]? = some ts → Th.depths ts + j ≤ 8
  cnt : (inner.map Th.sizes).sum + inner.length = many + 1
  perm : ((inner.map Th.numss).flatten ++ nums.tail).Perm ((List.range many).map fun m : Nat => num ns (m : Int))
theorem DocS2.begin {ns : List Int} {M : List Tx} {nums : List Int} {inner : List (List Th)} {many : Nat} (s : DocS2 ns M nums inner many) (h : inner.length ≤ 8) : DocS2 ns M (nums ++ [num ns (many : Int)]) (inner ++ [[]]) (many + 1) where
  len := by simp [s.len]
  few := by simp; omega
  ne := by simp
  zero := by have := s.zero; cases h : nums <;> simp_all
  ok := fun ts h => by
    rcases List.mem_append.mp h with h | h
    · exact s.ok ts h
    · rw [List.mem_singleton.mp h]; trivial
  dep := fun j ts h => by
    by_cases hj : j < inner.length
    · rw [List.getElem?_append_left hj] at h; exact s.dep j ts h
    · have : j = inner.length := by
        have := (List.getElem?_eq_some_iff.mp h).1
        simp at this; omega
      subst this
      simp at h; subst h; simp [Th.depths]; omega
  cnt := by have := s.cnt; simp [Th.sizes] at this ⊢; omega
  perm := by
    have hne : nums ≠ [] := fun z => by have := s.zero; rw [z] at this; cases this
    rw [List.map_append, List.flatten_append, List.range_succ, List.map_append]
    have e : ([[]].map Th.numss).flatten = ([] : List Int) := rfl
    rw [e, List.append_nil, List.tail_append_of_ne_nil hne, ← List.append_assoc]
    exact List.Perm.append s.perm (List.Perm.refl _)
theorem DocS2.add {ns : List Int} {M : List Tx} {nums : List Int} {L : List (List Th)} {x : List Th} {many : Nat} (s : DocS2 ns M nums (L ++ [x]) many) {t : Th} (ht : t.leaf2 M) (hn : t.num = num ns (many : Int)) : DocS2 ns M nums (L ++ [x ++ [t]]) (many + 1) where
  len := by have := s.len; simp at this ⊢; exact this
  few := by have := s.few; simp at this ⊢; exact this
  ne := by simp
  zero := s.zero
  ok := fun ts h => by
    rcases List.mem_append.mp h with h | h
    · exact s.ok ts (List.mem_append_left _ h)
    · rw [List.mem_singleton.mp h, Th.ok2s_app]
      exact ⟨s.ok x (by simp), (Th.leaf2_ok ht).1, trivial⟩
  dep := fun j ts h => by
    by_cases hj : j < L.length
    · rw [List.getElem?_append_left hj] at h
      exact s.dep j ts (by rw [List.getElem?_append_left hj]; exact h)
    · have : j = L.length := by
        have := (List.getElem?_eq_some_iff.mp h).1
        simp at this; omega
      subst this
      simp at h; subst h
      have := s.dep L.length x (by simp)
      rw [Th.depths_app]
      simp only [Th.depths, (Th.leaf2_ok ht).2.1]; omega
  cnt := by
    have := s.cnt
    simp [Th.sizes_app, Th.sizes, (Th.leaf2_ok ht).2.2.1] at this ⊢; omega
  perm := by
    have e : ((List.range (many + 1)).map fun m : Nat => num ns (m : Int)) = ((List.range many).map fun m : Nat => num ns (m : Int)) ++ [num ns (many : Int)] := by rw [List.range_succ, List.map_append]; rfl
    rw [e]
    refine List.Perm.trans ?_ (List.Perm.append s.perm (List.Perm.refl _))
    rw [List.perm_iff_count]
    intro a
    simp only [List.map_append, List.flatten_append, List.map_cons, List.map_nil, List.flatten_cons, List.flatten_nil, Th.numss_app, Th.numss, (Th.leaf2_ok ht).2.2.2, hn, List.append_nil, List.count_append]
    omega
theorem DocS2.ended {ns : List Int} {M : List Tx} {A : List Int} {n : Int} {L : List (List Th)} {x y : List Th} {many : Nat} (s : DocS2 ns M (A ++ [n]) (L ++ [x, y]) many) : DocS2 ns M A (L ++ [x ++ [.part n y]]) many where
  len := by have := s.len; simp at this ⊢; omega
  few := by have := s.few; simp at this ⊢; omega
  ne := by simp
  zero := by
    have := s.zero
    have hl := s.len
    cases A with
    | nil => simp at hl
    | cons a r => simpa using this
  ok := fun ts h => by
    rcases List.mem_append.mp h with h | h
    · exact s.ok ts (List.mem_append_left _ h)
    · rw [List.mem_singleton.mp h, Th.ok2s_app]
      exact ⟨s.ok x (by simp), s.ok y (by simp), trivial⟩
  dep := fun j ts h => by
    by_cases hj : j < L.length
    · rw [List.getElem?_append_left hj] at h
      exact s.dep j ts (by rw [List.getElem?_append_left hj]; exact h)
    · have : j = L.length := by
        have := (List.getElem?_eq_some_iff.mp h).1
        simp at this; omega
      subst this
      simp at h; subst h
      have h1 := s.dep L.length x (by simp)
      have h2 := s.dep (L.length + 1) y (by rw [List.getElem?_append_right (by omega)]; simp)
      rw [Th.depths_app]
      simp only [Th.depths, Th.depth]; omega
  cnt := by
    have := s.cnt
    simp [Th.sizes_app, Th.sizes, Th.size] at this ⊢; omega
  perm := by
    refine List.Perm.trans ?_ s.perm
    have hA : A ≠ [] := fun z => by have := s.len; rw [z] at this; simp at this
    rw [List.tail_append_of_ne_nil hA, List.perm_iff_count]
    intro a
    simp only [List.map_append, List.flatten_append, List.map_cons, List.map_nil, List.flatten_cons, List.flatten_nil, Th.numss_app, Th.numss, Th.nums, List.append_nil, List.count_append, List.count_cons, List.count_nil]
    omega
theorem imms_bends : ∀ b : List (Tx × Tx), D.imms (b.map fun p => .tup [.str p.1, .str p.2]) = true
  | [] => rfl
  | p :: b => by
    have := imms_bends b
    simp only [List.map_cons, D.imms, D.imm, this, Bool.and_self]
theorem leaf2_imm {M : List Tx} {t : Th} (h : t.leaf2 M) : t.D.imm = true := by
  cases t with
  | say n r => simp only [Th.D, D.imm, D.imms, imms_strs, Bool.and_self]
  | tell n s p b r => simp only [Th.D, D.imm, D.imms, imms_strs, imms_bends, Bool.and_self]
  | part n ks => exact h.elim
theorem DocS2.len_le {ns : List Int} {M : List Tx} {nums : List Int} {inner : List (List Th)} {many : Nat} (s : DocS2 ns M nums inner many) {ts : List Th} (h : ts ∈ inner) : ts.length ≤ many := by
  have h1 := mem_sum (List.mem_map.mpr ⟨ts, h, rfl⟩ : Th.sizes ts ∈ inner.map Th.sizes)
  have h2 := Th.len_sizes ts
  have h3 := s.cnt
  have h4 := s.ne
  omega
theorem document2_at {cs : List Code} {c fm fc fe fn ft fr fx fp fb k : Nat} (hc : cs[c]? = some (C_law_document2 fp fm fc fe fn ft)) (hp : cs[fp]? = some C_law_plain_words) (hb2 : cs[fb]? = some (C_law_bends fx)) (h1 : cs[fm]? = some (C_law_menu fc fx)) (h2 : cs[fc]? = some cellC) (h3 : cs[fe]? = some C_law_ended) (h4 : cs[fn]? = some (C_law_number fc)) (h5 : cs[ft]? = some (C_law_thing2 fr fx fb)) (h6 : cs[fr]? = some (C_law_row fx)) (h7 : cs[fx]? = some C_law_mixed)
    (hk : 4 ≤ k) (ns : List Int) (hns : ns.length ≤ 63) (most : Int) (m0 : 0 ≤ most) (m1 : most ≤ 1000) :
    ∃ (M : List Tx) (ks : List Th) (many : Nat), M.length = 10 ∧ (∀ t ∈ M, word t = true) ∧ DocS2 ns M [0] [ks] many ∧ 1 ≤ many ∧ many ≤ 59 ∧ (many : Int) ≤ max 6 most ∧ Fk cs k c [(.ro true (ns.map D.int), 0), (.int most, 0)] = .ok (Th.part 0 ks).D 0 [] := by
  obtain ⟨M, M1, M2, hM⟩ := menu_at h1 h2 h7 (k := k - 1) (by omega) ns
  obtain ⟨M', M1', M2', hP⟩ := plain_at hp (k := k - 1) (by omega) M M1 M2 (cell ns 2 / 9)
  have c2 := cell_at h2 (k := k - 1) (by omega) ns 2 (by omega) (by omega)
  have c3 := cell_at h2 (k := k - 1) (by omega) ns 3 (by omega) (by omega)
  rw [Fk_at (by omega) hc]
  have key : ∃ r, run (Fk cs (k - 1)) (C_law_document2 fp fm fc fe fn ft) [(.ro true (ns.map D.int), 0), (.int most, 0)] = r ∧ ∃ (ks : List Th) (many : Nat), DocS2 ns M' [0] [ks] many ∧ 1 ≤ many ∧ many ≤ 59 ∧ (many : Int) ≤ max 6 most ∧ r = .ok (Th.part 0 ks).D 0 [] := by
    refine ⟨_, rfl, ?_⟩
    refine run_of (P := fun r => ∃ (ks : List Th) (many : Nat), DocS2 ns M' [0] [ks] many ∧ 1 ≤ many ∧ many ≤ 59 ∧ (many : Int) ≤ max 6 most ∧ r = .ok (Th.part 0 ks).D 0 []) rfl rfl ?_
    simp only [GL.start, C_law_document2, List.map_cons, List.map_nil, List.replicate, List.cons_append, List.nil_append, Nat.reduceSub]
    refine s_asg (d := .lst (M'.map D.str)) (n := 1) (xPureF rfl (ev_eatc (d := .lst (M.map D.str)) (n := 1) (vs := [(.int (cell ns 2 / 9), 0, true)]) (by walk_at "ev"; simp only [hM, c2]; walk_at "ev") rfl hP)) ?_
    walk_at "nx"
    have low : ∃ low : Int, 3 ≤ low ∧ low ≤ 5 ∧ ev (Fk cs (k - 1)) (.bin .sub (.cst (.int 5)) (.bin .mul (.cst (.int 2)) (.blt .int (.cons (.cmp .eq (.bin .mod (.call fc "_law_cell" (.cons (.var 0) (.cons (.cst (.int 3)) .nil))) (.cst (.int 8))) (.cst (.int 1))) .nil)))) [some (.ro true (ns.map D.int), 0), some (.int most, 0), some (.lst (M'.map D.str), 1), none, none, none, none, none, none, none] = .ok (.int low) 0 := by
      refine ⟨5 - 2 * (if decide (cell ns 3 % 8 = 1) = true then 1 else 0), by split <;> omega, by split <;> omega, ?_⟩
      walk_at "ev"
      simp only [c3]
      walk_at "ev"
    obtain ⟨low, l1, l2, hlow⟩ := low
    refine s_asg (xPure0 hlow) ?_
    walk_at "nx"
    refine s_asg (d := .lst [.int 0]) (n := 1) (xPureF rfl (by walk_at "ev")) ?_
    walk_at "nx"
    refine s_asg (d := .lst [.lst []]) (n := 2) (xPureF rfl (by
      simp -implicitDefEqProofs only [e_lst, e_acons, e_anil, CE.fresh]
      rw [q_lst _ _ rfl, q_acons, q_lst _ _ rfl]; rfl)) ?_
    walk_at "nx"
    refine s_asg (by walk_at "ex") ?_
    walk_at "nx"
    have hN : ∃ N : Nat, N = (max 10 (min (4 + most) (ns.length : Int)) - 4).toNat := ⟨_, rfl⟩
    obtain ⟨N, hN⟩ := hN
    refine s_for (α := List Int × List (List Th) × Nat) (xs := (List.range N).map fun k : Nat => .int (4 + (k : Int))) (by rw [hN]; exact i_rng2 (n := 0) (m := 0) (by walk_at "ev") (by walk_at "ev") (by omega) (by omega) (by omega) (by omega))
      (fun a => [some (.ro true (ns.map D.int), 0), some (.int most, 0), some (.lst (M'.map D.str), 1), some (.int low, 0), some (.lst (a.1.map D.int), 1), some (innerD a.2.1, 2), some (.int (a.2.2 : Int), 0), none, none, none])
      (fun i a => DocS2 ns M' a.1 a.2.1 a.2.2 ∧ a.2.2 ≤ i ∧ (0 < i → 1 ≤ a.2.2) ∧ (i = 0 → a.1.length = 1)) ([0], [[]], 0) (by walk_at "rs") ⟨⟨rfl, by decide, by decide, rfl, fun ts h => by rw [List.mem_singleton.mp h]; trivial, fun j ts h => by
        cases j with
        | zero => simp at h; subst h; simp [Th.depths]
        | succ j => simp at h, by simp [Th.sizes], by simp [Th.numss]⟩, Nat.le_refl _, fun h => absurd h (by omega), fun _ => rfl⟩ ?_ ?_
    · rintro i x ⟨nums, inner, many⟩ hx ⟨st, hmi, hm1, hz⟩
      rw [List.getElem?_map] at hx
      obtain ⟨j, hj, rfl⟩ := Option.map_eq_some_iff.mp hx
      obtain ⟨hi, rfl⟩ := List.getElem?_eq_some_iff.mp hj
      rw [List.length_range] at hi
      rw [List.getElem_range]
      dsimp only at st hmi hm1 hz ⊢
      have hiN : i < 59 := by omega
      have ci := cell_at h2 (k := k - 1) (by omega) ns (4 + (i : Int)) (by omega) (by omega)
      generalize cell ns (4 + (i : Int)) = ce at ci
      have hlen := st.len
      have hfew := st.few
      have hne := st.ne
      refine ⟨_, setT_one _ _ _, ?_⟩
      walk_at "nx"
      refine s_asg (d := .int ce) (n := 0) (by apply xPure0; walk_at "ev"; simp only [ci]; walk_at "ev") ?_
      walk_at "nx"
      refine s_if (by walk_at "eb") (fun hb => ?_) (fun _ => ?_)
      · walk_at "nx"
        rw [Bool.and_eq_true] at hb
        have hl2 : (1 : Int) < (nums.length : Int) := by have := of_decide_eq_true hb.2; simpa using this
        obtain ⟨L, x, y, rfl⟩ := last2 (l := inner) (by omega)
        obtain ⟨A, n, rfl⟩ := last1 (l := nums) (by omega)
        have hxl : x.length < 16777216 := by
          have := st.len_le (ts := x) (by simp)
          omega
        have he := ended_at h3 (k := k - 1) (by omega) A n L x y hxl
        refine s_exprCio (vs := [(.lst ((A ++ [n]).map D.int), 1), (innerD (L ++ [x, y]), 2)]) (os := [(.lst (A.map D.int), 1), (innerD (L ++ [x ++ [.part n y]]), 2)]) (Γ' := [some (.ro true (ns.map D.int), 0), some (.int most, 0), some (.lst (M'.map D.str), 1), some (.int low, 0), some (.lst (A.map D.int), 1), some (innerD (L ++ [x ++ [.part n y]]), 2), some (.int (many : Int), 0), some (.int (4 + (i : Int)), 0), some (.int ce, 0), none]) rfl he rfl ?_
        refine s_nil ⟨(A, L ++ [x ++ [.part n y]], many), rfl, st.ended, Nat.le_succ_of_le hmi, fun _ => ?_, fun h => by omega⟩
        by_cases h0 : 0 < i
        · exact hm1 h0
        · have := hz (by omega)
          rw [this] at hl2; omega
      · walk_at "nx"
        refine s_if (by walk_at "eb") (fun hb => ?_) (fun _ => ?_)
        · walk_at "nx"
          rw [Bool.and_eq_true] at hb
          have hl8 : (nums.length : Int) ≤ 8 := by have := of_decide_eq_true hb.2; simpa using this
          have hn := number_at h4 h2 (k := k - 1) (by omega) ns (many : Int)
          refine s_appv (x := .int (num ns (many : Int))) (m := 0) rfl (by apply xPure0; walk_at "ev"; simp only [hn]; walk_at "ev") rfl (by rw [List.length_map]; omega) ?_
          walk_at "nx"
          refine s_appv (x := .lst []) (m := 1) (n := 1) (xs := inner.map fun ts => .lst (Th.Ds ts)) rfl (xPureF rfl (by simp -implicitDefEqProofs only [e_lst, e_anil]; rw [q_lst _ _ rfl]; rfl)) rfl (by rw [List.length_map]; omega) ?_
          walk_at "nx"
          refine s_asg (by walk_at "ex") ?_
          walk_at "nx"
          refine s_nil ⟨(nums ++ [num ns (many : Int)], inner ++ [[]], many + 1), ?_, st.begin (by omega), Nat.succ_le_succ hmi, fun _ => Nat.succ_le_succ (Nat.zero_le _), fun h => by omega⟩
          simp [rs, rsA, innerD, Th.Ds]
        · walk_at "nx"
          have b1 : 0 ≤ ce / 63 % 6 := Int.emod_nonneg _ (by omega)
          have b2 : ce / 63 % 6 < 6 := Int.emod_lt_of_pos _ (by omega)
          have hn := number_at h4 h2 (k := k - 1) (by omega) ns (many : Int)
          obtain ⟨L, x, rfl⟩ := last1 (l := inner) (by omega)
          have hxl : x.length < 16777216 := by
            have := st.len_le (ts := x) (by simp)
            omega
          have fin_ : ∀ q : Int, 1 ≤ q → q ≤ 200 → Wp (Fk cs (k - 1)) (Turn (fun r => ∃ (ks : List Th) (many : Nat), DocS2 ns M' [0] [ks] many ∧ 1 ≤ many ∧ many ≤ 59 ∧ (many : Int) ≤ max 6 most ∧ fin [] r = .ok (Th.part 0 ks).D 0 []) [0, 1, 2, 3, 4, 5, 6] (fun a : List Int × List (List Th) × Nat => [some (.ro true (ns.map D.int), 0), some (.int most, 0), some (.lst (M'.map D.str), 1), some (.int low, 0), some (.lst (a.1.map D.int), 1), some (innerD a.2.1, 2), some (.int (a.2.2 : Int), 0), none, none, none])
              (fun a => DocS2 ns M' a.1 a.2.1 a.2.2 ∧ a.2.2 ≤ i + 1 ∧ (0 < i + 1 → 1 ≤ a.2.2) ∧ (i + 1 = 0 → a.1.length = 1)))
              (.cons (.app (.idx (.var 5) (.neg (.cst (.int 1)))) (.pure (.call ft "_law_thing" (.cons (.bin .fdiv (.var 8) (.cst (.int 7))) (.cons (.call fn "_law_number" (.cons (.var 0) (.cons (.var 6) .nil))) (.cons (.var 2) (.cons (.var 9) .nil))))))) (.cons (.asg 6 (.pure (.bin .add (.var 6) (.cst (.int 1))))) .nil))
              [some (.ro true (ns.map D.int), 0), some (.int most, 0), some (.lst (M'.map D.str), 1), some (.int low, 0), some (.lst (nums.map D.int), 1), some (innerD (L ++ [x]), 2), some (.int (many : Int), 0), some (.int (4 + (i : Int)), 0), some (.int ce, 0), some (.int q, 0)] := fun q q1 q2 => by
            obtain ⟨t, t1, t2, t3⟩ := thing2_at h5 h6 h7 hb2 (k := k - 1) (by omega) (ce / 7) (num ns (many : Int)) q M' M1' M2' q1 q2
            have timm := leaf2_imm t1
            have tsafe : D.safe 0 t.D = true := by
              cases t with
              | say _ _ => exact timm
              | tell _ _ _ _ _ => exact timm
              | part _ _ => exact t1.elim
            refine s_appLast (L := L.map fun ts => .lst (Th.Ds ts)) (xs := Th.Ds x) (x := t.D) (by simp [innerD]) (by apply xPure0; walk_at "ev"; simp only [hn]; walk_at "ev"; simp only [t3]; rw [q_posts _ _ _ _ tsafe]) (by rw [Th.Ds_map, List.length_map]; exact hxl) ?_
            walk_at "nx"
            refine s_asg (by walk_at "ex") ?_
            walk_at "nx"
            refine s_nil ⟨(nums, L ++ [x ++ [t]], many + 1), ?_, st.add t1 t2, Nat.succ_le_succ hmi, fun _ => Nat.succ_le_succ (Nat.zero_le _), fun h => by omega⟩
            simp [rs, rsA, innerD, Th.Ds, Th.Ds_app]
          refine s_asg (by walk_at "ex") ?_
          walk_at "nx"
          refine s_if (by walk_at "ev"; simp only [c3]; walk_at "eb") (fun _ => ?_) (fun _ => ?_)
          · walk_at "nx"
            refine s_asg (by walk_at "ex") ?_
            walk_at "nx"
            exact fin_ _ (by omega) (by omega)
          · walk_at "nx"
            exact fin_ _ (by omega) (by omega)
    · rintro ⟨nums, inner, many⟩ ⟨st, hmi, hm1, _⟩
      rw [List.length_map, List.length_range] at hmi hm1
      dsimp only at st hmi hm1 ⊢
      have hm1 := hm1 (by omega)
      refine s_whl (α := List Int × List (List Th)) (fun a => [some (.ro true (ns.map D.int), 0), some (.int most, 0), some (.lst (M'.map D.str), 1), some (.int low, 0), some (.lst (a.1.map D.int), 1), some (innerD a.2, 2), some (.int (many : Int), 0), none, none, none])
        (fun a => DocS2 ns M' a.1 a.2 many) (fun a => a.2.length) (nums, inner) (by simp [rs, rsA]) st (by show inner.length < 1000000; have := st.few; omega) ?_
      rintro ⟨nums, inner⟩ st
      dsimp only at st ⊢
      have hlen := st.len
      have hfew := st.few
      have hne := st.ne
      refine ⟨decide (1 < (nums.length : Int)), 0, by walk_at "ev", fun hb => ?_, fun hb => ?_⟩
      · have hb := of_decide_eq_true hb
        obtain ⟨L, x, y, rfl⟩ := last2 (l := inner) (by omega)
        obtain ⟨A, n, rfl⟩ := last1 (l := nums) (by omega)
        have hxl : x.length < 16777216 := by
          have := st.len_le (ts := x) (by simp)
          omega
        have he := ended_at h3 (k := k - 1) (by omega) A n L x y hxl
        refine s_exprCio (vs := [(.lst ((A ++ [n]).map D.int), 1), (innerD (L ++ [x, y]), 2)]) (os := [(.lst (A.map D.int), 1), (innerD (L ++ [x ++ [.part n y]]), 2)]) (Γ' := [some (.ro true (ns.map D.int), 0), some (.int most, 0), some (.lst (M'.map D.str), 1), some (.int low, 0), some (.lst (A.map D.int), 1), some (innerD (L ++ [x ++ [.part n y]]), 2), some (.int (many : Int), 0), none, none, none]) rfl he rfl ?_
        refine s_nil ⟨(A, L ++ [x ++ [.part n y]]), rfl, st.ended, ?_⟩
        show (L ++ [x ++ [Th.part n y]]).length < (L ++ [x, y]).length
        simp
      · have hb := of_decide_eq_false hb
        obtain ⟨L, ks, rfl⟩ := last1 (l := inner) (by omega)
        have hL : L = [] := by
          cases L with
          | nil => rfl
          | cons a r => simp at hlen; omega
        subst hL
        have hnums : nums = [0] := by
          have hz := st.zero
          have hl1 : nums.length = 1 := by rw [hlen]; rfl
          cases nums with
          | nil => cases hz
          | cons a r =>
            simp at hz hl1
            rw [hz, hl1]
        subst hnums
        refine s_frz rfl ?_
        walk_at "nx"
        refine s_ret (d := (Th.part 0 ks).D) (n := 0) (xPure0 (by
          simp -implicitDefEqProofs only [e_tup, e_acons, e_anil, e_blt, e_idx, e_var, e_cst, CE.fresh, List.getElem?_cons_zero, List.getElem?_cons_succ, q_sl, R.bind_ok]
          have e1 : opIdx (innerD [ks]) 0 (.int 0) = .ok (.lst (Th.Ds ks)) 0 := rfl
          rw [e1]
          simp -implicitDefEqProofs only [q_acons, q_blt]
          rw [bTupL _ _ _ (by omega)]
          simp -implicitDefEqProofs only [q_acons]
          rw [q_tup _ rfl]
          rfl)) ?_
        exact ⟨ks, many, st, hm1, by omega, by omega, by simp only [fin, rr, outs]⟩
  obtain ⟨r, hr, ks, many, d1, d2, d3, d4, rfl⟩ := key
  exact ⟨M', ks, many, M1', M2', d1, d2, d3, d4, hr⟩
end GL

/-! GLL: rows and lines of documents. -/
namespace GL
local macro_rules | `(tactic| walk_at "ev") => `(tactic| (simp -implicitDefEqProofs (disch := first | omega | assumption | decide | (simp only [mo_split, mo_join, mo_ends, mo_index, mo_part]; done) | (simp only [fixed, deep, D.safe, D.imm, D.imms, List.all_cons, List.all_nil, beq_self_eq_true, Bool.true_or, Bool.or_true, Bool.and_true, Bool.and_self, decide_true, Nat.reduceSub, Nat.reduceBEq, Nat.reduceEqDiff]; done) | (simp only [List.length_map, List.length_range, List.length_cons, List.length_nil, List.length_append]; omega) | fail) only [e_var, e_cst, e_glo, e_tup, e_lst, e_dnew, e_bin, e_neg, e_cmp, e_chain, e_and, e_or, e_not, e_idx, e_sll, e_slu, e_slb, e_call, e_blt, e_mth, e_isi, e_anil, e_acons, q_sl, q_and, q_andF, q_or, q_orT, q_not, q_neg, q_chn, q_sll, q_slu, q_slb, q_acons, q_tup, q_lst, q_call, q_post, q_posts, q_postx, q_blt, q_mth, fixed_nil, fixed_c0, fixed_ct, R.bind_ok, R.bind_ex, opAdd, opSub, opMulR, opMulL, opFdiv, opMod, opAddS, opAddT, cLt, cLe, cGt, cGe, cEqI, cNeI, cEqB, cEqS, cNeS, cInS, cNotInS, cLeS, cLtS, rB_some, rO_some, bLenRo, bLenL, bLenT, bLenS, bTupL, bTupT, bIntB, bMin, bMax, iRoI, iStr, iTup, iLst, slS, slT, isi_bl, isi_int, isi_str, isi_tup, isi_lst, isi_dct, isi_non, List.getElem?_cons_succ, List.getElem?_cons_zero, List.length_map, List.map_cons, List.map_nil, CE.fresh, or_true, true_or, if_true, Bool.not_false, Bool.not_true, List.set_cons_zero, List.set_cons_succ]))
local macro_rules | `(tactic| walk_at "ex") => `(tactic| first | (apply xPure0; walk_at "ev"; done) | (apply xPure0; walk_at "ev"; rfl) | (apply xPureF rfl; walk_at "ev"; done) | (apply xPureF rfl; walk_at "ev"; rfl))
local macro_rules | `(tactic| walk_at "eb") => `(tactic| first | (walk_at "ev"; done) | (walk_at "ev"; rfl))
local macro_rules | `(tactic| walk_at "nx") => `(tactic| (try dsimp only [CSs.app, List.set_cons_zero, List.set_cons_succ, List.cons_append, List.nil_append]))
local macro_rules | `(tactic| walk_at "rs") => `(tactic| first | (simp (decide := true) only [rs, rsA, if_true, if_false]; done) | (simp (decide := true) only [rs, rsA, if_true, if_false]; rfl) | rfl)
def C_text_of : Code := ⟨1, 1, [], (.cons (.ret (.pure (.mth .join (.cst (.str [32])) (.cons (.var 0) .nil)))) .nil)⟩
def C_telling_row (ftext_of : Nat) : Code := ⟨1, 4, [], (.cons (.asg 1 (.pure (.mth .join (.cst (.str [])) (.cons (.comp 1 [2, 3] (.val (.idx (.var 0) (.cst (.int 4)))) .nil (.bin .add (.bin .add (.bin .add (.cst (.str [32])) (.var 2)) (.cst (.str [62]))) (.var 3))) .nil)))) (.cons (.ret (.pure (.bin .add (.bin .add (.bin .add (.bin .add (.bin .add (.bin .add (.cst (.str [116, 101, 108, 108, 32])) (.idx (.var 0) (.cst (.int 2)))) (.cst (.str [32]))) (.call ftext_of "text_of" (.cons (.idx (.var 0) (.cst (.int 3))) .nil))) (.var 1)) (.cst (.str [58, 32]))) (.call ftext_of "text_of" (.cons (.idx (.var 0) (.cst (.int 5))) .nil))))) .nil))⟩
def C_rows_in (ftext_of ftelling_row frows_in : Nat) : Code := ⟨1, 3, [], (.cons (.asg 1 (.pure (.lst 1 .nil))) (.cons (.for_ [2] (.val (.idx (.var 0) (.cst (.int 2)))) [0, 1] (.cons (.ifs (.cmp .eq (.idx (.var 2) (.cst (.int 0))) (.cst (.str [115, 97, 121]))) (.cons (.app (.var 1) (.pure (.bin .add (.cst (.str [115, 97, 121, 32])) (.call ftext_of "text_of" (.cons (.idx (.var 2) (.cst (.int 2))) .nil))))) .nil) (.cons (.ifs (.cmp .eq (.idx (.var 2) (.cst (.int 0))) (.cst (.str [116, 101, 108, 108]))) (.cons (.app (.var 1) (.pure (.call ftelling_row "telling_row" (.cons (.var 2) .nil)))) .nil) (.cons (.app (.var 1) (.pure (.cst (.str [112, 97, 114, 116])))) (.cons (.ext (.var 1) (.call frows_in "rows_in" (.cons (.var 2) .nil))) (.cons (.app (.var 1) (.pure (.cst (.str [101, 110, 100])))) .nil)))) .nil)) .nil)) (.cons (.retv 1) .nil)))⟩
def C_written (frows_in : Nat) : Code := ⟨1, 1, [], (.cons (.ret (.pure (.mth .join (.cst (.str [10])) (.cons (.call frows_in "rows_in" (.cons (.var 0) .nil)) .nil)))) .nil)⟩
def C_law_line : Code := ⟨1, 5, [], (.cons (.asg 1 (.pure (.mth .join (.cst (.str [32])) (.cons (.idx (.var 0) (.neg (.cst (.int 1)))) .nil)))) (.cons (.ifs (.cmp .eq (.idx (.var 0) (.cst (.int 0))) (.cst (.str [115, 97, 121]))) (.cons (.ret (.pure (.bin .add (.cst (.str [115, 97, 121, 32])) (.var 1)))) .nil) .nil) (.cons (.asg 2 (.pure (.bin .add (.bin .add (.bin .add (.cst (.str [116, 101, 108, 108, 32])) (.idx (.var 0) (.cst (.int 2)))) (.cst (.str [32]))) (.mth .join (.cst (.str [32])) (.cons (.idx (.var 0) (.cst (.int 3))) .nil))))) (.cons (.for_ [3, 4] (.val (.idx (.var 0) (.cst (.int 4)))) [0, 1, 2] (.cons (.asg 2 (.pure (.bin .add (.bin .add (.bin .add (.bin .add (.var 2) (.cst (.str [32]))) (.var 3)) (.cst (.str [62]))) (.var 4)))) .nil)) (.cons (.ret (.pure (.bin .add (.bin .add (.var 2) (.cst (.str [58, 32]))) (.var 1)))) .nil)))))⟩
def C_law_lines (f_line : Nat) : Code := ⟨1, 4, [], (.cons (.asg 1 (.pure (.lst 1 .nil))) (.cons (.asg 2 (.pure (.blt .list (.cons (.idx (.var 0) (.cst (.int 2))) .nil)))) (.cons (.whl 1000000 (.cmp .ne (.var 2) (.lst 1 .nil)) [0, 1, 2] (.cons (.asg 3 (.pop0 (.var 2))) (.cons (.ifs (.cmp .is_ (.var 3) (.cst .non)) (.cons (.app (.var 1) (.pure (.cst (.str [101, 110, 100])))) .nil) (.cons (.ifs (.cmp .eq (.idx (.var 3) (.cst (.int 0))) (.cst (.str [112, 97, 114, 116]))) (.cons (.app (.var 1) (.pure (.cst (.str [112, 97, 114, 116])))) (.cons (.asg 2 (.pure (.bin .add (.bin .add (.blt .list (.cons (.idx (.var 3) (.cst (.int 2))) .nil)) (.lst 1 (.cons (.cst .non) .nil))) (.var 2)))) .nil)) (.cons (.app (.var 1) (.pure (.call f_line "_law_line" (.cons (.var 3) .nil)))) .nil)) .nil)) .nil))) (.cons (.retv 1) .nil))))⟩
def C_law_told (fwritten : Nat) : Code := ⟨2, 3, [], (.cons (.asg 2 (.pure (.call fwritten "written" (.cons (.var 0) .nil)))) (.cons (.ret (.pure (.and (.isi (.var 2) .str) (.cmp .eq (.var 2) (.var 1))))) .nil))⟩
def bendT (q : Tx × Tx) : Tx := [32] ++ q.1 ++ [62] ++ q.2
def bendsT (b : List (Tx × Tx)) : Tx := (b.map bendT).flatten
/-- the row of what is no part -/
def Th.line : Th → Tx
  | .say _ row => [115, 97, 121, 32] ++ joinT [32] row
  | .tell _ s p b row => [116, 101, 108, 108, 32] ++ s ++ [32] ++ joinT [32] p ++ bendsT b ++ [58, 32] ++ joinT [32] row
  | .part _ _ => []
mutual
def Th.rows : Th → List Tx
  | .part _ ks => [112, 97, 114, 116] :: (Th.rowss ks ++ [[101, 110, 100]])
  | .say n r => [Th.line (.say n r)]
  | .tell n s p b r => [Th.line (.tell n s p b r)]
def Th.rowss : List Th → List Tx
  | [] => []
  | t :: ts => t.rows ++ Th.rowss ts
end
theorem Th.rowss_app : ∀ a b : List Th, Th.rowss (a ++ b) = Th.rowss a ++ Th.rowss b
  | [], _ => rfl
  | t :: ts, b => by rw [List.cons_append, Th.rowss, Th.rowss_app ts b, Th.rowss, List.append_assoc]
mutual
theorem Th.rows_len : ∀ t : Th, t.rows.length ≤ 2 * t.size
  | .part _ ks => by have := Th.rowss_len ks; simp only [Th.rows, Th.size, List.length_cons, List.length_append, List.length_nil]; omega
  | .say _ _ => by simp [Th.rows, Th.size]
  | .tell _ _ _ _ _ => by simp [Th.rows, Th.size]
theorem Th.rowss_len : ∀ ts : List Th, (Th.rowss ts).length ≤ 2 * Th.sizes ts
  | [] => by simp [Th.rowss, Th.sizes]
  | t :: ts => by have := Th.rows_len t; have := Th.rowss_len ts; simp only [Th.rowss, Th.sizes, List.length_append]; omega
end
def shortR (r : List Tx) (n : Nat) : Prop := r.length ≤ n ∧ ∀ t ∈ r, t.length ≤ 20
mutual
/-- its texts are short -/
def Th.short : Th → Prop
  | .part _ ks => Th.shorts ks
  | .say _ row => shortR row 200
  | .tell _ s p b row => s.length ≤ 10 ∧ shortR p 4 ∧ (b.length ≤ 5 ∧ ∀ q ∈ b, q.1.length ≤ 20 ∧ q.2.length ≤ 20) ∧ shortR row 200
def Th.shorts : List Th → Prop
  | [] => True
  | t :: ts => t.short ∧ Th.shorts ts
end
theorem Th.shorts_app : ∀ a b : List Th, Th.shorts (a ++ b) ↔ Th.shorts a ∧ Th.shorts b
  | [], _ => by simp [Th.shorts]
  | t :: ts, b => by rw [List.cons_append, Th.shorts, Th.shorts_app ts b, Th.shorts, and_assoc]
theorem scopes_len : ∀ s ∈ scopes, s.length ≤ 10 := by decide
mutual
theorem Th.ok2_short {M : List Tx} (hM : ∀ t ∈ M, word t = true) : ∀ t : Th, t.ok2 M → t.short
  | .part _ ks, h => Th.ok2s_short hM ks h
  | .say _ row, h => ⟨h.2.1, fun t ht => by have := hM t (h.2.2 t ht); simp only [word, Bool.and_eq_true, decide_eq_true_eq] at this; exact this.2.2⟩
  | .tell _ s p b row, h => by
    obtain ⟨h1, ⟨i, l, rfl, h2, _⟩, h3, ⟨h4, h5⟩, h6⟩ := h
    have hw : ∀ t ∈ M, t.length ≤ 20 := fun t ht => by have := hM t ht; simp only [word, Bool.and_eq_true, decide_eq_true_eq] at this; exact this.2.2
    exact ⟨scopes_len s h1, ⟨by simp; omega, fun t ht => hw t (h3 t ht)⟩, ⟨h4, fun q hq => ⟨(h5 q hq).1, (h5 q hq).2.1⟩⟩, h6.2.1, fun t ht => hw t (h6.2.2 t ht)⟩
theorem Th.ok2s_short {M : List Tx} (hM : ∀ t ∈ M, word t = true) : ∀ ts : List Th, Th.ok2s M ts → Th.shorts ts
  | [], _ => trivial
  | t :: ts, h => ⟨Th.ok2_short hM t h.1, Th.ok2s_short hM ts h.2⟩
end
theorem joinT_short {r : List Tx} {n : Nat} (h : shortR r n) : (r.map List.length).sum + r.length * ([32] : Tx).length ≤ n * 21 ∧ (joinT [32] r).length ≤ n * 21 := by
  have h1 := joinT_len [32] r
  have h2 : (r.map List.length).sum ≤ r.length * 20 := by
    have := sum_le (k := 20) (l := r.map List.length) fun x hx => by
      obtain ⟨t, ht, rfl⟩ := List.mem_map.mp hx
      exact h.2 t ht
    rwa [List.length_map] at this
  have h3 : r.length * 20 ≤ n * 20 := Nat.mul_le_mul_right _ h.1
  have h4 := h.1
  simp only [List.length_cons, List.length_nil] at h1 ⊢
  constructor <;> omega
theorem bendsT_len : ∀ {b : List (Tx × Tx)} {n : Nat}, b.length ≤ n → (∀ q ∈ b, q.1.length ≤ 20 ∧ q.2.length ≤ 20) → (bendsT b).length ≤ n * 42
  | [], _, _, _ => by simp [bendsT]
  | q :: b, n, h, h2 => by
    have := h2 q List.mem_cons_self
    match n, h with
    | n + 1, h =>
      have ih := bendsT_len (b := b) (n := n) (by simpa using h) fun z hz => h2 z (List.mem_cons_of_mem _ hz)
      simp only [bendsT, List.map_cons, List.flatten_cons, List.length_append, bendT, List.length_cons, List.length_nil] at ih ⊢
      omega
theorem bendsT_snoc (b : List (Tx × Tx)) (q : Tx × Tx) : bendsT (b ++ [q]) = bendsT b ++ bendT q := by simp [bendsT]
theorem text_at {cs : List Code} {c k : Nat} (hc : cs[c]? = some C_text_of) (hk : 1 ≤ k) (ws : List Tx) {n : Nat} (h : shortR ws n) (hn : n ≤ 1000) : Fk cs k c [(.tup (ws.map D.str), 0)] = .ok (.str (joinT [32] ws)) 0 [] := by
  rw [Fk_at (by omega) hc]
  refine run_of (P := fun r => r = _) rfl rfl ?_
  simp only [GL.start, C_text_of, List.map_cons, List.map_nil, List.replicate, List.cons_append, List.nil_append]
  have hj := (joinT_short h).1
  refine s_ret (d := .str (joinT [32] ws)) (n := 0) (by apply xPure0; walk_at "ev"; rw [m_joinT _ _ _ _ _ _ (by show _ ≤ (16777216 : Nat); omega)]) ?_
  simp only [fin, rr, outs]
theorem joinT_nil : ∀ ts : List Tx, joinT [] ts = ts.flatten
  | [] => rfl
  | [t] => by simp [joinT]
  | t :: u :: ts => by rw [joinT, joinT_nil (u :: ts)]; simp
theorem telling_at {cs : List Code} {c ft k : Nat} (hc : cs[c]? = some (C_telling_row ft)) (h1 : cs[ft]? = some C_text_of) (hk : 2 ≤ k) (n : Int) (s : Tx) (p : List Tx) (b : List (Tx × Tx)) (row : List Tx) (h : (Th.tell n s p b row).short) :
    Fk cs k c [((Th.tell n s p b row).D, 0)] = .ok (.str (Th.line (.tell n s p b row))) 0 [] := by
  obtain ⟨hs, hp, ⟨hb1, hb2⟩, hr⟩ := h
  have tp := text_at h1 (k := k - 1) (by omega) p hp (by omega)
  have tr := text_at h1 (k := k - 1) (by omega) row hr (by omega)
  have lp := (joinT_short hp).2
  have lr := (joinT_short hr).2
  have lb := bendsT_len hb1 hb2
  have x2 : opIdx (Th.tell n s p b row).D 0 (.int 2) = .ok (.str s) 0 := rfl
  have x3 : opIdx (Th.tell n s p b row).D 0 (.int 3) = .ok (.tup (p.map D.str)) 0 := rfl
  have x4 : opIdx (Th.tell n s p b row).D 0 (.int 4) = .ok (.tup (b.map bD)) 0 := rfl
  have x5 : opIdx (Th.tell n s p b row).D 0 (.int 5) = .ok (.tup (row.map D.str)) 0 := rfl
  have el : Th.line (.tell n s p b row) = [116, 101, 108, 108, 32] ++ s ++ [32] ++ joinT [32] p ++ bendsT b ++ [58, 32] ++ joinT [32] row := rfl
  rw [Fk_at (by omega) hc, el]
  clear el
  generalize (Th.tell n s p b row).D = t at x2 x3 x4 x5
  generalize joinT [32] p = P at tp lp ⊢
  generalize joinT [32] row = R at tr lr ⊢
  refine run_of (P := fun r => r = _) rfl rfl ?_
  simp only [GL.start, C_telling_row, List.map_cons, List.map_nil, List.replicate, List.cons_append, List.nil_append]
  refine s_asg (d := .str (bendsT b)) (n := 0) (xPure0 (by
    have hbt : ∀ q ∈ b, ∃ Γ' m, setT (wipeG [some (t, 0), none, none, none] [2, 3]) [2, 3] (bD q) = some Γ' ∧ ev (Fk cs (k - 1)) (.bin .add (.bin .add (.bin .add (.cst (.str [32])) (.var 2)) (.cst (.str [62]))) (.var 3)) Γ' = .ok (.str (bendT q)) m ∧ GL.own (1 - 1) (CE.fresh (.bin .add (.bin .add (.bin .add (.cst (.str [32])) (.var 2)) (.cst (.str [62]))) (.var 3))) (.ok (.str (bendT q)) m) = .ok (.str (bendT q)) (1 - 1) := by
      intro q hq
      obtain ⟨q1, q2⟩ := hb2 q hq
      refine ⟨_, 0, rfl, ?_, rfl⟩
      simp only [List.zip_cons_cons, List.zip_nil_right, List.foldl_cons, List.foldl_nil]
      dsimp only [wipeG, List.foldr, List.foldl, List.set_cons_zero, List.set_cons_succ]
      walk_at "ev"
      rfl
    have hcomp := e_comp (l := b) (mk := bD) (g := fun q => .str (bendT q)) (i_tup0 (F := Fk cs (k - 1)) (Γ := [some (t, 0), none, none, none]) (a := .idx (.var 0) (.cst (.int 4))) (by simp -implicitDefEqProofs only [e_idx, e_var, e_cst, List.getElem?_cons_zero, q_sl, GL.R.bind_ok, x4])) hbt (by omega)
    simp -implicitDefEqProofs only [e_mth, e_cst, e_acons, e_anil, hcomp, q_acons, CE.fresh]
    have em : b.map (fun q => D.str (bendT q)) = (b.map bendT).map D.str := by rw [List.map_map]; rfl
    rw [em]
    have hsum : ((b.map bendT).map List.length).sum ≤ 5 * 42 := by
      have := lb
      unfold bendsT at this
      rwa [List.length_flatten] at this
    simp -implicitDefEqProofs only [GL.R.bind_ok]
    rw [q_mth _ _ _ _ _ (mo_join _), m_joinL _ _ _ _ _ _ (by show _ ≤ (16777216 : Nat); simp only [List.length_nil, Nat.mul_zero]; omega), joinT_nil]
    rfl)) ?_
  walk_at "nx"
  generalize bendsT b = B at lb
  refine s_ret (d := .str ([116, 101, 108, 108, 32] ++ s ++ [32] ++ P ++ B ++ [58, 32] ++ R)) (n := 0) (by apply xPure0; walk_at "ev"; simp only [x2, x3, x5]; walk_at "ev"; simp only [tp, tr]; walk_at "ev") ?_
  simp only [fin, rr, outs]
  simp only [List.append_assoc, List.cons_append, List.nil_append]
theorem rowsIn_at {cs : List Code} {c ft fr : Nat} (hc : cs[c]? = some (C_rows_in ft fr c)) (h1 : cs[ft]? = some C_text_of) (h2 : cs[fr]? = some (C_telling_row ft)) : ∀ (k : Nat) (n : Int) (ks : List Th), Th.depths ks + 3 ≤ k → Th.sizes ks ≤ 1000 → Th.shorts ks → Fk cs k c [((Th.part n ks).D, 0)] = .ok (.lst ((Th.rowss ks).map D.str)) 1 []
  | 0, _, _, h, _, _ => by omega
  | k + 1, n, ks, hk, hs, hsh => by
    rw [Fk_at (by omega) hc]
    refine run_of (P := fun r => r = _) rfl rfl ?_
    simp only [GL.start, C_rows_in, List.map_cons, List.map_nil, List.replicate, List.cons_append, List.nil_append, Nat.reduceSub, Nat.add_sub_cancel]
    refine s_asg (by walk_at "ex") ?_
    walk_at "nx"
    have hdoc : opIdx (Th.part n ks).D 0 (.int 2) = .ok (.tup (Th.Ds ks)) 0 := rfl
    refine s_for (α := List Tx) (xs := Th.Ds ks) (i_tup0 (by simp -implicitDefEqProofs only [e_idx, e_var, e_cst, List.getElem?_cons_zero, q_sl, R.bind_ok, hdoc])) (fun a => [some ((Th.part n ks).D, 0), some (.lst (a.map D.str), 1), none]) (fun i a => a = Th.rowss (ks.take i)) [] (by walk_at "rs") rfl ?_ ?_
    · rintro i x a hx rfl
      rw [Th.Ds_map, List.getElem?_map] at hx
      obtain ⟨t, ht, rfl⟩ := Option.map_eq_some_iff.mp hx
      have htk : ks.take (i + 1) = ks.take i ++ [t] := by rw [List.take_succ, ht]; rfl
      have e : ks = ks.take (i + 1) ++ ks.drop (i + 1) := (List.take_append_drop _ _).symm
      have hsz : Th.sizes (ks.take i) + t.size ≤ 1000 ∧ t.depth ≤ Th.depths ks := by
        have h1 : Th.sizes ks = Th.sizes (ks.take i) + t.size + Th.sizes (ks.drop (i + 1)) := by
          conv => lhs; rw [e, htk]
          simp only [Th.sizes_app, Th.sizes]; omega
        have h2 : Th.depths ks = max (max (Th.depths (ks.take i)) t.depth) (Th.depths (ks.drop (i + 1))) := by
          conv => lhs; rw [e, htk]
          simp only [Th.depths_app, Th.depths]; omega
        omega
      have tsh : t.short := by
        rw [e, htk, Th.shorts_app, Th.shorts_app] at hsh
        exact hsh.1.2.1
      have hfl : (Th.rowss (ks.take i)).length ≤ 2 * Th.sizes (ks.take i) := Th.rowss_len _
      refine ⟨_, setT_one _ _ _, ?_⟩
      walk_at "nx"
      have hix := Th.ix0 t
      have done_ : ∀ l : List Tx, t.rows = l → Wp (Fk cs k) (Turn (fun r => fin [] r = .ok (.lst ((Th.rowss ks).map D.str)) 1 []) [0, 1] (fun a : List Tx => [some ((Th.part n ks).D, 0), some (.lst (a.map D.str), 1), none]) (fun a => a = Th.rowss (ks.take (i + 1)))) .nil [some ((Th.part n ks).D, 0), some (.lst ((Th.rowss (ks.take i) ++ l).map D.str), 1), some (t.D, 0)] := by
        intro l hl
        refine s_nil ⟨Th.rowss (ks.take i) ++ l, by simp [rs, rsA], ?_⟩
        rw [htk, Th.rowss_app, ← hl]
        simp [Th.rowss]
      refine s_if (t := decide (t.kind = [115, 97, 121])) (n := 0) (by simp -implicitDefEqProofs only [e_cmp, e_idx, e_var, e_cst, List.getElem?_cons_zero, List.getElem?_cons_succ, q_sl, R.bind_ok, hix, cEqS, rB_some]) (fun h => ?_) (fun h => ?_)
      · walk_at "nx"
        cases t with
        | part m js => simp [Th.kind] at h
        | tell _ _ _ _ _ => simp [Th.kind] at h
        | say m row =>
          have tr := text_at h1 (k := k) (by omega) row (n := 200) tsh (by omega)
          have lr := (joinT_short (n := 200) tsh).2
          have x2 : opIdx (Th.say m row).D 0 (.int 2) = .ok (.tup (row.map D.str)) 0 := rfl
          refine s_appv (x := .str (Th.line (.say m row))) (m := 0) rfl (by
            apply xPure0
            walk_at "ev"
            simp only [x2]
            walk_at "ev"
            simp only [tr]
            walk_at "ev"
            rfl) rfl (by rw [List.length_map]; omega) ?_
          walk_at "nx"
          have := done_ [Th.line (.say m row)] rfl
          rw [List.map_append] at this
          exact this
      · walk_at "nx"
        refine s_if (t := decide (t.kind = [116, 101, 108, 108])) (n := 0) (by simp -implicitDefEqProofs only [e_cmp, e_idx, e_var, e_cst, List.getElem?_cons_zero, List.getElem?_cons_succ, q_sl, R.bind_ok, hix, cEqS, rB_some]) (fun h' => ?_) (fun h' => ?_)
        · walk_at "nx"
          cases t with
          | part m js => simp [Th.kind] at h'
          | say _ _ => simp [Th.kind] at h'
          | tell m s p b row =>
            have tr := telling_at h2 h1 (k := k) (by omega) m s p b row tsh
            refine s_appv (x := .str (Th.line (.tell m s p b row))) (m := 0) rfl (by apply xPure0; walk_at "ev"; simp only [tr]; walk_at "ev") rfl (by rw [List.length_map]; omega) ?_
            walk_at "nx"
            have := done_ [Th.line (.tell m s p b row)] rfl
            rw [List.map_append] at this
            exact this
        · walk_at "nx"
          cases t with
          | say _ _ => simp [Th.kind] at h
          | tell _ _ _ _ _ => simp [Th.kind] at h'
          | part m js =>
            simp only [Th.depth, Th.size] at hsz
            have ih := rowsIn_at hc h1 h2 k m js (by omega) (by omega) tsh
            have hjl : (Th.rowss js).length ≤ 2 * Th.sizes js := Th.rowss_len _
            refine s_appv (x := .str [112, 97, 114, 116]) (m := 0) rfl (xPure0 (by rfl)) rfl (by rw [List.length_map]; omega) ?_
            walk_at "nx"
            refine s_extv (n := 1) (xs := (Th.rowss (ks.take i)).map D.str ++ [.str [112, 97, 114, 116]]) (ys := (Th.rowss js).map D.str) rfl (by
              simp -implicitDefEqProofs only [e_call, e_acons, e_anil, e_var, CE.fresh, List.getElem?_cons_zero, List.getElem?_cons_succ, q_sl, q_acons, q_call, List.map_cons, List.map_nil, ih]
              rw [q_post _ _ _ _ rfl]) (by omega) (by simp only [List.length_append, List.length_map, List.length_singleton]; omega) ?_
            walk_at "nx"
            refine s_appv (x := .str [101, 110, 100]) (m := 0) rfl (xPure0 (by rfl)) rfl (by simp only [List.length_append, List.length_map, List.length_singleton]; omega) ?_
            walk_at "nx"
            have := done_ ([112, 97, 114, 116] :: (Th.rowss js ++ [[101, 110, 100]])) rfl
            simp only [List.map_append, List.map_cons, List.map_nil, List.append_assoc, List.cons_append, List.nil_append] at this ⊢
            exact this
    · rintro a rfl
      refine s_retv rfl ?_
      simp only [fin, rr, outs]
      rw [Th.Ds_map, List.length_map, List.take_length]
theorem rowss_sum : ∀ (r : List Tx) (n : Nat), (∀ t ∈ r, t.length ≤ n) → (r.map List.length).sum + r.length * ([10] : Tx).length ≤ r.length * (n + 1) := by
  intro r n h
  have := sum_le (k := n) (l := r.map List.length) fun x hx => by
    obtain ⟨t, ht, rfl⟩ := List.mem_map.mp hx
    exact h t ht
  rw [List.length_map] at this
  simp only [List.length_cons, List.length_nil, Nat.mul_add]
  omega
theorem line_len {t : Th} (h : t.short) : t.line.length ≤ 5000 := by
  cases t with
  | say n r => have := (joinT_short (n := 200) h).2; simp only [Th.line, List.length_append, List.length_cons, List.length_nil]; omega
  | tell n s p b r =>
    obtain ⟨hs, hp, ⟨hb1, hb2⟩, hr⟩ := h
    have := (joinT_short hp).2
    have := (joinT_short hr).2
    have := bendsT_len hb1 hb2
    simp only [Th.line, List.length_append, List.length_cons, List.length_nil]
    omega
  | part n ks => simp [Th.line]
mutual
theorem Th.rows_short : ∀ t : Th, t.short → ∀ l ∈ t.rows, l.length ≤ 5000
  | .part _ ks, h, l, hl => by
    simp only [Th.rows, List.mem_cons, List.mem_append, List.not_mem_nil, or_false] at hl
    rcases hl with rfl | hl | rfl
    · simp
    · exact Th.rowss_short ks h l hl
    · simp
  | .say n r, h, l, hl => by
    rw [Th.rows, List.mem_singleton] at hl
    rw [hl]; exact line_len h
  | .tell n s p b r, h, l, hl => by
    rw [Th.rows, List.mem_singleton] at hl
    rw [hl]; exact line_len h
theorem Th.rowss_short : ∀ ts : List Th, Th.shorts ts → ∀ l ∈ Th.rowss ts, l.length ≤ 5000
  | [], _, l, hl => by cases hl
  | t :: ts, h, l, hl => by
    rcases List.mem_append.mp hl with hl | hl
    · exact Th.rows_short t h.1 l hl
    · exact Th.rowss_short ts h.2 l hl
end
/-- the whole text -/
def Th.text (ks : List Th) : Tx := joinT [10] (Th.rowss ks)
theorem Th.text_b {ks : List Th} (hs : Th.sizes ks ≤ 1000) (hsh : Th.shorts ks) : ((Th.rowss ks).map List.length).sum + (Th.rowss ks).length * ([10] : Tx).length ≤ 16777216 := by
  have h1 := rowss_sum (Th.rowss ks) 5000 (Th.rowss_short ks hsh)
  have h2 := Th.rowss_len ks
  have h3 : (Th.rowss ks).length * (5000 + 1) ≤ 2000 * 5001 := Nat.mul_le_mul_right _ (by omega)
  omega
theorem written_at {cs : List Code} {c ft fr fi k : Nat} (hc : cs[c]? = some (C_written fi)) (h3 : cs[fi]? = some (C_rows_in ft fr fi)) (h1 : cs[ft]? = some C_text_of) (h2 : cs[fr]? = some (C_telling_row ft)) (n : Int) (ks : List Th) (hk : Th.depths ks + 4 ≤ k) (hs : Th.sizes ks ≤ 1000) (hsh : Th.shorts ks) :
    Fk cs k c [((Th.part n ks).D, 0)] = .ok (.str (Th.text ks)) 0 [] := by
  have hr := rowsIn_at h3 h1 h2 (k - 1) n ks (by omega) hs hsh
  have hb := Th.text_b hs hsh
  rw [Fk_at (by omega) hc]
  refine run_of (P := fun r => r = _) rfl rfl ?_
  simp only [GL.start, C_written, List.map_cons, List.map_nil, List.replicate, List.cons_append, List.nil_append]
  refine s_ret (d := .str (Th.text ks)) (n := 0) (by
    apply xPure0
    simp -implicitDefEqProofs only [e_mth, e_call, e_acons, e_anil, e_var, e_cst, CE.fresh, List.getElem?_cons_zero, q_sl, q_acons, q_call, List.map_cons, List.map_nil, hr]
    rw [q_post _ _ _ _ rfl]
    simp -implicitDefEqProofs only [q_acons, R.bind_ok]
    rw [q_mth _ _ _ _ _ (mo_join _), m_joinL _ _ _ _ _ _ hb]
    rfl) ?_
  simp only [fin, rr, outs]
theorem line_at {cs : List Code} {c k : Nat} (hc : cs[c]? = some C_law_line) (hk : 1 ≤ k) (t : Th) (hp : t.kind ≠ [112, 97, 114, 116]) (h : t.short) : Fk cs k c [(t.D, 0)] = .ok (.str t.line) 0 [] := by
  rw [Fk_at (by omega) hc]
  refine run_of (P := fun r => r = _) rfl rfl ?_
  cases t with
  | part m js => exact absurd rfl hp
  | say m row =>
    have lr := (joinT_short (n := 200) h).2
    have lr1 := (joinT_short (n := 200) h).1
    have x0 : opIdx (Th.say m row).D 0 (.int 0) = .ok (.str [115, 97, 121]) 0 := rfl
    have x1 : opIdx (Th.say m row).D 0 (.int (-1)) = .ok (.tup (row.map D.str)) 0 := rfl
    unfold Th.line
    generalize (Th.say m row).D = t at x0 x1
    simp only [GL.start, C_law_line, List.map_cons, List.map_nil, List.replicate, List.cons_append, List.nil_append]
    refine s_asg (d := .str (joinT [32] row)) (n := 0) (by apply xPure0; walk_at "ev"; simp only [x1]; walk_at "ev"; rw [m_joinT _ _ _ _ _ _ (by show _ ≤ (16777216 : Nat); omega)]) ?_
    walk_at "nx"
    generalize joinT [32] row = R at lr
    refine s_if (t := true) (n := 0) (by walk_at "ev"; simp only [x0]; walk_at "ev"; rfl) (fun _ => ?_) (fun h => by cases h)
    walk_at "nx"
    refine s_ret (d := .str ([115, 97, 121, 32] ++ R)) (n := 0) (by walk_at "ex") ?_
    simp only [fin, rr, outs]
    rfl
  | tell m s p b row =>
    obtain ⟨hs, hp, ⟨hb1, hb2⟩, hr⟩ := h
    have lp := (joinT_short hp).2
    have lp1 := (joinT_short hp).1
    have lr := (joinT_short hr).2
    have lr1 := (joinT_short hr).1
    have x0 : opIdx (Th.tell m s p b row).D 0 (.int 0) = .ok (.str [116, 101, 108, 108]) 0 := rfl
    have x1 : opIdx (Th.tell m s p b row).D 0 (.int (-1)) = .ok (.tup (row.map D.str)) 0 := rfl
    have x2 : opIdx (Th.tell m s p b row).D 0 (.int 2) = .ok (.str s) 0 := rfl
    have x3 : opIdx (Th.tell m s p b row).D 0 (.int 3) = .ok (.tup (p.map D.str)) 0 := rfl
    have x4 : opIdx (Th.tell m s p b row).D 0 (.int 4) = .ok (.tup (b.map bD)) 0 := rfl
    unfold Th.line
    generalize (Th.tell m s p b row).D = t at x0 x1 x2 x3 x4
    simp only [GL.start, C_law_line, List.map_cons, List.map_nil, List.replicate, List.cons_append, List.nil_append]
    refine s_asg (d := .str (joinT [32] row)) (n := 0) (by apply xPure0; walk_at "ev"; simp only [x1]; walk_at "ev"; rw [m_joinT _ _ _ _ _ _ (by show _ ≤ (16777216 : Nat); omega)]) ?_
    walk_at "nx"
    generalize joinT [32] row = R at lr
    refine s_if (t := false) (n := 0) (by walk_at "ev"; simp only [x0]; walk_at "ev"; rfl) (fun h => by cases h) (fun _ => ?_)
    walk_at "nx"
    have pj := m_joinT [32] p 0 0 true false (by show _ ≤ (16777216 : Nat); omega)
    generalize hP : joinT [32] p = P at lp pj
    refine s_asg (d := .str ([116, 101, 108, 108, 32] ++ s ++ [32] ++ P)) (n := 0) (by apply xPure0; walk_at "ev"; simp only [x2, x3]; walk_at "ev"; rw [m_joinT _ _ _ _ _ _ (by show _ ≤ (16777216 : Nat); omega), hP]; walk_at "ev") ?_
    walk_at "nx"
    refine s_for (α := Tx) (xs := b.map bD) (i_tup0 (by walk_at "ev"; simp only [x4])) (fun a => [some (t, 0), some (.str R, 0), some (.str ([116, 101, 108, 108, 32] ++ s ++ [32] ++ P ++ a), 0), none, none]) (fun i a => a = bendsT (b.take i)) [] (by rw [List.append_nil]; walk_at "rs") rfl ?_ ?_
    · rintro i x a hx rfl
      rw [List.getElem?_map] at hx
      obtain ⟨q, hq, rfl⟩ := Option.map_eq_some_iff.mp hx
      have hqm := List.mem_of_getElem? hq
      obtain ⟨q1, q2⟩ := hb2 q hqm
      have lb := bendsT_len (b := b.take i) (n := 5) (by rw [List.length_take]; omega) fun z hz => hb2 z (List.mem_of_mem_take hz)
      have hn : bendsT (b.take (i + 1)) = bendsT (b.take i) ++ bendT q := by
        rw [List.take_succ, hq]
        exact bendsT_snoc _ _
      generalize bendsT (b.take i) = B at lb hn
      refine ⟨_, rfl, ?_⟩
      simp only [List.zip_cons_cons, List.zip_nil_right, List.foldl_cons, List.foldl_nil]
      walk_at "nx"
      refine s_asg (d := .str ([116, 101, 108, 108, 32] ++ s ++ [32] ++ P ++ B ++ [32] ++ q.1 ++ [62] ++ q.2)) (n := 0) (by walk_at "ex") ?_
      walk_at "nx"
      refine s_nil ⟨B ++ bendT q, by simp [rs, rsA, bendT], hn.symm⟩
    · rintro a rfl
      rw [List.length_map, List.take_length]
      have lb := bendsT_len hb1 hb2
      generalize bendsT b = B at lb
      refine s_ret (d := .str ([116, 101, 108, 108, 32] ++ s ++ [32] ++ P ++ B ++ [58, 32] ++ R)) (n := 0) (by walk_at "ex") ?_
      simp only [fin, rr, outs]
      simp only [List.append_assoc, List.cons_append, List.nil_append]
def oD : Option Th → D
  | none => .non
  | some t => t.D
def oRows : Option Th → List Tx
  | none => [[101, 110, 100]]
  | some t => t.rows
def oSize : Option Th → Nat
  | none => 1
  | some t => 2 * t.size
def oRowss (l : List (Option Th)) : List Tx := (l.map oRows).flatten
def oSizes (l : List (Option Th)) : Nat := (l.map oSize).sum
theorem oRowss_some : ∀ ts : List Th, oRowss (ts.map some) = Th.rowss ts
  | [] => rfl
  | t :: ts => by have := oRowss_some ts; simp only [oRowss, List.map_cons, List.flatten_cons, Th.rowss, oRows] at this ⊢; rw [this]
theorem oSizes_some : ∀ ts : List Th, oSizes (ts.map some) = 2 * Th.sizes ts
  | [] => rfl
  | t :: ts => by have := oSizes_some ts; simp only [oSizes, List.map_cons, List.sum_cons, Th.sizes, oSize] at this ⊢; omega
theorem oRows_len (o : Option Th) : (oRows o).length ≤ oSize o := by
  cases o with
  | none => simp [oRows, oSize]
  | some t => exact Th.rows_len t
theorem oLen : ∀ l : List (Option Th), l.length ≤ oSizes l
  | [] => Nat.le_refl _
  | o :: l => by
    have := oLen l
    have h1 : 1 ≤ oSize o := by
      cases o with
      | none => exact Nat.le_refl _
      | some t => cases t <;> simp [oSize, Th.size] <;> omega
    simp only [oSizes, List.map_cons, List.sum_cons, List.length_cons] at this ⊢; omega
theorem oFlats : ∀ l : List (Option Th), (∀ t, some t ∈ l → t.depth ≤ 20) → D.flats 63 (l.map oD) = true
  | [], _ => rfl
  | o :: l, h => by
    have h1 := oFlats l fun t ht => h t (List.mem_cons_of_mem _ ht)
    have h2 : D.flat 63 (oD o) = true := by
      cases o with
      | none => rfl
      | some t => exact Th.flatD t 63 (by have := h t List.mem_cons_self; omega)
    simp only [List.map_cons, D.flats, h1, h2, Bool.and_self]
theorem depth_mem : ∀ {ts : List Th} {t : Th}, t ∈ ts → t.depth ≤ Th.depths ts
  | u :: ts, t, h => by
    rcases List.mem_cons.mp h with rfl | h
    · simp only [Th.depths]; omega
    · have := depth_mem h; simp only [Th.depths]; omega
theorem short_mem : ∀ {ts : List Th} {t : Th}, Th.shorts ts → t ∈ ts → t.short
  | u :: ts, t, hs, h => by
    rcases List.mem_cons.mp h with rfl | h
    · exact hs.1
    · exact short_mem hs.2 h
theorem lines_at {cs : List Code} {c fl k : Nat} (hc : cs[c]? = some (C_law_lines fl)) (h1 : cs[fl]? = some C_law_line) (hk : 2 ≤ k) (n : Int) (ks : List Th) (hd : Th.depths ks ≤ 20) (hs : Th.sizes ks ≤ 1000) (hsh : Th.shorts ks) : Fk cs k c [((Th.part n ks).D, 0)] = .ok (.lst ((Th.rowss ks).map D.str)) 1 [] := by
  rw [Fk_at (by omega) hc]
  refine run_of (P := fun r => r = _) rfl rfl ?_
  simp only [GL.start, C_law_lines, List.map_cons, List.map_nil, List.replicate, List.cons_append, List.nil_append, Nat.reduceSub]
  refine s_asg (by walk_at "ex") ?_
  walk_at "nx"
  have hdoc : ∀ n ks, opIdx (Th.part n ks).D 0 (.int 2) = .ok (.tup (Th.Ds ks)) 0 := fun _ _ => rfl
  have eo : ∀ ts : List Th, Th.Ds ts = (ts.map some).map oD := fun ts => by rw [Th.Ds_map, List.map_map]; rfl
  refine s_asg (d := .lst ((ks.map some).map oD)) (n := 1) (xPureF rfl (by rw [← eo]; simp -implicitDefEqProofs only [e_blt, e_acons, e_anil, CE.fresh, e_idx, e_var, e_cst, List.getElem?_cons_zero, q_sl, R.bind_ok, hdoc, q_acons, q_blt, bListT])) ?_
  walk_at "nx"
  refine s_whl (α := List Tx × List (Option Th)) (fun a => [some ((Th.part n ks).D, 0), some (.lst (a.1.map D.str), 1), some (.lst (a.2.map oD), 1), none]) (fun a => a.1 ++ oRowss a.2 = Th.rowss ks ∧ (∀ t, some t ∈ a.2 → t.depth ≤ 20 ∧ t.short) ∧ a.1.length + oSizes a.2 ≤ 2 * Th.sizes ks) (fun a => oSizes a.2) ([], ks.map some) (by simp [rs, rsA]) ⟨by rw [oRowss_some]; rfl, fun t ht => by
      obtain ⟨u, hu, e⟩ := List.mem_map.mp ht
      cases e
      exact ⟨Nat.le_trans (depth_mem hu) hd, short_mem hsh hu⟩, by rw [oSizes_some]; simp⟩ (by show oSizes (ks.map some) < 1000000; rw [oSizes_some]; omega) ?_
  rintro ⟨due, left⟩ ⟨he, hdl, hl1⟩
  dsimp only at he hdl hl1 ⊢
  refine ⟨!(left.map oD).isEmpty, 0, by
    simp -implicitDefEqProofs only [e_cmp, e_var, e_lst, e_anil, List.getElem?_cons_succ, List.getElem?_cons_zero, q_sl, R.bind_ok]
    rw [q_lst _ _ rfl, R.bind_ok]
    show rB (opCmp .ne (.lst (left.map oD)) (.lst [])) = _
    rw [cNe_nil (oFlats left fun t ht => (hdl t ht).1), rB_some], fun ht => ?_, fun hf => ?_⟩
  · cases left with
    | nil => simp at ht
    | cons o ts =>
      refine s_asg (x_pop0 (x := oD o) (xs := ts.map oD) rfl) ?_
      walk_at "nx"
      have hdl' : ∀ t, some t ∈ ts → t.depth ≤ 20 ∧ t.short := fun t ht => hdl t (List.mem_cons_of_mem _ ht)
      have hes : oRowss (o :: ts) = oRows o ++ oRowss ts := by simp [oRowss]
      have hss : oSizes (o :: ts) = oSize o + oSizes ts := by simp [oSizes]
      rw [hes] at he
      rw [hss] at hl1
      cases o with
      | none =>
        refine s_if (t := true) (n := 0) (by rfl) (fun _ => ?_) (fun h => by cases h)
        walk_at "nx"
        refine s_appv (x := .str [101, 110, 100]) (m := 0) rfl (xPure0 (by rfl)) rfl (by rw [List.length_map]; simp only [oSize] at hl1; omega) ?_
        walk_at "nx"
        refine s_nil ⟨(due ++ [[101, 110, 100]], ts), by simp [rs, rsA], ⟨?_, hdl', ?_⟩, ?_⟩
        · rw [← he]; simp [oRows]
        · simp only [oSize] at hl1; simp; omega
        · show oSizes ts < oSizes (none :: ts)
          rw [hss]; simp only [oSize]; omega
      | some t =>
        obtain ⟨td, tsh⟩ := hdl t List.mem_cons_self
        have hisn : opCmp .is_ t.D .non = some false := by cases t <;> rfl
        refine s_if (t := false) (n := 0) (by
          simp -implicitDefEqProofs only [e_cmp, e_var, e_cst, List.getElem?_cons_succ, List.getElem?_cons_zero, q_sl, R.bind_ok]
          show rB (opCmp .is_ t.D .non) = _
          rw [hisn]; rfl) (fun h => by cases h) (fun _ => ?_)
        walk_at "nx"
        have hix := Th.ix0 t
        refine s_if (t := decide (t.kind = [112, 97, 114, 116])) (n := 0) (by
          simp -implicitDefEqProofs only [e_cmp, e_idx, e_var, e_cst, List.getElem?_cons_zero, List.getElem?_cons_succ, q_sl, R.bind_ok, oD, hix, cEqS, rB_some]) (fun h => ?_) (fun h => ?_)
        · walk_at "nx"
          cases t with
          | say _ _ => simp [Th.kind] at h
          | tell _ _ _ _ _ => simp [Th.kind] at h
          | part m js =>
            have hjs : js.length ≤ Th.sizes js := Th.len_sizes js
            have hts : ts.length ≤ oSizes ts := oLen ts
            simp only [oSize, Th.size] at hl1
            refine s_appv (x := .str [112, 97, 114, 116]) (m := 0) rfl (xPure0 (by rfl)) rfl (by rw [List.length_map]; omega) ?_
            walk_at "nx"
            refine s_asg (d := .lst ((js.map some ++ none :: ts).map oD)) (n := 1) (xPureF rfl (by
              simp -implicitDefEqProofs only [e_bin, e_blt, e_lst, e_acons, e_anil, CE.fresh, e_idx, e_var, e_cst, List.getElem?_cons_zero, List.getElem?_cons_succ, q_sl, R.bind_ok, oD, hdoc, q_acons, q_blt, bListT]
              rw [q_lst _ _ rfl, R.bind_ok, opAddL _ _ _ _ (by omega) (by omega) (by rw [Th.Ds_map, List.length_map]; simp; omega), R.bind_ok, opAddL _ _ _ _ (by omega) (by omega) (by rw [List.length_append, Th.Ds_map, List.length_map, List.length_map]; simp; omega)]
              rw [eo]
              simp [oD])) ?_
            walk_at "nx"
            refine s_nil ⟨(due ++ [[112, 97, 114, 116]], js.map some ++ none :: ts), by simp [rs, rsA], ⟨?_, ?_, ?_⟩, ?_⟩
            · rw [← he]
              have h1 : oRowss (js.map some ++ none :: ts) = oRowss (js.map some) ++ ([[101, 110, 100]] ++ oRowss ts) := by simp [oRowss, oRows]
              show due ++ [[112, 97, 114, 116]] ++ oRowss (js.map some ++ none :: ts) = _
              rw [h1, oRowss_some]
              simp [oRows, Th.rows]
            · intro u hu
              rcases List.mem_append.mp hu with hu | hu
              · obtain ⟨v, hv, e⟩ := List.mem_map.mp hu
                cases e
                have := depth_mem hv
                simp only [Th.depth] at td
                exact ⟨by omega, short_mem tsh hv⟩
              · rcases List.mem_cons.mp hu with e | hu
                · cases e
                · exact hdl' u hu
            · have h1 : oSizes (js.map some ++ none :: ts) = oSizes (js.map some) + (1 + oSizes ts) := by simp [oSizes, oSize]
              show (due ++ [[112, 97, 114, 116]]).length + oSizes (js.map some ++ none :: ts) ≤ _
              rw [h1, oSizes_some, List.length_append]
              simp; omega
            · show oSizes (js.map some ++ none :: ts) < oSizes (some (.part m js) :: ts)
              have h1 : oSizes (js.map some ++ none :: ts) = oSizes (js.map some) + (1 + oSizes ts) := by simp [oSizes, oSize]
              rw [h1, oSizes_some, hss]
              simp only [oSize, Th.size]; omega
        · walk_at "nx"
          have h := of_decide_eq_false h
          have hl := line_at h1 (k := k - 1) (by omega) t h tsh
          have hr : t.rows = [t.line] ∧ t.size = 1 := by
            cases t with
            | part m js => exact absurd rfl h
            | say _ _ => exact ⟨rfl, rfl⟩
            | tell _ _ _ _ _ => exact ⟨rfl, rfl⟩
          refine s_appv (x := .str t.line) (m := 0) rfl (by
            apply xPure0
            simp -implicitDefEqProofs only [e_call, e_acons, e_anil, e_var, CE.fresh, List.getElem?_cons_zero, List.getElem?_cons_succ, q_sl, q_acons, q_call, List.map_cons, List.map_nil, oD, hl]
            rw [q_post _ _ _ _ rfl]) rfl (by rw [List.length_map]; simp only [oSize] at hl1; omega) ?_
          walk_at "nx"
          refine s_nil ⟨(due ++ [t.line], ts), by simp [rs, rsA], ⟨?_, hdl', ?_⟩, ?_⟩
          · rw [← he]; simp [oRows, hr.1]
          · simp only [oSize, hr.2] at hl1; simp; omega
          · show oSizes ts < oSizes (some t :: ts)
            rw [hss]; simp only [oSize, hr.2]; omega
  · have hleft : left = [] := by
      cases left with
      | nil => rfl
      | cons t ts => simp at hf
    subst hleft
    have : oRowss [] = [] := rfl
    rw [this, List.append_nil] at he
    subst he
    refine s_retv rfl ?_
    simp only [fin, rr, outs]
theorem told_at {cs : List Code} {c ft fr fi fw k : Nat} (hc : cs[c]? = some (C_law_told fw)) (h4 : cs[fw]? = some (C_written fi)) (h3 : cs[fi]? = some (C_rows_in ft fr fi)) (h1 : cs[ft]? = some C_text_of) (h2 : cs[fr]? = some (C_telling_row ft)) (n : Int) (ks : List Th) (hk : Th.depths ks + 5 ≤ k) (hs : Th.sizes ks ≤ 1000) (hsh : Th.shorts ks) :
    Fk cs k c [((Th.part n ks).D, 0), (.str (Th.text ks), 0)] = .ok (.bl true) 0 [] := by
  have hw := written_at h4 h3 h1 h2 (k := k - 1) n ks (by omega) hs hsh
  rw [Fk_at (by omega) hc]
  refine run_of (P := fun r => r = _) rfl rfl ?_
  simp only [GL.start, C_law_told, List.map_cons, List.map_nil, List.replicate, List.cons_append, List.nil_append]
  refine s_asg (d := .str (Th.text ks)) (n := 0) (by apply xPure0; walk_at "ev"; simp only [hw]; walk_at "ev") ?_
  walk_at "nx"
  refine s_ret (d := .bl true) (n := 0) (by apply xPure0; walk_at "ev"; simp) ?_
  simp only [fin, rr, outs]
end GL

/-! GLX: documents read. -/
namespace GL
local macro_rules | `(tactic| walk_at "ev") => `(tactic| (simp -implicitDefEqProofs (disch := first | omega | assumption | decide | (simp only [mo_split, mo_join, mo_ends, mo_index, mo_part]; done) | (simp only [fixed, deep, D.safe, D.imm, D.imms, List.all_cons, List.all_nil, beq_self_eq_true, Bool.true_or, Bool.or_true, Bool.and_true, Bool.and_self, decide_true, Nat.reduceSub, Nat.reduceBEq, Nat.reduceEqDiff]; done) | (simp only [List.length_map, List.length_range, List.length_cons, List.length_nil, List.length_append]; omega) | fail) only [e_var, e_cst, e_glo, e_tup, e_lst, e_dnew, e_bin, e_neg, e_cmp, e_chain, e_and, e_or, e_not, e_idx, e_sll, e_slu, e_slb, e_call, e_blt, e_mth, e_isi, e_anil, e_acons, q_sl, q_and, q_andF, q_or, q_orT, q_not, q_neg, q_chn, q_sll, q_slu, q_slb, q_acons, q_tup, q_lst, q_call, q_post, q_posts, q_postx, q_blt, q_mth, fixed_nil, fixed_c0, fixed_ct, R.bind_ok, R.bind_ex, opAdd, opSub, opMulR, opMulL, opFdiv, opMod, opAddS, opAddT, cLt, cLe, cGt, cGe, cEqI, cNeI, cEqB, cEqS, cNeS, cInS, cNotInS, cLeS, cLtS, rB_some, rO_some, bLenRo, bLenL, bLenT, bLenS, bTupL, bTupT, bIntB, bMin, bMax, iRoI, iStr, iTup, iLst, slS, slT, isi_bl, isi_int, isi_str, isi_tup, isi_lst, isi_dct, isi_non, List.getElem?_cons_succ, List.getElem?_cons_zero, List.length_map, List.map_cons, List.map_nil, CE.fresh, or_true, true_or, if_true, Bool.not_false, Bool.not_true, List.set_cons_zero, List.set_cons_succ]))
local macro_rules | `(tactic| walk_at "ex") => `(tactic| first | (apply xPure0; walk_at "ev"; done) | (apply xPure0; walk_at "ev"; rfl) | (apply xPureF rfl; walk_at "ev"; done) | (apply xPureF rfl; walk_at "ev"; rfl))
local macro_rules | `(tactic| walk_at "eb") => `(tactic| first | (walk_at "ev"; done) | (walk_at "ev"; rfl))
local macro_rules | `(tactic| walk_at "nx") => `(tactic| (try dsimp only [CSs.app, List.set_cons_zero, List.set_cons_succ, List.cons_append, List.nil_append]))
local macro_rules | `(tactic| walk_at "rs") => `(tactic| first | (simp (decide := true) only [rs, rsA, if_true, if_false]; done) | (simp (decide := true) only [rs, rsA, if_true, if_false]; rfl) | rfl)
def C_words_of (fis_word : Nat) : Code := ⟨1, 3, [], (.cons (.asg 1 (.pure (.lst 1 .nil))) (.cons (.for_ [2] (.val (.mth .split (.var 0) (.cons (.cst (.str [32])) .nil))) [0, 1] (.cons (.ifs (.not (.call fis_word "is_word" (.cons (.var 2) .nil))) (.cons (.rse 1 "NoWord" (.cons (.cst (.str [110, 111, 32, 119, 111, 114, 100])) .nil)) .nil) .nil) (.cons (.app (.var 1) (.pure (.var 2))) .nil))) (.cons (.frz 1) (.cons (.ret (.pure (.blt .tuple (.cons (.var 1) .nil)))) .nil))))⟩
def C_bend_of (fhas_signs : Nat) : Code := ⟨1, 4, [], (.cons (.asgT [1, 2, 3] (.pure (.mth .partition (.var 0) (.cons (.cst (.str [62])) .nil)))) (.cons (.ifs (.or (.cmp .eq (.var 2) (.cst (.str []))) (.or (.not (.call fhas_signs "has_signs" (.cons (.var 1) .nil))) (.not (.call fhas_signs "has_signs" (.cons (.var 3) .nil))))) (.cons (.rse 1 "NoWord" (.cons (.cst (.str [110, 111, 32, 98, 101, 110, 100])) .nil)) .nil) .nil) (.cons (.ifs (.or (.cmp .gt (.blt .len (.cons (.var 1) .nil)) (.glo "LONGEST" (.int 20))) (.cmp .gt (.blt .len (.cons (.var 3) .nil)) (.glo "LONGEST" (.int 20)))) (.cons (.rse 1 "NoWord" (.cons (.cst (.str [97, 32, 98, 101, 110, 100, 32, 111, 102, 32, 116, 111, 111, 32, 109, 97, 110, 121, 32, 115, 105, 103, 110, 115])) .nil)) .nil) .nil) (.cons (.ret (.pure (.tup (.cons (.var 1) (.cons (.var 3) .nil))))) .nil))))⟩
def C_shape_of (fbend_of fis_word : Nat) : Code := ⟨1, 4, [], (.cons (.asg 1 (.pure (.lst 1 .nil))) (.cons (.asg 2 (.pure (.lst 1 .nil))) (.cons (.for_ [3] (.val (.var 0)) [0, 1, 2] (.cons (.ifs (.cmp .in_ (.cst (.str [62])) (.var 3)) (.cons (.app (.var 2) (.pure (.call fbend_of "bend_of" (.cons (.var 3) .nil)))) .nil) (.cons (.ifs (.and (.call fis_word "is_word" (.cons (.var 3) .nil)) (.cmp .eq (.var 2) (.lst 1 .nil))) (.cons (.app (.var 1) (.pure (.var 3))) .nil) (.cons (.rse 1 "NoWord" (.cons (.cst (.str [110, 111, 32, 112, 104, 114, 97, 115, 101, 32, 119, 105, 116, 104, 32, 98, 101, 110, 100, 115])) .nil)) .nil)) .nil)) .nil)) (.cons (.frz 1) (.cons (.frz 2) (.cons (.ifs (.or (.not (.chain .le .le (.cst (.int 1)) (.blt .len (.cons (.var 1) .nil)) (.glo "MOST_IN_PHRASE" (.int 4)))) (.cmp .gt (.blt .len (.cons (.var 2) .nil)) (.glo "MOST_BENDS" (.int 5)))) (.cons (.rse 1 "NoWord" (.cons (.cst (.str [116, 111, 111, 32, 102, 101, 119, 32, 111, 114, 32, 116, 111, 111, 32, 109, 97, 110, 121])) .nil)) .nil) .nil) (.cons (.ret (.pure (.tup (.cons (.blt .tuple (.cons (.var 1) .nil)) (.cons (.blt .tuple (.cons (.var 2) .nil)) .nil))))) .nil)))))))⟩
def C_row_read (fwords_of : Nat) : Code := ⟨1, 2, [], (.cons (.asg 1 (.pure (.call fwords_of "words_of" (.cons (.var 0) .nil)))) (.cons (.ifs (.cmp .gt (.blt .len (.cons (.var 1) .nil)) (.glo "MOST_WORDS" (.int 200))) (.cons (.rse 1 "NoWord" (.cons (.cst (.str [116, 111, 111, 32, 109, 97, 110, 121, 32, 119, 111, 114, 100, 115])) .nil)) .nil) .nil) (.cons (.retv 1) .nil)))⟩
def C_thing_read (frow_read fshape_of fforms : Nat) : Code := ⟨2, 11, [], (.cons (.asgT [2, 3, 4] (.pure (.mth .partition (.var 0) (.cons (.cst (.str [32])) .nil)))) (.cons (.ifs (.cmp .eq (.var 2) (.cst (.str [115, 97, 121]))) (.cons (.ret (.pure (.tup (.cons (.cst (.str [115, 97, 121])) (.cons (.var 1) (.cons (.call frow_read "row_read" (.cons (.var 4) .nil)) .nil)))))) .nil) .nil) (.cons (.asgT [5, 6, 7] (.pure (.mth .partition (.var 4) (.cons (.cst (.str [58, 32])) .nil)))) (.cons (.asg 8 (.pure (.mth .split (.var 5) (.cons (.cst (.str [32])) .nil)))) (.cons (.ifs (.or (.cmp .ne (.var 2) (.cst (.str [116, 101, 108, 108]))) (.cmp .notin (.idx (.var 8) (.cst (.int 0))) (.glo "SCOPES" (.ro false (scopes.map D.str))))) (.cons (.rse 1 "NoWord" (.cons (.cst (.str [110, 111, 32, 115, 117, 99, 104, 32, 114, 111, 119])) .nil)) .nil) .nil) (.cons (.asgT [9, 10] (.pure (.call fshape_of "shape_of" (.cons (.sll (.var 8) (.cst (.int 1))) .nil)))) (.cons (.expr (.pure (.call fforms "forms" (.cons (.var 9) (.cons (.var 10) .nil))))) (.cons (.ret (.pure (.tup (.cons (.cst (.str [116, 101, 108, 108])) (.cons (.var 1) (.cons (.idx (.var 8) (.cst (.int 0))) (.cons (.var 9) (.cons (.var 10) (.cons (.call frow_read "row_read" (.cons (.var 7) .nil)) .nil))))))))) .nil))))))))⟩
def C_thing_at (fthing_read : Nat) : Code := ⟨3, 3, [], (.cons (.tryP (.cons (.ret (.pure (.call fthing_read "thing_read" (.cons (.var 0) (.cons (.var 1) .nil))))) .nil)) .nil)⟩
def C_read (fthing_at : Nat) : Code := ⟨1, 7, [], (.cons (.ifs (.cmp .eq (.var 0) (.cst (.str []))) (.cons (.ret (.pure (.tup (.cons (.cst (.str [112, 97, 114, 116])) (.cons (.cst (.int 0)) (.cons (.tup .nil) .nil)))))) .nil) .nil) (.cons (.asg 1 (.pure (.lst 1 (.cons (.cst (.int 0)) .nil)))) (.cons (.asg 2 (.pure (.lst 2 (.cons (.lst 1 .nil) .nil)))) (.cons (.asg 3 (.pure (.cst (.int 0)))) (.cons (.for_ [4, 5] (.enum (.mth .split (.var 0) (.cons (.cst (.str [10])) .nil))) [0, 1, 2, 3] (.cons (.ifs (.and (.cmp .eq (.var 5) (.cst (.str [101, 110, 100]))) (.cmp .gt (.blt .len (.cons (.var 1) .nil)) (.cst (.int 1)))) (.cons (.asg 6 (.tup3 (.pure (.cst (.str [112, 97, 114, 116]))) (.pop (.var 1)) (.tuple (.pop (.var 2))))) (.cons (.app (.idx (.var 2) (.neg (.cst (.int 1)))) (.pure (.var 6))) .nil)) (.cons (.ifs (.cmp .eq (.var 5) (.cst (.str [112, 97, 114, 116]))) (.cons (.ifs (.cmp .gt (.blt .len (.cons (.var 1) .nil)) (.glo "DEEPEST" (.int 8))) (.cons (.rse 5 "TooDeep" (.cons (.cst (.str [116, 111, 111, 32, 109, 97, 110, 121, 32, 112, 97, 114, 116, 115, 32, 119, 105, 116, 104, 105, 110, 32, 111, 110, 101, 32, 97, 110, 111, 116, 104, 101, 114])) .nil)) .nil) .nil) (.cons (.asg 3 (.pure (.bin .add (.var 3) (.cst (.int 1))))) (.cons (.app (.var 1) (.pure (.var 3))) (.cons (.app (.var 2) (.pure (.lst 1 .nil))) .nil)))) (.cons (.asg 3 (.pure (.bin .add (.var 3) (.cst (.int 1))))) (.cons (.app (.idx (.var 2) (.neg (.cst (.int 1)))) (.pure (.call fthing_at "thing_at" (.cons (.var 5) (.cons (.var 3) (.cons (.var 4) .nil)))))) .nil))) .nil)) .nil)) (.cons (.frz 1) (.cons (.frz 2) (.cons (.ifs (.cmp .gt (.blt .len (.cons (.var 1) .nil)) (.cst (.int 1))) (.cons (.rse 4 "NoEnd" (.cons (.cst (.str [97, 32, 112, 97, 114, 116, 32, 105, 115, 32, 110, 111, 116, 32, 101, 110, 100, 101, 100])) .nil)) .nil) .nil) (.cons (.ret (.pure (.tup (.cons (.cst (.str [112, 97, 114, 116])) (.cons (.cst (.int 0)) (.cons (.blt .tuple (.cons (.idx (.var 2) (.cst (.int 0))) .nil)) .nil)))))) .nil)))))))))⟩
def C_law_plain (f_ended : Nat) : Code := ⟨1, 6, [], (.cons (.asg 1 (.pure (.cst (.int 0)))) (.cons (.asg 2 (.pure (.lst 1 (.cons (.cst (.int 0)) .nil)))) (.cons (.asg 3 (.pure (.lst 2 (.cons (.lst 1 .nil) .nil)))) (.cons (.asg 4 (.pure (.blt .list (.cons (.idx (.var 0) (.cst (.int 2))) .nil)))) (.cons (.whl 1000000 (.cmp .ne (.var 4) (.lst 1 .nil)) [0, 1, 2, 3, 4] (.cons (.asg 5 (.pop0 (.var 4))) (.cons (.ifs (.cmp .is_ (.var 5) (.cst .non)) (.cons (.expr (.cio f_ended "_law_ended" [(2, true), (3, true)])) .nil) (.cons (.ifs (.cmp .eq (.idx (.var 5) (.cst (.int 0))) (.cst (.str [112, 97, 114, 116]))) (.cons (.asg 1 (.pure (.bin .add (.var 1) (.cst (.int 1))))) (.cons (.app (.var 2) (.pure (.var 1))) (.cons (.app (.var 3) (.pure (.lst 1 .nil))) (.cons (.asg 4 (.pure (.bin .add (.bin .add (.blt .list (.cons (.idx (.var 5) (.cst (.int 2))) .nil)) (.lst 1 (.cons (.cst .non) .nil))) (.var 4)))) .nil)))) (.cons (.asg 1 (.pure (.bin .add (.var 1) (.cst (.int 1))))) (.cons (.app (.idx (.var 3) (.neg (.cst (.int 1)))) (.pure (.bin .add (.tup (.cons (.idx (.var 5) (.cst (.int 0))) (.cons (.var 1) .nil))) (.sll (.var 5) (.cst (.int 2)))))) .nil))) .nil)) .nil))) (.cons (.frz 3) (.cons (.ret (.pure (.tup (.cons (.cst (.str [112, 97, 114, 116])) (.cons (.cst (.int 0)) (.cons (.blt .tuple (.cons (.idx (.var 3) (.cst (.int 0))) .nil)) .nil)))))) .nil)))))))⟩
def C_law_read (fread : Nat) : Code := ⟨2, 3, [], (.cons (.asg 2 (.pure (.call fread "read" (.cons (.var 0) .nil)))) (.cons (.ret (.pure (.and (.isi (.var 2) .tuple) (.cmp .eq (.var 2) (.var 1))))) .nil))⟩
theorem s_tryP {F : Fn} {Q : SR → Prop} {b ss : CSs} {Γ : Env} (h : Wp F (fun r => match r with | .nx Γ' => Wp F Q ss Γ' | .rt d n Γ' => Q (.rt d n Γ') | _ => False) b Γ) : Wp F Q (.cons (.tryP b) ss) Γ := by
  unfold Wp at h ⊢
  simp only [evSs, evS]
  cases e : evSs F b Γ with
  | nx Γ' => rw [e] at h; exact h
  | rt d n Γ' => rw [e] at h; exact h
  | ex k fs Γ' => rw [e] at h; exact h.elim
  | bad => rw [e] at h; exact h.elim
theorem preB_self (S r : Tx) : preB S (S ++ r) = true := by
  induction S with
  | nil => rfl
  | cons s S ih => simp [preB, ih]
theorem parT_hit {c : Nat} {S r : Tx} : ∀ (p acc : Tx), c ∉ p → parT (c :: S) acc (p ++ (c :: S ++ r)) = some (acc ++ p, r)
  | [], acc, _ => by
    have h := preB_self (c :: S) r
    simp only [List.nil_append, List.cons_append] at h ⊢
    rw [parT, if_pos h, List.append_nil]
    congr 2
    simp
  | x :: p, acc, h => by
    have hx : ¬ c = x := fun e => h (by rw [e]; exact List.mem_cons_self)
    have hp : c ∉ p := fun m => h (List.mem_cons_of_mem _ m)
    have e : preB (c :: S) (x :: (p ++ (c :: S ++ r))) = false := by simp [preB, hx]
    rw [List.cons_append, parT, if_neg (by rw [e]; decide), parT_hit p _ hp, List.append_assoc]
    rfl
theorem m_par {s t p q : Tx} {n m : Nat} {f g : Bool} (h1 : t ≠ []) (h2 : s.length ≤ 16777216) (h : parT t [] s = some (p, q)) : opMe .partition (.str s, n, f) [(.str t, m, g)] = .ok (.tup [.str p, .str t, .str q]) 0 := by
  simp only [opMe]
  rw [if_pos ⟨h1, h2⟩, h]
theorem x_par {F : Fn} {Γ : Env} {a : CE} {s t p q : Tx} {n : Nat} (ha : ev F a Γ = .ok (.str s) n) (h1 : t ≠ []) (h2 : s.length ≤ 16777216) (h : parT t [] s = some (p, q)) : evX F (.pure (.mth .partition a (.cons (.cst (.str t)) .nil))) Γ = .ok (.tup [.str p, .str t, .str q]) 0 Γ := by
  apply xPure0
  rw [e_mth, ha, e_acons, e_anil, e_cst]
  simp -implicitDefEqProofs only [R.bind_ok, q_acons]
  rw [q_mth _ _ _ _ _ (mo_part _), m_par h1 h2 h]
theorem good32 : good 32 = false := by decide
theorem good62 : good 62 = false := by decide
theorem good58 : good 58 = false := by decide
theorem good10 : good 10 = false := by decide
theorem nogood {c : Nat} (hc : good c = false) {t : Tx} (h : t.all good = true) : c ∉ t := fun m => by
  have := List.all_eq_true.mp h c m
  rw [hc] at this; cases this
theorem word_all {t : Tx} (h : word t = true) : t.all good = true := by
  simp only [word, Bool.and_eq_true] at h; exact h.1
theorem word_ln {t : Tx} (h : word t = true) : 1 ≤ t.length ∧ t.length ≤ 20 := by
  simp only [word, Bool.and_eq_true, decide_eq_true_eq] at h; exact h.2
theorem mem_joinT {s : Tx} {x : Nat} : ∀ {ts : List Tx}, x ∈ joinT s ts → x ∈ s ∨ ∃ t ∈ ts, x ∈ t
  | [], h => by cases h
  | [t], h => .inr ⟨t, List.mem_cons_self, by simpa [joinT] using h⟩
  | t :: u :: ts, h => by
    rw [joinT] at h
    simp only [List.mem_append] at h
    have ih := fun z : x ∈ joinT s (u :: ts) => mem_joinT z
    have fin_ : x ∈ joinT s (u :: ts) → x ∈ s ∨ ∃ v ∈ t :: u :: ts, x ∈ v := fun z => (ih z).elim .inl fun ⟨v, hv, h⟩ => .inr ⟨v, List.mem_cons_of_mem _ hv, h⟩
    have hd : x ∈ t → x ∈ s ∨ ∃ v ∈ t :: u :: ts, x ∈ v := fun z => .inr ⟨t, List.mem_cons_self, z⟩
    rcases h with h | h
    · first
        | exact hd h
        | (rcases h with h | h; exact hd h; exact .inl h)
    · first
        | exact fin_ h
        | (rcases h with h | h; exact .inl h; exact fin_ h)
theorem words_at2 {cs : List Code} {c fw fh k : Nat} (hc : cs[c]? = some (C_words_of fw)) (hfw : cs[fw]? = some (wordC fh)) (hfh : cs[fh]? = some hasC) (hk : 3 ≤ k) (ws : List Tx) (h1 : 1 ≤ ws.length) (h2 : ws.length ≤ 200) (hw : ∀ t ∈ ws, word t = true) :
    Fk cs k c [(.str (joinT [32] ws), 0)] = .ok (.tup (ws.map D.str)) 0 [] := by
  have hwd := fun (t : Tx) (ht : t ∈ ws) => word_at hfh hfw (k := k - 1) (by omega) t (by have := (word_ln (hw t ht)).2; omega)
  have hj := (joinT_short (r := ws) (n := 200) ⟨h2, fun t ht => (word_ln (hw t ht)).2⟩).2
  have hsp : splitC 32 (joinT [32] ws) = ws := split_join (fun e => by rw [e] at h1; simp at h1) fun t ht => nogood good32 (word_all (hw t ht))
  generalize joinT [32] ws = s at hj hsp
  rw [Fk_at (by omega) hc]
  refine run_of (P := fun r => r = _) rfl rfl ?_
  simp only [GL.start, C_words_of, List.map_cons, List.map_nil, List.replicate, List.cons_append, List.nil_append]
  refine s_asg (by walk_at "ex") ?_
  walk_at "nx"
  have hit : evI (Fk cs (k - 1)) (.val (.mth .split (.var 0) (.cons (.cst (.str [32])) .nil))) [some (.str s, 0), some (.lst [], 1), none] = .ok (ws.map D.str) false := by
    have e : ev (Fk cs (k - 1)) (.mth .split (.var 0) (.cons (.cst (.str [32])) .nil)) [some (.str s, 0), some (.lst [], 1), none] = .ok (.lst (ws.map D.str)) 1 := by
      rw [e_mth, e_var, e_acons, e_anil, e_cst]
      simp -implicitDefEqProofs only [List.getElem?_cons_zero, q_sl, R.bind_ok, q_acons]
      rw [q_mth _ _ _ _ _ (mo_str _ _ (by decide)), m_split _ _ _ _ _ _ (by decide) (by omega), hsp]
    simp only [evI, e, itemsOf]
    rfl
  refine s_for (α := List Tx) hit (fun a => [some (.str s, 0), some (.lst (a.map D.str), 1), none]) (fun i a => a = ws.take i) [] (by walk_at "rs") rfl ?_ ?_
  · rintro i x a hx rfl
    rw [List.getElem?_map] at hx
    obtain ⟨t, ht, rfl⟩ := Option.map_eq_some_iff.mp hx
    have hm := List.mem_of_getElem? ht
    have hwt := hwd t hm
    rw [hw t hm] at hwt
    refine ⟨_, setT_one _ _ _, ?_⟩
    walk_at "nx"
    refine s_if (t := false) (n := 0) (by walk_at "ev"; simp only [hwt]; walk_at "ev"; try rfl) (fun h => by cases h) (fun _ => ?_)
    walk_at "nx"
    refine s_appv (x := .str t) (m := 0) rfl (by walk_at "ex") rfl (by rw [List.length_map, List.length_take]; omega) ?_
    walk_at "nx"
    refine s_nil ⟨ws.take i ++ [t], by simp [rs, rsA], ?_⟩
    rw [List.take_succ, ht]; rfl
  · rintro a rfl
    rw [List.length_map, List.take_length]
    refine s_frz rfl ?_
    walk_at "nx"
    refine s_ret (d := .tup (ws.map D.str)) (n := 0) (by walk_at "ex") ?_
    simp only [fin, rr, outs]
/-- a bend as it is written -/
def bT (q : Tx × Tx) : Tx := q.1 ++ ([62] ++ q.2)
theorem bendOf_at {cs : List Code} {c fh k : Nat} (hc : cs[c]? = some (C_bend_of fh)) (hfh : cs[fh]? = some hasC) (hk : 2 ≤ k) (q : Tx × Tx) (hq : okBend q) : Fk cs k c [(.str (bT q), 0)] = .ok (bD q) 0 [] := by
  obtain ⟨q1, q2, q3, q4⟩ := hq
  have w1 := has_at hfh (k := k - 1) (by omega) q.1 (by omega)
  have w2 := has_at hfh (k := k - 1) (by omega) q.2 (by omega)
  rw [q3] at w1
  rw [q4] at w2
  have hp : parT [62] [] (bT q) = some (q.1, q.2) := parT_hit (c := 62) (S := []) (r := q.2) q.1 [] (nogood good62 q3)
  have hl : (bT q).length ≤ 16777216 := by simp [bT]; omega
  rw [Fk_at (by omega) hc]
  refine run_of (P := fun r => r = _) rfl rfl ?_
  simp only [GL.start, C_bend_of, List.map_cons, List.map_nil, List.replicate, List.cons_append, List.nil_append]
  refine s_asgT (x_par (n := 0) (s := bT q) (by walk_at "ev") (by decide) hl hp) rfl ?_
  simp only [List.zip_cons_cons, List.zip_nil_right, List.foldl_cons, List.foldl_nil]
  walk_at "nx"
  refine s_if (t := false) (n := 0) (by walk_at "ev"; simp only [w1, w2]; walk_at "ev"; try rfl) (fun h => by cases h) (fun _ => ?_)
  walk_at "nx"
  refine s_if (t := false) (n := 0) (by
    have e1 : (20 : Int) < (q.1.length : Int) ↔ False := ⟨fun h => by omega, False.elim⟩
    have e2 : (20 : Int) < (q.2.length : Int) ↔ False := ⟨fun h => by omega, False.elim⟩
    walk_at "ev"
    simp [e1, e2]) (fun h => by cases h) (fun _ => ?_)
  walk_at "nx"
  refine s_ret (d := bD q) (n := 0) (xPure0 (by walk_at "ev"; try rfl)) ?_
  simp only [fin, rr, outs]
theorem flats_bDs (n : Nat) : ∀ b : List (Tx × Tx), D.flats (n + 1) (b.map bD) = true
  | [] => rfl
  | q :: b => by
    have h := flats_bDs n b
    simp only [List.map_cons, D.flats, h, Bool.and_true]
    show D.flats n [.str q.1, .str q.2] = true
    simp only [D.flats, flat_str, Bool.and_self]
theorem shape_at {cs : List Code} {c fb fw fh k : Nat} (hc : cs[c]? = some (C_shape_of fb fw)) (hfb : cs[fb]? = some (C_bend_of fh)) (hfw : cs[fw]? = some (wordC fh)) (hfh : cs[fh]? = some hasC) (hk : 4 ≤ k) (p : List Tx) (b : List (Tx × Tx)) (h1 : 1 ≤ p.length) (h2 : p.length ≤ 4) (hp : ∀ t ∈ p, word t = true) (h3 : b.length ≤ 5) (hb : ∀ q ∈ b, okBend q) :
    Fk cs k c [(.lst ((p ++ b.map bT).map D.str), 0)] = .ok (.tup [.tup (p.map D.str), .tup (b.map bD)]) 0 [] := by
  have hwd := fun (t : Tx) (ht : t ∈ p) => word_at hfh hfw (k := k - 1) (by omega) t (by have := (word_ln (hp t ht)).2; omega)
  have hbd := fun (q : Tx × Tx) (ht : q ∈ b) => bendOf_at hfb hfh (k := k - 1) (by omega) q (hb q ht)
  rw [Fk_at (by omega) hc]
  refine run_of (P := fun r => r = _) rfl rfl ?_
  simp only [GL.start, C_shape_of, List.map_cons, List.map_nil, List.replicate, List.cons_append, List.nil_append]
  refine s_asg (by walk_at "ex") ?_
  walk_at "nx"
  refine s_asg (by walk_at "ex") ?_
  walk_at "nx"
  refine s_for (α := List Tx × List (Tx × Tx)) (i_lst0 (by walk_at "eb")) (fun a => [some (.lst ((p ++ b.map bT).map D.str), 0), some (.lst (a.1.map D.str), 1), some (.lst (a.2.map bD), 1), none]) (fun i a => a = (p.take i, b.take (i - p.length))) ([], []) (by walk_at "rs") (by simp) ?_ ?_
  · rintro i x a hx rfl
    rw [List.getElem?_map] at hx
    obtain ⟨t, ht, rfl⟩ := Option.map_eq_some_iff.mp hx
    refine ⟨_, setT_one _ _ _, ?_⟩
    walk_at "nx"
    by_cases hi : i < p.length
    · rw [List.getElem?_append_left hi] at ht
      have hm := List.mem_of_getElem? ht
      have hwt := hwd t hm
      rw [hp t hm] at hwt
      have hn : ¬ 62 ∈ t := nogood good62 (word_all (hp t hm))
      have e0 : i - p.length = 0 := by omega
      refine s_if (t := false) (n := 0) (by walk_at "ev"; simp [hn]) (fun h => by cases h) (fun _ => ?_)
      walk_at "nx"
      have hnil := cEq_nil (xs := ([] : List D)) rfl
      refine s_if (t := true) (n := 0) (by rw [e0]; walk_at "ev"; simp only [hwt, List.take_zero, List.map_nil]; walk_at "ev"; rw [hnil]; rfl) (fun _ => ?_) (fun h => by cases h)
      walk_at "nx"
      refine s_appv (x := .str t) (m := 0) rfl (by walk_at "ex") rfl (by rw [List.length_map, List.length_take]; omega) ?_
      walk_at "nx"
      refine s_nil ⟨(p.take i ++ [t], b.take (i - p.length)), by simp [rs, rsA], ?_⟩
      have e1 : i + 1 - p.length = 0 := by omega
      rw [List.take_succ, ht, e0, e1]; rfl
    · have hi' : p.length ≤ i := by omega
      rw [List.getElem?_append_right hi', List.getElem?_map] at ht
      obtain ⟨q, hq, rfl⟩ := Option.map_eq_some_iff.mp ht
      have hm := List.mem_of_getElem? hq
      have hbt := hbd q hm
      have hin : 62 ∈ bT q := by simp [bT]
      refine s_if (t := true) (n := 0) (by walk_at "ev"; simp [hin]) (fun _ => ?_) (fun h => by cases h)
      walk_at "nx"
      refine s_appv (x := bD q) (m := 0) rfl (by apply xPure0; walk_at "ev"; simp only [hbt]; walk_at "ev"; try rfl) rfl (by rw [List.length_map, List.length_take]; omega) ?_
      walk_at "nx"
      refine s_nil ⟨(p.take i, b.take (i - p.length) ++ [q]), by simp [rs, rsA], ?_⟩
      have e1 : i + 1 - p.length = i - p.length + 1 := by omega
      rw [e1, List.take_succ (i := i - p.length), hq, List.take_of_length_le hi', List.take_of_length_le (show p.length ≤ i + 1 by omega)]; rfl
  · rintro a rfl
    have e1 : p.take ((p ++ b.map bT).map D.str).length = p := List.take_of_length_le (by simp)
    have e2 : b.take (((p ++ b.map bT).map D.str).length - p.length) = b := List.take_of_length_le (by simp)
    rw [e1, e2]
    refine s_frz rfl ?_
    walk_at "nx"
    refine s_frz rfl ?_
    walk_at "nx"
    refine s_if (t := false) (n := 0) (by
      have e1 : (1 : Int) ≤ (p.length : Int) ↔ True := by simp; omega
      have e2 : (p.length : Int) ≤ 4 ↔ True := by simp; omega
      have e3 : (5 : Int) < (b.length : Int) ↔ False := by simp; omega
      walk_at "ev"
      simp [e1, e2, e3]) (fun h => by cases h) (fun _ => ?_)
    walk_at "nx"
    refine s_ret (d := .tup [.tup (p.map D.str), .tup (b.map bD)]) (n := 0) (xPure0 (by walk_at "ev"; try rfl)) ?_
    simp only [fin, rr, outs]
theorem rowRead_at {cs : List Code} {c fo fw fh k : Nat} (hc : cs[c]? = some (C_row_read fo)) (hfo : cs[fo]? = some (C_words_of fw)) (hfw : cs[fw]? = some (wordC fh)) (hfh : cs[fh]? = some hasC) (hk : 4 ≤ k) (ws : List Tx) (h1 : 1 ≤ ws.length) (h2 : ws.length ≤ 200) (hw : ∀ t ∈ ws, word t = true) :
    Fk cs k c [(.str (joinT [32] ws), 0)] = .ok (.tup (ws.map D.str)) 0 [] := by
  have hr := words_at2 hfo hfw hfh (k := k - 1) (by omega) ws h1 h2 hw
  rw [Fk_at (by omega) hc]
  refine run_of (P := fun r => r = _) rfl rfl ?_
  simp only [GL.start, C_row_read, List.map_cons, List.map_nil, List.replicate, List.cons_append, List.nil_append]
  refine s_asg (d := .tup (ws.map D.str)) (n := 0) (by apply xPure0; walk_at "ev"; simp only [hr]; walk_at "ev") ?_
  walk_at "nx"
  refine s_if (t := false) (n := 0) (by
    have e3 : (200 : Int) < (ws.length : Int) ↔ False := by simp; omega
    walk_at "ev"
    simp [e3]) (fun h => by cases h) (fun _ => ?_)
  walk_at "nx"
  refine s_retv (d := .tup (ws.map D.str)) (n := 0) rfl ?_
  simp only [fin, rr, outs]
theorem join_bends (t : Tx) (p : List Tx) : ∀ b : List (Tx × Tx), joinT [32] ((t :: p) ++ b.map bT) = joinT [32] (t :: p) ++ bendsT b := by
  intro b
  have gen : ∀ (b : List (Tx × Tx)) (l : List Tx), l ≠ [] → joinT [32] (l ++ b.map bT) = joinT [32] l ++ bendsT b := by
    intro b
    induction b with
    | nil => intro l _; simp [bendsT]
    | cons q b ih =>
      intro l hl
      have e : l ++ (q :: b).map bT = (l ++ [bT q]) ++ b.map bT := by simp
      rw [e, ih _ (by simp), joinT_snoc _ _ hl]
      simp [bendsT, bendT, bT]
  exact gen b _ (by simp)
theorem opIdx0L (x : D) (xs : List D) (n : Nat) : opIdx (.lst (x :: xs)) n (.int 0) = .ok x (n - 1) := by
  rw [iLst _ _ _ (by omega) (by simp; try omega)]; try rfl
theorem inScopes {s : Tx} (h : s ∈ scopes) : opCmp .notin (.str s) (.ro false (scopes.map D.str)) = some false := by
  simp only [scopes, List.mem_cons, List.not_mem_nil, or_false] at h
  rcases h with rfl | rfl | rfl | rfl <;> rfl
theorem scopes_good : ∀ s ∈ scopes, word s = true := by decide
theorem thingRead_at {cs : List Code} {c fr fs ff fo fb fe fw fh k : Nat} (hc : cs[c]? = some (C_thing_read fr fs ff)) (hfr : cs[fr]? = some (C_row_read fo)) (hfs : cs[fs]? = some (C_shape_of fb fw)) (hff : cs[ff]? = some (C_forms fe)) (hfo : cs[fo]? = some (C_words_of fw)) (hfb : cs[fb]? = some (C_bend_of fh)) (hfe : cs[fe]? = some (C_bent fw)) (hfw : cs[fw]? = some (wordC fh)) (hfh : cs[fh]? = some hasC) (hk : 6 ≤ k)
    {M : List Tx} (hM : ∀ t ∈ M, word t = true) (t u : Th) (ht : t.leaf2 M) (n : Int) (hu : u = match t with | .say _ r => .say n r | .tell _ s p b r => .tell n s p b r | t => t) : Fk cs k c [(.str t.line, 0), (.int n, 0)] = .ok u.D 0 [] := by
  subst hu
  cases t with
  | part m js => exact ht.elim
  | say m row =>
    obtain ⟨r1, r2, r3⟩ := ht
    have hw : ∀ t ∈ row, word t = true := fun t h => hM t (r3 t h)
    have hr := rowRead_at hfr hfo hfw hfh (k := k - 1) (by omega) row r1 r2 hw
    have hj := (joinT_short (r := row) (n := 200) ⟨r2, fun t ht => (word_ln (hw t ht)).2⟩).2
    show Fk cs k c [(.str (Th.line (.say m row)), 0), (.int n, 0)] = .ok (Th.say n row).D 0 []
    have hpar : parT [32] [] (Th.line (.say m row)) = some ([115, 97, 121], joinT [32] row) := parT_hit (c := 32) (S := []) (r := joinT [32] row) [115, 97, 121] [] (by decide)
    have hlen : (Th.line (.say m row)).length ≤ 16777216 := by simp [Th.line]; omega
    generalize Th.line (.say m row) = s at hpar hlen
    generalize joinT [32] row = R at hr hpar
    rw [Fk_at (by omega) hc]
    refine run_of (P := fun r => r = _) rfl rfl ?_
    simp only [GL.start, C_thing_read, List.map_cons, List.map_nil, List.replicate, List.cons_append, List.nil_append]
    refine s_asgT (x_par (n := 0) (s := s) (by walk_at "ev") (by decide) hlen hpar) rfl ?_
    simp only [List.zip_cons_cons, List.zip_nil_right, List.foldl_cons, List.foldl_nil]
    walk_at "nx"
    refine s_if (t := true) (n := 0) (by walk_at "ev"; try rfl) (fun _ => ?_) (fun h => by cases h)
    walk_at "nx"
    refine s_ret (d := (Th.say n row).D) (n := 0) (by apply xPure0; walk_at "ev"; simp only [hr]; walk_at "ev"; try rfl) ?_
    simp only [fin, rr, outs]
  | tell m s p b row =>
    obtain ⟨hs, ⟨init, last, hpe, hil, fs, hfs'⟩, hpm, ⟨hb1, hb2⟩, r1, r2, r3⟩ := ht
    have hw : ∀ t ∈ row, word t = true := fun t h => hM t (r3 t h)
    have hpw : ∀ t ∈ p, word t = true := fun t h => hM t (hpm t h)
    have hpl : 1 ≤ p.length ∧ p.length ≤ 4 := by rw [hpe]; simp; omega
    have hr := rowRead_at hfr hfo hfw hfh (k := k - 1) (by omega) row r1 r2 hw
    have hsh := shape_at hfs hfb hfw hfh (k := k - 1) (by omega) p b hpl.1 hpl.2 hpw hb1 hb2
    have hlw := hpw last (by rw [hpe]; simp)
    have hfo' := forms_at hff hfe hfw hfh (k := k - 1) (by omega) init last b (by omega) (by have := (word_ln hlw).2; omega) (fun q hq => ⟨by have := (hb2 q hq).1; omega, by have := (hb2 q hq).2.1; omega, (hb2 q hq).2.2.2⟩) (by omega) (word_all hlw)
    rw [hpe] at hfs'
    rw [hfs'] at hfo'
    have hj := (joinT_short (r := row) (n := 200) ⟨r2, fun t ht => (word_ln (hw t ht)).2⟩).2
    have hjp := (joinT_short (r := p) (n := 4) ⟨hpl.2, fun t ht => (word_ln (hpw t ht)).2⟩).2
    have hlb := bendsT_len hb1 fun q hq => ⟨(hb2 q hq).1, (hb2 q hq).2.1⟩
    have hsl := scopes_len s hs
    -- the head
    have pne : p ≠ [] := fun e => by rw [e] at hpl; simp at hpl
    obtain ⟨p0, p', rfl⟩ : ∃ p0 p', p = p0 :: p' := by
      cases p with
      | nil => exact absurd rfl pne
      | cons a r => exact ⟨a, r, rfl⟩
    have hhead : joinT [32] (s :: ((p0 :: p') ++ b.map bT)) = s ++ [32] ++ joinT [32] (p0 :: p') ++ bendsT b := by
      have e1 : joinT [32] (s :: ((p0 :: p') ++ b.map bT)) = s ++ [32] ++ joinT [32] ((p0 :: p') ++ b.map bT) := by
        show joinT [32] (s :: p0 :: (p' ++ b.map bT)) = _
        rw [joinT]; simp
      rw [e1, join_bends]
      simp only [List.append_assoc]
    have hall : ∀ t ∈ s :: ((p0 :: p') ++ b.map bT), ∀ x ∈ t, good x = true ∨ x = 62 := by
      intro t ht x hx
      rcases List.mem_cons.mp ht with rfl | ht
      · exact .inl (List.all_eq_true.mp (word_all (scopes_good _ hs)) x hx)
      · rcases List.mem_append.mp ht with ht | ht
        · exact .inl (List.all_eq_true.mp (word_all (hpw t ht)) x hx)
        · obtain ⟨q, hq, rfl⟩ := List.mem_map.mp ht
          simp only [bT, List.mem_append, List.mem_singleton] at hx
          rcases hx with hx | hx | hx
          · exact .inl (List.all_eq_true.mp (hb2 q hq).2.2.1 x hx)
          · exact .inr hx
          · exact .inl (List.all_eq_true.mp (hb2 q hq).2.2.2 x hx)
    have hsplit : splitC 32 (s ++ [32] ++ joinT [32] (p0 :: p') ++ bendsT b) = s :: ((p0 :: p') ++ b.map bT) := by
      rw [← hhead]
      refine split_join (by simp) fun t ht h => ?_
      rcases hall t ht 32 h with z | z
      · rw [good32] at z; cases z
      · cases z
    have hno : 58 ∉ s ++ [32] ++ joinT [32] (p0 :: p') ++ bendsT b := by
      rw [← hhead]
      intro h
      rcases mem_joinT h with z | ⟨t, ht, z⟩
      · simp at z
      · rcases hall t ht 58 z with z | z
        · rw [good58] at z; cases z
        · cases z
    have hl0 : (s ++ [32] ++ joinT [32] (p0 :: p') ++ bendsT b).length ≤ 1000 := by simp only [List.length_append, List.length_singleton]; omega
    have hline : Th.line (.tell m s (p0 :: p') b row) = [116, 101, 108, 108] ++ ([32] ++ ((s ++ [32] ++ joinT [32] (p0 :: p') ++ bendsT b) ++ ([58, 32] ++ joinT [32] row))) := by
      simp [Th.line]
    show Fk cs k c [(.str (Th.line (.tell m s (p0 :: p') b row)), 0), (.int n, 0)] = .ok (Th.tell n s (p0 :: p') b row).D 0 []
    rw [hline]
    clear hline hhead hall
    generalize s ++ [32] ++ joinT [32] (p0 :: p') ++ bendsT b = h at hsplit hno hl0
    generalize joinT [32] row = R at hr hj
    have hpar1 : parT [32] [] ([116, 101, 108, 108] ++ ([32] ++ (h ++ ([58, 32] ++ R)))) = some ([116, 101, 108, 108], h ++ ([58, 32] ++ R)) := parT_hit (c := 32) (S := []) (r := h ++ ([58, 32] ++ R)) [116, 101, 108, 108] [] (by decide)
    have hpar2 : parT [58, 32] [] (h ++ ([58, 32] ++ R)) = some (h, R) := parT_hit (c := 58) (S := [32]) (r := R) h [] hno
    have hlen1 : ([116, 101, 108, 108] ++ ([32] ++ (h ++ ([58, 32] ++ R)))).length ≤ 16777216 := by simp only [List.length_append, List.length_cons, List.length_nil]; omega
    have hlen2 : (h ++ ([58, 32] ++ R)).length ≤ 16777216 := by simp only [List.length_append, List.length_cons, List.length_nil]; omega
    generalize [116, 101, 108, 108] ++ ([32] ++ (h ++ ([58, 32] ++ R))) = L at hpar1 hlen1
    generalize h ++ ([58, 32] ++ R) = L2 at hpar1 hpar2 hlen2
    rw [Fk_at (by omega) hc]
    refine run_of (P := fun r => r = _) rfl rfl ?_
    simp only [GL.start, C_thing_read, List.map_cons, List.map_nil, List.replicate, List.cons_append, List.nil_append]
    refine s_asgT (x_par (n := 0) (s := L) (by walk_at "ev") (by decide) hlen1 hpar1) rfl ?_
    simp only [List.zip_cons_cons, List.zip_nil_right, List.foldl_cons, List.foldl_nil]
    walk_at "nx"
    refine s_if (t := false) (n := 0) (by walk_at "ev"; try rfl) (fun h => by cases h) (fun _ => ?_)
    walk_at "nx"
    refine s_asgT (x_par (n := 0) (s := L2) (by walk_at "ev") (by decide) hlen2 hpar2) rfl ?_
    simp only [List.zip_cons_cons, List.zip_nil_right, List.foldl_cons, List.foldl_nil]
    walk_at "nx"
    have hsc := inScopes hs
    have i0 : opIdx (.lst ((s :: ((p0 :: p') ++ b.map bT)).map D.str)) 1 (.int 0) = .ok (.str s) 0 := opIdx0L _ _ _
    have icut : cut ((s :: ((p0 :: p') ++ b.map bT)).map D.str) (some 1) none = ((p0 :: p') ++ b.map bT).map D.str := by rw [List.map_cons]; exact cut_from1 _ _
    generalize hpc : (s :: ((p0 :: p') ++ b.map bT)).map D.str = pcs at i0 icut
    refine s_asg (d := .lst pcs) (n := 1) (xPureF rfl (by
      rw [e_mth, e_var, e_acons, e_anil, e_cst]
      simp -implicitDefEqProofs only [List.getElem?_cons_zero, List.getElem?_cons_succ, q_sl, GL.R.bind_ok, q_acons]
      rw [q_mth _ _ _ _ _ (mo_str _ _ (by decide)), m_split _ _ _ _ _ _ (by decide) (by omega), hsplit, hpc])) ?_
    walk_at "nx"
    refine s_if (t := false) (n := 0) (by
      walk_at "ev"
      simp only [i0]
      walk_at "ev"
      rw [hsc]
      try rfl) (fun h => by cases h) (fun _ => ?_)
    walk_at "nx"
    refine s_asgT (d := .tup [.tup ((p0 :: p').map D.str), .tup (b.map bD)]) (n := 0) (by
      apply xPure0
      rw [e_call, e_acons, e_anil, e_sll, e_var, e_cst]
      simp -implicitDefEqProofs only [List.getElem?_cons_zero, List.getElem?_cons_succ, q_sl, GL.R.bind_ok, q_sll]
      rw [slL _ _ _ _ (by omega), icut]
      simp -implicitDefEqProofs only [q_acons, q_call, List.map_cons, List.map_nil, CE.fresh]
      simp only [List.map_cons, List.map_nil, List.cons_append] at hsh
      simp only [List.cons_append, List.map_cons]
      rw [hsh]
      rfl) rfl ?_
    simp only [List.zip_cons_cons, List.zip_nil_right, List.foldl_cons, List.foldl_nil]
    walk_at "nx"
    have eph : D.tup ((p0 :: p').map D.str) = ph init last := by rw [hpe]; exact (ph_eq init last).symm
    refine s_expr (d := .tup (fs.map tupP)) (n := 0) (xPure0 (by
      rw [eph]
      walk_at "ev"
      simp only [hfo', formsR]
      walk_at "ev"
      try rfl)) ?_
    refine s_ret (d := (Th.tell n s (p0 :: p') b row).D) (n := 0) (by apply xPure0; walk_at "ev"; simp only [hr, i0]; walk_at "ev"; try rfl) ?_
    simp only [fin, rr, outs]
end GL

/-! GLY: whole documents read. -/
namespace GL
local macro_rules | `(tactic| walk_at "ev") => `(tactic| (simp -implicitDefEqProofs (disch := first | omega | assumption | decide | (simp only [mo_split, mo_join, mo_ends, mo_index, mo_part]; done) | (simp only [fixed, deep, D.safe, D.imm, D.imms, List.all_cons, List.all_nil, beq_self_eq_true, Bool.true_or, Bool.or_true, Bool.and_true, Bool.and_self, decide_true, Nat.reduceSub, Nat.reduceBEq, Nat.reduceEqDiff]; done) | (simp only [List.length_map, List.length_range, List.length_cons, List.length_nil, List.length_append]; omega) | fail) only [e_var, e_cst, e_glo, e_tup, e_lst, e_dnew, e_bin, e_neg, e_cmp, e_chain, e_and, e_or, e_not, e_idx, e_sll, e_slu, e_slb, e_call, e_blt, e_mth, e_isi, e_anil, e_acons, q_sl, q_and, q_andF, q_or, q_orT, q_not, q_neg, q_chn, q_sll, q_slu, q_slb, q_acons, q_tup, q_lst, q_call, q_post, q_posts, q_postx, q_blt, q_mth, fixed_nil, fixed_c0, fixed_ct, R.bind_ok, R.bind_ex, opAdd, opSub, opMulR, opMulL, opFdiv, opMod, opAddS, opAddT, cLt, cLe, cGt, cGe, cEqI, cNeI, cEqB, cEqS, cNeS, cInS, cNotInS, cLeS, cLtS, rB_some, rO_some, bLenRo, bLenL, bLenT, bLenS, bTupL, bTupT, bIntB, bMin, bMax, iRoI, iStr, iTup, iLst, slS, slT, isi_bl, isi_int, isi_str, isi_tup, isi_lst, isi_dct, isi_non, List.getElem?_cons_succ, List.getElem?_cons_zero, List.length_map, List.map_cons, List.map_nil, CE.fresh, or_true, true_or, if_true, Bool.not_false, Bool.not_true, List.set_cons_zero, List.set_cons_succ]))
local macro_rules | `(tactic| walk_at "ex") => `(tactic| first | (apply xPure0; walk_at "ev"; done) | (apply xPure0; walk_at "ev"; rfl) | (apply xPureF rfl; walk_at "ev"; done) | (apply xPureF rfl; walk_at "ev"; rfl))
local macro_rules | `(tactic| walk_at "eb") => `(tactic| first | (walk_at "ev"; done) | (walk_at "ev"; rfl))
local macro_rules | `(tactic| walk_at "nx") => `(tactic| (try dsimp only [CSs.app, List.set_cons_zero, List.set_cons_succ, List.cons_append, List.nil_append]))
local macro_rules | `(tactic| walk_at "rs") => `(tactic| first | (simp (decide := true) only [rs, rsA, if_true, if_false]; done) | (simp (decide := true) only [rs, rsA, if_true, if_false]; rfl) | rfl)
/-- rows as they change what is open -/
inductive Ev where
  | leaf (t : Th) | beg | fin
mutual
def Th.evs : Th → List Ev
  | .part _ ks => .beg :: (Th.evss ks ++ [.fin])
  | .say n r => [.leaf (.say n r)]
  | .tell n s p b r => [.leaf (.tell n s p b r)]
def Th.evss : List Th → List Ev
  | [] => []
  | t :: ts => t.evs ++ Th.evss ts
end
def evTx : Ev → Tx
  | .leaf t => t.line
  | .beg => [112, 97, 114, 116]
  | .fin => [101, 110, 100]
mutual
theorem evs_rows : ∀ t : Th, t.rows = t.evs.map evTx
  | .part _ ks => by simp [Th.rows, Th.evs, evss_rows ks, evTx]
  | .say _ _ => rfl
  | .tell _ _ _ _ _ => rfl
theorem evss_rows : ∀ ts : List Th, Th.rowss ts = (Th.evss ts).map evTx
  | [] => rfl
  | t :: ts => by rw [Th.rowss, Th.evss, List.map_append, evs_rows t, evss_rows ts]
end
mutual
/-- numbered anew from k + 1 on -/
def Th.ren (k : Nat) : Th → Th
  | .part _ ks => .part ((k + 1 : Nat) : Int) (Th.rens (k + 1) ks)
  | .say _ r => .say ((k + 1 : Nat) : Int) r
  | .tell _ s p b r => .tell ((k + 1 : Nat) : Int) s p b r
def Th.rens (k : Nat) : List Th → List Th
  | [] => []
  | t :: ts => t.ren k :: Th.rens (k + t.size) ts
end
mutual
theorem ren_rows : ∀ (t : Th) (k : Nat), (t.ren k).rows = t.rows
  | .part _ ks, k => by simp only [Th.ren, Th.rows, rens_rows ks]
  | .say _ _, _ => rfl
  | .tell _ _ _ _ _, _ => rfl
theorem rens_rows : ∀ (ts : List Th) (k : Nat), Th.rowss (Th.rens k ts) = Th.rowss ts
  | [], _ => rfl
  | t :: ts, k => by simp only [Th.rens, Th.rowss, ren_rows t, rens_rows ts]
end
mutual
theorem ren_size : ∀ (t : Th) (k : Nat), (t.ren k).size = t.size
  | .part _ ks, k => by simp only [Th.ren, Th.size, rens_size ks]
  | .say _ _, _ => rfl
  | .tell _ _ _ _ _, _ => rfl
theorem rens_size : ∀ (ts : List Th) (k : Nat), Th.sizes (Th.rens k ts) = Th.sizes ts
  | [], _ => rfl
  | t :: ts, k => by simp only [Th.rens, Th.sizes, ren_size t, rens_size ts]
end
mutual
theorem ren_depth : ∀ (t : Th) (k : Nat), (t.ren k).depth = t.depth
  | .part _ ks, k => by simp only [Th.ren, Th.depth, rens_depth ks]
  | .say _ _, _ => rfl
  | .tell _ _ _ _ _, _ => rfl
theorem rens_depth : ∀ (ts : List Th) (k : Nat), Th.depths (Th.rens k ts) = Th.depths ts
  | [], _ => rfl
  | t :: ts, k => by simp only [Th.rens, Th.depths, ren_depth t, rens_depth ts]
end
mutual
theorem ren_short : ∀ (t : Th) (k : Nat), t.short → (t.ren k).short
  | .part _ ks, k, h => rens_short ks _ h
  | .say _ _, _, h => h
  | .tell _ _ _ _ _, _, h => h
theorem rens_short : ∀ (ts : List Th) (k : Nat), Th.shorts ts → Th.shorts (Th.rens k ts)
  | [], _, _ => trivial
  | t :: ts, k, h => ⟨ren_short t k h.1, rens_short ts _ h.2⟩
end
abbrev Stk := List (Int × List Th)
def stp : Stk × Nat → Ev → Stk × Nat
  | ((n, x) :: fr, k), .leaf t => ((n, x ++ [t.ren k]) :: fr, k + 1)
  | (fr, k), .beg => ((((k + 1 : Nat) : Int), []) :: fr, k + 1)
  | ((n, y) :: (m, x) :: fr, k), .fin => ((m, x ++ [.part n y]) :: fr, k)
  | s, _ => s
def okEv (M : List Tx) (s : Stk × Nat) : Ev → Prop
  | .leaf t => t.leaf2 M ∧ ∃ n x fr, s.1 = (n, x) :: fr ∧ x.length ≤ 1000
  | .beg => 1 ≤ s.1.length ∧ s.1.length ≤ 8
  | .fin => ∃ n y m x fr, s.1 = (n, y) :: (m, x) :: fr ∧ x.length ≤ 1000
def RunOk (M : List Tx) (F : Stk × Nat) : List Ev → Stk × Nat → Prop
  | [], s => s = F
  | e :: l, s => okEv M s e ∧ RunOk M F l (stp s e)
mutual
theorem run_th {M : List Tx} {F : Stk × Nat} : ∀ (t : Th) (n : Int) (x : List Th) (fr : Stk) (k : Nat) (l : List Ev), t.ok2 M → fr.length + 1 + t.depth ≤ 9 → (∀ f ∈ (n, x) :: fr, f.2.length ≤ k) → k + t.size ≤ 1000 →
    RunOk M F l ((n, x ++ [t.ren k]) :: fr, k + t.size) → RunOk M F (t.evs ++ l) ((n, x) :: fr, k)
  | .say m r, n, x, fr, k, l, h, hd, hf, hs, g => by
    refine ⟨⟨h, n, x, fr, rfl, ?_⟩, g⟩
    have := hf (n, x) List.mem_cons_self
    dsimp only at this
    simp only [Th.size] at hs
    omega
  | .tell m s p b r, n, x, fr, k, l, h, hd, hf, hs, g => by
    refine ⟨⟨h, n, x, fr, rfl, ?_⟩, g⟩
    have := hf (n, x) List.mem_cons_self
    dsimp only at this
    simp only [Th.size] at hs
    omega
  | .part m js, n, x, fr, k, l, h, hd, hf, hs, g => by
    simp only [Th.depth, Th.size] at hd hs
    have e : (Th.part m js).evs ++ l = .beg :: (Th.evss js ++ (.fin :: l)) := by simp [Th.evs]
    rw [e]
    refine ⟨⟨by simp, by simp; omega⟩, ?_⟩
    refine run_ths js _ [] ((n, x) :: fr) (k + 1) (.fin :: l) h (by simp; omega) (fun f hf' => ?_) (by omega) ?_
    · rcases List.mem_cons.mp hf' with rfl | hf'
      · simp
      · have := hf f hf'; omega
    · refine ⟨⟨_, _, n, x, fr, rfl, ?_⟩, ?_⟩
      · have := hf (n, x) List.mem_cons_self
        dsimp only at this
        omega
      · have e2 : k + 1 + Th.sizes js = k + (Th.part m js).size := by simp only [Th.size]; omega
        simp only [List.nil_append]
        rw [e2]
        exact g
theorem run_ths {M : List Tx} {F : Stk × Nat} : ∀ (ts : List Th) (n : Int) (x : List Th) (fr : Stk) (k : Nat) (l : List Ev), Th.ok2s M ts → fr.length + 1 + Th.depths ts ≤ 9 → (∀ f ∈ (n, x) :: fr, f.2.length ≤ k) → k + Th.sizes ts ≤ 1000 →
    RunOk M F l ((n, x ++ Th.rens k ts) :: fr, k + Th.sizes ts) → RunOk M F (Th.evss ts ++ l) ((n, x) :: fr, k)
  | [], n, x, fr, k, l, h, hd, hf, hs, g => by
    simpa [Th.rens, Th.sizes, Th.evss] using g
  | t :: ts, n, x, fr, k, l, h, hd, hf, hs, g => by
    simp only [Th.depths, Th.sizes] at hd hs
    rw [Th.evss, List.append_assoc]
    refine run_th t n x fr k _ h.1 (by omega) hf (by omega) ?_
    have t1 : 1 ≤ t.size := by cases t <;> simp [Th.size] <;> omega
    refine run_ths ts n (x ++ [t.ren k]) fr (k + t.size) l h.2 (by omega) (fun f hf' => ?_) (by omega) ?_
    · rcases List.mem_cons.mp hf' with rfl | hf'
      · have := hf (n, x) List.mem_cons_self
        dsimp only at this ⊢
        simp; omega
      · have := hf f (List.mem_cons_of_mem _ hf'); omega
    · have e2 : k + t.size + Th.sizes ts = k + Th.sizes (t :: ts) := by simp only [Th.sizes]; omega
      rw [e2, List.append_assoc]
      exact g
end
/-- what is open at the end -/
def endS (ks : List Th) : Stk × Nat := ([(0, Th.rens 0 ks)], Th.sizes ks)
theorem run_doc {M : List Tx} {ks : List Th} (h : Th.ok2s M ks) (hd : Th.depths ks ≤ 8) (hs : Th.sizes ks ≤ 1000) : RunOk M (endS ks) (Th.evss ks) ([(0, [])], 0) := by
  have := run_ths (M := M) (F := endS ks) ks 0 [] [] 0 [] h (by simp; omega) (by simp) (by omega) (by simp [RunOk, endS])
  rwa [List.append_nil] at this
def numsD (fr : Stk) : D := .lst ((fr.map (·.1)).reverse.map D.int)
def opens (fr : Stk) : D := innerD ((fr.map (·.2)).reverse)
theorem line_ne {t : Th} {M : List Tx} (h : t.leaf2 M) : t.line ≠ [101, 110, 100] ∧ t.line ≠ [112, 97, 114, 116] := by
  cases t with
  | part m js => exact h.elim
  | say m r => constructor <;> (intro e; simp [Th.line] at e)
  | tell m s p b r => constructor <;> (intro e; simp [Th.line] at e)
theorem thingAt_at {cs : List Code} {c ft fr fs ff fo fb fe fw fh k : Nat} (hc : cs[c]? = some (C_thing_at ft)) (hft : cs[ft]? = some (C_thing_read fr fs ff)) (hfr : cs[fr]? = some (C_row_read fo)) (hfs : cs[fs]? = some (C_shape_of fb fw)) (hff : cs[ff]? = some (C_forms fe)) (hfo : cs[fo]? = some (C_words_of fw)) (hfb : cs[fb]? = some (C_bend_of fh)) (hfe : cs[fe]? = some (C_bent fw)) (hfw : cs[fw]? = some (wordC fh)) (hfh : cs[fh]? = some hasC) (hk : 7 ≤ k)
    {M : List Tx} (hM : ∀ t ∈ M, word t = true) (t : Th) (ht : t.leaf2 M) (q : Nat) (at_ : Int) : Fk cs k c [(.str t.line, 0), (.int ((q + 1 : Nat) : Int), 0), (.int at_, 0)] = .ok (t.ren q).D 0 [] := by
  have h := thingRead_at hft hfr hfs hff hfo hfb hfe hfw hfh (k := k - 1) (by omega) hM t (t.ren q) ht ((q + 1 : Nat) : Int) (by cases t <;> first | rfl | exact ht.elim)
  generalize (t.ren q).D = d at h
  rw [Fk_at (by omega) hc]
  refine run_of (P := fun r => r = _) rfl rfl ?_
  simp only [GL.start, C_thing_at, List.map_cons, List.map_nil, List.replicate, List.cons_append, List.nil_append]
  refine s_tryP ?_
  refine s_ret (d := d) (n := 0) (by apply xPure0; walk_at "ev"; simp only [h]; walk_at "ev") ?_
  simp only [fin, rr, outs]
theorem joinT_ne {s t : Tx} {r : List Tx} (h : t ≠ []) : joinT s (t :: r) ≠ [] := by
  cases r with
  | nil => exact h
  | cons u r => rw [joinT]; intro e; exact h (List.append_eq_nil_iff.mp e).1
theorem evT_ne {M : List Tx} {s : Stk × Nat} {e : Ev} (h : okEv M s e) : evTx e ≠ [] := by
  cases e with
  | beg => simp [evTx]
  | fin => simp [evTx]
  | leaf t =>
    obtain ⟨h, _⟩ := h
    cases t with
    | part m js => exact h.elim
    | say m r => simp [evTx, Th.line]
    | tell m s p b r => simp [evTx, Th.line]
theorem line_no10 {t : Th} {M : List Tx} (hM : ∀ t ∈ M, word t = true) (h : t.leaf2 M) : 10 ∉ t.line := by
  have w : ∀ {ts : List Tx}, (∀ t ∈ ts, t ∈ M) → 10 ∉ joinT [32] ts := fun hts hm => by
    rcases mem_joinT hm with z | ⟨t, ht, z⟩
    · simp at z
    · exact nogood good10 (word_all (hM t (hts t ht))) z
  cases t with
  | part m js => exact h.elim
  | say m r =>
    have := w h.2.2
    simp [Th.line, this]
  | tell m s p b r =>
    obtain ⟨hs, _, hp, ⟨_, hb⟩, _, _, hr⟩ := h
    have h1 := w hp
    have h2 := w hr
    have h3 : 10 ∉ s := nogood good10 (word_all (scopes_good s hs))
    have h4 : 10 ∉ bendsT b := by
      intro z
      obtain ⟨l, hl, z⟩ := List.mem_flatten.mp z
      obtain ⟨q, hq, rfl⟩ := List.mem_map.mp hl
      have g1 := nogood good10 (hb q hq).2.2.1
      have g2 := nogood good10 (hb q hq).2.2.2
      simp [bendT, g1, g2] at z
    simp [Th.line, h1, h2, h3, h4]
mutual
theorem evs_no10 {M : List Tx} (hM : ∀ t ∈ M, word t = true) : ∀ t : Th, t.ok2 M → ∀ e ∈ t.evs, 10 ∉ evTx e
  | .part _ ks, h, e, he => by
    simp only [Th.evs, List.mem_cons, List.mem_append, List.not_mem_nil, or_false] at he
    rcases he with rfl | he | rfl
    · decide
    · exact evss_no10 hM ks h e he
    · decide
  | .say n r, h, e, he => by
    rw [Th.evs, List.mem_singleton] at he
    rw [he]; exact line_no10 (t := .say n r) hM h
  | .tell n s p b r, h, e, he => by
    rw [Th.evs, List.mem_singleton] at he
    rw [he]; exact line_no10 (t := .tell n s p b r) hM h
theorem evss_no10 {M : List Tx} (hM : ∀ t ∈ M, word t = true) : ∀ ts : List Th, Th.ok2s M ts → ∀ e ∈ Th.evss ts, 10 ∉ evTx e
  | [], _, e, he => by cases he
  | t :: ts, h, e, he => by
    rcases List.mem_append.mp he with he | he
    · exact evs_no10 hM t h.1 e he
    · exact evss_no10 hM ts h.2 e he
end
theorem read_at {cs : List Code} {c fa ft fr fs ff fo fb fe fw fh k : Nat} (hc : cs[c]? = some (C_read fa)) (hfa : cs[fa]? = some (C_thing_at ft)) (hft : cs[ft]? = some (C_thing_read fr fs ff)) (hfr : cs[fr]? = some (C_row_read fo)) (hfs : cs[fs]? = some (C_shape_of fb fw)) (hff : cs[ff]? = some (C_forms fe)) (hfo : cs[fo]? = some (C_words_of fw)) (hfb : cs[fb]? = some (C_bend_of fh)) (hfe : cs[fe]? = some (C_bent fw)) (hfw : cs[fw]? = some (wordC fh)) (hfh : cs[fh]? = some hasC) (hk : 8 ≤ k)
    {M : List Tx} (hM : ∀ t ∈ M, word t = true) (ks : List Th) (ok : Th.ok2s M ks) (hd : Th.depths ks ≤ 8) (hs : Th.sizes ks ≤ 1000) : Fk cs k c [(.str (Th.text ks), 0)] = .ok (Th.part 0 (Th.rens 0 ks)).D 0 [] := by
  have sh := Th.ok2s_short hM ks ok
  have run := run_doc ok hd hs
  have hrows := evss_rows ks
  rw [Fk_at (by omega) hc]
  refine run_of (P := fun r => r = _) rfl rfl ?_
  simp only [GL.start, C_read, List.map_cons, List.map_nil, List.replicate, List.cons_append, List.nil_append]
  cases hE : Th.evss ks with
  | nil =>
    have hks : ks = [] := by
      cases ks with
      | nil => rfl
      | cons t ts =>
        rw [Th.evss] at hE
        have := (List.append_eq_nil_iff.mp hE).1
        cases t <;> simp [Th.evs] at this
    subst hks
    have et : Th.text [] = [] := rfl
    rw [et]
    refine s_if (t := true) (n := 0) (by walk_at "ev"; try rfl) (fun _ => ?_) (fun h => by cases h)
    walk_at "nx"
    refine s_ret (d := (Th.part 0 []).D) (n := 0) (xPure0 (by walk_at "ev"; try rfl)) ?_
    simp only [fin, rr, outs]
    rfl
  | cons e0 E0 =>
    have hne : Th.text ks ≠ [] := by
      unfold Th.text
      rw [hrows, hE, List.map_cons]
      rw [hE] at run
      exact joinT_ne (evT_ne run.1)
    have hsp : splitC 10 (Th.text ks) = (Th.evss ks).map evTx := by
      unfold Th.text
      rw [hrows]
      refine split_join (by rw [hE]; simp) fun t ht => ?_
      obtain ⟨e, he, rfl⟩ := List.mem_map.mp ht
      exact evss_no10 hM ks ok e he
    have hlen : (Th.text ks).length + 2 ≤ 16777216 := by
      have h1 := rowss_sum (Th.rowss ks) 5000 (Th.rowss_short ks sh)
      have h2 := Th.rowss_len ks
      have h3 : (Th.rowss ks).length * (5000 + 1) ≤ 2000 * 5001 := Nat.mul_le_mul_right _ (by omega)
      have h4 := joinT_len [10] (Th.rowss ks)
      unfold Th.text
      omega
    clear hE hrows
    generalize Th.text ks = T at hne hsp hlen
    generalize hEe : Th.evss ks = E at hsp run
    refine s_if (t := false) (n := 0) (by walk_at "ev"; simp [hne]) (fun h => by cases h) (fun _ => ?_)
    walk_at "nx"
    refine s_asg (d := numsD [(0, [])]) (n := 1) (xPureF rfl (by walk_at "ev"; try rfl)) ?_
    walk_at "nx"
    refine s_asg (d := opens [(0, [])]) (n := 2) (xPureF rfl (by
      simp -implicitDefEqProofs only [e_lst, e_acons, e_anil, CE.fresh]
      rw [q_lst _ _ rfl, q_acons, q_lst _ _ rfl]; rfl)) ?_
    walk_at "nx"
    refine s_asg (by walk_at "ex") ?_
    walk_at "nx"
    have hit : evI (Fk cs (k - 1)) (.enum (.mth .split (.var 0) (.cons (.cst (.str [10])) .nil))) [some (.str T, 0), some (numsD [(0, [])], 1), some (opens [(0, [])], 2), some (.int 0, 0), none, none, none] = .ok (enumD 0 ((E.map evTx).map D.str)) false := by
      have e : ev (Fk cs (k - 1)) (.mth .split (.var 0) (.cons (.cst (.str [10])) .nil)) [some (.str T, 0), some (numsD [(0, [])], 1), some (opens [(0, [])], 2), some (.int 0, 0), none, none, none] = .ok (.lst ((E.map evTx).map D.str)) 1 := by
        rw [e_mth, e_var, e_acons, e_anil, e_cst]
        simp -implicitDefEqProofs only [List.getElem?_cons_zero, q_sl, R.bind_ok, q_acons]
        rw [q_mth _ _ _ _ _ (mo_str _ _ (by decide)), m_split _ _ _ _ _ _ (by decide) hlen, hsp]
      simp only [evI, e]
      rfl
    refine s_for (α := Stk × Nat) hit (fun a => [some (.str T, 0), some (numsD a.1, 1), some (opens a.1, 2), some (.int (a.2 : Int), 0), none, none, none]) (fun i a => RunOk M (endS ks) (E.drop i) a) ([(0, [])], 0) (by walk_at "rs") run ?_ ?_
    · rintro i x ⟨fr, q⟩ hx hr
      obtain ⟨r, rfl, hr2⟩ := enumD_get hx
      rw [List.getElem?_map, List.getElem?_map] at hr2
      obtain ⟨t, ht, rfl⟩ := Option.map_eq_some_iff.mp hr2
      obtain ⟨e, he, rfl⟩ := Option.map_eq_some_iff.mp ht
      have hil := (List.getElem?_eq_some_iff.mp he).1
      have hdr : E.drop i = e :: E.drop (i + 1) := by
        rw [List.drop_eq_getElem_cons hil, (List.getElem?_eq_some_iff.mp he).2]
      rw [hdr] at hr
      obtain ⟨hok, hnext⟩ := hr
      refine ⟨_, rfl, ?_⟩
      simp only [List.zip_cons_cons, List.zip_nil_right, List.foldl_cons, List.foldl_nil]
      walk_at "nx"
      cases e with
      | leaf t =>
        obtain ⟨hlf, n, x, fr', hfr, hxl⟩ := hok
        dsimp only at hfr
        subst hfr
        obtain ⟨n1, n2⟩ := line_ne hlf
        have hta := thingAt_at hfa hft hfr hfs hff hfo hfb hfe hfw hfh (k := k - 1) (by omega) hM t hlf q ((0 + i : Nat) : Int)
        dsimp only [evTx]
        generalize t.line = L at n1 n2 hta
        refine s_if (t := false) (n := 0) (evAndF (n := 0) (by walk_at "ev"; simp [n1])) (fun h => by cases h) (fun _ => ?_)
        walk_at "nx"
        refine s_if (t := false) (n := 0) (by walk_at "ev"; simp [n2]) (fun h => by cases h) (fun _ => ?_)
        walk_at "nx"
        refine s_asg (d := .int ((q + 1 : Nat) : Int)) (n := 0) (xPure0 (by walk_at "ev"; try rfl)) ?_
        walk_at "nx"
        refine s_appLast (L := (fr'.map (·.2)).reverse.map fun ts => .lst (Th.Ds ts)) (xs := Th.Ds x) (x := (t.ren q).D) (by simp [opens, innerD]) (by
          apply xPure0
          simp -implicitDefEqProofs only [e_call, e_acons, e_anil, e_var, CE.fresh, List.getElem?_cons_zero, List.getElem?_cons_succ, q_sl, q_acons, q_call, List.map_cons, List.map_nil, hta]
          rw [q_post _ _ _ _ rfl]) (by rw [Th.Ds_map, List.length_map]; omega) ?_
        walk_at "nx"
        refine s_nil ⟨((n, x ++ [t.ren q]) :: fr', q + 1), ?_, hnext⟩
        simp [rs, rsA, opens, innerD, numsD, Th.Ds, Th.Ds_app]
      | beg =>
        obtain ⟨hl1, hl2⟩ := hok
        dsimp only at hl1 hl2
        dsimp only [evTx]
        refine s_if (t := false) (n := 0) (evAndF (n := 0) (by walk_at "ev"; try rfl)) (fun h => by cases h) (fun _ => ?_)
        walk_at "nx"
        refine s_if (t := true) (n := 0) (by walk_at "ev"; try rfl) (fun _ => ?_) (fun h => by cases h)
        walk_at "nx"
        refine s_if (t := false) (n := 0) (by
          unfold numsD
          have e3 : (8 : Int) < (fr.length : Int) ↔ False := ⟨fun h => by omega, False.elim⟩
          walk_at "ev"
          simp [e3]) (fun h => by cases h) (fun _ => ?_)
        walk_at "nx"
        refine s_asg (d := .int ((q + 1 : Nat) : Int)) (n := 0) (xPure0 (by walk_at "ev"; try rfl)) ?_
        walk_at "nx"
        refine s_appv (x := .int ((q + 1 : Nat) : Int)) (m := 0) (n := 0) (xs := (fr.map (·.1)).reverse.map D.int) rfl (by walk_at "ex") rfl (by simp; omega) ?_
        walk_at "nx"
        refine s_appv (x := .lst []) (m := 1) (n := 1) (xs := ((fr.map (·.2)).reverse).map fun ts => .lst (Th.Ds ts)) rfl (xPureF rfl (by simp -implicitDefEqProofs only [e_lst, e_anil]; rw [q_lst _ _ rfl]; rfl)) rfl (by simp; omega) ?_
        walk_at "nx"
        have hst : stp (fr, q) .beg = ((((q + 1 : Nat) : Int), []) :: fr, q + 1) := by cases fr <;> rfl
        rw [hst] at hnext
        refine s_nil ⟨((((q + 1 : Nat) : Int), []) :: fr, q + 1), ?_, hnext⟩
        simp [rs, rsA, opens, innerD, numsD, Th.Ds]
      | fin =>
        obtain ⟨n, y, m, x, fr', hfr, hxl⟩ := hok
        dsimp only at hfr
        subst hfr
        dsimp only [evTx]
        refine s_if (t := true) (n := 0) (by
          unfold numsD
          have e3 : (1 : Int) < (((n, y) :: (m, x) :: fr').length : Int) ↔ True := by simp; omega
          walk_at "ev"
          simp [e3]
          try omega) (fun _ => ?_) (fun h => by cases h)
        walk_at "nx"
        refine s_asg (d := (Th.part n y).D) (n := 0) (Γ' := [some (.str T, 0), some (numsD ((m, x) :: fr'), 1), some (opens ((m, x) :: fr'), 2), some (.int (q : Int), 0), some (.int ((0 + i : Nat) : Int), 0), some (.str [101, 110, 100], 0), none]) (x_tup3 (x := .str [112, 97, 114, 116]) (n := 0) (y := .int n) (m := 0) (xPure0 rfl) (x_pop (xs := (((m, x) :: fr').map (·.1)).reverse.map D.int) (by simp [numsD])) (x_tuple (xs := Th.Ds y) (n := 1) (x_pop (xs := (((m, x) :: fr').map (·.2)).reverse.map fun ts => .lst (Th.Ds ts)) (by simp [opens, innerD])) (by omega))) ?_
        walk_at "nx"
        refine s_appLast (L := (fr'.map (·.2)).reverse.map fun ts => .lst (Th.Ds ts)) (xs := Th.Ds x) (x := (Th.part n y).D) (by simp [opens, innerD]) (xPure0 rfl) (by rw [Th.Ds_map, List.length_map]; omega) ?_
        walk_at "nx"
        refine s_nil ⟨((m, x ++ [Th.part n y]) :: fr', q), ?_, hnext⟩
        simp [rs, rsA, opens, innerD, numsD, Th.Ds, Th.Ds_app]
    · rintro ⟨fr, q⟩ hr
      rw [enumD_len, List.length_map, List.length_map, List.drop_length] at hr
      have hr : (fr, q) = endS ks := hr
      cases hr
      refine s_frz rfl ?_
      walk_at "nx"
      refine s_frz rfl ?_
      walk_at "nx"
      refine s_if (t := false) (n := 0) (by unfold numsD; walk_at "ev"; try rfl) (fun h => by cases h) (fun _ => ?_)
      walk_at "nx"
      refine s_ret (d := (Th.part 0 (Th.rens 0 ks)).D) (n := 0) (xPure0 (by
        simp -implicitDefEqProofs only [e_tup, e_acons, e_anil, e_blt, e_idx, e_var, e_cst, CE.fresh, List.getElem?_cons_zero, List.getElem?_cons_succ, q_sl, R.bind_ok]
        have e1 : opIdx (opens [(0, Th.rens 0 ks)]) 0 (.int 0) = .ok (.lst (Th.Ds (Th.rens 0 ks))) 0 := rfl
        rw [e1]
        simp -implicitDefEqProofs only [q_acons, q_blt]
        rw [bTupL _ _ _ (by omega)]
        simp -implicitDefEqProofs only [q_acons]
        rw [q_tup _ rfl]
        rfl)) ?_
      simp only [fin, rr, outs]
def oEvs : Option Th → List Ev
  | none => [.fin]
  | some t => t.evs
def oEvss (l : List (Option Th)) : List Ev := (l.map oEvs).flatten
theorem oEvss_some : ∀ ts : List Th, oEvss (ts.map some) = Th.evss ts
  | [] => rfl
  | t :: ts => by have := oEvss_some ts; simp only [oEvss, List.map_cons, List.flatten_cons, Th.evss, oEvs] at this ⊢; rw [this]
theorem plainLaw_at {cs : List Code} {c fe k : Nat} (hc : cs[c]? = some (C_law_plain fe)) (h1 : cs[fe]? = some C_law_ended) (hk : 2 ≤ k) {M : List Tx} (n0 : Int) (ks : List Th) (ok : Th.ok2s M ks) (hd : Th.depths ks ≤ 8) (hs : Th.sizes ks ≤ 1000) : Fk cs k c [((Th.part n0 ks).D, 0)] = .ok (Th.part 0 (Th.rens 0 ks)).D 0 [] := by
  have run := run_doc ok hd hs
  rw [Fk_at (by omega) hc]
  refine run_of (P := fun r => r = _) rfl rfl ?_
  simp only [GL.start, C_law_plain, List.map_cons, List.map_nil, List.replicate, List.cons_append, List.nil_append, Nat.reduceSub]
  refine s_asg (by walk_at "ex") ?_
  walk_at "nx"
  refine s_asg (d := numsD [(0, [])]) (n := 1) (xPureF rfl (by walk_at "ev"; try rfl)) ?_
  walk_at "nx"
  refine s_asg (d := opens [(0, [])]) (n := 2) (xPureF rfl (by
    simp -implicitDefEqProofs only [e_lst, e_acons, e_anil, CE.fresh]
    rw [q_lst _ _ rfl, q_acons, q_lst _ _ rfl]; rfl)) ?_
  walk_at "nx"
  have hdoc : ∀ n ks, opIdx (Th.part n ks).D 0 (.int 2) = .ok (.tup (Th.Ds ks)) 0 := fun _ _ => rfl
  have eo : ∀ ts : List Th, Th.Ds ts = (ts.map some).map oD := fun ts => by rw [Th.Ds_map, List.map_map]; rfl
  refine s_asg (d := .lst ((ks.map some).map oD)) (n := 1) (xPureF rfl (by rw [← eo]; simp -implicitDefEqProofs only [e_blt, e_acons, e_anil, CE.fresh, e_idx, e_var, e_cst, List.getElem?_cons_zero, q_sl, R.bind_ok, hdoc, q_acons, q_blt, bListT])) ?_
  walk_at "nx"
  refine s_whl (α := (Stk × Nat) × List (Option Th)) (fun a => [some ((Th.part n0 ks).D, 0), some (.int (a.1.2 : Int), 0), some (numsD a.1.1, 1), some (opens a.1.1, 2), some (.lst (a.2.map oD), 1), none]) (fun a => RunOk M (endS ks) (oEvss a.2) a.1 ∧ (∀ t, some t ∈ a.2 → t.depth ≤ 20) ∧ oSizes a.2 ≤ 2 * Th.sizes ks) (fun a => oSizes a.2) (([(0, [])], 0), ks.map some) (by simp [rs, rsA]) ⟨by show RunOk M (endS ks) (oEvss (ks.map some)) _; rw [oEvss_some]; exact run, fun t ht => by
      obtain ⟨u, hu, e⟩ := List.mem_map.mp ht
      cases e
      exact Nat.le_trans (depth_mem hu) (by omega), by rw [oSizes_some]; exact Nat.le_refl _⟩ (by show oSizes (ks.map some) < 1000000; rw [oSizes_some]; omega) ?_
  rintro ⟨⟨fr, q⟩, left⟩ ⟨hr, hdl, hl1⟩
  dsimp only at hr hdl hl1 ⊢
  refine ⟨!(left.map oD).isEmpty, 0, by
    simp -implicitDefEqProofs only [e_cmp, e_var, e_lst, e_anil, List.getElem?_cons_succ, List.getElem?_cons_zero, q_sl, R.bind_ok]
    rw [q_lst _ _ rfl, R.bind_ok]
    show rB (opCmp .ne (.lst (left.map oD)) (.lst [])) = _
    rw [cNe_nil (oFlats left fun t ht => hdl t ht), rB_some], fun ht => ?_, fun hf => ?_⟩
  · cases left with
    | nil => simp at ht
    | cons o ts =>
      refine s_asg (x_pop0 (x := oD o) (xs := ts.map oD) rfl) ?_
      walk_at "nx"
      have hdl' : ∀ t, some t ∈ ts → t.depth ≤ 20 := fun t ht => hdl t (List.mem_cons_of_mem _ ht)
      have hes : oEvss (o :: ts) = oEvs o ++ oEvss ts := by simp [oEvss]
      have hss : oSizes (o :: ts) = oSize o + oSizes ts := by simp [oSizes]
      rw [hes] at hr
      rw [hss] at hl1
      cases o with
      | none =>
        obtain ⟨⟨n, y, m, x, fr', hfr, hxl⟩, hnext⟩ := hr
        dsimp only at hfr
        subst hfr
        have he := ended_at h1 (k := k - 1) (by omega) ((fr'.map (·.1)).reverse ++ [m]) n (fr'.map (·.2)).reverse x y (by omega)
        refine s_if (t := true) (n := 0) (by rfl) (fun _ => ?_) (fun h => by cases h)
        walk_at "nx"
        have g1 : numsD ((n, y) :: (m, x) :: fr') = .lst (((fr'.map (·.1)).reverse ++ [m] ++ [n]).map D.int) := by simp [numsD]
        have g2 : opens ((n, y) :: (m, x) :: fr') = innerD ((fr'.map (·.2)).reverse ++ [x, y]) := by simp [opens]
        have g3 : numsD ((m, x ++ [Th.part n y]) :: fr') = .lst (((fr'.map (·.1)).reverse ++ [m]).map D.int) := by simp [numsD]
        have g4 : opens ((m, x ++ [Th.part n y]) :: fr') = innerD ((fr'.map (·.2)).reverse ++ [x ++ [.part n y]]) := by simp [opens]
        rw [g1, g2]
        refine s_exprCio (vs := [(.lst (((fr'.map (·.1)).reverse ++ [m] ++ [n]).map D.int), 1), (innerD ((fr'.map (·.2)).reverse ++ [x, y]), 2)]) (os := [(.lst (((fr'.map (·.1)).reverse ++ [m]).map D.int), 1), (innerD ((fr'.map (·.2)).reverse ++ [x ++ [.part n y]]), 2)]) (Γ' := [some ((Th.part n0 ks).D, 0), some (.int (q : Int), 0), some (numsD ((m, x ++ [Th.part n y]) :: fr'), 1), some (opens ((m, x ++ [Th.part n y]) :: fr'), 2), some (.lst (ts.map oD), 1), some (.non, 0)]) rfl he (by rw [g3, g4]; rfl) ?_
        refine s_nil ⟨(((m, x ++ [Th.part n y]) :: fr', q), ts), by simp [rs, rsA], ⟨hnext, hdl', ?_⟩, ?_⟩
        · simp only [oSize] at hl1; show oSizes ts ≤ _; omega
        · show oSizes ts < oSizes (none :: ts)
          rw [hss]; simp only [oSize]; omega
      | some t =>
        have td := hdl t List.mem_cons_self
        have hisn : opCmp .is_ t.D .non = some false := by cases t <;> rfl
        refine s_if (t := false) (n := 0) (by
          simp -implicitDefEqProofs only [e_cmp, e_var, e_cst, List.getElem?_cons_succ, List.getElem?_cons_zero, q_sl, R.bind_ok]
          show rB (opCmp .is_ t.D .non) = _
          rw [hisn]; rfl) (fun h => by cases h) (fun _ => ?_)
        walk_at "nx"
        have hix := Th.ix0 t
        refine s_if (t := decide (t.kind = [112, 97, 114, 116])) (n := 0) (by
          simp -implicitDefEqProofs only [e_cmp, e_idx, e_var, e_cst, List.getElem?_cons_zero, List.getElem?_cons_succ, q_sl, R.bind_ok, oD, hix, cEqS, rB_some]) (fun h => ?_) (fun h => ?_)
        · walk_at "nx"
          cases t with
          | say _ _ => simp [Th.kind] at h
          | tell _ _ _ _ _ => simp [Th.kind] at h
          | part m js =>
            have hjs : js.length ≤ Th.sizes js := Th.len_sizes js
            have hts : ts.length ≤ oSizes ts := oLen ts
            simp only [oSize, Th.size] at hl1
            have e1 : oEvs (some (.part m js)) ++ oEvss ts = .beg :: (oEvss (js.map some ++ none :: ts)) := by
              have h1 : oEvss (js.map some ++ none :: ts) = oEvss (js.map some) ++ ([Ev.fin] ++ oEvss ts) := by simp [oEvss, oEvs]
              rw [h1, oEvss_some]
              simp [oEvs, Th.evs]
            rw [e1] at hr
            obtain ⟨⟨hl2, hl3⟩, hnext⟩ := hr
            dsimp only at hl2 hl3
            have hst : stp (fr, q) .beg = ((((q + 1 : Nat) : Int), []) :: fr, q + 1) := by cases fr <;> rfl
            rw [hst] at hnext
            refine s_asg (d := .int ((q + 1 : Nat) : Int)) (n := 0) (xPure0 (by walk_at "ev"; try rfl)) ?_
            walk_at "nx"
            refine s_appv (x := .int ((q + 1 : Nat) : Int)) (m := 0) (n := 0) (xs := (fr.map (·.1)).reverse.map D.int) rfl (by walk_at "ex") rfl (by simp; omega) ?_
            walk_at "nx"
            refine s_appv (x := .lst []) (m := 1) (n := 1) (xs := ((fr.map (·.2)).reverse).map fun ts => .lst (Th.Ds ts)) rfl (xPureF rfl (by simp -implicitDefEqProofs only [e_lst, e_anil]; rw [q_lst _ _ rfl]; rfl)) rfl (by simp; omega) ?_
            walk_at "nx"
            refine s_asg (d := .lst ((js.map some ++ none :: ts).map oD)) (n := 1) (xPureF rfl (by
              simp -implicitDefEqProofs only [e_bin, e_blt, e_lst, e_acons, e_anil, CE.fresh, e_idx, e_var, e_cst, List.getElem?_cons_zero, List.getElem?_cons_succ, q_sl, R.bind_ok, oD, hdoc, q_acons, q_blt, bListT]
              rw [q_lst _ _ rfl, R.bind_ok, opAddL _ _ _ _ (by omega) (by omega) (by rw [Th.Ds_map, List.length_map]; simp; omega), R.bind_ok, opAddL _ _ _ _ (by omega) (by omega) (by rw [List.length_append, Th.Ds_map, List.length_map, List.length_map]; simp; omega)]
              rw [eo]
              simp [oD])) ?_
            walk_at "nx"
            have h2 : oSizes (js.map some ++ none :: ts) = oSizes (js.map some) + (1 + oSizes ts) := by simp [oSizes, oSize]
            refine s_nil ⟨(((((q + 1 : Nat) : Int), []) :: fr, q + 1), js.map some ++ none :: ts), ?_, ⟨hnext, ?_, ?_⟩, ?_⟩
            · simp [rs, rsA, opens, innerD, numsD, Th.Ds]
            · intro u hu
              rcases List.mem_append.mp hu with hu | hu
              · obtain ⟨v, hv, e⟩ := List.mem_map.mp hu
                cases e
                have := depth_mem hv
                simp only [Th.depth] at td
                omega
              · rcases List.mem_cons.mp hu with e | hu
                · cases e
                · exact hdl' u hu
            · show oSizes (js.map some ++ none :: ts) ≤ _
              rw [h2, oSizes_some]; omega
            · show oSizes (js.map some ++ none :: ts) < oSizes (some (.part m js) :: ts)
              rw [h2, oSizes_some, hss]
              simp only [oSize, Th.size]; omega
        · walk_at "nx"
          have h := of_decide_eq_false h
          have e1 : oEvs (some t) ++ oEvss ts = .leaf t :: oEvss ts := by
            cases t with
            | part m js => exact absurd rfl h
            | say _ _ => rfl
            | tell _ _ _ _ _ => rfl
          have hsz : t.size = 1 := by
            cases t with
            | part m js => exact absurd rfl h
            | say _ _ => rfl
            | tell _ _ _ _ _ => rfl
          rw [e1] at hr
          obtain ⟨⟨hlf, n, x, fr', hfr, hxl⟩, hnext⟩ := hr
          dsimp only at hfr
          subst hfr
          refine s_asg (d := .int ((q + 1 : Nat) : Int)) (n := 0) (xPure0 (by walk_at "ev"; try rfl)) ?_
          walk_at "nx"
          have hren : ∃ (xs : List D), opSl t.D 0 (some 2) none = .ok (.tup xs) 0 ∧ xs.length ≤ 4 ∧ D.tup ([.str t.kind, .int ((q + 1 : Nat) : Int)] ++ xs) = (t.ren q).D := by
            cases t with
            | part m js => exact absurd rfl h
            | say m r => exact ⟨[.tup (r.map D.str)], rfl, by simp, rfl⟩
            | tell m s p b r => exact ⟨[.str s, .tup (p.map D.str), .tup (b.map bD), .tup (r.map D.str)], rfl, by simp, rfl⟩
          obtain ⟨xs, hx1, hx2, hx3⟩ := hren
          refine s_appLast (L := (fr'.map (·.2)).reverse.map fun ts => .lst (Th.Ds ts)) (xs := Th.Ds x) (x := (t.ren q).D) (by simp [opens, innerD]) (by
            apply xPure0
            simp -implicitDefEqProofs only [e_bin, e_tup, e_acons, e_anil, e_idx, e_sll, e_var, e_cst, CE.fresh, List.getElem?_cons_zero, List.getElem?_cons_succ, q_sl, q_acons, R.bind_ok, oD, hix, q_sll]
            rw [q_tup _ rfl, R.bind_ok, hx1, R.bind_ok]
            rw [← hx3]
            exact opAddT _ _ _ _ (by simp; omega)) (by rw [Th.Ds_map, List.length_map]; omega) ?_
          walk_at "nx"
          simp only [oSize, hsz] at hl1
          refine s_nil ⟨(((n, x ++ [t.ren q]) :: fr', q + 1), ts), ?_, ⟨hnext, hdl', ?_⟩, ?_⟩
          · simp [rs, rsA, opens, innerD, numsD, Th.Ds, Th.Ds_app]
          · show oSizes ts ≤ _; omega
          · show oSizes ts < oSizes (some t :: ts)
            rw [hss]; simp only [oSize, hsz]; omega
  · have hleft : left = [] := by
      cases left with
      | nil => rfl
      | cons t ts => simp at hf
    subst hleft
    have hr : (fr, q) = endS ks := hr
    cases hr
    refine s_frz rfl ?_
    walk_at "nx"
    refine s_ret (d := (Th.part 0 (Th.rens 0 ks)).D) (n := 0) (xPure0 (by
      simp -implicitDefEqProofs only [e_tup, e_acons, e_anil, e_blt, e_idx, e_var, e_cst, CE.fresh, List.getElem?_cons_zero, List.getElem?_cons_succ, q_sl, R.bind_ok]
      have e1 : opIdx (opens [(0, Th.rens 0 ks)]) 0 (.int 0) = .ok (.lst (Th.Ds (Th.rens 0 ks))) 0 := rfl
      rw [e1]
      simp -implicitDefEqProofs only [q_acons, q_blt]
      rw [bTupL _ _ _ (by omega)]
      simp -implicitDefEqProofs only [q_acons]
      rw [q_tup _ rfl]
      rfl)) ?_
    simp only [fin, rr, outs]
theorem lawRead_at {cs : List Code} {c fd k : Nat} (hc : cs[c]? = some (C_law_read fd)) (hk : 1 ≤ k) (T : Tx) (ks : List Th) (hr : Fk cs (k - 1) fd [(.str T, 0)] = .ok (Th.part 0 ks).D 0 []) (hd : Th.depths ks ≤ 8) : Fk cs k c [(.str T, 0), ((Th.part 0 ks).D, 0)] = .ok (.bl true) 0 [] := by
  have hf : D.flat 64 (Th.part 0 ks).D = true := Th.flatD _ 64 (by simp only [Th.depth]; omega)
  have hq := cEq_self hf
  have hi : isiOf .tuple (Th.part 0 ks).D = some true := rfl
  generalize (Th.part 0 ks).D = d at hr hq hi
  rw [Fk_at (by omega) hc]
  refine run_of (P := fun r => r = _) rfl rfl ?_
  simp only [GL.start, C_law_read, List.map_cons, List.map_nil, List.replicate, List.cons_append, List.nil_append]
  refine s_asg (d := d) (n := 0) (by apply xPure0; walk_at "ev"; simp only [hr]; walk_at "ev") ?_
  walk_at "nx"
  refine s_ret (d := .bl true) (n := 0) (by
    apply xPure0
    walk_at "ev"
    simp only [hi]
    rw [hq]
    rfl) ?_
  simp only [fin, rr, outs]
end GL

namespace K16
open PySem L2 PyProof.Rows GL
def topS (i : Nat) : Stmt := PySem.Challenge.pw_gloss_k16_whole_read_again.main.body.getD i (.Pass ⟨0, 0, 0, 0⟩)
def t_SIGNS : Tx := [97, 98, 99, 100, 101, 102, 103, 104, 105, 106, 107, 108, 109, 110, 111, 112, 113, 114, 115, 116, 117, 118, 119, 120, 121, 122, 65, 66, 67, 68, 69, 70, 71, 72, 73, 74, 75, 76, 77, 78, 79, 80, 81, 82, 83, 84, 85, 86, 87, 88, 89, 90, 48, 49, 50, 51, 52, 53, 54, 55, 56, 57]
def c_SIGNS : D := .str t_SIGNS
def c_LONGEST : D := (.int 20)
def c_MOST_BENDS : D := (.int 5)
def c_MOST_IN_PHRASE : D := (.int 4)
def c_MOST_WORDS : D := (.int 200)
def c_SCOPES : D := (.ro false [(.str [97, 108, 108]), (.str [112, 97, 114, 116]), (.str [104, 101, 114, 101]), (.str [101, 108, 115, 101])])
def c_DEEPEST : D := (.int 8)
def b_has_signs : CSs := (.cons (.for_ [1] (.val (.var 0)) [0] (.cons (.ifs (.cmp .notin (.var 1) (.glo "SIGNS" c_SIGNS)) (.cons (.ret (.pure (.cst (.bl false)))) .nil) .nil) .nil)) (.cons (.ret (.pure (.cst (.bl true)))) .nil))
def k_has_signs : GL.Code := ⟨1, 2, [], b_has_signs⟩
def b_is_word : CSs := (.cons (.ret (.pure (.and (.isi (.var 0) .str) (.and (.chain .le .le (.cst (.int 1)) (.blt .len (.cons (.var 0) .nil)) (.glo "LONGEST" c_LONGEST)) (.call 0 "has_signs" (.cons (.var 0) .nil)))))) .nil)
def k_is_word : GL.Code := ⟨1, 1, [], b_is_word⟩
def b_words_of : CSs := (.cons (.asg 1 (.pure (.lst 1 .nil))) (.cons (.for_ [2] (.val (.mth .split (.var 0) (.cons (.cst (.str [32])) .nil))) [0, 1] (.cons (.ifs (.not (.call 1 "is_word" (.cons (.var 2) .nil))) (.cons (.rse 1 "NoWord" (.cons (.cst (.str [110, 111, 32, 119, 111, 114, 100])) .nil)) .nil) .nil) (.cons (.app (.var 1) (.pure (.var 2))) .nil))) (.cons (.frz 1) (.cons (.ret (.pure (.blt .tuple (.cons (.var 1) .nil)))) .nil))))
def k_words_of : GL.Code := ⟨1, 3, [], b_words_of⟩
def b_text_of : CSs := (.cons (.ret (.pure (.mth .join (.cst (.str [32])) (.cons (.var 0) .nil)))) .nil)
def k_text_of : GL.Code := ⟨1, 1, [], b_text_of⟩
def b_bent : CSs := (.cons (.asg 2 (.pure (.idx (.var 1) (.cst (.int 0))))) (.cons (.asg 3 (.pure (.idx (.var 0) (.neg (.cst (.int 1)))))) (.cons (.ifs (.not (.mth .endswith (.var 3) (.cons (.var 2) .nil))) (.cons (.rse 2 "NoForm" (.cons (.cst (.str [116, 104, 101, 32, 108, 97, 115, 116, 32, 119, 111, 114, 100, 32, 101, 110, 100, 115, 32, 111, 116, 104, 101, 114, 119, 105, 115, 101])) .nil)) .nil) .nil) (.cons (.asg 4 (.pure (.bin .add (.slu (.var 3) (.bin .sub (.blt .len (.cons (.var 3) .nil)) (.blt .len (.cons (.var 2) .nil)))) (.idx (.var 1) (.cst (.int 1)))))) (.cons (.ifs (.not (.call 1 "is_word" (.cons (.var 4) .nil))) (.cons (.rse 2 "NoForm" (.cons (.cst (.str [110, 111, 32, 119, 111, 114, 100])) .nil)) .nil) .nil) (.cons (.ret (.pure (.bin .add (.slu (.var 0) (.neg (.cst (.int 1)))) (.tup (.cons (.var 4) .nil))))) .nil))))))
def k_bent : GL.Code := ⟨2, 5, [], b_bent⟩
def b_forms : CSs := (.cons (.asg 2 (.pure (.lst 1 (.cons (.var 0) .nil)))) (.cons (.for_ [3] (.val (.var 1)) [0, 1, 2] (.cons (.asg 4 (.pure (.call 4 "bent" (.cons (.var 0) (.cons (.var 3) .nil))))) (.cons (.ifs (.cmp .in_ (.var 4) (.var 2)) (.cons (.rse 2 "NoForm" (.cons (.cst (.str [97, 32, 102, 111, 114, 109, 32, 116, 119, 105, 99, 101])) .nil)) .nil) .nil) (.cons (.app (.var 2) (.pure (.var 4))) .nil)))) (.cons (.frz 2) (.cons (.ret (.pure (.blt .tuple (.cons (.var 2) .nil)))) .nil))))
def k_forms : GL.Code := ⟨2, 5, [], b_forms⟩
def b_telling_row : CSs := (.cons (.asg 1 (.pure (.mth .join (.cst (.str [])) (.cons (.comp 1 [2, 3] (.val (.idx (.var 0) (.cst (.int 4)))) .nil (.bin .add (.bin .add (.bin .add (.cst (.str [32])) (.var 2)) (.cst (.str [62]))) (.var 3))) .nil)))) (.cons (.ret (.pure (.bin .add (.bin .add (.bin .add (.bin .add (.bin .add (.bin .add (.cst (.str [116, 101, 108, 108, 32])) (.idx (.var 0) (.cst (.int 2)))) (.cst (.str [32]))) (.call 3 "text_of" (.cons (.idx (.var 0) (.cst (.int 3))) .nil))) (.var 1)) (.cst (.str [58, 32]))) (.call 3 "text_of" (.cons (.idx (.var 0) (.cst (.int 5))) .nil))))) .nil))
def k_telling_row : GL.Code := ⟨1, 4, [], b_telling_row⟩
def b_rows_in : CSs := (.cons (.asg 1 (.pure (.lst 1 .nil))) (.cons (.for_ [2] (.val (.idx (.var 0) (.cst (.int 2)))) [0, 1] (.cons (.ifs (.cmp .eq (.idx (.var 2) (.cst (.int 0))) (.cst (.str [115, 97, 121]))) (.cons (.app (.var 1) (.pure (.bin .add (.cst (.str [115, 97, 121, 32])) (.call 3 "text_of" (.cons (.idx (.var 2) (.cst (.int 2))) .nil))))) .nil) (.cons (.ifs (.cmp .eq (.idx (.var 2) (.cst (.int 0))) (.cst (.str [116, 101, 108, 108]))) (.cons (.app (.var 1) (.pure (.call 6 "telling_row" (.cons (.var 2) .nil)))) .nil) (.cons (.app (.var 1) (.pure (.cst (.str [112, 97, 114, 116])))) (.cons (.ext (.var 1) (.call 7 "rows_in" (.cons (.var 2) .nil))) (.cons (.app (.var 1) (.pure (.cst (.str [101, 110, 100])))) .nil)))) .nil)) .nil)) (.cons (.retv 1) .nil)))
def k_rows_in : GL.Code := ⟨1, 3, [], b_rows_in⟩
def b_written : CSs := (.cons (.ret (.pure (.mth .join (.cst (.str [10])) (.cons (.call 7 "rows_in" (.cons (.var 0) .nil)) .nil)))) .nil)
def k_written : GL.Code := ⟨1, 1, [], b_written⟩
def b_bend_of : CSs := (.cons (.asgT [1, 2, 3] (.pure (.mth .partition (.var 0) (.cons (.cst (.str [62])) .nil)))) (.cons (.ifs (.or (.cmp .eq (.var 2) (.cst (.str []))) (.or (.not (.call 0 "has_signs" (.cons (.var 1) .nil))) (.not (.call 0 "has_signs" (.cons (.var 3) .nil))))) (.cons (.rse 1 "NoWord" (.cons (.cst (.str [110, 111, 32, 98, 101, 110, 100])) .nil)) .nil) .nil) (.cons (.ifs (.or (.cmp .gt (.blt .len (.cons (.var 1) .nil)) (.glo "LONGEST" c_LONGEST)) (.cmp .gt (.blt .len (.cons (.var 3) .nil)) (.glo "LONGEST" c_LONGEST))) (.cons (.rse 1 "NoWord" (.cons (.cst (.str [97, 32, 98, 101, 110, 100, 32, 111, 102, 32, 116, 111, 111, 32, 109, 97, 110, 121, 32, 115, 105, 103, 110, 115])) .nil)) .nil) .nil) (.cons (.ret (.pure (.tup (.cons (.var 1) (.cons (.var 3) .nil))))) .nil))))
def k_bend_of : GL.Code := ⟨1, 4, [], b_bend_of⟩
def b_shape_of : CSs := (.cons (.asg 1 (.pure (.lst 1 .nil))) (.cons (.asg 2 (.pure (.lst 1 .nil))) (.cons (.for_ [3] (.val (.var 0)) [0, 1, 2] (.cons (.ifs (.cmp .in_ (.cst (.str [62])) (.var 3)) (.cons (.app (.var 2) (.pure (.call 9 "bend_of" (.cons (.var 3) .nil)))) .nil) (.cons (.ifs (.and (.call 1 "is_word" (.cons (.var 3) .nil)) (.cmp .eq (.var 2) (.lst 1 .nil))) (.cons (.app (.var 1) (.pure (.var 3))) .nil) (.cons (.rse 1 "NoWord" (.cons (.cst (.str [110, 111, 32, 112, 104, 114, 97, 115, 101, 32, 119, 105, 116, 104, 32, 98, 101, 110, 100, 115])) .nil)) .nil)) .nil)) .nil)) (.cons (.frz 1) (.cons (.frz 2) (.cons (.ifs (.or (.not (.chain .le .le (.cst (.int 1)) (.blt .len (.cons (.var 1) .nil)) (.glo "MOST_IN_PHRASE" c_MOST_IN_PHRASE))) (.cmp .gt (.blt .len (.cons (.var 2) .nil)) (.glo "MOST_BENDS" c_MOST_BENDS))) (.cons (.rse 1 "NoWord" (.cons (.cst (.str [116, 111, 111, 32, 102, 101, 119, 32, 111, 114, 32, 116, 111, 111, 32, 109, 97, 110, 121])) .nil)) .nil) .nil) (.cons (.ret (.pure (.tup (.cons (.blt .tuple (.cons (.var 1) .nil)) (.cons (.blt .tuple (.cons (.var 2) .nil)) .nil))))) .nil)))))))
def k_shape_of : GL.Code := ⟨1, 4, [], b_shape_of⟩
def b_row_read : CSs := (.cons (.asg 1 (.pure (.call 2 "words_of" (.cons (.var 0) .nil)))) (.cons (.ifs (.cmp .gt (.blt .len (.cons (.var 1) .nil)) (.glo "MOST_WORDS" c_MOST_WORDS)) (.cons (.rse 1 "NoWord" (.cons (.cst (.str [116, 111, 111, 32, 109, 97, 110, 121, 32, 119, 111, 114, 100, 115])) .nil)) .nil) .nil) (.cons (.retv 1) .nil)))
def k_row_read : GL.Code := ⟨1, 2, [], b_row_read⟩
def b_thing_read : CSs := (.cons (.asgT [2, 3, 4] (.pure (.mth .partition (.var 0) (.cons (.cst (.str [32])) .nil)))) (.cons (.ifs (.cmp .eq (.var 2) (.cst (.str [115, 97, 121]))) (.cons (.ret (.pure (.tup (.cons (.cst (.str [115, 97, 121])) (.cons (.var 1) (.cons (.call 11 "row_read" (.cons (.var 4) .nil)) .nil)))))) .nil) .nil) (.cons (.asgT [5, 6, 7] (.pure (.mth .partition (.var 4) (.cons (.cst (.str [58, 32])) .nil)))) (.cons (.asg 8 (.pure (.mth .split (.var 5) (.cons (.cst (.str [32])) .nil)))) (.cons (.ifs (.or (.cmp .ne (.var 2) (.cst (.str [116, 101, 108, 108]))) (.cmp .notin (.idx (.var 8) (.cst (.int 0))) (.glo "SCOPES" c_SCOPES))) (.cons (.rse 1 "NoWord" (.cons (.cst (.str [110, 111, 32, 115, 117, 99, 104, 32, 114, 111, 119])) .nil)) .nil) .nil) (.cons (.asgT [9, 10] (.pure (.call 10 "shape_of" (.cons (.sll (.var 8) (.cst (.int 1))) .nil)))) (.cons (.expr (.pure (.call 5 "forms" (.cons (.var 9) (.cons (.var 10) .nil))))) (.cons (.ret (.pure (.tup (.cons (.cst (.str [116, 101, 108, 108])) (.cons (.var 1) (.cons (.idx (.var 8) (.cst (.int 0))) (.cons (.var 9) (.cons (.var 10) (.cons (.call 11 "row_read" (.cons (.var 7) .nil)) .nil))))))))) .nil))))))))
def k_thing_read : GL.Code := ⟨2, 11, [], b_thing_read⟩
def b_thing_at : CSs := (.cons (.tryP (.cons (.ret (.pure (.call 12 "thing_read" (.cons (.var 0) (.cons (.var 1) .nil))))) .nil)) .nil)
def k_thing_at : GL.Code := ⟨3, 3, [], b_thing_at⟩
def b_read : CSs := (.cons (.ifs (.cmp .eq (.var 0) (.cst (.str []))) (.cons (.ret (.pure (.tup (.cons (.cst (.str [112, 97, 114, 116])) (.cons (.cst (.int 0)) (.cons (.tup .nil) .nil)))))) .nil) .nil) (.cons (.asg 1 (.pure (.lst 1 (.cons (.cst (.int 0)) .nil)))) (.cons (.asg 2 (.pure (.lst 2 (.cons (.lst 1 .nil) .nil)))) (.cons (.asg 3 (.pure (.cst (.int 0)))) (.cons (.for_ [4, 5] (.enum (.mth .split (.var 0) (.cons (.cst (.str [10])) .nil))) [0, 1, 2, 3] (.cons (.ifs (.and (.cmp .eq (.var 5) (.cst (.str [101, 110, 100]))) (.cmp .gt (.blt .len (.cons (.var 1) .nil)) (.cst (.int 1)))) (.cons (.asg 6 (.tup3 (.pure (.cst (.str [112, 97, 114, 116]))) (.pop (.var 1)) (.tuple (.pop (.var 2))))) (.cons (.app (.idx (.var 2) (.neg (.cst (.int 1)))) (.pure (.var 6))) .nil)) (.cons (.ifs (.cmp .eq (.var 5) (.cst (.str [112, 97, 114, 116]))) (.cons (.ifs (.cmp .gt (.blt .len (.cons (.var 1) .nil)) (.glo "DEEPEST" c_DEEPEST)) (.cons (.rse 5 "TooDeep" (.cons (.cst (.str [116, 111, 111, 32, 109, 97, 110, 121, 32, 112, 97, 114, 116, 115, 32, 119, 105, 116, 104, 105, 110, 32, 111, 110, 101, 32, 97, 110, 111, 116, 104, 101, 114])) .nil)) .nil) .nil) (.cons (.asg 3 (.pure (.bin .add (.var 3) (.cst (.int 1))))) (.cons (.app (.var 1) (.pure (.var 3))) (.cons (.app (.var 2) (.pure (.lst 1 .nil))) .nil)))) (.cons (.asg 3 (.pure (.bin .add (.var 3) (.cst (.int 1))))) (.cons (.app (.idx (.var 2) (.neg (.cst (.int 1)))) (.pure (.call 13 "thing_at" (.cons (.var 5) (.cons (.var 3) (.cons (.var 4) .nil)))))) .nil))) .nil)) .nil)) (.cons (.frz 1) (.cons (.frz 2) (.cons (.ifs (.cmp .gt (.blt .len (.cons (.var 1) .nil)) (.cst (.int 1))) (.cons (.rse 4 "NoEnd" (.cons (.cst (.str [97, 32, 112, 97, 114, 116, 32, 105, 115, 32, 110, 111, 116, 32, 101, 110, 100, 101, 100])) .nil)) .nil) .nil) (.cons (.ret (.pure (.tup (.cons (.cst (.str [112, 97, 114, 116])) (.cons (.cst (.int 0)) (.cons (.blt .tuple (.cons (.idx (.var 2) (.cst (.int 0))) .nil)) .nil)))))) .nil)))))))))
def k_read : GL.Code := ⟨1, 7, [], b_read⟩
def b__law_cell : CSs := (.cons (.ifs (.cmp .lt (.var 1) (.blt .len (.cons (.var 0) .nil))) (.cons (.ret (.pure (.idx (.var 0) (.var 1)))) .nil) .nil) (.cons (.asg 2 (.pure (.bin .add (.bin .mul (.var 1) (.cst (.int 7919))) (.cst (.int 5))))) (.cons (.ifs (.cmp .gt (.blt .len (.cons (.var 0) .nil)) (.cst (.int 0))) (.cons (.asg 2 (.pure (.bin .mod (.bin .add (.bin .mul (.idx (.var 0) (.bin .mod (.bin .mul (.var 1) (.cst (.int 7))) (.blt .len (.cons (.var 0) .nil)))) (.cst (.int 48271))) (.bin .mul (.var 1) (.cst (.int 7919)))) (.cst (.int 2147483647))))) .nil) .nil) (.cons (.ret (.pure (.bin .mod (.bin .mul (.var 2) (.var 2)) (.cst (.int 2147483629))))) .nil))))
def k__law_cell : GL.Code := ⟨2, 3, [], b__law_cell⟩
def b__law_mixed : CSs := (.cons (.ret (.pure (.bin .mod (.bin .add (.bin .mul (.var 0) (.cst (.int 48271))) (.cst (.int 12345))) (.cst (.int 2147483647))))) .nil)
def k__law_mixed : GL.Code := ⟨1, 1, [], b__law_mixed⟩
def b__law_menu : CSs := (.cons (.asg 1 (.pure (.cst (.str [97, 98, 99, 100, 101, 102, 103, 104, 105, 106, 107, 108, 109, 110, 111, 112, 113, 114, 115, 116, 117, 118, 119, 120, 121, 122, 65, 66, 67, 68, 69, 70, 71, 72, 73, 74, 75, 76, 77, 78, 79, 80, 81, 82, 83, 84, 85, 86, 87, 88, 89, 90, 48, 49, 50, 51, 52, 53, 54, 55, 56, 57])))) (.cons (.asg 2 (.pure (.call 15 "_law_cell" (.cons (.var 0) (.cons (.cst (.int 0)) .nil))))) (.cons (.asg 3 (.pure (.bin .add (.cst (.int 1)) (.bin .mod (.var 2) (.cst (.int 19)))))) (.cons (.asg 4 (.pure (.bin .mod (.bin .fdiv (.var 2) (.cst (.int 19))) (.var 3)))) (.cons (.asg 5 (.pure (.bin .mod (.var 2) (.cst (.int 2147483647))))) (.cons (.asg 6 (.pure (.lst 1 .nil))) (.cons (.for_ [7] (.rng1 (.var 3)) [0, 1, 2, 3, 4, 5, 6] (.cons (.asg 5 (.pure (.call 16 "_law_mixed" (.cons (.var 5) .nil)))) (.cons (.app (.var 6) (.pure (.bin .mod (.var 5) (.cst (.int 62))))) .nil))) (.cons (.frz 6) (.cons (.asg 8 (.pure (.lst 1 .nil))) (.cons (.for_ [7] (.rng1 (.cst (.int 8))) [0, 1, 2, 3, 4, 5, 6, 8] (.cons (.asg 9 (.pure (.cst (.str [])))) (.cons (.for_ [10] (.rng1 (.var 3)) [0, 1, 2, 3, 4, 5, 6, 7, 8, 9] (.cons (.asg 11 (.pure (.bin .mod (.bin .add (.idx (.var 6) (.var 10)) (.bin .mul (.bin .mul (.cst (.int 7)) (.var 7)) (.blt .int (.cons (.cmp .eq (.var 10) (.var 4)) .nil)))) (.cst (.int 62))))) (.cons (.ifs (.and (.cmp .eq (.var 10) (.var 4)) (.cmp .eq (.bin .mod (.var 2) (.cst (.int 3))) (.cst (.int 1)))) (.cons (.asg 11 (.pure (.bin .add (.bin .mod (.bin .add (.idx (.var 6) (.var 10)) (.bin .fdiv (.var 7) (.cst (.int 2)))) (.cst (.int 26))) (.bin .mul (.bin .mod (.var 7) (.cst (.int 2))) (.cst (.int 26)))))) .nil) .nil) (.cons (.asg 9 (.pure (.bin .add (.var 9) (.idx (.var 1) (.var 11))))) .nil)))) (.cons (.app (.var 8) (.pure (.var 9))) .nil)))) (.cons (.frz 8) (.cons (.ret (.pure (.bin .add (.var 8) (.lst 1 (.cons (.bin .add (.idx (.var 8) (.cst (.int 0))) (.idx (.var 1) (.idx (.var 6) (.cst (.int 0))))) (.cons (.bin .add (.idx (.var 8) (.cst (.int 1))) (.idx (.var 1) (.bin .mod (.bin .fdiv (.var 5) (.cst (.int 62))) (.cst (.int 62))))) .nil)))))) .nil))))))))))))
def k__law_menu : GL.Code := ⟨1, 12, [], b__law_menu⟩
def b__law_plain_words : CSs := (.cons (.eat 0) (.cons (.asg 2 (.pure (.lst 1 (.cons (.cst (.str [115, 97, 121])) (.cons (.cst (.str [116, 101, 108, 108])) (.cons (.cst (.str [112, 97, 114, 116])) (.cons (.cst (.str [101, 110, 100])) (.cons (.cst (.str [97, 108, 108])) (.cons (.cst (.str [104, 101, 114, 101])) (.cons (.cst (.str [101, 108, 115, 101])) (.cons (.cst (.str [110, 111, 110, 101])) (.cons (.cst (.str [116, 101, 120, 116])) (.cons (.cst (.str [117, 110, 100, 111])) .nil))))))))))))) (.cons (.frz 2) (.cons (.ifs (.cmp .eq (.bin .mod (.var 1) (.cst (.int 4))) (.cst (.int 1))) (.cons (.for_ [3] (.rng1 (.bin .add (.cst (.int 2)) (.bin .mod (.bin .fdiv (.var 1) (.cst (.int 4))) (.cst (.int 3))))) [0, 1, 2] (.cons (.setI (.var 0) (.bin .add (.bin .mul (.cst (.int 2)) (.var 3)) (.cst (.int 1))) (.idx (.var 2) (.bin .mod (.bin .add (.bin .fdiv (.var 1) (.cst (.int 12))) (.bin .mul (.cst (.int 3)) (.var 3))) (.cst (.int 10))))) .nil)) .nil) .nil) (.cons (.retv 0) .nil)))))
def k__law_plain_words : GL.Code := ⟨2, 4, [], b__law_plain_words⟩
def b__law_row : CSs := (.cons (.asg 3 (.pure (.call 16 "_law_mixed" (.cons (.var 0) .nil)))) (.cons (.asg 4 (.pure (.lst 1 .nil))) (.cons (.for_ [5] (.rng1 (.var 2)) [0, 1, 2, 3, 4] (.cons (.asg 3 (.pure (.call 16 "_law_mixed" (.cons (.var 3) .nil)))) (.cons (.app (.var 4) (.pure (.idx (.var 1) (.bin .mod (.var 3) (.cst (.int 10)))))) .nil))) (.cons (.frz 4) (.cons (.ret (.pure (.blt .tuple (.cons (.var 4) .nil)))) .nil)))))
def k__law_row : GL.Code := ⟨3, 6, [], b__law_row⟩
def b__law_bends : CSs := (.cons (.asg 3 (.pure (.cst (.str [97, 98, 99, 100, 101, 102, 103, 104, 105, 106, 107, 108, 109, 110, 111, 112, 113, 114, 115, 116, 117, 118, 119, 120, 121, 122, 65, 66, 67, 68, 69, 70, 71, 72, 73, 74, 75, 76, 77, 78, 79, 80, 81, 82, 83, 84, 85, 86, 87, 88, 89, 90, 48, 49, 50, 51, 52, 53, 54, 55, 56, 57])))) (.cons (.asg 4 (.pure (.tup .nil))) (.cons (.asg 5 (.pure (.lst 1 (.cons (.var 0) .nil)))) (.cons (.for_ [6] (.rng1 (.var 2)) [0, 1, 2, 3, 4, 5] (.cons (.asg 1 (.pure (.call 16 "_law_mixed" (.cons (.var 1) .nil)))) (.cons (.asg 7 (.pure (.bin .sub (.blt .len (.cons (.var 0) .nil)) (.blt .min2 (.cons (.blt .len (.cons (.var 0) .nil)) (.cons (.idx (.lst 1 (.cons (.cst (.int 0)) (.cons (.cst (.int 1)) (.cons (.cst (.int 2)) (.cons (.cst (.int 20)) .nil))))) (.bin .mod (.var 1) (.cst (.int 4)))) .nil)))))) (.cons (.asg 8 (.pure (.bin .add (.idx (.var 3) (.bin .mod (.bin .fdiv (.var 1) (.cst (.int 4))) (.cst (.int 62)))) (.idx (.var 3) (.bin .mod (.bin .fdiv (.var 1) (.cst (.int 248))) (.cst (.int 62))))))) (.cons (.asg 9 (.pure (.slu (.var 8) (.bin .mod (.bin .fdiv (.var 1) (.cst (.int 15376))) (.cst (.int 3)))))) (.cons (.ifs (.cmp .eq (.bin .mod (.bin .fdiv (.var 1) (.cst (.int 46128))) (.cst (.int 8))) (.cst (.int 1))) (.cons (.asg 9 (.pure (.slu (.bin .add (.var 8) (.bin .mul (.var 0) (.cst (.int 3)))) (.bin .sub (.cst (.int 20)) (.var 7))))) .nil) .nil) (.cons (.asg 10 (.pure (.bin .add (.slu (.var 0) (.var 7)) (.var 9)))) (.cons (.ifs (.and (.cmp .notin (.var 10) (.var 5)) (.chain .le .le (.cst (.int 1)) (.blt .len (.cons (.var 10) .nil)) (.cst (.int 20)))) (.cons (.app (.var 5) (.pure (.var 10))) (.cons (.asg 4 (.pure (.bin .add (.var 4) (.tup (.cons (.tup (.cons (.sll (.var 0) (.var 7)) (.cons (.var 9) .nil))) .nil))))) .nil)) .nil) .nil)))))))) (.cons (.retv 4) .nil)))))
def k__law_bends : GL.Code := ⟨3, 11, [], b__law_bends⟩
def b__law_thing : CSs := (.cons (.ifs (.cmp .lt (.bin .mod (.var 0) (.cst (.int 9))) (.cst (.int 5))) (.cons (.ret (.pure (.tup (.cons (.cst (.str [115, 97, 121])) (.cons (.var 1) (.cons (.call 19 "_law_row" (.cons (.bin .fdiv (.var 0) (.cst (.int 9))) (.cons (.var 2) (.cons (.var 3) .nil)))) .nil)))))) .nil) .nil) (.cons (.asg 4 (.pure (.idx (.lst 1 (.cons (.cst (.str [97, 108, 108])) (.cons (.cst (.str [112, 97, 114, 116])) (.cons (.cst (.str [104, 101, 114, 101])) (.cons (.cst (.str [101, 108, 115, 101])) .nil))))) (.bin .mod (.bin .fdiv (.var 0) (.cst (.int 9))) (.cst (.int 4)))))) (.cons (.asg 5 (.pure (.call 16 "_law_mixed" (.cons (.bin .fdiv (.var 0) (.cst (.int 36))) .nil)))) (.cons (.asg 6 (.pure (.blt .tuple (.cons (.comp 1 [7] (.rng1 (.bin .add (.cst (.int 1)) (.bin .mod (.bin .fdiv (.var 5) (.cst (.int 6))) (.cst (.int 4))))) .nil (.idx (.var 2) (.bin .mod (.bin .fdiv (.var 5) (.bin .add (.bin .mul (.cst (.int 7)) (.var 7)) (.cst (.int 1)))) (.cst (.int 10))))) .nil)))) (.cons (.asg 8 (.pure (.call 20 "_law_bends" (.cons (.idx (.var 6) (.neg (.cst (.int 1)))) (.cons (.var 5) (.cons (.bin .mod (.var 5) (.cst (.int 6))) .nil)))))) (.cons (.ret (.pure (.tup (.cons (.cst (.str [116, 101, 108, 108])) (.cons (.var 1) (.cons (.var 4) (.cons (.var 6) (.cons (.var 8) (.cons (.call 19 "_law_row" (.cons (.var 5) (.cons (.var 2) (.cons (.var 3) .nil)))) .nil))))))))) .nil))))))
def k__law_thing : GL.Code := ⟨4, 9, [], b__law_thing⟩
def b__law_number : CSs := (.cons (.asg 2 (.pure (.call 15 "_law_cell" (.cons (.var 0) (.cons (.cst (.int 1)) .nil))))) (.cons (.asg 3 (.pure (.bin .add (.cst (.int 1)) (.bin .mod (.call 15 "_law_cell" (.cons (.var 0) (.cons (.cst (.int 2)) .nil))) (.cst (.int 9)))))) (.cons (.ifs (.cmp .eq (.bin .mod (.bin .fdiv (.var 2) (.cst (.int 42))) (.cst (.int 2))) (.cst (.int 1))) (.cons (.asg 3 (.pure (.bin .add (.cst (.int 1)) (.bin .mod (.call 15 "_law_cell" (.cons (.var 0) (.cons (.cst (.int 2)) .nil))) (.bin .pow (.cst (.int 10)) (.cst (.int 59))))))) .nil) .nil) (.cons (.ret (.pure (.bin .add (.var 3) (.bin .mul (.bin .mod (.bin .mul (.var 1) (.bin .add (.cst (.int 1)) (.bin .mod (.var 2) (.cst (.int 42))))) (.cst (.int 43))) (.bin .add (.cst (.int 1)) (.bin .mod (.bin .fdiv (.var 2) (.cst (.int 84))) (.cst (.int 1000)))))))) .nil))))
def k__law_number : GL.Code := ⟨2, 4, [], b__law_number⟩
def b__law_ended : CSs := (.cons (.asg 2 (.tup3 (.pure (.cst (.str [112, 97, 114, 116]))) (.pop (.var 0)) (.tuple (.pop (.var 1))))) (.cons (.app (.idx (.var 1) (.neg (.cst (.int 1)))) (.pure (.var 2))) .nil))
def k__law_ended : GL.Code := ⟨2, 3, [0, 1], b__law_ended⟩
def b__law_document : CSs := (.cons (.asg 2 (.pure (.eatc 18 "_law_plain_words" (.cons (.call 17 "_law_menu" (.cons (.var 0) .nil)) (.cons (.bin .fdiv (.call 15 "_law_cell" (.cons (.var 0) (.cons (.cst (.int 2)) .nil))) (.cst (.int 9))) .nil))))) (.cons (.asg 3 (.pure (.bin .sub (.cst (.int 5)) (.bin .mul (.cst (.int 2)) (.blt .int (.cons (.cmp .eq (.bin .mod (.call 15 "_law_cell" (.cons (.var 0) (.cons (.cst (.int 3)) .nil))) (.cst (.int 8))) (.cst (.int 1))) .nil)))))) (.cons (.asg 4 (.pure (.lst 1 (.cons (.cst (.int 0)) .nil)))) (.cons (.asg 5 (.pure (.lst 2 (.cons (.lst 1 .nil) .nil)))) (.cons (.asg 6 (.pure (.cst (.int 0)))) (.cons (.for_ [7] (.rng2 (.cst (.int 4)) (.blt .max2 (.cons (.cst (.int 10)) (.cons (.blt .min2 (.cons (.bin .add (.cst (.int 4)) (.var 1)) (.cons (.blt .len (.cons (.var 0) .nil)) .nil))) .nil)))) [0, 1, 2, 3, 4, 5, 6] (.cons (.asg 8 (.pure (.call 15 "_law_cell" (.cons (.var 0) (.cons (.var 7) .nil))))) (.cons (.ifs (.and (.cmp .eq (.bin .mod (.var 8) (.cst (.int 7))) (.cst (.int 6))) (.cmp .gt (.blt .len (.cons (.var 4) .nil)) (.cst (.int 1)))) (.cons (.expr (.cio 23 "_law_ended" [(4, true), (5, true)])) .nil) (.cons (.ifs (.and (.chain .le .le (.var 3) (.bin .mod (.var 8) (.cst (.int 7))) (.cst (.int 5))) (.cmp .le (.blt .len (.cons (.var 4) .nil)) (.cst (.int 8)))) (.cons (.app (.var 4) (.pure (.call 22 "_law_number" (.cons (.var 0) (.cons (.var 6) .nil))))) (.cons (.app (.var 5) (.pure (.lst 1 .nil))) (.cons (.asg 6 (.pure (.bin .add (.var 6) (.cst (.int 1))))) .nil))) (.cons (.asg 9 (.pure (.bin .add (.cst (.int 1)) (.bin .mod (.bin .fdiv (.var 8) (.cst (.int 63))) (.cst (.int 6)))))) (.cons (.ifs (.cmp .eq (.var 7) (.bin .add (.cst (.int 4)) (.bin .mod (.bin .fdiv (.call 15 "_law_cell" (.cons (.var 0) (.cons (.cst (.int 3)) .nil))) (.cst (.int 8))) (.cst (.int 16))))) (.cons (.asg 9 (.pure (.bin .add (.cst (.int 197)) (.bin .fdiv (.bin .add (.var 9) (.cst (.int 1))) (.cst (.int 2)))))) .nil) .nil) (.cons (.app (.idx (.var 5) (.neg (.cst (.int 1)))) (.pure (.call 21 "_law_thing" (.cons (.bin .fdiv (.var 8) (.cst (.int 7))) (.cons (.call 22 "_law_number" (.cons (.var 0) (.cons (.var 6) .nil))) (.cons (.var 2) (.cons (.var 9) .nil))))))) (.cons (.asg 6 (.pure (.bin .add (.var 6) (.cst (.int 1))))) .nil))))) .nil)) .nil))) (.cons (.whl 1000000 (.cmp .gt (.blt .len (.cons (.var 4) .nil)) (.cst (.int 1))) [0, 1, 2, 3, 4, 5, 6, 7, 8, 9] (.cons (.expr (.cio 23 "_law_ended" [(4, true), (5, true)])) .nil)) (.cons (.frz 5) (.cons (.ret (.pure (.tup (.cons (.cst (.str [112, 97, 114, 116])) (.cons (.cst (.int 0)) (.cons (.blt .tuple (.cons (.idx (.var 5) (.cst (.int 0))) .nil)) .nil)))))) .nil)))))))))
def k__law_document : GL.Code := ⟨2, 10, [], b__law_document⟩
def b__law_line : CSs := (.cons (.asg 1 (.pure (.mth .join (.cst (.str [32])) (.cons (.idx (.var 0) (.neg (.cst (.int 1)))) .nil)))) (.cons (.ifs (.cmp .eq (.idx (.var 0) (.cst (.int 0))) (.cst (.str [115, 97, 121]))) (.cons (.ret (.pure (.bin .add (.cst (.str [115, 97, 121, 32])) (.var 1)))) .nil) .nil) (.cons (.asg 2 (.pure (.bin .add (.bin .add (.bin .add (.cst (.str [116, 101, 108, 108, 32])) (.idx (.var 0) (.cst (.int 2)))) (.cst (.str [32]))) (.mth .join (.cst (.str [32])) (.cons (.idx (.var 0) (.cst (.int 3))) .nil))))) (.cons (.for_ [3, 4] (.val (.idx (.var 0) (.cst (.int 4)))) [0, 1, 2] (.cons (.asg 2 (.pure (.bin .add (.bin .add (.bin .add (.bin .add (.var 2) (.cst (.str [32]))) (.var 3)) (.cst (.str [62]))) (.var 4)))) .nil)) (.cons (.ret (.pure (.bin .add (.bin .add (.var 2) (.cst (.str [58, 32]))) (.var 1)))) .nil)))))
def k__law_line : GL.Code := ⟨1, 5, [], b__law_line⟩
def b__law_lines : CSs := (.cons (.asg 1 (.pure (.lst 1 .nil))) (.cons (.asg 2 (.pure (.blt .list (.cons (.idx (.var 0) (.cst (.int 2))) .nil)))) (.cons (.whl 1000000 (.cmp .ne (.var 2) (.lst 1 .nil)) [0, 1, 2] (.cons (.asg 3 (.pop0 (.var 2))) (.cons (.ifs (.cmp .is_ (.var 3) (.cst .non)) (.cons (.app (.var 1) (.pure (.cst (.str [101, 110, 100])))) .nil) (.cons (.ifs (.cmp .eq (.idx (.var 3) (.cst (.int 0))) (.cst (.str [112, 97, 114, 116]))) (.cons (.app (.var 1) (.pure (.cst (.str [112, 97, 114, 116])))) (.cons (.asg 2 (.pure (.bin .add (.bin .add (.blt .list (.cons (.idx (.var 3) (.cst (.int 2))) .nil)) (.lst 1 (.cons (.cst .non) .nil))) (.var 2)))) .nil)) (.cons (.app (.var 1) (.pure (.call 25 "_law_line" (.cons (.var 3) .nil)))) .nil)) .nil)) .nil))) (.cons (.retv 1) .nil))))
def k__law_lines : GL.Code := ⟨1, 4, [], b__law_lines⟩
def b__law_plain : CSs := (.cons (.asg 1 (.pure (.cst (.int 0)))) (.cons (.asg 2 (.pure (.lst 1 (.cons (.cst (.int 0)) .nil)))) (.cons (.asg 3 (.pure (.lst 2 (.cons (.lst 1 .nil) .nil)))) (.cons (.asg 4 (.pure (.blt .list (.cons (.idx (.var 0) (.cst (.int 2))) .nil)))) (.cons (.whl 1000000 (.cmp .ne (.var 4) (.lst 1 .nil)) [0, 1, 2, 3, 4] (.cons (.asg 5 (.pop0 (.var 4))) (.cons (.ifs (.cmp .is_ (.var 5) (.cst .non)) (.cons (.expr (.cio 23 "_law_ended" [(2, true), (3, true)])) .nil) (.cons (.ifs (.cmp .eq (.idx (.var 5) (.cst (.int 0))) (.cst (.str [112, 97, 114, 116]))) (.cons (.asg 1 (.pure (.bin .add (.var 1) (.cst (.int 1))))) (.cons (.app (.var 2) (.pure (.var 1))) (.cons (.app (.var 3) (.pure (.lst 1 .nil))) (.cons (.asg 4 (.pure (.bin .add (.bin .add (.blt .list (.cons (.idx (.var 5) (.cst (.int 2))) .nil)) (.lst 1 (.cons (.cst .non) .nil))) (.var 4)))) .nil)))) (.cons (.asg 1 (.pure (.bin .add (.var 1) (.cst (.int 1))))) (.cons (.app (.idx (.var 3) (.neg (.cst (.int 1)))) (.pure (.bin .add (.tup (.cons (.idx (.var 5) (.cst (.int 0))) (.cons (.var 1) .nil))) (.sll (.var 5) (.cst (.int 2)))))) .nil))) .nil)) .nil))) (.cons (.frz 3) (.cons (.ret (.pure (.tup (.cons (.cst (.str [112, 97, 114, 116])) (.cons (.cst (.int 0)) (.cons (.blt .tuple (.cons (.idx (.var 3) (.cst (.int 0))) .nil)) .nil)))))) .nil)))))))
def k__law_plain : GL.Code := ⟨1, 6, [], b__law_plain⟩
def b__law_read : CSs := (.cons (.asg 2 (.pure (.call 14 "read" (.cons (.var 0) .nil)))) (.cons (.ret (.pure (.and (.isi (.var 2) .tuple) (.cmp .eq (.var 2) (.var 1))))) .nil))
def k__law_read : GL.Code := ⟨2, 3, [], b__law_read⟩
def b_law : CSs := (.cons (.asg 1 (.pure (.call 24 "_law_document" (.cons (.var 0) (.cons (.cst (.int 40)) .nil))))) (.cons (.asg 2 (.pure (.call 27 "_law_plain" (.cons (.var 1) .nil)))) (.cons (.asg 3 (.pure (.call 8 "written" (.cons (.var 1) .nil)))) (.cons (.ifs (.or (.not (.isi (.var 3) .str)) (.or (.not (.call 28 "_law_read" (.cons (.var 3) (.cons (.var 2) .nil)))) (.cmp .ne (.call 8 "written" (.cons (.var 2) .nil)) (.var 3)))) (.cons (.ret (.pure (.cst (.bl false)))) .nil) .nil) (.cons (.ifs (.or (.not (.call 28 "_law_read" (.cons (.mth .join (.cst (.str [10])) (.cons (.call 26 "_law_lines" (.cons (.var 1) .nil)) .nil)) (.cons (.var 2) .nil)))) (.not (.call 28 "_law_read" (.cons (.cst (.str [])) (.cons (.tup (.cons (.cst (.str [112, 97, 114, 116])) (.cons (.cst (.int 0)) (.cons (.tup .nil) .nil)))) .nil))))) (.cons (.ret (.pure (.cst (.bl false)))) .nil) .nil) (.cons (.asg 4 (.pure (.tup (.cons (.cst (.str [112, 97, 114, 116])) (.cons (.cst (.int 0)) (.cons (.sll (.idx (.var 1) (.cst (.int 2))) (.cst (.int 1))) .nil)))))) (.cons (.ifs (.not (.call 28 "_law_read" (.cons (.mth .join (.cst (.str [10])) (.cons (.call 26 "_law_lines" (.cons (.var 4) .nil)) .nil)) (.cons (.call 27 "_law_plain" (.cons (.var 4) .nil)) .nil)))) (.cons (.ret (.pure (.cst (.bl false)))) .nil) .nil) (.cons (.ret (.pure (.cmp .eq (.call 8 "written" (.cons (.call 14 "read" (.cons (.var 3) .nil)) .nil)) (.var 3)))) .nil))))))))
def k_law : GL.Code := ⟨1, 5, [], b_law⟩
def d_has_signs : GL.Def := ⟨"has_signs", topS 10, ["text", "sign"], ["text"], k_has_signs⟩
def d_is_word : GL.Def := ⟨"is_word", topS 11, ["thing"], ["thing"], k_is_word⟩
def d_words_of : GL.Def := ⟨"words_of", topS 12, ["text", "found", "piece"], ["text"], k_words_of⟩
def d_text_of : GL.Def := ⟨"text_of", topS 13, ["words"], ["words"], k_text_of⟩
def d_bent : GL.Def := ⟨"bent", topS 15, ["phrase", "bend", "cut", "last", "word"], ["phrase", "bend"], k_bent⟩
def d_forms : GL.Def := ⟨"forms", topS 16, ["phrase", "bends", "found", "bend", "form"], ["phrase", "bends"], k_forms⟩
def d_telling_row : GL.Def := ⟨"telling_row", topS 23, ["thing", "bends", "cut", "put"], ["thing"], k_telling_row⟩
def d_rows_in : GL.Def := ⟨"rows_in", topS 24, ["part", "rows", "thing"], ["part"], k_rows_in⟩
def d_written : GL.Def := ⟨"written", topS 25, ["doc"], ["doc"], k_written⟩
def d_bend_of : GL.Def := ⟨"bend_of", topS 26, ["piece", "cut", "sign", "put"], ["piece"], k_bend_of⟩
def d_shape_of : GL.Def := ⟨"shape_of", topS 27, ["pieces", "phrase", "bends", "piece"], ["pieces"], k_shape_of⟩
def d_row_read : GL.Def := ⟨"row_read", topS 28, ["text", "found"], ["text"], k_row_read⟩
def d_thing_read : GL.Def := ⟨"thing_read", topS 29, ["row", "number", "word", "blank", "rest", "head", "colon", "meaning", "pieces", "phrase", "bends"], ["row", "number"], k_thing_read⟩
def d_thing_at : GL.Def := ⟨"thing_at", topS 30, ["row", "number", "at"], ["row", "number", "at"], k_thing_at⟩
def d_read : GL.Def := ⟨"read", topS 31, ["text", "numbers", "open_things", "many", "at", "row", "ended"], ["text"], k_read⟩
def d__law_cell : GL.Def := ⟨"_law_cell", topS 33, ["_law_script", "_law_k", "_law_number_here"], ["_law_script", "_law_k"], k__law_cell⟩
def d__law_mixed : GL.Def := ⟨"_law_mixed", topS 34, ["_law_number_here"], ["_law_number_here"], k__law_mixed⟩
def d__law_menu : GL.Def := ⟨"_law_menu", topS 35, ["_law_script", "_law_some", "_law_cell_here", "_law_size", "_law_at", "_law_number_here", "_law_signs", "_law_k", "_law_menu_here", "_law_word", "_law_j", "_law_sign"], ["_law_script"], k__law_menu⟩
def d__law_plain_words : GL.Def := ⟨"_law_plain_words", topS 36, ["_law_menu_here", "_law_cell_here", "_law_some", "_law_k"], ["_law_menu_here", "_law_cell_here"], k__law_plain_words⟩
def d__law_row : GL.Def := ⟨"_law_row", topS 37, ["_law_cell_here", "_law_menu_here", "_law_many", "_law_number_here", "_law_words", "_law_k"], ["_law_cell_here", "_law_menu_here", "_law_many"], k__law_row⟩
def d__law_bends : GL.Def := ⟨"_law_bends", topS 38, ["_law_last", "_law_cell_here", "_law_many", "_law_some", "_law_bends_here", "_law_known", "_law_k", "_law_left", "_law_pair", "_law_put", "_law_form"], ["_law_last", "_law_cell_here", "_law_many"], k__law_bends⟩
def d__law_thing : GL.Def := ⟨"_law_thing", topS 39, ["_law_cell_here", "_law_number_here", "_law_menu_here", "_law_size", "_law_scope", "_law_first", "_law_phrase", "_law_k", "_law_bends_here"], ["_law_cell_here", "_law_number_here", "_law_menu_here", "_law_size"], k__law_thing⟩
def d__law_number : GL.Def := ⟨"_law_number", topS 40, ["_law_script", "_law_k", "_law_cell_here", "_law_base"], ["_law_script", "_law_k"], k__law_number⟩
def d__law_ended : GL.Def := ⟨"_law_ended", topS 41, ["_law_numbers", "_law_inner", "_law_part"], ["_law_numbers", "_law_inner"], k__law_ended⟩
def d__law_document : GL.Def := ⟨"_law_document", topS 42, ["_law_script", "_law_most", "_law_menu_here", "_law_low", "_law_numbers", "_law_inner", "_law_many", "_law_k", "_law_cell_here", "_law_size"], ["_law_script", "_law_most"], k__law_document⟩
def d__law_line : GL.Def := ⟨"_law_line", topS 43, ["_law_thing_here", "_law_words", "_law_head", "_law_cut", "_law_put"], ["_law_thing_here"], k__law_line⟩
def d__law_lines : GL.Def := ⟨"_law_lines", topS 44, ["_law_doc", "_law_lines_here", "_law_left", "_law_thing_here"], ["_law_doc"], k__law_lines⟩
def d__law_plain : GL.Def := ⟨"_law_plain", topS 45, ["_law_doc", "_law_many", "_law_numbers", "_law_inner", "_law_left", "_law_thing_here"], ["_law_doc"], k__law_plain⟩
def d__law_read : GL.Def := ⟨"_law_read", topS 46, ["_law_text", "_law_due", "_law_found"], ["_law_text", "_law_due"], k__law_read⟩
def d_law : GL.Def := ⟨"law", topS 47, ["_law_script", "_law_doc", "_law_due", "_law_text", "_law_rest"], ["_law_script"], k_law⟩
def ds : List GL.Def := [d_has_signs, d_is_word, d_words_of, d_text_of, d_bent, d_forms, d_telling_row, d_rows_in, d_written, d_bend_of, d_shape_of, d_row_read, d_thing_read, d_thing_at, d_read, d__law_cell, d__law_mixed, d__law_menu, d__law_plain_words, d__law_row, d__law_bends, d__law_thing, d__law_number, d__law_ended, d__law_document, d__law_line, d__law_lines, d__law_plain, d__law_read, d_law]
def tb : Tb := ⟨ds.map fun d => (d.x, d.c.io), [("SIGNS", c_SIGNS), ("LONGEST", c_LONGEST), ("MOST_BENDS", c_MOST_BENDS), ("MOST_IN_PHRASE", c_MOST_IN_PHRASE), ("MOST_WORDS", c_MOST_WORDS), ("SCOPES", c_SCOPES), ("DEEPEST", c_DEEPEST)], [(0, "GlossError"), (1, "NoWord"), (2, "NoForm"), (3, "NoRow"), (4, "NoEnd"), (5, "TooDeep")], [], none, [], []⟩
theorem ok_has_signs : DefOk tb d_has_signs.N d_has_signs.ps d_has_signs.st d_has_signs.c := ⟨⟨rfl, rfl, rfl, by decide +kernel, rfl, by decide +kernel, by decide +kernel⟩, rfl, rfl, ⟨by decide +kernel, by decide +kernel⟩, by decide +kernel⟩
theorem ok_is_word : DefOk tb d_is_word.N d_is_word.ps d_is_word.st d_is_word.c := ⟨⟨rfl, rfl, rfl, by decide +kernel, rfl, by decide +kernel, by decide +kernel⟩, rfl, rfl, ⟨by decide +kernel, by decide +kernel⟩, by decide +kernel⟩
theorem ok_words_of : DefOk tb d_words_of.N d_words_of.ps d_words_of.st d_words_of.c := ⟨⟨rfl, rfl, rfl, by decide +kernel, rfl, by decide +kernel, by decide +kernel⟩, rfl, rfl, ⟨by decide +kernel, by decide +kernel⟩, by decide +kernel⟩
theorem ok_text_of : DefOk tb d_text_of.N d_text_of.ps d_text_of.st d_text_of.c := ⟨⟨rfl, rfl, rfl, by decide +kernel, rfl, by decide +kernel, by decide +kernel⟩, rfl, rfl, ⟨by decide +kernel, by decide +kernel⟩, by decide +kernel⟩
theorem ok_bent : DefOk tb d_bent.N d_bent.ps d_bent.st d_bent.c := ⟨⟨rfl, rfl, rfl, by decide +kernel, rfl, by decide +kernel, by decide +kernel⟩, rfl, rfl, ⟨by decide +kernel, by decide +kernel⟩, by decide +kernel⟩
theorem ok_forms : DefOk tb d_forms.N d_forms.ps d_forms.st d_forms.c := ⟨⟨rfl, rfl, rfl, by decide +kernel, rfl, by decide +kernel, by decide +kernel⟩, rfl, rfl, ⟨by decide +kernel, by decide +kernel⟩, by decide +kernel⟩
theorem ok_telling_row : DefOk tb d_telling_row.N d_telling_row.ps d_telling_row.st d_telling_row.c := ⟨⟨rfl, rfl, rfl, by decide +kernel, rfl, by decide +kernel, by decide +kernel⟩, rfl, rfl, ⟨by decide +kernel, by decide +kernel⟩, by decide +kernel⟩
theorem ok_rows_in : DefOk tb d_rows_in.N d_rows_in.ps d_rows_in.st d_rows_in.c := ⟨⟨rfl, rfl, rfl, by decide +kernel, rfl, by decide +kernel, by decide +kernel⟩, rfl, rfl, ⟨by decide +kernel, by decide +kernel⟩, by decide +kernel⟩
theorem ok_written : DefOk tb d_written.N d_written.ps d_written.st d_written.c := ⟨⟨rfl, rfl, rfl, by decide +kernel, rfl, by decide +kernel, by decide +kernel⟩, rfl, rfl, ⟨by decide +kernel, by decide +kernel⟩, by decide +kernel⟩
theorem ok_bend_of : DefOk tb d_bend_of.N d_bend_of.ps d_bend_of.st d_bend_of.c := ⟨⟨rfl, rfl, rfl, by decide +kernel, rfl, by decide +kernel, by decide +kernel⟩, rfl, rfl, ⟨by decide +kernel, by decide +kernel⟩, by decide +kernel⟩
theorem ok_shape_of : DefOk tb d_shape_of.N d_shape_of.ps d_shape_of.st d_shape_of.c := ⟨⟨rfl, rfl, rfl, by decide +kernel, rfl, by decide +kernel, by decide +kernel⟩, rfl, rfl, ⟨by decide +kernel, by decide +kernel⟩, by decide +kernel⟩
theorem ok_row_read : DefOk tb d_row_read.N d_row_read.ps d_row_read.st d_row_read.c := ⟨⟨rfl, rfl, rfl, by decide +kernel, rfl, by decide +kernel, by decide +kernel⟩, rfl, rfl, ⟨by decide +kernel, by decide +kernel⟩, by decide +kernel⟩
theorem ok_thing_read : DefOk tb d_thing_read.N d_thing_read.ps d_thing_read.st d_thing_read.c := ⟨⟨rfl, rfl, rfl, by decide +kernel, rfl, by decide +kernel, by decide +kernel⟩, rfl, rfl, ⟨by decide +kernel, by decide +kernel⟩, by decide +kernel⟩
theorem ok_thing_at : DefOk tb d_thing_at.N d_thing_at.ps d_thing_at.st d_thing_at.c := ⟨⟨rfl, rfl, rfl, by decide +kernel, rfl, by decide +kernel, by decide +kernel⟩, rfl, rfl, ⟨by decide +kernel, by decide +kernel⟩, by decide +kernel⟩
theorem ok_read : DefOk tb d_read.N d_read.ps d_read.st d_read.c := ⟨⟨rfl, rfl, rfl, by decide +kernel, rfl, by decide +kernel, by decide +kernel⟩, rfl, rfl, ⟨by decide +kernel, by decide +kernel⟩, by decide +kernel⟩
theorem ok__law_cell : DefOk tb d__law_cell.N d__law_cell.ps d__law_cell.st d__law_cell.c := ⟨⟨rfl, rfl, rfl, by decide +kernel, rfl, by decide +kernel, by decide +kernel⟩, rfl, rfl, ⟨by decide +kernel, by decide +kernel⟩, by decide +kernel⟩
theorem ok__law_mixed : DefOk tb d__law_mixed.N d__law_mixed.ps d__law_mixed.st d__law_mixed.c := ⟨⟨rfl, rfl, rfl, by decide +kernel, rfl, by decide +kernel, by decide +kernel⟩, rfl, rfl, ⟨by decide +kernel, by decide +kernel⟩, by decide +kernel⟩
theorem ok__law_menu : DefOk tb d__law_menu.N d__law_menu.ps d__law_menu.st d__law_menu.c := ⟨⟨rfl, rfl, rfl, by decide +kernel, rfl, by decide +kernel, by decide +kernel⟩, rfl, rfl, ⟨by decide +kernel, by decide +kernel⟩, by decide +kernel⟩
theorem ok__law_plain_words : DefOk tb d__law_plain_words.N d__law_plain_words.ps d__law_plain_words.st d__law_plain_words.c := ⟨⟨rfl, rfl, rfl, by decide +kernel, rfl, by decide +kernel, by decide +kernel⟩, rfl, rfl, ⟨by decide +kernel, by decide +kernel⟩, by decide +kernel⟩
theorem ok__law_row : DefOk tb d__law_row.N d__law_row.ps d__law_row.st d__law_row.c := ⟨⟨rfl, rfl, rfl, by decide +kernel, rfl, by decide +kernel, by decide +kernel⟩, rfl, rfl, ⟨by decide +kernel, by decide +kernel⟩, by decide +kernel⟩
theorem ok__law_bends : DefOk tb d__law_bends.N d__law_bends.ps d__law_bends.st d__law_bends.c := ⟨⟨rfl, rfl, rfl, by decide +kernel, rfl, by decide +kernel, by decide +kernel⟩, rfl, rfl, ⟨by decide +kernel, by decide +kernel⟩, by decide +kernel⟩
theorem ok__law_thing : DefOk tb d__law_thing.N d__law_thing.ps d__law_thing.st d__law_thing.c := ⟨⟨rfl, rfl, rfl, by decide +kernel, rfl, by decide +kernel, by decide +kernel⟩, rfl, rfl, ⟨by decide +kernel, by decide +kernel⟩, by decide +kernel⟩
theorem ok__law_number : DefOk tb d__law_number.N d__law_number.ps d__law_number.st d__law_number.c := ⟨⟨rfl, rfl, rfl, by decide +kernel, rfl, by decide +kernel, by decide +kernel⟩, rfl, rfl, ⟨by decide +kernel, by decide +kernel⟩, by decide +kernel⟩
theorem ok__law_ended : DefOk tb d__law_ended.N d__law_ended.ps d__law_ended.st d__law_ended.c := ⟨⟨rfl, rfl, rfl, by decide +kernel, rfl, by decide +kernel, by decide +kernel⟩, rfl, rfl, ⟨by decide +kernel, by decide +kernel⟩, by decide +kernel⟩
theorem ok__law_document : DefOk tb d__law_document.N d__law_document.ps d__law_document.st d__law_document.c := ⟨⟨rfl, rfl, rfl, by decide +kernel, rfl, by decide +kernel, by decide +kernel⟩, rfl, rfl, ⟨by decide +kernel, by decide +kernel⟩, by decide +kernel⟩
theorem ok__law_line : DefOk tb d__law_line.N d__law_line.ps d__law_line.st d__law_line.c := ⟨⟨rfl, rfl, rfl, by decide +kernel, rfl, by decide +kernel, by decide +kernel⟩, rfl, rfl, ⟨by decide +kernel, by decide +kernel⟩, by decide +kernel⟩
theorem ok__law_lines : DefOk tb d__law_lines.N d__law_lines.ps d__law_lines.st d__law_lines.c := ⟨⟨rfl, rfl, rfl, by decide +kernel, rfl, by decide +kernel, by decide +kernel⟩, rfl, rfl, ⟨by decide +kernel, by decide +kernel⟩, by decide +kernel⟩
theorem ok__law_plain : DefOk tb d__law_plain.N d__law_plain.ps d__law_plain.st d__law_plain.c := ⟨⟨rfl, rfl, rfl, by decide +kernel, rfl, by decide +kernel, by decide +kernel⟩, rfl, rfl, ⟨by decide +kernel, by decide +kernel⟩, by decide +kernel⟩
theorem ok__law_read : DefOk tb d__law_read.N d__law_read.ps d__law_read.st d__law_read.c := ⟨⟨rfl, rfl, rfl, by decide +kernel, rfl, by decide +kernel, by decide +kernel⟩, rfl, rfl, ⟨by decide +kernel, by decide +kernel⟩, by decide +kernel⟩
theorem ok_law : DefOk tb d_law.N d_law.ps d_law.st d_law.c := ⟨⟨rfl, rfl, rfl, by decide +kernel, rfl, by decide +kernel, by decide +kernel⟩, rfl, rfl, ⟨by decide +kernel, by decide +kernel⟩, by decide +kernel⟩
theorem oks : ∀ d ∈ ds, DefOk tb d.N d.ps d.st d.c := by
  intro d hd
  simp only [ds, List.mem_cons, List.not_mem_nil, or_false] at hd
  rcases hd with rfl | rfl | rfl | rfl | rfl | rfl | rfl | rfl | rfl | rfl | rfl | rfl | rfl | rfl | rfl | rfl | rfl | rfl | rfl | rfl | rfl | rfl | rfl | rfl | rfl | rfl | rfl | rfl | rfl | rfl
  · exact ok_has_signs
  · exact ok_is_word
  · exact ok_words_of
  · exact ok_text_of
  · exact ok_bent
  · exact ok_forms
  · exact ok_telling_row
  · exact ok_rows_in
  · exact ok_written
  · exact ok_bend_of
  · exact ok_shape_of
  · exact ok_row_read
  · exact ok_thing_read
  · exact ok_thing_at
  · exact ok_read
  · exact ok__law_cell
  · exact ok__law_mixed
  · exact ok__law_menu
  · exact ok__law_plain_words
  · exact ok__law_row
  · exact ok__law_bends
  · exact ok__law_thing
  · exact ok__law_number
  · exact ok__law_ended
  · exact ok__law_document
  · exact ok__law_line
  · exact ok__law_lines
  · exact ok__law_plain
  · exact ok__law_read
  · exact ok_law
end K16

namespace K16
open GL
local macro_rules | `(tactic| walk_at "ev") => `(tactic| (simp -implicitDefEqProofs (disch := first | omega | assumption | decide | (simp only [mo_split, mo_join, mo_ends, mo_index, mo_part]; done) | (simp only [fixed, deep, D.safe, D.imm, D.imms, List.all_cons, List.all_nil, beq_self_eq_true, Bool.true_or, Bool.or_true, Bool.and_true, Bool.and_self, decide_true, Nat.reduceSub, Nat.reduceBEq, Nat.reduceEqDiff]; done) | (simp only [List.length_map, List.length_range, List.length_cons, List.length_nil, List.length_append]; omega) | fail) only [e_var, e_cst, e_glo, e_tup, e_lst, e_dnew, e_bin, e_neg, e_cmp, e_chain, e_and, e_or, e_not, e_idx, e_sll, e_slu, e_slb, e_call, e_blt, e_mth, e_isi, e_anil, e_acons, q_sl, q_and, q_andF, q_or, q_orT, q_not, q_neg, q_chn, q_sll, q_slu, q_slb, q_acons, q_tup, q_lst, q_call, q_post, q_posts, q_postx, q_blt, q_mth, fixed_nil, fixed_c0, fixed_ct, R.bind_ok, R.bind_ex, opAdd, opSub, opMulR, opMulL, opFdiv, opMod, opAddS, opAddT, cLt, cLe, cGt, cGe, cEqI, cNeI, cEqB, cEqS, cNeS, cInS, cNotInS, cLeS, cLtS, rB_some, rO_some, bLenRo, bLenL, bLenT, bLenS, bTupL, bTupT, bIntB, bMin, bMax, iRoI, iStr, iTup, iLst, slS, slT, isi_bl, isi_int, isi_str, isi_tup, isi_lst, isi_dct, isi_non, List.getElem?_cons_succ, List.getElem?_cons_zero, List.length_map, List.map_cons, List.map_nil, CE.fresh, or_true, true_or, if_true, Bool.not_false, Bool.not_true, List.set_cons_zero, List.set_cons_succ]))
local macro_rules | `(tactic| walk_at "ex") => `(tactic| first | (apply xPure0; walk_at "ev"; done) | (apply xPure0; walk_at "ev"; rfl) | (apply xPureF rfl; walk_at "ev"; done) | (apply xPureF rfl; walk_at "ev"; rfl))
local macro_rules | `(tactic| walk_at "eb") => `(tactic| first | (walk_at "ev"; done) | (walk_at "ev"; rfl))
local macro_rules | `(tactic| walk_at "nx") => `(tactic| (try dsimp only [CSs.app, List.set_cons_zero, List.set_cons_succ, List.cons_append, List.nil_append]))
local macro_rules | `(tactic| walk_at "rs") => `(tactic| first | (simp (decide := true) only [rs, rsA, if_true, if_false]; done) | (simp (decide := true) only [rs, rsA, if_true, if_false]; rfl) | rfl)
abbrev cs : List Code := ds.map GL.Def.c
theorem law_run (ns : List Int) (h : ns.length ≤ 63) : ∃ n os, Fk (ds.map GL.Def.c) 30 29 [(.ro true (ns.map D.int), 0)] = .ok (.bl true) n os := by
  refine ⟨0, [], ?_⟩
  show Fk cs 30 29 _ = _
  obtain ⟨M, ks, many, M1, M2, st, m1, m2, m3, hd⟩ := document2_at (cs := cs) (c := 24) (fp := 18) (fm := 17) (fc := 15) (fe := 23) (fn := 22) (ft := 21) (fr := 19) (fx := 16) (fb := 20) rfl rfl rfl rfl rfl rfl rfl rfl rfl rfl (k := 29) (by omega) ns h 40 (by omega) (by omega)
  have ok : Th.ok2s M ks := st.ok ks (by simp)
  have sh : Th.shorts ks := Th.ok2s_short M2 ks ok
  have dep : Th.depths ks ≤ 8 := by have := st.dep 0 ks (by simp); omega
  have siz : Th.sizes ks ≤ 59 := by
    have := st.cnt
    simp at this
    omega
  have hl := fun (n : Int) (js : List Th) h1 h2 h3 => lines_at (cs := cs) (c := 26) (fl := 25) rfl rfl (k := 29) (by omega) n js h1 h2 h3
  have hw := fun (n : Int) (js : List Th) h1 h2 h3 => written_at (cs := cs) (c := 8) (ft := 3) (fr := 6) (fi := 7) rfl rfl rfl rfl (k := 29) n js h1 h2 h3
  have hp := fun (n : Int) (js : List Th) o h1 h2 => plainLaw_at (cs := cs) (c := 27) (fe := 23) rfl rfl (k := 29) (by omega) (M := M) n js o h1 h2
  have hrd := fun (k : Nat) (hk : 8 ≤ k) (js : List Th) o h1 h2 => read_at (cs := cs) (c := 14) (fa := 13) (ft := 12) (fr := 11) (fs := 10) (ff := 5) (fo := 2) (fb := 9) (fe := 4) (fw := 1) (fh := 0) rfl rfl rfl rfl rfl rfl rfl rfl rfl rfl rfl (k := k) hk M2 js o h1 h2
  have hlr := fun (T : Tx) (js : List Th) hr h1 => lawRead_at (cs := cs) (c := 28) (fd := 14) rfl (k := 29) (by omega) T js hr h1
  -- the whole
  have depr : Th.depths (Th.rens 0 ks) ≤ 8 := by rw [rens_depth]; exact dep
  have sizr : Th.sizes (Th.rens 0 ks) ≤ 59 := by rw [rens_size]; exact siz
  have shr : Th.shorts (Th.rens 0 ks) := rens_short ks 0 sh
  have etx : Th.text (Th.rens 0 ks) = Th.text ks := by unfold Th.text; rw [rens_rows]
  have p1 := hp 0 ks ok dep (by omega)
  have w1 := hw 0 ks (by omega) (by omega) sh
  have w2 := hw 0 (Th.rens 0 ks) (by omega) (by omega) shr
  rw [etx] at w2
  have r1 := hlr (Th.text ks) (Th.rens 0 ks) (hrd 28 (by omega) ks ok dep (by omega)) depr
  have r1' := hrd 29 (by omega) ks ok dep (by omega)
  have l1 := hl 0 ks (by omega) (by omega) sh
  have b1 := Th.text_b (ks := ks) (by omega) sh
  -- nothing
  have r2 := hlr [] [] (hrd 28 (by omega) [] trivial (by decide) (by decide)) (by decide)
  have e2 : (Th.part 0 []).D = .tup [.str [112, 97, 114, 116], .int 0, .tup []] := rfl
  rw [e2] at r2
  -- the document without its first thing
  have hdr : ks = ks.take 1 ++ ks.drop 1 := (List.take_append_drop 1 ks).symm
  have dep' : Th.depths (ks.drop 1) ≤ 8 := by
    rw [hdr, Th.depths_app] at dep; omega
  have siz' : Th.sizes (ks.drop 1) ≤ 59 := by
    rw [hdr, Th.sizes_app] at siz; omega
  have sh' : Th.shorts (ks.drop 1) := by
    rw [hdr, Th.shorts_app] at sh; exact sh.2
  have ok' : Th.ok2s M (ks.drop 1) := by
    rw [hdr, Th.ok2s_app] at ok; exact ok.2
  have l4 := hl 0 (ks.drop 1) (by omega) (by omega) sh'
  have p4 := hp 0 (ks.drop 1) ok' dep' (by omega)
  have r4 := hlr (Th.text (ks.drop 1)) (Th.rens 0 (ks.drop 1)) (hrd 28 (by omega) (ks.drop 1) ok' dep' (by omega)) (by rw [rens_depth]; exact dep')
  have b4 := Th.text_b (ks := ks.drop 1) (by omega) sh'
  have e4 : (Th.part 0 (ks.drop 1)).D = .tup [.str [112, 97, 114, 116], .int 0, .tup (Th.Ds (ks.drop 1))] := rfl
  have i2 : opIdx (Th.part 0 ks).D 0 (.int 2) = .ok (.tup (Th.Ds ks)) 0 := rfl
  have hcut : GL.cut (Th.Ds ks) (some 1) none = Th.Ds (ks.drop 1) := by
    rw [Th.Ds_map, Th.Ds_map, cut_map, cut_from _ _ (by omega)]; rfl
  have join_ : ∀ (v : Nat) (js : List Th) (Γ : Env), Γ[v]? = some (some ((Th.part 0 js).D, 0)) → Fk cs 29 26 [((Th.part 0 js).D, 0)] = .ok (.lst ((Th.rowss js).map D.str)) 1 [] → ((Th.rowss js).map List.length).sum + (Th.rowss js).length * ([10] : Tx).length ≤ 16777216 → ev (Fk cs 29) (.mth .join (.cst (.str [10])) (.cons (.call 26 "_law_lines" (.cons (.var v) .nil)) .nil)) Γ = .ok (.str (Th.text js)) 0 := by
    intro v js Γ hv hl hb
    simp -implicitDefEqProofs only [e_mth, e_call, e_acons, e_anil, e_var, e_cst, hv, CE.fresh, q_sl, q_acons, q_call, List.map_cons, List.map_nil, hl]
    rw [q_post _ _ _ _ rfl]
    simp -implicitDefEqProofs only [q_acons, R.bind_ok]
    rw [q_mth _ _ _ _ _ (mo_join _), m_joinL _ _ _ _ _ _ hb]
    rfl
  rw [Fk_at (c := k_law) (by omega) rfl]
  refine run_of (P := fun r => r = _) rfl rfl ?_
  simp only [GL.start, k_law, b_law, List.map_cons, List.map_nil, List.replicate, List.cons_append, List.nil_append, Nat.add_one_sub_one, Nat.reduceSub]
  refine s_asg (d := (Th.part 0 ks).D) (n := 0) (xPure0 (by walk_at "ev"; simp only [hd]; walk_at "ev")) ?_
  walk_at "nx"
  refine s_asg (d := (Th.part 0 (Th.rens 0 ks)).D) (n := 0) (xPure0 (by walk_at "ev"; simp only [p1]; walk_at "ev")) ?_
  walk_at "nx"
  refine s_asg (d := .str (Th.text ks)) (n := 0) (xPure0 (by walk_at "ev"; simp only [w1]; walk_at "ev")) ?_
  walk_at "nx"
  refine s_if (t := false) (n := 0) (by walk_at "ev"; simp only [r1, w2]; walk_at "ev"; simp) (fun h => by cases h) (fun _ => ?_)
  walk_at "nx"
  have j1 := join_ 1 ks [some (.ro true (ns.map D.int), 0), some ((Th.part 0 ks).D, 0), some ((Th.part 0 (Th.rens 0 ks)).D, 0), some (.str (Th.text ks), 0), none] rfl l1 b1
  refine s_if (t := false) (n := 0) (by
    rw [e_or, e_not, e_call, e_acons, e_acons, e_anil, j1]
    walk_at "ev"
    simp only [r1, r2]
    walk_at "ev"
    try rfl) (fun h => by cases h) (fun _ => ?_)
  walk_at "nx"
  refine s_asg (d := (Th.part 0 (ks.drop 1)).D) (n := 0) (xPure0 (by rw [e4, ← hcut]; walk_at "ev"; simp only [i2]; walk_at "ev")) ?_
  walk_at "nx"
  have j4 := join_ 4 (ks.drop 1) [some (.ro true (ns.map D.int), 0), some ((Th.part 0 ks).D, 0), some ((Th.part 0 (Th.rens 0 ks)).D, 0), some (.str (Th.text ks), 0), some ((Th.part 0 (ks.drop 1)).D, 0)] rfl l4 b4
  refine s_if (t := false) (n := 0) (by
    rw [e_not, e_call, e_acons, e_acons, e_anil, j4]
    walk_at "ev"
    simp only [p4]
    walk_at "ev"
    simp only [r4]
    walk_at "ev"
    try rfl) (fun h => by cases h) (fun _ => ?_)
  walk_at "nx"
  refine s_ret (d := .bl true) (n := 0) (xPure0 (by
    walk_at "ev"
    simp only [r1']
    walk_at "ev"
    simp only [w2]
    walk_at "ev"
    simp)) ?_
  simp only [fin, rr, outs]
end K16

namespace K16
open PySem L2 PyProof.Rows GL
theorem all_mk {w : World} {K : PySem.W.Frag} {h : Heap} {mg : Str → Option Value} {fa : Addr} (X : K.In h) (G : h.Ns mainGlobals mg) (hfa : mg "law" = some (.ref fa))
    {f0 f1 f2 f3 f4 f5 f6 f7 f8 f9 f10 f11 f12 f13 f14 f15 f16 f17 f18 f19 f20 f21 f22 f23 f24 f25 f26 f27 f28 f29 : Addr} {oc0 oc1 oc2 oc3 oc4 oc5 oc6 oc7 oc8 oc9 oc10 oc11 oc12 oc13 oc14 oc15 oc16 oc17 oc18 oc19 oc20 oc21 oc22 oc23 oc24 oc25 oc26 oc27 oc28 oc29 : Value} {od0 od1 od2 od3 od4 od5 od6 od7 od8 od9 od10 od11 od12 od13 od14 od15 od16 od17 od18 od19 od20 od21 od22 od23 od24 od25 od26 od27 od28 od29 an0 an1 an2 an3 an4 an5 an6 an7 an8 an9 an10 an11 an12 an13 an14 an15 an16 an17 an18 an19 an20 an21 an22 an23 an24 an25 an26 an27 an28 an29 : Option Addr} {sl0 sl1 sl2 sl3 sl4 sl5 sl6 sl7 sl8 sl9 sl10 sl11 sl12 sl13 sl14 sl15 sl16 sl17 sl18 sl19 sl20 sl21 sl22 sl23 sl24 sl25 sl26 sl27 sl28 sl29 : Array (Option Value)} {kV0 kV1 kV2 kV3 kV4 kV5 kV6 kV7 kV8 kV9 kV10 kV11 kV12 kV13 kV14 kV15 kV16 kV17 kV18 kV19 kV20 kV21 kV22 kV23 kV24 kV25 kV26 kV27 kV28 kV29 dc0 dc1 dc2 dc3 dc4 dc5 dc6 dc7 dc8 dc9 dc10 dc11 dc12 dc13 dc14 dc15 dc16 dc17 dc18 dc19 dc20 dc21 dc22 dc23 dc24 dc25 dc26 dc27 dc28 dc29 pm0 pm1 pm2 pm3 pm4 pm5 pm6 pm7 pm8 pm9 pm10 pm11 pm12 pm13 pm14 pm15 pm16 pm17 pm18 pm19 pm20 pm21 pm22 pm23 pm24 pm25 pm26 pm27 pm28 pm29 cd0 cd1 cd2 cd3 cd4 cd5 cd6 cd7 cd8 cd9 cd10 cd11 cd12 cd13 cd14 cd15 cd16 cd17 cd18 cd19 cd20 cd21 cd22 cd23 cd24 cd25 cd26 cd27 cd28 cd29 ct0 ct1 ct2 ct3 ct4 ct5 ct6 ct7 ct8 ct9 ct10 ct11 ct12 ct13 ct14 ct15 ct16 ct17 ct18 ct19 ct20 ct21 ct22 ct23 ct24 ct25 ct26 ct27 ct28 ct29 : Value}
    (a0 : PySem.W.nsIn K mainGlobals "has_signs" = some (some (.ref f0))) (l0 : K.lookup f0 = some ⟨oc0, od0, .func (PySem.W.fnOf "has_signs" "has_signs" (defArgs (topS 10)) (defBody (topS 10)) (defScope (topS 10)) .none kV0 dc0 pm0 an0 cd0 ct0), sl0⟩) (c0 : PySem.W.codeIn K cd0 "has_signs" = true) (k0 : PySem.W.keepIn K (.ref f0) = true)
    (a1 : PySem.W.nsIn K mainGlobals "is_word" = some (some (.ref f1))) (l1 : K.lookup f1 = some ⟨oc1, od1, .func (PySem.W.fnOf "is_word" "is_word" (defArgs (topS 11)) (defBody (topS 11)) (defScope (topS 11)) .none kV1 dc1 pm1 an1 cd1 ct1), sl1⟩) (c1 : PySem.W.codeIn K cd1 "is_word" = true) (k1 : PySem.W.keepIn K (.ref f1) = true)
    (a2 : PySem.W.nsIn K mainGlobals "words_of" = some (some (.ref f2))) (l2 : K.lookup f2 = some ⟨oc2, od2, .func (PySem.W.fnOf "words_of" "words_of" (defArgs (topS 12)) (defBody (topS 12)) (defScope (topS 12)) .none kV2 dc2 pm2 an2 cd2 ct2), sl2⟩) (c2 : PySem.W.codeIn K cd2 "words_of" = true) (k2 : PySem.W.keepIn K (.ref f2) = true)
    (a3 : PySem.W.nsIn K mainGlobals "text_of" = some (some (.ref f3))) (l3 : K.lookup f3 = some ⟨oc3, od3, .func (PySem.W.fnOf "text_of" "text_of" (defArgs (topS 13)) (defBody (topS 13)) (defScope (topS 13)) .none kV3 dc3 pm3 an3 cd3 ct3), sl3⟩) (c3 : PySem.W.codeIn K cd3 "text_of" = true) (k3 : PySem.W.keepIn K (.ref f3) = true)
    (a4 : PySem.W.nsIn K mainGlobals "bent" = some (some (.ref f4))) (l4 : K.lookup f4 = some ⟨oc4, od4, .func (PySem.W.fnOf "bent" "bent" (defArgs (topS 15)) (defBody (topS 15)) (defScope (topS 15)) .none kV4 dc4 pm4 an4 cd4 ct4), sl4⟩) (c4 : PySem.W.codeIn K cd4 "bent" = true) (k4 : PySem.W.keepIn K (.ref f4) = true)
    (a5 : PySem.W.nsIn K mainGlobals "forms" = some (some (.ref f5))) (l5 : K.lookup f5 = some ⟨oc5, od5, .func (PySem.W.fnOf "forms" "forms" (defArgs (topS 16)) (defBody (topS 16)) (defScope (topS 16)) .none kV5 dc5 pm5 an5 cd5 ct5), sl5⟩) (c5 : PySem.W.codeIn K cd5 "forms" = true) (k5 : PySem.W.keepIn K (.ref f5) = true)
    (a6 : PySem.W.nsIn K mainGlobals "telling_row" = some (some (.ref f6))) (l6 : K.lookup f6 = some ⟨oc6, od6, .func (PySem.W.fnOf "telling_row" "telling_row" (defArgs (topS 23)) (defBody (topS 23)) (defScope (topS 23)) .none kV6 dc6 pm6 an6 cd6 ct6), sl6⟩) (c6 : PySem.W.codeIn K cd6 "telling_row" = true) (k6 : PySem.W.keepIn K (.ref f6) = true)
    (a7 : PySem.W.nsIn K mainGlobals "rows_in" = some (some (.ref f7))) (l7 : K.lookup f7 = some ⟨oc7, od7, .func (PySem.W.fnOf "rows_in" "rows_in" (defArgs (topS 24)) (defBody (topS 24)) (defScope (topS 24)) .none kV7 dc7 pm7 an7 cd7 ct7), sl7⟩) (c7 : PySem.W.codeIn K cd7 "rows_in" = true) (k7 : PySem.W.keepIn K (.ref f7) = true)
    (a8 : PySem.W.nsIn K mainGlobals "written" = some (some (.ref f8))) (l8 : K.lookup f8 = some ⟨oc8, od8, .func (PySem.W.fnOf "written" "written" (defArgs (topS 25)) (defBody (topS 25)) (defScope (topS 25)) .none kV8 dc8 pm8 an8 cd8 ct8), sl8⟩) (c8 : PySem.W.codeIn K cd8 "written" = true) (k8 : PySem.W.keepIn K (.ref f8) = true)
    (a9 : PySem.W.nsIn K mainGlobals "bend_of" = some (some (.ref f9))) (l9 : K.lookup f9 = some ⟨oc9, od9, .func (PySem.W.fnOf "bend_of" "bend_of" (defArgs (topS 26)) (defBody (topS 26)) (defScope (topS 26)) .none kV9 dc9 pm9 an9 cd9 ct9), sl9⟩) (c9 : PySem.W.codeIn K cd9 "bend_of" = true) (k9 : PySem.W.keepIn K (.ref f9) = true)
    (a10 : PySem.W.nsIn K mainGlobals "shape_of" = some (some (.ref f10))) (l10 : K.lookup f10 = some ⟨oc10, od10, .func (PySem.W.fnOf "shape_of" "shape_of" (defArgs (topS 27)) (defBody (topS 27)) (defScope (topS 27)) .none kV10 dc10 pm10 an10 cd10 ct10), sl10⟩) (c10 : PySem.W.codeIn K cd10 "shape_of" = true) (k10 : PySem.W.keepIn K (.ref f10) = true)
    (a11 : PySem.W.nsIn K mainGlobals "row_read" = some (some (.ref f11))) (l11 : K.lookup f11 = some ⟨oc11, od11, .func (PySem.W.fnOf "row_read" "row_read" (defArgs (topS 28)) (defBody (topS 28)) (defScope (topS 28)) .none kV11 dc11 pm11 an11 cd11 ct11), sl11⟩) (c11 : PySem.W.codeIn K cd11 "row_read" = true) (k11 : PySem.W.keepIn K (.ref f11) = true)
    (a12 : PySem.W.nsIn K mainGlobals "thing_read" = some (some (.ref f12))) (l12 : K.lookup f12 = some ⟨oc12, od12, .func (PySem.W.fnOf "thing_read" "thing_read" (defArgs (topS 29)) (defBody (topS 29)) (defScope (topS 29)) .none kV12 dc12 pm12 an12 cd12 ct12), sl12⟩) (c12 : PySem.W.codeIn K cd12 "thing_read" = true) (k12 : PySem.W.keepIn K (.ref f12) = true)
    (a13 : PySem.W.nsIn K mainGlobals "thing_at" = some (some (.ref f13))) (l13 : K.lookup f13 = some ⟨oc13, od13, .func (PySem.W.fnOf "thing_at" "thing_at" (defArgs (topS 30)) (defBody (topS 30)) (defScope (topS 30)) .none kV13 dc13 pm13 an13 cd13 ct13), sl13⟩) (c13 : PySem.W.codeIn K cd13 "thing_at" = true) (k13 : PySem.W.keepIn K (.ref f13) = true)
    (a14 : PySem.W.nsIn K mainGlobals "read" = some (some (.ref f14))) (l14 : K.lookup f14 = some ⟨oc14, od14, .func (PySem.W.fnOf "read" "read" (defArgs (topS 31)) (defBody (topS 31)) (defScope (topS 31)) .none kV14 dc14 pm14 an14 cd14 ct14), sl14⟩) (c14 : PySem.W.codeIn K cd14 "read" = true) (k14 : PySem.W.keepIn K (.ref f14) = true)
    (a15 : PySem.W.nsIn K mainGlobals "_law_cell" = some (some (.ref f15))) (l15 : K.lookup f15 = some ⟨oc15, od15, .func (PySem.W.fnOf "_law_cell" "_law_cell" (defArgs (topS 33)) (defBody (topS 33)) (defScope (topS 33)) .none kV15 dc15 pm15 an15 cd15 ct15), sl15⟩) (c15 : PySem.W.codeIn K cd15 "_law_cell" = true) (k15 : PySem.W.keepIn K (.ref f15) = true)
    (a16 : PySem.W.nsIn K mainGlobals "_law_mixed" = some (some (.ref f16))) (l16 : K.lookup f16 = some ⟨oc16, od16, .func (PySem.W.fnOf "_law_mixed" "_law_mixed" (defArgs (topS 34)) (defBody (topS 34)) (defScope (topS 34)) .none kV16 dc16 pm16 an16 cd16 ct16), sl16⟩) (c16 : PySem.W.codeIn K cd16 "_law_mixed" = true) (k16 : PySem.W.keepIn K (.ref f16) = true)
    (a17 : PySem.W.nsIn K mainGlobals "_law_menu" = some (some (.ref f17))) (l17 : K.lookup f17 = some ⟨oc17, od17, .func (PySem.W.fnOf "_law_menu" "_law_menu" (defArgs (topS 35)) (defBody (topS 35)) (defScope (topS 35)) .none kV17 dc17 pm17 an17 cd17 ct17), sl17⟩) (c17 : PySem.W.codeIn K cd17 "_law_menu" = true) (k17 : PySem.W.keepIn K (.ref f17) = true)
    (a18 : PySem.W.nsIn K mainGlobals "_law_plain_words" = some (some (.ref f18))) (l18 : K.lookup f18 = some ⟨oc18, od18, .func (PySem.W.fnOf "_law_plain_words" "_law_plain_words" (defArgs (topS 36)) (defBody (topS 36)) (defScope (topS 36)) .none kV18 dc18 pm18 an18 cd18 ct18), sl18⟩) (c18 : PySem.W.codeIn K cd18 "_law_plain_words" = true) (k18 : PySem.W.keepIn K (.ref f18) = true)
    (a19 : PySem.W.nsIn K mainGlobals "_law_row" = some (some (.ref f19))) (l19 : K.lookup f19 = some ⟨oc19, od19, .func (PySem.W.fnOf "_law_row" "_law_row" (defArgs (topS 37)) (defBody (topS 37)) (defScope (topS 37)) .none kV19 dc19 pm19 an19 cd19 ct19), sl19⟩) (c19 : PySem.W.codeIn K cd19 "_law_row" = true) (k19 : PySem.W.keepIn K (.ref f19) = true)
    (a20 : PySem.W.nsIn K mainGlobals "_law_bends" = some (some (.ref f20))) (l20 : K.lookup f20 = some ⟨oc20, od20, .func (PySem.W.fnOf "_law_bends" "_law_bends" (defArgs (topS 38)) (defBody (topS 38)) (defScope (topS 38)) .none kV20 dc20 pm20 an20 cd20 ct20), sl20⟩) (c20 : PySem.W.codeIn K cd20 "_law_bends" = true) (k20 : PySem.W.keepIn K (.ref f20) = true)
    (a21 : PySem.W.nsIn K mainGlobals "_law_thing" = some (some (.ref f21))) (l21 : K.lookup f21 = some ⟨oc21, od21, .func (PySem.W.fnOf "_law_thing" "_law_thing" (defArgs (topS 39)) (defBody (topS 39)) (defScope (topS 39)) .none kV21 dc21 pm21 an21 cd21 ct21), sl21⟩) (c21 : PySem.W.codeIn K cd21 "_law_thing" = true) (k21 : PySem.W.keepIn K (.ref f21) = true)
    (a22 : PySem.W.nsIn K mainGlobals "_law_number" = some (some (.ref f22))) (l22 : K.lookup f22 = some ⟨oc22, od22, .func (PySem.W.fnOf "_law_number" "_law_number" (defArgs (topS 40)) (defBody (topS 40)) (defScope (topS 40)) .none kV22 dc22 pm22 an22 cd22 ct22), sl22⟩) (c22 : PySem.W.codeIn K cd22 "_law_number" = true) (k22 : PySem.W.keepIn K (.ref f22) = true)
    (a23 : PySem.W.nsIn K mainGlobals "_law_ended" = some (some (.ref f23))) (l23 : K.lookup f23 = some ⟨oc23, od23, .func (PySem.W.fnOf "_law_ended" "_law_ended" (defArgs (topS 41)) (defBody (topS 41)) (defScope (topS 41)) .none kV23 dc23 pm23 an23 cd23 ct23), sl23⟩) (c23 : PySem.W.codeIn K cd23 "_law_ended" = true) (k23 : PySem.W.keepIn K (.ref f23) = true)
    (a24 : PySem.W.nsIn K mainGlobals "_law_document" = some (some (.ref f24))) (l24 : K.lookup f24 = some ⟨oc24, od24, .func (PySem.W.fnOf "_law_document" "_law_document" (defArgs (topS 42)) (defBody (topS 42)) (defScope (topS 42)) .none kV24 dc24 pm24 an24 cd24 ct24), sl24⟩) (c24 : PySem.W.codeIn K cd24 "_law_document" = true) (k24 : PySem.W.keepIn K (.ref f24) = true)
    (a25 : PySem.W.nsIn K mainGlobals "_law_line" = some (some (.ref f25))) (l25 : K.lookup f25 = some ⟨oc25, od25, .func (PySem.W.fnOf "_law_line" "_law_line" (defArgs (topS 43)) (defBody (topS 43)) (defScope (topS 43)) .none kV25 dc25 pm25 an25 cd25 ct25), sl25⟩) (c25 : PySem.W.codeIn K cd25 "_law_line" = true) (k25 : PySem.W.keepIn K (.ref f25) = true)
    (a26 : PySem.W.nsIn K mainGlobals "_law_lines" = some (some (.ref f26))) (l26 : K.lookup f26 = some ⟨oc26, od26, .func (PySem.W.fnOf "_law_lines" "_law_lines" (defArgs (topS 44)) (defBody (topS 44)) (defScope (topS 44)) .none kV26 dc26 pm26 an26 cd26 ct26), sl26⟩) (c26 : PySem.W.codeIn K cd26 "_law_lines" = true) (k26 : PySem.W.keepIn K (.ref f26) = true)
    (a27 : PySem.W.nsIn K mainGlobals "_law_plain" = some (some (.ref f27))) (l27 : K.lookup f27 = some ⟨oc27, od27, .func (PySem.W.fnOf "_law_plain" "_law_plain" (defArgs (topS 45)) (defBody (topS 45)) (defScope (topS 45)) .none kV27 dc27 pm27 an27 cd27 ct27), sl27⟩) (c27 : PySem.W.codeIn K cd27 "_law_plain" = true) (k27 : PySem.W.keepIn K (.ref f27) = true)
    (a28 : PySem.W.nsIn K mainGlobals "_law_read" = some (some (.ref f28))) (l28 : K.lookup f28 = some ⟨oc28, od28, .func (PySem.W.fnOf "_law_read" "_law_read" (defArgs (topS 46)) (defBody (topS 46)) (defScope (topS 46)) .none kV28 dc28 pm28 an28 cd28 ct28), sl28⟩) (c28 : PySem.W.codeIn K cd28 "_law_read" = true) (k28 : PySem.W.keepIn K (.ref f28) = true)
    (a29 : PySem.W.nsIn K mainGlobals "law" = some (some (.ref f29))) (l29 : K.lookup f29 = some ⟨oc29, od29, .func (PySem.W.fnOf "law" "law" (defArgs (topS 47)) (defBody (topS 47)) (defScope (topS 47)) .none kV29 dc29 pm29 an29 cd29 ct29), sl29⟩) (c29 : PySem.W.codeIn K cd29 "law" = true) (k29 : PySem.W.keepIn K (.ref f29) = true)
    {tk0 : Tok} (gq0 : PySem.W.nsIn K mainGlobals "SIGNS" = some (some (.str (toS t_SIGNS) tk0)))
    {tk1 : Tok} (gq1 : PySem.W.nsIn K mainGlobals "LONGEST" = some (some (.int 20 tk1)))
    {tk2 : Tok} (gq2 : PySem.W.nsIn K mainGlobals "MOST_BENDS" = some (some (.int 5 tk2)))
    {tk3 : Tok} (gq3 : PySem.W.nsIn K mainGlobals "MOST_IN_PHRASE" = some (some (.int 4 tk3)))
    {tk4 : Tok} (gq4 : PySem.W.nsIn K mainGlobals "MOST_WORDS" = some (some (.int 200 tk4)))
    {TA5 : Addr} {TD5 : Option Addr} {TN5 : Nat} {TS5 : Array (Option Value)} {tk5_0 tk5_1 tk5_2 tk5_3 : Tok}
    (gq5 : PySem.W.nsIn K mainGlobals "SCOPES" = some (some (.ref TA5))) (gt5 : K.lookup TA5 = some ⟨.type "tuple", TD5, .seq #[.str (toS [97, 108, 108]) tk5_0, .str (toS [112, 97, 114, 116]) tk5_1, .str (toS [104, 101, 114, 101]) tk5_2, .str (toS [101, 108, 115, 101]) tk5_3] TN5, TS5⟩)
    {tk6 : Tok} (gq6 : PySem.W.nsIn K mainGlobals "DEEPEST" = some (some (.int 8 tk6)))
    {C0 C1 C2 C3 C4 C5 : Addr}
    (y1 : PySem.W.specialIn K (.builtin "object.__class__") "__get__" = some (some (.builtin "getset_descriptor.__get__"))) (y2 : PySem.W.takesIn K (.builtin "object.__class__") = some true)
    (x0a : PySem.W.nsIn K mainGlobals "GlossError" = some (some (.ref C0))) (x0b : PySem.W.keepIn K (.ref C0) = true) (x0c : PySem.W.subIn K (.ref C0) (.type "BaseException") = some true) (x0d : PySem.W.typeIn K (.ref C0) = some (.type "type")) (x0e : PySem.W.hasDictIn K C0 = true)
    (x0f : PySem.W.findIn K (.ref C0) "__getattribute__" = some (some (.builtin "BaseException.__getattribute__"))) (x0g : PySem.W.findIn K (.ref C0) "__getattr__" = some none) (x0h : PySem.W.findIn K (.ref C0) "__class__" = some (some (.builtin "object.__class__"))) (x0i : PySem.W.mroIn K C0 (.type "object") = some true) (x0j : PySem.W.subIn K (.ref C0) (.type "ValueError") = some true)
    (x0k : PySem.W.excIn K C0 GL.veT "ValueError.__new__" = true)
    (x1a : PySem.W.nsIn K mainGlobals "NoWord" = some (some (.ref C1))) (x1b : PySem.W.keepIn K (.ref C1) = true) (x1c : PySem.W.subIn K (.ref C1) (.type "BaseException") = some true) (x1d : PySem.W.typeIn K (.ref C1) = some (.type "type")) (x1e : PySem.W.hasDictIn K C1 = true)
    (x1f : PySem.W.findIn K (.ref C1) "__getattribute__" = some (some (.builtin "BaseException.__getattribute__"))) (x1g : PySem.W.findIn K (.ref C1) "__getattr__" = some none) (x1h : PySem.W.findIn K (.ref C1) "__class__" = some (some (.builtin "object.__class__"))) (x1i : PySem.W.mroIn K C1 (.type "object") = some true) (x1j : PySem.W.subIn K (.ref C1) (.type "ValueError") = some true)
    (x1k : PySem.W.excIn K C1 GL.veT "ValueError.__new__" = true)
    (x2a : PySem.W.nsIn K mainGlobals "NoForm" = some (some (.ref C2))) (x2b : PySem.W.keepIn K (.ref C2) = true) (x2c : PySem.W.subIn K (.ref C2) (.type "BaseException") = some true) (x2d : PySem.W.typeIn K (.ref C2) = some (.type "type")) (x2e : PySem.W.hasDictIn K C2 = true)
    (x2f : PySem.W.findIn K (.ref C2) "__getattribute__" = some (some (.builtin "BaseException.__getattribute__"))) (x2g : PySem.W.findIn K (.ref C2) "__getattr__" = some none) (x2h : PySem.W.findIn K (.ref C2) "__class__" = some (some (.builtin "object.__class__"))) (x2i : PySem.W.mroIn K C2 (.type "object") = some true) (x2j : PySem.W.subIn K (.ref C2) (.type "ValueError") = some true)
    (x2k : PySem.W.excIn K C2 GL.veT "ValueError.__new__" = true)
    (x3a : PySem.W.nsIn K mainGlobals "NoRow" = some (some (.ref C3))) (x3b : PySem.W.keepIn K (.ref C3) = true) (x3c : PySem.W.subIn K (.ref C3) (.type "BaseException") = some true) (x3d : PySem.W.typeIn K (.ref C3) = some (.type "type")) (x3e : PySem.W.hasDictIn K C3 = true)
    (x3f : PySem.W.findIn K (.ref C3) "__getattribute__" = some (some (.builtin "BaseException.__getattribute__"))) (x3g : PySem.W.findIn K (.ref C3) "__getattr__" = some none) (x3h : PySem.W.findIn K (.ref C3) "__class__" = some (some (.builtin "object.__class__"))) (x3i : PySem.W.mroIn K C3 (.type "object") = some true) (x3j : PySem.W.subIn K (.ref C3) (.type "ValueError") = some true)
    (x4a : PySem.W.nsIn K mainGlobals "NoEnd" = some (some (.ref C4))) (x4b : PySem.W.keepIn K (.ref C4) = true) (x4c : PySem.W.subIn K (.ref C4) (.type "BaseException") = some true) (x4d : PySem.W.typeIn K (.ref C4) = some (.type "type")) (x4e : PySem.W.hasDictIn K C4 = true)
    (x4f : PySem.W.findIn K (.ref C4) "__getattribute__" = some (some (.builtin "BaseException.__getattribute__"))) (x4g : PySem.W.findIn K (.ref C4) "__getattr__" = some none) (x4h : PySem.W.findIn K (.ref C4) "__class__" = some (some (.builtin "object.__class__"))) (x4i : PySem.W.mroIn K C4 (.type "object") = some true) (x4j : PySem.W.subIn K (.ref C4) (.type "ValueError") = some true)
    (x4k : PySem.W.excIn K C4 GL.veT "ValueError.__new__" = true)
    (x5a : PySem.W.nsIn K mainGlobals "TooDeep" = some (some (.ref C5))) (x5b : PySem.W.keepIn K (.ref C5) = true) (x5c : PySem.W.subIn K (.ref C5) (.type "BaseException") = some true) (x5d : PySem.W.typeIn K (.ref C5) = some (.type "type")) (x5e : PySem.W.hasDictIn K C5 = true)
    (x5f : PySem.W.findIn K (.ref C5) "__getattribute__" = some (some (.builtin "BaseException.__getattribute__"))) (x5g : PySem.W.findIn K (.ref C5) "__getattr__" = some none) (x5h : PySem.W.findIn K (.ref C5) "__class__" = some (some (.builtin "object.__class__"))) (x5i : PySem.W.mroIn K C5 (.type "object") = some true) (x5j : PySem.W.subIn K (.ref C5) (.type "ValueError") = some true)
    (x5k : PySem.W.excIn K C5 GL.veT "ValueError.__new__" = true)
    (w0_0 : PySem.W.subIn K (.ref C0) (.ref C0) = some true)
    (w0_1 : PySem.W.subIn K (.ref C0) (.ref C1) = some false)
    (w0_2 : PySem.W.subIn K (.ref C0) (.ref C2) = some false)
    (w0_3 : PySem.W.subIn K (.ref C0) (.ref C3) = some false)
    (w0_4 : PySem.W.subIn K (.ref C0) (.ref C4) = some false)
    (w0_5 : PySem.W.subIn K (.ref C0) (.ref C5) = some false)
    (w1_0 : PySem.W.subIn K (.ref C1) (.ref C0) = some true)
    (w1_1 : PySem.W.subIn K (.ref C1) (.ref C1) = some true)
    (w1_2 : PySem.W.subIn K (.ref C1) (.ref C2) = some false)
    (w1_3 : PySem.W.subIn K (.ref C1) (.ref C3) = some false)
    (w1_4 : PySem.W.subIn K (.ref C1) (.ref C4) = some false)
    (w1_5 : PySem.W.subIn K (.ref C1) (.ref C5) = some false)
    (w2_0 : PySem.W.subIn K (.ref C2) (.ref C0) = some true)
    (w2_1 : PySem.W.subIn K (.ref C2) (.ref C1) = some false)
    (w2_2 : PySem.W.subIn K (.ref C2) (.ref C2) = some true)
    (w2_3 : PySem.W.subIn K (.ref C2) (.ref C3) = some false)
    (w2_4 : PySem.W.subIn K (.ref C2) (.ref C4) = some false)
    (w2_5 : PySem.W.subIn K (.ref C2) (.ref C5) = some false)
    (w3_0 : PySem.W.subIn K (.ref C3) (.ref C0) = some true)
    (w3_1 : PySem.W.subIn K (.ref C3) (.ref C1) = some false)
    (w3_2 : PySem.W.subIn K (.ref C3) (.ref C2) = some false)
    (w3_3 : PySem.W.subIn K (.ref C3) (.ref C3) = some true)
    (w3_4 : PySem.W.subIn K (.ref C3) (.ref C4) = some false)
    (w3_5 : PySem.W.subIn K (.ref C3) (.ref C5) = some false)
    (w4_0 : PySem.W.subIn K (.ref C4) (.ref C0) = some true)
    (w4_1 : PySem.W.subIn K (.ref C4) (.ref C1) = some false)
    (w4_2 : PySem.W.subIn K (.ref C4) (.ref C2) = some false)
    (w4_3 : PySem.W.subIn K (.ref C4) (.ref C3) = some false)
    (w4_4 : PySem.W.subIn K (.ref C4) (.ref C4) = some true)
    (w4_5 : PySem.W.subIn K (.ref C4) (.ref C5) = some false)
    (w5_0 : PySem.W.subIn K (.ref C5) (.ref C0) = some true)
    (w5_1 : PySem.W.subIn K (.ref C5) (.ref C1) = some false)
    (w5_2 : PySem.W.subIn K (.ref C5) (.ref C2) = some false)
    (w5_3 : PySem.W.subIn K (.ref C5) (.ref C3) = some false)
    (w5_4 : PySem.W.subIn K (.ref C5) (.ref C4) = some false)
    (w5_5 : PySem.W.subIn K (.ref C5) (.ref C5) = some true)
    (z0 : PySem.W.nsIn K mainGlobals "len" = some none)
    (z1 : PySem.W.nsIn K mainGlobals "tuple" = some none)
    (z2 : PySem.W.nsIn K mainGlobals "list" = some none)
    (z3 : PySem.W.nsIn K mainGlobals "int" = some none)
    (z4 : PySem.W.nsIn K mainGlobals "str" = some none)
    (z5 : PySem.W.nsIn K mainGlobals "min" = some none)
    (z6 : PySem.W.nsIn K mainGlobals "max" = some none)
    (z7 : PySem.W.nsIn K mainGlobals "sorted" = some none)
    (z8 : PySem.W.nsIn K mainGlobals "sum" = some none)
    (z9 : PySem.W.nsIn K mainGlobals "range" = some none)
    (z10 : PySem.W.nsIn K mainGlobals "enumerate" = some none)
    (z11 : PySem.W.nsIn K mainGlobals "zip" = some none)
    (z12 : PySem.W.nsIn K mainGlobals "reversed" = some none)
    (z13 : PySem.W.nsIn K mainGlobals "isinstance" = some none)
    (z14 : PySem.W.nsIn K mainGlobals "bool" = some none)
    (z15 : PySem.W.nsIn K mainGlobals "dict" = some none)
    (z16 : PySem.W.nsIn K mainGlobals "ValueError" = some none) :
    ∃ fd : FuncData, (∀ (s : Shared) (u : Value), BindsTo s fd ⟨[u], []⟩ [("_law_script", u)]) ∧ ∀ base : Heap, K.In base → base.Ns mainGlobals mg → FnOk PySem.Challenge.rw_gloss_k16_whole_read_again.prog w K mg base (L2.CX PySem.Challenge.rw_gloss_k16_whole_read_again.prog w) 33 fa fd ["_law_script"] (spLaw K) := by
  have M : Md (w0 K [(0, C0), (1, C1), (2, C2), (3, C3), (4, C4), (5, C5)]) K mg tb := by
    refine ⟨rfl, fun _ => rfl, fun _ => rfl, fun p hp => ?_, fun b hb => ?_, rfl, fun p hp => ?_, fun p hp q hq => ?_, fun c h => fldsOf_bare h⟩
    · simp only [tb, List.mem_cons, List.not_mem_nil, or_false] at hp
      rcases hp with rfl | rfl | rfl | rfl | rfl | rfl | rfl
      · exact ⟨_, .str (toS t_SIGNS), PySem.W.mg_of X G gq0, ⟨_, rfl⟩, fun H => ⟨rfl, by show ∀ c ∈ t_SIGNS, c < 1114112; decide⟩⟩
      · exact ⟨_, .int 20, PySem.W.mg_of X G gq1, ⟨_, rfl⟩, fun H => rfl⟩
      · exact ⟨_, .int 5, PySem.W.mg_of X G gq2, ⟨_, rfl⟩, fun H => rfl⟩
      · exact ⟨_, .int 4, PySem.W.mg_of X G gq3, ⟨_, rfl⟩, fun H => rfl⟩
      · exact ⟨_, .int 200, PySem.W.mg_of X G gq4, ⟨_, rfl⟩, fun H => rfl⟩
      · exact ⟨_, .ref TA5, PySem.W.mg_of X G gq5, rfl, fun H => ⟨_, [.str (toS [97, 108, 108]), .str (toS [112, 97, 114, 116]), .str (toS [104, 101, 114, 101]), .str (toS [101, 108, 115, 101])], rfl, .inr ⟨_, _, _, gt5, rfl, rfl, (by show 4 ≤ sizeLine; decide), (.cons ⟨_, rfl⟩ (.cons ⟨_, rfl⟩ (.cons ⟨_, rfl⟩ (.cons ⟨_, rfl⟩ .nil))))⟩, ⟨_, _, rfl, ⟨rfl, by unfold tok; decide⟩, ⟨_, _, rfl, ⟨rfl, by unfold tok; decide⟩, ⟨_, _, rfl, ⟨rfl, by unfold tok; decide⟩, ⟨_, _, rfl, ⟨rfl, by unfold tok; decide⟩, rfl⟩⟩⟩⟩⟩⟩
      · exact ⟨_, .int 8, PySem.W.mg_of X G gq6, ⟨_, rfl⟩, fun H => rfl⟩
    · simp only [bltNames, List.mem_cons, List.not_mem_nil, or_false] at hb
      rcases hb with rfl | rfl | rfl | rfl | rfl | rfl | rfl | rfl | rfl | rfl | rfl | rfl | rfl | rfl | rfl | rfl | rfl
      · exact PySem.W.mg_none_of X G z0
      · exact PySem.W.mg_none_of X G z1
      · exact PySem.W.mg_none_of X G z2
      · exact PySem.W.mg_none_of X G z3
      · exact PySem.W.mg_none_of X G z4
      · exact PySem.W.mg_none_of X G z5
      · exact PySem.W.mg_none_of X G z6
      · exact PySem.W.mg_none_of X G z7
      · exact PySem.W.mg_none_of X G z8
      · exact PySem.W.mg_none_of X G z9
      · exact PySem.W.mg_none_of X G z10
      · exact PySem.W.mg_none_of X G z11
      · exact PySem.W.mg_none_of X G z12
      · exact PySem.W.mg_none_of X G z13
      · exact PySem.W.mg_none_of X G z14
      · exact PySem.W.mg_none_of X G z15
      · exact PySem.W.mg_none_of X G z16
    · simp only [tb, List.mem_cons, List.not_mem_nil, or_false] at hp
      rcases hp with rfl | rfl | rfl | rfl | rfl | rfl
      · exact exOk_mk X G x0a x0b x0c x0d x0e x0f x0g x0h y1 y2 x0i x0j (fun _ => x0k)
      · exact exOk_mk X G x1a x1b x1c x1d x1e x1f x1g x1h y1 y2 x1i x1j (fun _ => x1k)
      · exact exOk_mk X G x2a x2b x2c x2d x2e x2f x2g x2h y1 y2 x2i x2j (fun _ => x2k)
      · exact exOk_mk X G x3a x3b x3c x3d x3e x3f x3g x3h y1 y2 x3i x3j (fun h => nomatch h)
      · exact exOk_mk X G x4a x4b x4c x4d x4e x4f x4g x4h y1 y2 x4i x4j (fun _ => x4k)
      · exact exOk_mk X G x5a x5b x5c x5d x5e x5f x5g x5h y1 y2 x5i x5j (fun _ => x5k)
    · simp only [tb, List.mem_cons, List.not_mem_nil, or_false] at hp hq
      rcases hp with rfl | rfl | rfl | rfl | rfl | rfl <;> rcases hq with rfl | rfl | rfl | rfl | rfl | rfl
      · exact exm_mk x0c x0e x0d w0_0
      · exact exm_mk x1c x1e x1d w0_1
      · exact exm_mk x2c x2e x2d w0_2
      · exact exm_mk x3c x3e x3d w0_3
      · exact exm_mk x4c x4e x4d w0_4
      · exact exm_mk x5c x5e x5d w0_5
      · exact exm_mk x0c x0e x0d w1_0
      · exact exm_mk x1c x1e x1d w1_1
      · exact exm_mk x2c x2e x2d w1_2
      · exact exm_mk x3c x3e x3d w1_3
      · exact exm_mk x4c x4e x4d w1_4
      · exact exm_mk x5c x5e x5d w1_5
      · exact exm_mk x0c x0e x0d w2_0
      · exact exm_mk x1c x1e x1d w2_1
      · exact exm_mk x2c x2e x2d w2_2
      · exact exm_mk x3c x3e x3d w2_3
      · exact exm_mk x4c x4e x4d w2_4
      · exact exm_mk x5c x5e x5d w2_5
      · exact exm_mk x0c x0e x0d w3_0
      · exact exm_mk x1c x1e x1d w3_1
      · exact exm_mk x2c x2e x2d w3_2
      · exact exm_mk x3c x3e x3d w3_3
      · exact exm_mk x4c x4e x4d w3_4
      · exact exm_mk x5c x5e x5d w3_5
      · exact exm_mk x0c x0e x0d w4_0
      · exact exm_mk x1c x1e x1d w4_1
      · exact exm_mk x2c x2e x2d w4_2
      · exact exm_mk x3c x3e x3d w4_3
      · exact exm_mk x4c x4e x4d w4_4
      · exact exm_mk x5c x5e x5d w4_5
      · exact exm_mk x0c x0e x0d w5_0
      · exact exm_mk x1c x1e x1d w5_1
      · exact exm_mk x2c x2e x2d w5_2
      · exact exm_mk x3c x3e x3d w5_3
      · exact exm_mk x4c x4e x4d w5_4
      · exact exm_mk x5c x5e x5d w5_5
  refine law_all (d := d_law) (g := 29) M rfl rfl rfl (fun d hd => ?_) oks rfl rfl rfl hfa law_run
  simp only [ds, List.mem_cons, List.not_mem_nil, or_false] at hd
  rcases hd with rfl | rfl | rfl | rfl | rfl | rfl | rfl | rfl | rfl | rfl | rfl | rfl | rfl | rfl | rfl | rfl | rfl | rfl | rfl | rfl | rfl | rfl | rfl | rfl | rfl | rfl | rfl | rfl | rfl | rfl
  · exact defAt_mk X G a0 l0 c0 k0 fun _ _ _ _ _ _ us hl => match us, hl with | [_], _ => rfl
  · exact defAt_mk X G a1 l1 c1 k1 fun _ _ _ _ _ _ us hl => match us, hl with | [_], _ => rfl
  · exact defAt_mk X G a2 l2 c2 k2 fun _ _ _ _ _ _ us hl => match us, hl with | [_], _ => rfl
  · exact defAt_mk X G a3 l3 c3 k3 fun _ _ _ _ _ _ us hl => match us, hl with | [_], _ => rfl
  · exact defAt_mk X G a4 l4 c4 k4 fun _ _ _ _ _ _ us hl => match us, hl with | [_, _], _ => rfl
  · exact defAt_mk X G a5 l5 c5 k5 fun _ _ _ _ _ _ us hl => match us, hl with | [_, _], _ => rfl
  · exact defAt_mk X G a6 l6 c6 k6 fun _ _ _ _ _ _ us hl => match us, hl with | [_], _ => rfl
  · exact defAt_mk X G a7 l7 c7 k7 fun _ _ _ _ _ _ us hl => match us, hl with | [_], _ => rfl
  · exact defAt_mk X G a8 l8 c8 k8 fun _ _ _ _ _ _ us hl => match us, hl with | [_], _ => rfl
  · exact defAt_mk X G a9 l9 c9 k9 fun _ _ _ _ _ _ us hl => match us, hl with | [_], _ => rfl
  · exact defAt_mk X G a10 l10 c10 k10 fun _ _ _ _ _ _ us hl => match us, hl with | [_], _ => rfl
  · exact defAt_mk X G a11 l11 c11 k11 fun _ _ _ _ _ _ us hl => match us, hl with | [_], _ => rfl
  · exact defAt_mk X G a12 l12 c12 k12 fun _ _ _ _ _ _ us hl => match us, hl with | [_, _], _ => rfl
  · exact defAt_mk X G a13 l13 c13 k13 fun _ _ _ _ _ _ us hl => match us, hl with | [_, _, _], _ => rfl
  · exact defAt_mk X G a14 l14 c14 k14 fun _ _ _ _ _ _ us hl => match us, hl with | [_], _ => rfl
  · exact defAt_mk X G a15 l15 c15 k15 fun _ _ _ _ _ _ us hl => match us, hl with | [_, _], _ => rfl
  · exact defAt_mk X G a16 l16 c16 k16 fun _ _ _ _ _ _ us hl => match us, hl with | [_], _ => rfl
  · exact defAt_mk X G a17 l17 c17 k17 fun _ _ _ _ _ _ us hl => match us, hl with | [_], _ => rfl
  · exact defAt_mk X G a18 l18 c18 k18 fun _ _ _ _ _ _ us hl => match us, hl with | [_, _], _ => rfl
  · exact defAt_mk X G a19 l19 c19 k19 fun _ _ _ _ _ _ us hl => match us, hl with | [_, _, _], _ => rfl
  · exact defAt_mk X G a20 l20 c20 k20 fun _ _ _ _ _ _ us hl => match us, hl with | [_, _, _], _ => rfl
  · exact defAt_mk X G a21 l21 c21 k21 fun _ _ _ _ _ _ us hl => match us, hl with | [_, _, _, _], _ => rfl
  · exact defAt_mk X G a22 l22 c22 k22 fun _ _ _ _ _ _ us hl => match us, hl with | [_, _], _ => rfl
  · exact defAt_mk X G a23 l23 c23 k23 fun _ _ _ _ _ _ us hl => match us, hl with | [_, _], _ => rfl
  · exact defAt_mk X G a24 l24 c24 k24 fun _ _ _ _ _ _ us hl => match us, hl with | [_, _], _ => rfl
  · exact defAt_mk X G a25 l25 c25 k25 fun _ _ _ _ _ _ us hl => match us, hl with | [_], _ => rfl
  · exact defAt_mk X G a26 l26 c26 k26 fun _ _ _ _ _ _ us hl => match us, hl with | [_], _ => rfl
  · exact defAt_mk X G a27 l27 c27 k27 fun _ _ _ _ _ _ us hl => match us, hl with | [_], _ => rfl
  · exact defAt_mk X G a28 l28 c28 k28 fun _ _ _ _ _ _ us hl => match us, hl with | [_, _], _ => rfl
  · exact defAt_mk X G a29 l29 c29 k29 fun _ _ _ _ _ _ us hl => match us, hl with | [_], _ => rfl
end K16
open PySem PySem.W PyProof.Rows
set_option maxHeartbeats 0 in
theorem PySem.Challenge.cw_gloss_k16_whole_read_again_holds : PySem.Challenge.rw_gloss_k16_whole_read_again.Holds := by
  w_on; o_law; k_head; (case hw => w_witness2)
  k_fill
  refine L2.walk_of (l := PySem.Challenge.rw_gloss_k16_whole_read_again) (n := 63) (k := 33) (x := "_law_script") (CX := fun w => L2.CX PySem.Challenge.rw_gloss_k16_whole_read_again.prog w) (sp := fun w => GL.spLaw _) rfl (by decide) rfl ⟨rfl, by decide, by decide⟩ (fun w h Y => PySem.W.kIn_of Y) ?F (fun _ _ a ns hl _ hS => ⟨a, ns, rfl, hS, hl, fun _ => rfl⟩) (fun _ _ _ _ _ ⟨_, _, _, _, _, _, _, _, _, _, _, _, h⟩ => h)
  case F =>
    intro w mg fa h KX G hmg
    refine' K16.all_mk KX G hmg ?a0 ?l0 ?c0 ?k0 ?a1 ?l1 ?c1 ?k1 ?a2 ?l2 ?c2 ?k2 ?a3 ?l3 ?c3 ?k3 ?a4 ?l4 ?c4 ?k4 ?a5 ?l5 ?c5 ?k5 ?a6 ?l6 ?c6 ?k6 ?a7 ?l7 ?c7 ?k7 ?a8 ?l8 ?c8 ?k8 ?a9 ?l9 ?c9 ?k9 ?a10 ?l10 ?c10 ?k10 ?a11 ?l11 ?c11 ?k11 ?a12 ?l12 ?c12 ?k12 ?a13 ?l13 ?c13 ?k13 ?a14 ?l14 ?c14 ?k14 ?a15 ?l15 ?c15 ?k15 ?a16 ?l16 ?c16 ?k16 ?a17 ?l17 ?c17 ?k17 ?a18 ?l18 ?c18 ?k18 ?a19 ?l19 ?c19 ?k19 ?a20 ?l20 ?c20 ?k20 ?a21 ?l21 ?c21 ?k21 ?a22 ?l22 ?c22 ?k22 ?a23 ?l23 ?c23 ?k23 ?a24 ?l24 ?c24 ?k24 ?a25 ?l25 ?c25 ?k25 ?a26 ?l26 ?c26 ?k26 ?a27 ?l27 ?c27 ?k27 ?a28 ?l28 ?c28 ?k28 ?a29 ?l29 ?c29 ?k29 ?gq0 ?gq1 ?gq2 ?gq3 ?gq4 ?gq5 ?gt5 ?gq6 ?y1 ?y2 ?x0a ?x0b ?x0c ?x0d ?x0e ?x0f ?x0g ?x0h ?x0i ?x0j ?x0k ?x1a ?x1b ?x1c ?x1d ?x1e ?x1f ?x1g ?x1h ?x1i ?x1j ?x1k ?x2a ?x2b ?x2c ?x2d ?x2e ?x2f ?x2g ?x2h ?x2i ?x2j ?x2k ?x3a ?x3b ?x3c ?x3d ?x3e ?x3f ?x3g ?x3h ?x3i ?x3j ?x4a ?x4b ?x4c ?x4d ?x4e ?x4f ?x4g ?x4h ?x4i ?x4j ?x4k ?x5a ?x5b ?x5c ?x5d ?x5e ?x5f ?x5g ?x5h ?x5i ?x5j ?x5k ?w0_0 ?w0_1 ?w0_2 ?w0_3 ?w0_4 ?w0_5 ?w1_0 ?w1_1 ?w1_2 ?w1_3 ?w1_4 ?w1_5 ?w2_0 ?w2_1 ?w2_2 ?w2_3 ?w2_4 ?w2_5 ?w3_0 ?w3_1 ?w3_2 ?w3_3 ?w3_4 ?w3_5 ?w4_0 ?w4_1 ?w4_2 ?w4_3 ?w4_4 ?w4_5 ?w5_0 ?w5_1 ?w5_2 ?w5_3 ?w5_4 ?w5_5 ?z0 ?z1 ?z2 ?z3 ?z4 ?z5 ?z6 ?z7 ?z8 ?z9 ?z10 ?z11 ?z12 ?z13 ?z14 ?z15 ?z16
    (case a0 => k_is)
    (case l0 => k_is)
    (case c0 => k_is)
    (case k0 => k_is)
    (case a1 => k_is)
    (case l1 => k_is)
    (case c1 => k_is)
    (case k1 => k_is)
    (case a2 => k_is)
    (case l2 => k_is)
    (case c2 => k_is)
    (case k2 => k_is)
    (case a3 => k_is)
    (case l3 => k_is)
    (case c3 => k_is)
    (case k3 => k_is)
    (case a4 => k_is)
    (case l4 => k_is)
    (case c4 => k_is)
    (case k4 => k_is)
    (case a5 => k_is)
    (case l5 => k_is)
    (case c5 => k_is)
    (case k5 => k_is)
    (case a6 => k_is)
    (case l6 => k_is)
    (case c6 => k_is)
    (case k6 => k_is)
    (case a7 => k_is)
    (case l7 => k_is)
    (case c7 => k_is)
    (case k7 => k_is)
    (case a8 => k_is)
    (case l8 => k_is)
    (case c8 => k_is)
    (case k8 => k_is)
    (case a9 => k_is)
    (case l9 => k_is)
    (case c9 => k_is)
    (case k9 => k_is)
    (case a10 => k_is)
    (case l10 => k_is)
    (case c10 => k_is)
    (case k10 => k_is)
    (case a11 => k_is)
    (case l11 => k_is)
    (case c11 => k_is)
    (case k11 => k_is)
    (case a12 => k_is)
    (case l12 => k_is)
    (case c12 => k_is)
    (case k12 => k_is)
    (case a13 => k_is)
    (case l13 => k_is)
    (case c13 => k_is)
    (case k13 => k_is)
    (case a14 => k_is)
    (case l14 => k_is)
    (case c14 => k_is)
    (case k14 => k_is)
    (case a15 => k_is)
    (case l15 => k_is)
    (case c15 => k_is)
    (case k15 => k_is)
    (case a16 => k_is)
    (case l16 => k_is)
    (case c16 => k_is)
    (case k16 => k_is)
    (case a17 => k_is)
    (case l17 => k_is)
    (case c17 => k_is)
    (case k17 => k_is)
    (case a18 => k_is)
    (case l18 => k_is)
    (case c18 => k_is)
    (case k18 => k_is)
    (case a19 => k_is)
    (case l19 => k_is)
    (case c19 => k_is)
    (case k19 => k_is)
    (case a20 => k_is)
    (case l20 => k_is)
    (case c20 => k_is)
    (case k20 => k_is)
    (case a21 => k_is)
    (case l21 => k_is)
    (case c21 => k_is)
    (case k21 => k_is)
    (case a22 => k_is)
    (case l22 => k_is)
    (case c22 => k_is)
    (case k22 => k_is)
    (case a23 => k_is)
    (case l23 => k_is)
    (case c23 => k_is)
    (case k23 => k_is)
    (case a24 => k_is)
    (case l24 => k_is)
    (case c24 => k_is)
    (case k24 => k_is)
    (case a25 => k_is)
    (case l25 => k_is)
    (case c25 => k_is)
    (case k25 => k_is)
    (case a26 => k_is)
    (case l26 => k_is)
    (case c26 => k_is)
    (case k26 => k_is)
    (case a27 => k_is)
    (case l27 => k_is)
    (case c27 => k_is)
    (case k27 => k_is)
    (case a28 => k_is)
    (case l28 => k_is)
    (case c28 => k_is)
    (case k28 => k_is)
    (case a29 => k_is)
    (case l29 => k_is)
    (case c29 => k_is)
    (case k29 => k_is)
    (case gq0 => k_is)
    (case gq1 => k_is)
    (case gq2 => k_is)
    (case gq3 => k_is)
    (case gq4 => k_is)
    (case gq5 => k_is)
    (case gt5 => k_is)
    (case gq6 => k_is)
    (case y1 => k_is)
    (case y2 => k_is)
    (case x0a => k_is)
    (case x0b => k_is)
    (case x0c => k_is)
    (case x0d => k_is)
    (case x0e => k_is)
    (case x0f => k_is)
    (case x0g => k_is)
    (case x0h => k_is)
    (case x0i => k_is)
    (case x0j => k_is)
    (case x0k => k_exc)
    (case x1a => k_is)
    (case x1b => k_is)
    (case x1c => k_is)
    (case x1d => k_is)
    (case x1e => k_is)
    (case x1f => k_is)
    (case x1g => k_is)
    (case x1h => k_is)
    (case x1i => k_is)
    (case x1j => k_is)
    (case x1k => k_exc)
    (case x2a => k_is)
    (case x2b => k_is)
    (case x2c => k_is)
    (case x2d => k_is)
    (case x2e => k_is)
    (case x2f => k_is)
    (case x2g => k_is)
    (case x2h => k_is)
    (case x2i => k_is)
    (case x2j => k_is)
    (case x2k => k_exc)
    (case x3a => k_is)
    (case x3b => k_is)
    (case x3c => k_is)
    (case x3d => k_is)
    (case x3e => k_is)
    (case x3f => k_is)
    (case x3g => k_is)
    (case x3h => k_is)
    (case x3i => k_is)
    (case x3j => k_is)
    (case x4a => k_is)
    (case x4b => k_is)
    (case x4c => k_is)
    (case x4d => k_is)
    (case x4e => k_is)
    (case x4f => k_is)
    (case x4g => k_is)
    (case x4h => k_is)
    (case x4i => k_is)
    (case x4j => k_is)
    (case x4k => k_exc)
    (case x5a => k_is)
    (case x5b => k_is)
    (case x5c => k_is)
    (case x5d => k_is)
    (case x5e => k_is)
    (case x5f => k_is)
    (case x5g => k_is)
    (case x5h => k_is)
    (case x5i => k_is)
    (case x5j => k_is)
    (case x5k => k_exc)
    (case w0_0 => k_is)
    (case w0_1 => k_is)
    (case w0_2 => k_is)
    (case w0_3 => k_is)
    (case w0_4 => k_is)
    (case w0_5 => k_is)
    (case w1_0 => k_is)
    (case w1_1 => k_is)
    (case w1_2 => k_is)
    (case w1_3 => k_is)
    (case w1_4 => k_is)
    (case w1_5 => k_is)
    (case w2_0 => k_is)
    (case w2_1 => k_is)
    (case w2_2 => k_is)
    (case w2_3 => k_is)
    (case w2_4 => k_is)
    (case w2_5 => k_is)
    (case w3_0 => k_is)
    (case w3_1 => k_is)
    (case w3_2 => k_is)
    (case w3_3 => k_is)
    (case w3_4 => k_is)
    (case w3_5 => k_is)
    (case w4_0 => k_is)
    (case w4_1 => k_is)
    (case w4_2 => k_is)
    (case w4_3 => k_is)
    (case w4_4 => k_is)
    (case w4_5 => k_is)
    (case w5_0 => k_is)
    (case w5_1 => k_is)
    (case w5_2 => k_is)
    (case w5_3 => k_is)
    (case w5_4 => k_is)
    (case w5_5 => k_is)
    (case z0 => k_is)
    (case z1 => k_is)
    (case z2 => k_is)
    (case z3 => k_is)
    (case z4 => k_is)
    (case z5 => k_is)
    (case z6 => k_is)
    (case z7 => k_is)
    (case z8 => k_is)
    (case z9 => k_is)
    (case z10 => k_is)
    (case z11 => k_is)
    (case z12 => k_is)
    (case z13 => k_is)
    (case z14 => k_is)
    (case z15 => k_is)
    (case z16 => k_is)

