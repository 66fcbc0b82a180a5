import PyProof.Rows.All
import Wide.All
import OpenK.AllK
import Wide.FinOn
import HandS.ForMost
import HandS.Wide
import HandS.Zip
import HandS.SortInts
import HandS.SortRule
import HandS.Deep
import HandS.IsInst
import HandS.Conv
import KE.DataMinMax
import HandS.More
import HandS.Codes
import PySem.Challenge.RW_middleweb_k03_lines_grids_cubes_trees
set_option Elab.async false
set_option linter.all false
set_option maxRecDepth 100000
/-! DL0: a small core language over trees (D), and its interpreter. -/
namespace DL
open PySem L2

/-- how a list or dict is held: alone (own), for ever still (shr), still while a call lasts (bor); the script (scr) -/
inductive Mk where
  | own | shr | bor | scr
  deriving DecidableEq

inductive D where
  | non | bl (b : Bool) | int (i : Int) | str (x : Str)
  | lst (m : Mk) (xs : List D) | tup (xs : List D)
  | dK (m : Mk) (ks : List Key) (vs : List D) | dT (m : Mk) (ks : List (List Key)) (vs : List D)

mutual
def D.nown : D → Bool
  | .lst m xs => (m != .own) && D.nownL xs
  | .tup xs => D.nownL xs
  | .dK m _ xs => (m != .own) && D.nownL xs
  | .dT m _ xs => (m != .own) && D.nownL xs
  | _ => true
def D.nownL : List D → Bool
  | [] => true
  | x :: xs => D.nown x && D.nownL xs
end
mutual
def D.nobor : D → Bool
  | .lst m xs => (m != .bor) && D.noborL xs
  | .tup xs => D.noborL xs
  | .dK m _ xs => (m != .bor) && D.noborL xs
  | .dT m _ xs => (m != .bor) && D.noborL xs
  | _ => true
def D.noborL : List D → Bool
  | [] => true
  | x :: xs => D.nobor x && D.noborL xs
end
/-- own marks turned to k -/
def Mk.to (k : Mk) : Mk → Mk
  | .own => k
  | m => m
mutual
def D.to (k : Mk) : D → D
  | .lst m xs => .lst (k.to m) (D.toL k xs)
  | .tup xs => .tup (D.toL k xs)
  | .dK m ks xs => .dK (k.to m) ks (D.toL k xs)
  | .dT m ks xs => .dT (k.to m) ks (D.toL k xs)
  | .non => .non
  | .bl b => .bl b
  | .int i => .int i
  | .str x => .str x
def D.toL (k : Mk) : List D → List D
  | [] => []
  | x :: xs => D.to k x :: D.toL k xs
end
abbrev D.frz (d : D) : D := d.to .shr
abbrev D.view (d : D) : D := d.to .bor

mutual
/-- as plain data (dicts: none) -/
def D.py : D → PyData
  | .non => .none
  | .bl b => .bool b
  | .int i => .int i
  | .str x => .str x
  | .lst _ xs => .list (D.pyL xs)
  | .tup xs => .tuple (D.pyL xs)
  | .dK _ _ _ => .dict []
  | .dT _ _ _ => .dict []
def D.pyL : List D → List PyData
  | [] => []
  | x :: xs => D.py x :: D.pyL xs
end
/-- shaped as the deep == asks -/
abbrev D.shp (d : D) : Bool := SeqAt.shaped d.py

inductive Prim where
  | add | sub | mul | mod | fdiv | pow | shl | shr | band | bor | bxor | neg
  | eq | ne | lt | le | gt | ge | isN | notN | inn | notIn
  | len | idx
  | list | tuple | sorted | sum | min1 | max1 | min2 | max2 | int1 | str1 | all | sortedSet
  | isinst (T : String)
  | get2
  deriving DecidableEq

def intOf : D → Option Int
  | .int i => some i
  | _ => none
def intsOf : List D → Option (List Int)
  | [] => some []
  | .int i :: r => (intsOf r).map (i :: ·)
  | _ :: _ => none
def pairsOf : List D → Option (List (Int × Int))
  | [] => some []
  | .tup [.int i, .int j] :: r => (pairsOf r).map ((i, j) :: ·)
  | _ :: _ => none
def blsOf : List D → Option (List Bool)
  | [] => some []
  | .bl i :: r => (blsOf r).map (i :: ·)
  | _ :: _ => none
def insI (x : Int) : List Int → List Int
  | [] => [x]
  | y :: r => if x ≤ y then x :: y :: r else y :: insI x r
def isort : List Int → List Int
  | [] => []
  | x :: r => insI x (isort r)
def leP (a b : Int × Int) : Bool := decide (a.1 < b.1) || (decide (a.1 = b.1) && decide (a.2 ≤ b.2))
def insP (x : Int × Int) : List (Int × Int) → List (Int × Int)
  | [] => [x]
  | y :: r => if leP x y then x :: y :: r else y :: insP x r
def psort : List (Int × Int) → List (Int × Int)
  | [] => []
  | x :: r => insP x (psort r)
def minI : List Int → Option Int
  | [] => none
  | x :: r => some (r.foldl (fun a b => if b < a then b else a) x)
def maxI : List Int → Option Int
  | [] => none
  | x :: r => some (r.foldl (fun a b => if b > a then b else a) x)
def keyOf : D → Option Key
  | .int i => some (.inl i)
  | .str x => some (.inr x)
  | _ => none
def keysOf : List D → Option (List Key)
  | [] => some []
  | x :: r => (keyOf x).bind fun k => (keysOf r).map (k :: ·)
def look {κ : Type} [DecidableEq κ] : List κ → List D → κ → Option D
  | k :: ks, v :: vs, x => if k = x then some v else look ks vs x
  | _, _, _ => none
def putV {κ : Type} [DecidableEq κ] : List κ → List D → κ → D → List D
  | k :: ks, v :: vs, x, d => (if k = x then d else v) :: putV ks vs x d
  | _, _, _, _ => []
def tyIs (T : String) : D → Bool
  | .non => T == "NoneType"
  | .bl _ => T == "bool" || T == "int"
  | .int _ => T == "int"
  | .str _ => T == "str"
  | .lst _ _ => T == "list"
  | .tup _ => T == "tuple"
  | .dK _ _ _ => T == "dict"
  | .dT _ _ _ => T == "dict"
/-- a copied item: nothing of it is held alone -/
def cpy (o : Option D) : Option D := match o with
  | some d => if d.nown then some d else none
  | none => none
def cutL {α : Type} (xs : List α) (lo hi : Option Int) : List α := (xs.drop (HT.sIx xs.length 0 lo)).take (HT.sIx xs.length xs.length hi - HT.sIx xs.length 0 lo)
abbrev okMul (i j : Int) : Bool := (decide (i.natAbs < 2 ^ 512) && decide (j.natAbs < 2 ^ 512)) 
def toStr (i : Int) : Str := toString i
def cutD (d : D) (lo hi : Option Int) : Option D := match d with
  | .lst _ xs => if D.nownL xs then some (.lst .own (cutL xs lo hi)) else none
  | .tup xs => if D.nownL xs && decide ((cutL xs lo hi).length ≠ xs.length) then some (.tup (cutL xs lo hi)) else none
  | _ => none
def partI (absent : Bool) (d : D) : Option (Option Int) := if absent then some none else match d with
  | .int i => some (some i)
  | _ => none

def p_add : List D → Option D
  | [.int i, .int j] => some (.int (i + j))
  | [.lst m xs, .lst n ys] => if D.nownL xs && D.nownL ys && decide (m ≠ .scr) && decide (n ≠ .scr) && decide (xs.length + ys.length ≤ sizeLine) then some (.lst .own (xs ++ ys)) else none
  | [.tup xs, .tup ys] => if D.nownL xs && D.nownL ys && decide (xs ≠ []) && decide (ys ≠ []) && decide (xs.length + ys.length ≤ sizeLine) then some (.tup (xs ++ ys)) else none
  | _ => none
def p_sub : List D → Option D
  | [.int i, .int j] => some (.int (i - j))
  | _ => none
def p_mul : List D → Option D
  | [.int i, .int j] => if okMul i j then some (.int (i * j)) else none
  | [.lst m xs, .int k] => if D.nownL xs && decide (m ≠ .scr) && decide (-(2 ^ 63) ≤ k) && decide (k < 2 ^ 63) && decide (xs.length * k.toNat ≤ sizeLine) then some (.lst .own (List.replicate k.toNat xs).flatten) else none
  | _ => none
def p_mod : List D → Option D
  | [.int i, .int j] => if 0 < j then some (.int (i % j)) else none
  | _ => none
def p_fdiv : List D → Option D
  | [.int i, .int j] => if 0 < j ∧ j < 1073741824 then some (.int (i / j)) else none
  | _ => none
def p_pow : List D → Option D
  | [.int i, .int j] => if i.natAbs < 2 ^ 64 ∧ 0 ≤ j ∧ j ≤ 1000000 then some (.int (i ^ j.toNat)) else none
  | _ => none
def p_shl : List D → Option D
  | [.int i, .int j] => if i.natAbs < 2 ^ 64 ∧ 0 ≤ j ∧ j ≤ 1000000 then some (.int (i * 2 ^ j.toNat)) else none
  | _ => none
def p_shr : List D → Option D
  | [.int i, .int j] => if 0 ≤ j then some (.int (i / 2 ^ j.toNat)) else none
  | _ => none
def p_band : List D → Option D
  | [.int i, .int j] => some (.int (Builtin.bitAnd i j))
  | _ => none
def p_bor : List D → Option D
  | [.int i, .int j] => some (.int (Builtin.bitOr i j))
  | _ => none
def p_bxor : List D → Option D
  | [.int i, .int j] => some (.int (Builtin.bitXor i j))
  | _ => none
def p_neg : List D → Option D
  | [.int i] => some (.int (-i))
  | _ => none
def p_eq : List D → Option D
  | [a, b] => if a.shp && b.shp then some (.bl (PyData.eqv a.py b.py)) else none
  | _ => none
def p_ne : List D → Option D
  | [a, b] => if a.shp && b.shp then some (.bl (!PyData.eqv a.py b.py)) else none
  | _ => none
def p_lt : List D → Option D
  | [.int i, .int j] => some (.bl (decide (i < j)))
  | _ => none
def p_le : List D → Option D
  | [.int i, .int j] => some (.bl (decide (i ≤ j)))
  | _ => none
def p_gt : List D → Option D
  | [.int i, .int j] => some (.bl (decide (j < i)))
  | _ => none
def p_ge : List D → Option D
  | [.int i, .int j] => some (.bl (decide (j ≤ i)))
  | _ => none
def isNonD : D → Bool
  | .non => true
  | _ => false
def p_isN : List D → Option D
  | [a] => some (.bl (isNonD a))
  | _ => none
def p_notN : List D → Option D
  | [a] => some (.bl (!isNonD a))
  | _ => none
def p_inn : List D → Option D
  | [a, .lst m xs] => if a.shp && (D.lst m xs).shp then some (.bl ((D.pyL xs).any fun z => PyData.eqv z a.py)) else none
  | [a, .dK _ ks _] => (keyOf a).map fun k => .bl ((ks.any fun x => decide (x = k)))
  | [.tup as, .dT _ ks _] => (keysOf as).map fun k => .bl ((ks.any fun x => decide (x = k)))
  | _ => none
def p_notIn : List D → Option D
  | [a, .lst m xs] => if a.shp && (D.lst m xs).shp then some (.bl (!(D.pyL xs).any fun z => PyData.eqv z a.py)) else none
  | [a, .dK _ ks _] => (keyOf a).map fun k => .bl (!(ks.any fun x => decide (x = k)))
  | [.tup as, .dT _ ks _] => (keysOf as).map fun k => .bl (!(ks.any fun x => decide (x = k)))
  | _ => none
def p_len : List D → Option D
  | [.lst _ xs] => some (.int xs.length)
  | [.tup xs] => some (.int xs.length)
  | _ => none
def p_idx : List D → Option D
  | [.lst _ xs, .int k] => cpy (atI xs k)
  | [.tup xs, .int k] => cpy (atI xs k)
  | [.dK _ ks vs, k] => (keyOf k).bind fun k => cpy (look ks vs k)
  | [.dT _ ks vs, .tup as] => (keysOf as).bind fun k => cpy (look ks vs k)
  | _ => none
def p_list : List D → Option D
  | [.lst _ xs] => if D.nownL xs then some (.lst .own xs) else none
  | [.tup xs] => if D.nownL xs then some (.lst .own xs) else none
  | [.dK .own ks _] => some (.lst .own (ks.map fun k => match k with | .inl i => .int i | .inr x => .str x))
  | _ => none
def p_tuple : List D → Option D
  | [.lst _ xs] => if D.nownL xs then some (.tup xs) else none
  | [.tup xs] => if D.nownL xs then some (.tup xs) else none
  | _ => none
def p_sorted : List D → Option D
  | [.lst _ xs] => match intsOf xs with
    | some is => some (.lst .own ((isort is).map D.int))
    | none => (pairsOf xs).map fun ps => .lst .own ((psort ps).map fun p => .tup [.int p.1, .int p.2])
  | _ => none
def p_sum : List D → Option D
  | [.lst _ xs] => (intsOf xs).map fun is => .int is.sum
  | _ => none
def p_min1 : List D → Option D
  | [.lst _ xs] => (intsOf xs).bind fun is => (minI is).map .int
  | [.tup xs] => (intsOf xs).bind fun is => (minI is).map .int
  | _ => none
def p_max1 : List D → Option D
  | [.lst _ xs] => (intsOf xs).bind fun is => (maxI is).map .int
  | [.tup xs] => (intsOf xs).bind fun is => (maxI is).map .int
  | _ => none
def p_min2 : List D → Option D
  | [.int i, .int j] => some (.int (if j < i then j else i))
  | _ => none
def p_max2 : List D → Option D
  | [.int i, .int j] => some (.int (if j > i then j else i))
  | _ => none
def p_int1 : List D → Option D
  | [.int i] => some (.int i)
  | [.bl b] => some (.int (if b then 1 else 0))
  | _ => none
def p_all : List D → Option D
  | [.lst _ xs] => (blsOf xs).map fun bs => .bl (bs.all id)
  | _ => none
def p_isinst (T : String) : List D → Option D
  | [.lst .scr _] => none
  | [d] => some (.bl (tyIs T d))
  | _ => none
def pr : Prim → List D → Option D
  | .add => p_add
  | .sub => p_sub
  | .mul => p_mul
  | .mod => p_mod
  | .fdiv => p_fdiv
  | .pow => p_pow
  | .shl => p_shl
  | .shr => p_shr
  | .band => p_band
  | .bor => p_bor
  | .bxor => p_bxor
  | .neg => p_neg
  | .eq => p_eq
  | .ne => p_ne
  | .lt => p_lt
  | .le => p_le
  | .gt => p_gt
  | .ge => p_ge
  | .isN => p_isN
  | .notN => p_notN
  | .inn => p_inn
  | .notIn => p_notIn
  | .len => p_len
  | .idx => p_idx
  | .list => p_list
  | .tuple => p_tuple
  | .sorted => p_sorted
  | .sum => p_sum
  | .min1 => p_min1
  | .max1 => p_max1
  | .min2 => p_min2
  | .max2 => p_max2
  | .int1 => p_int1
  | .all => p_all
  | .isinst T => p_isinst T
  | _ => fun _ => none
abbrev DSt := List (Option D)
def getS (s : DSt) (i : Nat) : Option D := match s[i]? with
  | some (some d) => some d
  | _ => none
/-- value, then the rest -/
def bnd {α β : Type} (x : Option (α × DSt)) (f : α → DSt → Option β) : Option β := match x with
  | some (a, s) => f a s
  | none => none
def onB {β : Type} (d : D) (f : Bool → Option β) : Option β := match d with
  | .bl b => f b
  | _ => none

inductive Tg where
  | n (i : Nat)
  | t (gs : List Tg)

/-- what is read without any effect -/
inductive Qo where
  | v (i : Nat) | n (k : Int) | ix (a b : Qo) | add (a b : Qo) | sub (a b : Qo)
mutual
inductive CE where
  | v (i : Nat) | vf (i : Nat) | vt (i : Nat)
  | n (i : Int) | b (x : Bool) | non | s (x : Str) | g (x : Str)
  | p (q : Prim) (as : Os)
  | not (a : CE) | and (a b : CE) | or (a b : CE)
  | chain (p q : Prim) (a b c : CE)
  | sl (o : Option Nat) (a l h : CE)
  | lst (as : Os) | tup (as : Os) | dnew (t : Bool)
  | call (f : Str) (as : Os)
  | comp (w : List Nat) (t : Tg) (it : It) (c : CE) (e : CE)
/-- operands: an expression, a slot looked at, a quiet reading (q), a slot lent (l) -/
inductive Os where
  | nil | e (a : CE) (r : Os) | v (i : Nat) (r : Os) | q (o : Qo) (r : Os) | l (i : Nat) (r : Os)
inductive It where
  | e (a : CE) | s (i : Nat) | r1 (a : CE) | r2 (a b : CE) | zip (a b : CE) | enum (a : CE)
end

/-- a list's own methods -/
inductive Mu where
  | append | insert | extend | clear | reverse
  deriving DecidableEq
inductive CS where
  | asg (t : Tg) (e : CE)
  | par (i j : Nat) (as : Os)
  | setI (i : Nat) (k : CE) (e : CE)
  | setI2 (i : Nat) (p : Qo) (k : Qo) (e : CE)
  | mut (m : Mu) (i : Nat) (as : Os)
  | mut2 (m : Mu) (i : Nat) (p : Qo) (as : Os)
  | expr (e : CE)
  | ite (c : CE) (a b : List CS)
  | for (t : Tg) (it : It) (body : List CS)
  | while (fuel : Nat) (c : CE) (body : List CS)
  | ret (e : CE)
  | retN
  | pass
  | never

abbrev FT := Str → List D → Option (D × List (Option D))

mutual
def asgT : Tg → D → DSt → Option DSt
  | .n i, d, s => if i < s.length then some (s.set i (some d)) else none
  | .t gs, d, s => match d with
    | .tup xs => asgTs gs xs s
    | _ => none
def asgTs : List Tg → List D → DSt → Option DSt
  | [], [], s => some s
  | g :: gs, d :: ds, s => match asgT g d s with
    | some s' => asgTs gs ds s'
    | none => none
  | _, _, _ => none
end
def wipeD : DSt → List Nat → DSt
  | s, [] => s
  | s, v :: vs => (wipeD s vs).set v none
/-- the slots of vs as they are in s0 (copies), the others as in s -/
def backL (s0 s : DSt) : List Nat → DSt
  | [] => s
  | v :: vs => (backL s0 s vs).set v ((getS s0 v).bind fun d => if d.nown then some d else none)
def backD (s0 s : DSt) (vs : List Nat) : DSt := backL s0 (wipeD s vs) vs

def zipT : List D → List D → List D
  | x :: xs, y :: ys => .tup [x, y] :: zipT xs ys
  | _, _ => []
def enumT : Nat → List D → List D
  | _, [] => []
  | n, x :: xs => .tup [.int n, x] :: enumT (n + 1) xs
def rng (a : Int) : Nat → List D
  | 0 => []
  | n + 1 => .int a :: rng (a + 1) n

/-- [elt | if cond] over the items, each turn from wiped slots -/
def loopC (w : List Nat) (t : Tg) (c e : DSt → Option (D × DSt)) : List D → List D → DSt → Option (List D × DSt)
  | [], acc, s => some (acc, s)
  | x :: xs, acc, s => match asgT t x (wipeD s w) with
    | none => none
    | some s1 => bnd (c s1) fun b s2 => onB b fun b => if b then bnd (e s2) fun y s3 => loopC w t c e xs (acc ++ [y]) s3 else loopC w t c e xs acc s2

inductive Fl where
  | nx | rt (d : D)
def loopF (t : Tg) (body : DSt → Option (Fl × DSt)) : List D → DSt → Option (Fl × DSt)
  | [], s => some (.nx, s)
  | x :: xs, s => match asgT t x s with
    | none => none
    | some s1 => bnd (body s1) fun f s2 => match f with
      | .nx => loopF t body xs s2
      | .rt d => some (.rt d, s2)
def loopW (c : DSt → Option (D × DSt)) (body : DSt → Option (Fl × DSt)) : Nat → DSt → Option (Fl × DSt)
  | 0, _ => none
  | n + 1, s => bnd (c s) fun b s1 => onB b fun b => if b then bnd (body s1) fun f s2 => match f with
      | .nx => loopW c body n s2
      | .rt d => some (.rt d, s2)
    else some (.nx, s1)

/-- items of a walked thing -/
def itemsOf : D → Option (List D)
  | .lst _ xs => if D.nownL xs then some xs else none
  | .tup xs => if D.nownL xs then some xs else none
  | _ => none
def listOf : D → Option (List D)
  | .lst _ xs => if D.nownL xs then some xs else none
  | _ => none

def lendA : Os → DSt → Option DSt
  | .nil, s => some s
  | .e _ r, s => lendA r s
  | .v _ r, s => lendA r s
  | .l i r, s => match getS s i with
    | some _ => lendA r (s.set i none)
    | none => none
  | .q _ _, _ => none
def fillA : Os → List D → DSt → DSt → Option (List D)
  | .nil, [], _, _ => some []
  | .e _ r, d :: ds, s1, s2 => (fillA r ds s1 s2).map (d :: ·)
  | .v i r, _ :: ds, s1, s2 => match getS s2 i with
    | some d => (fillA r ds s1 s2).map (d.view :: ·)
    | none => none
  | .l i r, _ :: ds, s1, s2 => match getS s1 i with
    | some d => (fillA r ds s1 s2).map (d :: ·)
    | none => none
  | _, _, _, _ => none
def restA : Os → List (Option D) → DSt → Option DSt
  | .nil, [], s => some s
  | .e _ r, _ :: os, s => restA r os s
  | .v _ r, _ :: os, s => restA r os s
  | .l i r, o :: os, s => restA r os (s.set i o)
  | _, _, _ => none
/-- behind the walk: a slot that was walked gets its tree back -/
def endT : It → DSt → DSt → DSt
  | .s i, s0, s => s.set i (getS s0 i)
  | _, _, s => s
def isNonC : CE → Bool
  | .non => true
  | _ => false
def itemAt : D → D → Option D
  | .lst _ xs, .int k => atI xs k
  | .tup xs, .int k => atI xs k
  | _, _ => none
def iQ : Qo → DSt → Option D
  | .v i, s => getS s i
  | .n k, _ => some (.int k)
  | .ix a b, s => match iQ a s, iQ b s with
    | some x, some y => itemAt x y
    | _, _ => none
  | .add a b, s => match iQ a s, iQ b s with
    | some (.int x), some (.int y) => some (.int (x + y))
    | _, _ => none
  | .sub a b, s => match iQ a s, iQ b s with
    | some (.int x), some (.int y) => some (.int (x - y))
    | _, _ => none
def quietO : Os → Bool
  | .nil => true
  | .v _ r => quietO r
  | .q _ r => quietO r
  | _ => false
section
variable (F : FT) (G : Str → Option D)
mutual
def iE : CE → DSt → Option (D × DSt)
  | .v i, s => match getS s i with
    | some d => if d.nown then some (d, s) else none
    | none => none
  | .vf i, s => match getS s i with
    | some d => some (d.frz, s.set i (some d.frz))
    | none => none
  | .vt i, s => match getS s i with
    | some d => some (d, s.set i none)
    | none => none
  | .n k, s => some (.int k, s)
  | .b x, s => some (.bl x, s)
  | .non, s => some (.non, s)
  | .s x, s => some (.str x, s)
  | .g x, s => match G x with
    | some d => some (d, s)
    | none => none
  | .p q as, s => bnd (iO as s) fun ds s1 => match pr q ds with
    | some d => some (d, s1)
    | none => none
  | .not a, s => bnd (iE a s) fun d s1 => onB d fun b => some (.bl (!b), s1)
  | .and a b, s => bnd (iE a s) fun d s1 => onB d fun x => if x then iE b s1 else some (.bl false, s1)
  | .or a b, s => bnd (iE a s) fun d s1 => onB d fun x => if x then some (.bl true, s1) else iE b s1
  | .chain p q a b c, s => bnd (iE a s) fun x s1 => bnd (iE b s1) fun y s2 => match pr p [x, y] with
    | some (.bl k) => if k then bnd (iE c s2) fun z s3 => match pr q [y, z] with
        | some (.bl k) => some (.bl k, s3)
        | _ => none
      else some (.bl false, s2)
    | _ => none
  | .sl o a l h, s => match o with
    | none => bnd (iE a s) fun d s1 => bnd (if isNonC l then some (D.non, s1) else iE l s1) fun x s2 => bnd (if isNonC h then some (D.non, s2) else iE h s2) fun y s3 =>
      match partI (isNonC l) x, partI (isNonC h) y with
      | some lo, some hi => (cutD d.frz lo hi).map fun r => (r, s3)
      | _, _ => none
    | some i => match getS s i with
      | none => none
      | some _ => bnd (if isNonC l then some (D.non, s) else iE l s) fun x s2 => bnd (if isNonC h then some (D.non, s2) else iE h s2) fun y s3 =>
        match getS s3 i, partI (isNonC l) x, partI (isNonC h) y with
        | some d, some lo, some hi => (cutD d lo hi).map fun r => (r, s3)
        | _, _, _ => none
  | .lst as, s => bnd (iX as s) fun ds s1 => if ds.length ≤ sizeLine then some (.lst .own ds, s1) else none
  | .tup as, s => bnd (iX as s) fun ds s1 => if ds.length ≤ sizeLine then some (.tup ds, s1) else none
  | .dnew t, s => some (if t then .dT .own [] [] else .dK .own [] [], s)
  | .call f as, s => bnd (iA as s) fun ds s1 => match lendA as s1 with
    | none => none
    | some s2 => match fillA as ds s1 s2 with
      | none => none
      | some ds => match F f ds with
        | none => none
        | some (d, outs) => match restA as outs s2 with
          | none => none
          | some s3 => some (d, s3)
  | .comp w t it c e, s => bnd (iT it s) fun xs s1 => if xs.length ≤ sizeLine then bnd (loopC w t (iE c) (iE e) xs [] s1) fun ys s2 =>
      some (.lst .own ys, endT it s (backD s1 s2 w)) else none
/-- operands: temporaries (frozen) first, in order; then the slots as they stand -/
def iO : Os → DSt → Option (List D × DSt)
  | .nil, s => some ([], s)
  | .e a r, s => bnd (iE a s) fun d s1 => bnd (iO r s1) fun ds s2 => some (d.frz :: ds, s2)
  | .v i r, s => match getS s i with
    | none => none
    | some _ => bnd (iO r s) fun ds s1 => match getS s1 i with
      | some d => some (d :: ds, s1)
      | none => none
  | .q o r, s => match iQ o s with
    | some d => if d.nown || quietO r then bnd (iO r s) fun ds s1 => some (d :: ds, s1) else none
    | none => none
  | .l _ _, _ => none
/-- items of a display: kept as they come -/
def iX : Os → DSt → Option (List D × DSt)
  | .nil, s => some ([], s)
  | .e a r, s => bnd (iE a s) fun d s1 => bnd (iX r s1) fun ds s2 => some (d :: ds, s2)
  | .q o r, s => match iQ o s with
    | some d => if d.nown then bnd (iX r s) fun ds s1 => some (d :: ds, s1) else none
    | none => none
  | _, _ => none
/-- arguments' expressions (a slot: a place is kept) -/
def iA : Os → DSt → Option (List D × DSt)
  | .nil, s => some ([], s)
  | .e a r, s => bnd (iE a s) fun d s1 => bnd (iA r s1) fun ds s2 => some (d :: ds, s2)
  | .v i r, s => match getS s i with
    | none => none
    | some _ => bnd (iA r s) fun ds s1 => some (.non :: ds, s1)
  | .l i r, s => match getS s i with
    | none => none
    | some _ => bnd (iA r s) fun ds s1 => some (.non :: ds, s1)
  | .q _ _, _ => none
def iT : It → DSt → Option (List D × DSt)
  | .e a, s => bnd (iE a s) fun d s1 => match itemsOf d.frz with
    | some xs => some (xs, s1)
    | none => none
  | .s i, s => match getS s i with
    | some d => match itemsOf d with
      | some xs => some (xs, s.set i none)
      | none => none
    | none => none
  | .r1 a, s => bnd (iE a s) fun d s1 => match d with
    | .int j => if -(2 ^ 62) ≤ j ∧ j < 2 ^ 62 then some (rng 0 j.toNat, s1) else none
    | _ => none
  | .r2 a b, s => bnd (iE a s) fun d s1 => bnd (iE b s1) fun e s2 => match d, e with
    | .int i, .int j => if (-(2 ^ 62) ≤ i ∧ i < 2 ^ 62) ∧ -(2 ^ 62) ≤ j ∧ j < 2 ^ 62 then some (rng i (j - i).toNat, s2) else none
    | _, _ => none
  | .zip a b, s => bnd (iE a s) fun d s1 => bnd (iE b s1) fun e s2 => match listOf d.frz, listOf e.frz with
    | some xs, some ys => some (zipT xs ys, s2)
    | _, _ => none
  | .enum a, s => bnd (iE a s) fun d s1 => match listOf d.frz with
    | some xs => some (enumT 0 xs, s1)
    | none => none
end

/-- an item of a list that is held alone in a slot -/
def item2 (s : DSt) (i : Nat) (p : Qo) : Option (List D × Nat × D) := match getS s i, iQ p s with
  | some (.lst .own xs), some (.int k) => (ixN xs.length k).bind fun j => xs[j]?.map fun d => (xs, j, d)
  | _, _ => none
def setItem (c k d : D) : Option D := match c with
  | .lst .own xs => (match k with
    | .int k => (ixN xs.length k).map fun j => .lst .own (xs.set j d)
    | _ => none)
  | .dK .own ks vs => (keyOf k).bind fun k => if d.nown = true ∧ D.nownL vs = true ∧ ks.length < sizeLine then (if ks.any fun x => decide (x = k) then some (.dK .own ks (putV ks vs k d)) else some (.dK .own (ks ++ [k]) (vs ++ [d]))) else none
  | .dT .own ks vs => (match k with
    | .tup as => (keysOf as).bind fun k => if d.nown = true ∧ D.nownL vs = true ∧ ks.length < sizeLine then (if ks.any fun x => decide (x = k) then some (.dT .own ks (putV ks vs k d)) else some (.dT .own (ks ++ [k]) (vs ++ [d]))) else none
    | _ => none)
  | _ => none
def mutL : Mu → List D → List D → Option (List D)
  | .append, xs, [d] => if xs.length < sizeLine then some (xs ++ [d]) else none
  | .insert, xs, [.int i, d] => if xs.length < sizeLine ∧ 0 ≤ i ∧ i < 2 ^ 63 then some (xs.take i.toNat ++ [d] ++ xs.drop i.toNat) else none
  | .extend, xs, [.lst .own ys] => if xs.length + ys.length ≤ sizeLine then some (xs ++ ys) else none
  | .clear, _, [] => some []
  | .reverse, xs, [] => some xs.reverse
  | _, _, _ => none
mutual
def iS : CS → DSt → Option (Fl × DSt)
  | .asg t e, s => bnd (iE F G e s) fun d s1 => (asgT t d s1).map fun s2 => (.nx, s2)
  | .par i j as, s => bnd (iX F G as s) fun ds s1 => match ds with
    | [x, y] => if i < s1.length ∧ j < s1.length then some (.nx, (s1.set i (some x)).set j (some y)) else none
    | _ => none
  | .setI i k e, s => bnd (iE F G e s) fun d s1 => match getS s1 i with
    | none => none
    | some _ => bnd (iE F G k s1) fun k s2 => match getS s2 i with
      | none => none
      | some c => (setItem c k d).map fun c => (.nx, s2.set i (some c))
  | .setI2 i p k e, s => bnd (iE F G e s) fun d s1 => match item2 s1 i p, iQ k s1 with
    | some (xs, j, c), some k => (setItem c k d).map fun c => (.nx, s1.set i (some (.lst .own (xs.set j c))))
    | _, _ => none
  | .mut m i as, s => match getS s i with
    | some (.lst .own _) => bnd (iX F G as s) fun ds s1 => match getS s1 i with
      | some (.lst .own xs) => (mutL m xs ds).map fun xs => (.nx, s1.set i (some (.lst .own xs)))
      | _ => none
    | _ => none
  | .mut2 m i p as, s => if quietO as then bnd (iX F G as s) fun ds s1 => match item2 s1 i p with
    | some (xs, j, .lst .own ys) => (mutL m ys ds).map fun ys => (.nx, s1.set i (some (.lst .own (xs.set j (.lst .own ys)))))
    | _ => none else none
  | .expr e, s => bnd (iE F G e s) fun _ s1 => some (.nx, s1)
  | .ite c a b, s => bnd (iE F G c s) fun d s1 => onB d fun k => if k then iSs a s1 else iSs b s1
  | .for t it body, s => bnd (iT F G it s) fun xs s1 => bnd (loopF t (iSs body) xs s1) fun f s2 => match f with
    | .nx => some (.nx, endT it s s2)
    | .rt d => some (.rt d, endT it s s2)
  | .while n c body, s => loopW (iE F G c) (iSs body) n s
  | .ret e, s => bnd (iE F G e s) fun d s1 => some (.rt d, s1)
  | .retN, s => some (.rt .non, s)
  | .pass, s => some (.nx, s)
  | .never, _ => none
def iSs : List CS → DSt → Option (Fl × DSt)
  | [], s => some (.nx, s)
  | c :: r, s => bnd (iS c s) fun f s1 => match f with
    | .nx => iSs r s1
    | .rt d => some (.rt d, s1)
end
end

/-- a def: how many parameters, how many slots, which parameters keep their slot, the body -/
structure FD where
  np : Nat
  ns : Nat
  keep : List Bool
  body : List CS
def outsOf : List Bool → DSt → List (Option D)
  | [], _ => []
  | k :: ks, o :: s => (if k then o.bind fun d => if d.nobor then some d else none else none) :: outsOf ks s
  | _ :: ks, [] => none :: outsOf ks []
def iF (F : FT) (G : Str → Option D) (f : FD) (as : List D) : Option (D × List (Option D)) :=
  if as.length = f.np then
    bnd (iSs F G f.body (as.map some ++ List.replicate (f.ns - f.np) none)) fun fl s => match fl with
      | .nx => some (.non, outsOf f.keep s)
      | .rt d => if d.nobor then some (d, outsOf f.keep s) else none
  else none
def fe (prog : Str → Option FD) (G : Str → Option D) : Nat → FT
  | 0 => fun _ _ => none
  | n + 1 => fun f as => match prog f with
    | some fd => iF (fe prog G n) G fd as
    | none => none
end DL
set_option Elab.async false
set_option linter.all false
set_option maxRecDepth 100000
/-! DL1: trees over the abstract heap. -/
namespace DL
open PySem PySem.Spec PyProof.Rows L2

abbrev Cnt := Addr → Nat
def sing (a : Addr) : Cnt := fun b => if b = a then 1 else 0
theorem sing_self {a : Addr} : sing a a = 1 := by unfold sing; rw [if_pos rfl]
theorem sing_ne {a b : Addr} (h : b ≠ a) : sing a b = 0 := by unfold sing; rw [if_neg h]
theorem sing_pos {a b : Addr} (h : 1 ≤ sing a b) : b = a := by
  by_cases e : b = a
  · exact e
  · rw [sing_ne e] at h; omega

/-- the cell itself -/
def Cell (F B H : Hp) (m : Mk) (a : Addr) (u : HO) (O O1 : Cnt) : Prop := match m with
  | .own => H a = some u ∧ ∀ b, O b = O1 b + sing a b
  | .shr => F a = some u ∧ ∀ b, O b = O1 b
  | .bor => B a = some u ∧ ∀ b, O b = O1 b
  | .scr => False

section
variable (K : PySem.W.Frag) (F B H : Hp)
mutual
def Rep : D → V → Cnt → Prop
  | .non, v, O => v = .non ∧ ∀ a, O a = 0
  | .bl b, v, O => v = .bl b ∧ ∀ a, O a = 0
  | .int i, v, O => v = .int i ∧ ∀ a, O a = 0
  | .str x, v, O => v = .str x ∧ ∀ a, O a = 0
  | .lst m xs, v, O => ∃ a vs O1, v = .ref a ∧ Reps xs vs O1 ∧ (Cell F B H m a (.lst vs) O O1 ∨ (m = .scr ∧ SqL K F a vs ∧ ∀ b, O b = O1 b))
  | .tup xs, v, O => ∃ a vs, v = .ref a ∧ F a = some (.tup vs) ∧ Reps xs vs O
  | .dK m ks ds, v, O => ∃ a vs O1, v = .ref a ∧ Reps ds vs O1 ∧ ks.length = vs.length ∧ Cell F B H m a (.dK (ks.zip vs)) O O1
  | .dT m ks ds, v, O => ∃ a vs O1, v = .ref a ∧ Reps ds vs O1 ∧ ks.length = vs.length ∧ Cell F B H m a (.dT (ks.zip vs)) O O1
def Reps : List D → List V → Cnt → Prop
  | [], vs, O => vs = [] ∧ ∀ a, O a = 0
  | d :: ds, vs, O => ∃ v vs' O1 O2, vs = v :: vs' ∧ Rep d v O1 ∧ Reps ds vs' O2 ∧ ∀ a, O a = O1 a + O2 a
end
def SRep : DSt → L2.St → Cnt → Prop
  | [], σ, O => σ = [] ∧ ∀ a, O a = 0
  | none :: st, σ, O => ∃ x σ', σ = x :: σ' ∧ SRep st σ' O
  | some d :: st, σ, O => ∃ v σ' O1 O2, σ = some v :: σ' ∧ Rep K F B H d v O1 ∧ SRep st σ' O2 ∧ ∀ a, O a = O1 a + O2 a
end

section
variable {K : PySem.W.Frag} {F B H F' B' H' : Hp}

theorem Cell.mono {m : Mk} {a : Addr} {u : HO} {O O1 : Cnt} (h : Cell F B H m a u O O1) (hF : Same F F') (hB : Same B B') (hH : ∀ a u, 1 ≤ O a → H a = some u → H' a = some u) : Cell F' B' H' m a u O O1 := by
  cases m with
  | own => exact ⟨hH a u (by rw [h.2 a, sing_self]; omega) h.1, h.2⟩
  | shr => exact ⟨hF _ _ h.1, h.2⟩
  | bor => exact ⟨hB _ _ h.1, h.2⟩
  | scr => exact h
theorem Cell.le {m : Mk} {a : Addr} {u : HO} {O O1 : Cnt} (h : Cell F B H m a u O O1) (b : Addr) : O1 b ≤ O b := by
  cases m with
  | own => rw [h.2 b]; omega
  | shr => rw [h.2 b]; omega
  | bor => rw [h.2 b]; omega
  | scr => exact h.elim
mutual
theorem Rep.mono (hF : Same F F') (hB : Same B B') : ∀ (d : D) (v : V) (O : Cnt), Rep K F B H d v O → (∀ a u, 1 ≤ O a → H a = some u → H' a = some u) → Rep K F' B' H' d v O
  | .non, _, _, h, _ => by unfold Rep at h ⊢; exact h
  | .bl _, _, _, h, _ => by unfold Rep at h ⊢; exact h
  | .int _, _, _, h, _ => by unfold Rep at h ⊢; exact h
  | .str _, _, _, h, _ => by unfold Rep at h ⊢; exact h
  | .lst m xs, v, O, h, hH => by
    unfold Rep at h ⊢
    obtain ⟨a, vs, O1, e, hr, hc⟩ := h
    refine ⟨a, vs, O1, e, Reps.mono hF hB xs vs O1 hr fun b u hb => hH b u (Nat.le_trans hb ?_), ?_⟩
    · rcases hc with hc | ⟨_, _, hc⟩
      · exact hc.le b
      · rw [hc b]; omega
    · rcases hc with hc | ⟨em, hs, hc⟩
      · exact .inl (hc.mono hF hB hH)
      · exact .inr ⟨em, hF.seq hs, hc⟩
  | .tup xs, v, O, h, hH => by
    unfold Rep at h ⊢
    obtain ⟨a, vs, e, hc, hr⟩ := h
    exact ⟨a, vs, e, hF _ _ hc, Reps.mono hF hB xs vs O hr hH⟩
  | .dK m ks ds, v, O, h, hH => by
    unfold Rep at h ⊢
    obtain ⟨a, vs, O1, e, hr, hl, hc⟩ := h
    exact ⟨a, vs, O1, e, Reps.mono hF hB ds vs O1 hr fun b u hb => hH b u (Nat.le_trans hb (hc.le b)), hl, hc.mono hF hB hH⟩
  | .dT m ks ds, v, O, h, hH => by
    unfold Rep at h ⊢
    obtain ⟨a, vs, O1, e, hr, hl, hc⟩ := h
    exact ⟨a, vs, O1, e, Reps.mono hF hB ds vs O1 hr fun b u hb => hH b u (Nat.le_trans hb (hc.le b)), hl, hc.mono hF hB hH⟩
theorem Reps.mono (hF : Same F F') (hB : Same B B') : ∀ (d : List D) (v : List V) (O : Cnt), Reps K F B H d v O → (∀ a u, 1 ≤ O a → H a = some u → H' a = some u) → Reps K F' B' H' d v O
  | [], _, _, h, _ => by unfold Reps at h ⊢; exact h
  | d :: ds, vs, O, h, hH => by
    unfold Reps at h ⊢
    obtain ⟨v, vs', O1, O2, e, h1, h2, ho⟩ := h
    exact ⟨v, vs', O1, O2, e, Rep.mono hF hB d v O1 h1 fun b u hb => hH b u (by rw [ho b]; omega), Reps.mono hF hB ds vs' O2 h2 fun b u hb => hH b u (by rw [ho b]; omega), ho⟩
end

theorem Rep.congr {d : D} {v : V} {O O' : Cnt} (h : Rep K F B H d v O) (he : ∀ a, O' a = O a) : Rep K F B H d v O' := by
  have e : O' = O := funext he
  rw [e]; exact h
theorem SRep.congr {st : DSt} {σ : L2.St} {O O' : Cnt} (h : SRep K F B H st σ O) (he : ∀ a, O' a = O a) : SRep K F B H st σ O' := by
  have e : O' = O := funext he
  rw [e]; exact h

/-- what is held alone is there, and may be written -/
def Alone (O : Cnt) (H : Hp) : Prop := ∀ a, 1 ≤ O a → ∃ u, H a = some u ∧ Mut (some u)
theorem Cell.trk {m : Mk} {a : Addr} {u : HO} {O O1 : Cnt} (h : Cell F B H m a u O O1) (h1 : Alone O1 H) (mu : Mut (some u)) : Alone O H := fun b hb => by
  cases m with
  | own =>
    rw [h.2 b] at hb
    by_cases e : b = a
    · rw [e]; exact ⟨u, h.1, mu⟩
    · rw [sing_ne e] at hb; exact h1 b (by omega)
  | shr => rw [h.2 b] at hb; exact h1 b hb
  | bor => rw [h.2 b] at hb; exact h1 b hb
  | scr => exact h.elim
mutual
theorem Rep.trk : ∀ (d : D) (v : V) (O : Cnt), Rep K F B H d v O → Alone O H
  | .non, _, _, h => by unfold Rep at h; intro a ha; rw [h.2 a] at ha; omega
  | .bl _, _, _, h => by unfold Rep at h; intro a ha; rw [h.2 a] at ha; omega
  | .int _, _, _, h => by unfold Rep at h; intro a ha; rw [h.2 a] at ha; omega
  | .str _, _, _, h => by unfold Rep at h; intro a ha; rw [h.2 a] at ha; omega
  | .lst m xs, v, O, h => by
    unfold Rep at h
    obtain ⟨a, vs, O1, e, hr, hc⟩ := h
    have t := Reps.trk xs vs O1 hr
    rcases hc with hc | ⟨_, _, hc⟩
    · exact hc.trk t True.intro
    · intro b hb; rw [hc b] at hb; exact t b hb
  | .tup xs, v, O, h => by
    unfold Rep at h
    obtain ⟨a, vs, e, hc, hr⟩ := h
    exact Reps.trk xs vs O hr
  | .dK m ks ds, v, O, h => by
    unfold Rep at h
    obtain ⟨a, vs, O1, e, hr, hl, hc⟩ := h
    exact hc.trk (Reps.trk ds vs O1 hr) True.intro
  | .dT m ks ds, v, O, h => by
    unfold Rep at h
    obtain ⟨a, vs, O1, e, hr, hl, hc⟩ := h
    exact hc.trk (Reps.trk ds vs O1 hr) True.intro
theorem Reps.trk : ∀ (d : List D) (v : List V) (O : Cnt), Reps K F B H d v O → Alone O H
  | [], _, _, h => by unfold Reps at h; intro a ha; rw [h.2 a] at ha; omega
  | d :: ds, vs, O, h => by
    unfold Reps at h
    obtain ⟨v, vs', O1, O2, e, h1, h2, ho⟩ := h
    intro b hb
    rw [ho b] at hb
    by_cases hz : 1 ≤ O1 b
    · exact Rep.trk d v O1 h1 b hz
    · exact Reps.trk ds vs' O2 h2 b (by omega)
end

theorem Cell.own0 {m : Mk} {a : Addr} {u : HO} {O O1 : Cnt} (h : Cell F B H m a u O O1) (hm : (m != .own) = true) (h1 : ∀ b, O1 b = 0) : ∀ b, O b = 0 := fun b => by
  cases m with
  | own => exact absurd hm (by decide)
  | shr => rw [h.2 b]; exact h1 b
  | bor => rw [h.2 b]; exact h1 b
  | scr => exact h.elim
mutual
theorem Rep.nown : ∀ (d : D) (v : V) (O : Cnt), Rep K F B H d v O → d.nown = true → ∀ a, O a = 0
  | .non, _, _, h, _ => by unfold Rep at h; exact h.2
  | .bl _, _, _, h, _ => by unfold Rep at h; exact h.2
  | .int _, _, _, h, _ => by unfold Rep at h; exact h.2
  | .str _, _, _, h, _ => by unfold Rep at h; exact h.2
  | .lst m xs, v, O, h, hn => by
    unfold Rep at h
    unfold D.nown at hn
    obtain ⟨a, vs, O1, e, hr, hc⟩ := h
    rw [Bool.and_eq_true] at hn
    have t := Reps.nown xs vs O1 hr hn.2
    rcases hc with hc | ⟨_, _, hc⟩
    · exact hc.own0 hn.1 t
    · intro b; rw [hc b]; exact t b
  | .tup xs, v, O, h, hn => by
    unfold Rep at h
    unfold D.nown at hn
    obtain ⟨a, vs, e, hc, hr⟩ := h
    exact Reps.nown xs vs O hr hn
  | .dK m ks ds, v, O, h, hn => by
    unfold Rep at h
    unfold D.nown at hn
    obtain ⟨a, vs, O1, e, hr, hl, hc⟩ := h
    rw [Bool.and_eq_true] at hn
    exact hc.own0 hn.1 (Reps.nown ds vs O1 hr hn.2)
  | .dT m ks ds, v, O, h, hn => by
    unfold Rep at h
    unfold D.nown at hn
    obtain ⟨a, vs, O1, e, hr, hl, hc⟩ := h
    rw [Bool.and_eq_true] at hn
    exact hc.own0 hn.1 (Reps.nown ds vs O1 hr hn.2)
theorem Reps.nown : ∀ (d : List D) (v : List V) (O : Cnt), Reps K F B H d v O → D.nownL d = true → ∀ a, O a = 0
  | [], _, _, h, _ => by unfold Reps at h; exact h.2
  | d :: ds, vs, O, h, hn => by
    unfold Reps at h
    unfold D.nownL at hn
    rw [Bool.and_eq_true] at hn
    obtain ⟨v, vs', O1, O2, e, h1, h2, ho⟩ := h
    intro b
    rw [ho b, Rep.nown d v O1 h1 hn.1 b, Reps.nown ds vs' O2 h2 hn.2 b]
end

/-- own marks turned to k, where the cells held alone stand in the region of k -/
theorem Cell.to {k m : Mk} {a : Addr} {u : HO} {O O1 : Cnt} (h : Cell F B H m a u O O1) (hF : Same F F') (hB : Same B B')
    (hk : (k = .shr ∧ ∀ a u, 1 ≤ O a → H a = some u → F' a = some u) ∨ (k = .bor ∧ ∀ a u, 1 ≤ O a → H a = some u → B' a = some u)) : Cell F' B' H' (k.to m) a u (fun _ => 0) (fun _ => 0) := by
  cases m with
  | own =>
    have o1 : 1 ≤ O a := by rw [h.2 a, sing_self]; omega
    rcases hk with ⟨rfl, hk⟩ | ⟨rfl, hk⟩
    · exact ⟨hk a u o1 h.1, fun _ => rfl⟩
    · exact ⟨hk a u o1 h.1, fun _ => rfl⟩
  | shr => exact ⟨hF _ _ h.1, fun _ => rfl⟩
  | bor => exact ⟨hB _ _ h.1, fun _ => rfl⟩
  | scr => exact h.elim
mutual
theorem Rep.to {k : Mk} (hF : Same F F') (hB : Same B B') : ∀ (d : D) (v : V) (O : Cnt), Rep K F B H d v O →
    ((k = .shr ∧ ∀ a u, 1 ≤ O a → H a = some u → F' a = some u) ∨ (k = .bor ∧ ∀ a u, 1 ≤ O a → H a = some u → B' a = some u)) → Rep K F' B' H' (d.to k) v (fun _ => 0)
  | .non, _, _, h, _ => by unfold Rep at h; unfold D.to; unfold Rep; exact ⟨h.1, fun _ => rfl⟩
  | .bl _, _, _, h, _ => by unfold Rep at h; unfold D.to; unfold Rep; exact ⟨h.1, fun _ => rfl⟩
  | .int _, _, _, h, _ => by unfold Rep at h; unfold D.to; unfold Rep; exact ⟨h.1, fun _ => rfl⟩
  | .str _, _, _, h, _ => by unfold Rep at h; unfold D.to; unfold Rep; exact ⟨h.1, fun _ => rfl⟩
  | .lst m xs, v, O, h, hk => by
    unfold Rep at h
    unfold D.to; unfold Rep
    obtain ⟨a, vs, O1, e, hr, hc⟩ := h
    have le : ∀ b, O1 b ≤ O b := fun b => by
      rcases hc with hc | ⟨_, _, hc⟩
      · exact hc.le b
      · rw [hc b]; omega
    refine ⟨a, vs, fun _ => 0, e, Reps.to hF hB xs vs O1 hr ?_, ?_⟩
    · rcases hk with ⟨e1, hk⟩ | ⟨e1, hk⟩
      · exact .inl ⟨e1, fun b u hb => hk b u (Nat.le_trans hb (le b))⟩
      · exact .inr ⟨e1, fun b u hb => hk b u (Nat.le_trans hb (le b))⟩
    · rcases hc with hc | ⟨em, hs, hc⟩
      · exact .inl (hc.to hF hB hk)
      · subst em; exact .inr ⟨rfl, hF.seq hs, fun _ => rfl⟩
  | .tup xs, v, O, h, hk => by
    unfold Rep at h
    unfold D.to; unfold Rep
    obtain ⟨a, vs, e, hc, hr⟩ := h
    exact ⟨a, vs, e, hF _ _ hc, Reps.to hF hB xs vs O hr hk⟩
  | .dK m ks ds, v, O, h, hk => by
    unfold Rep at h
    unfold D.to; unfold Rep
    obtain ⟨a, vs, O1, e, hr, hl, hc⟩ := h
    refine ⟨a, vs, fun _ => 0, e, Reps.to hF hB ds vs O1 hr ?_, hl, hc.to hF hB hk⟩
    rcases hk with ⟨e1, hk⟩ | ⟨e1, hk⟩
    · exact .inl ⟨e1, fun b u hb => hk b u (Nat.le_trans hb (hc.le b))⟩
    · exact .inr ⟨e1, fun b u hb => hk b u (Nat.le_trans hb (hc.le b))⟩
  | .dT m ks ds, v, O, h, hk => by
    unfold Rep at h
    unfold D.to; unfold Rep
    obtain ⟨a, vs, O1, e, hr, hl, hc⟩ := h
    refine ⟨a, vs, fun _ => 0, e, Reps.to hF hB ds vs O1 hr ?_, hl, hc.to hF hB hk⟩
    rcases hk with ⟨e1, hk⟩ | ⟨e1, hk⟩
    · exact .inl ⟨e1, fun b u hb => hk b u (Nat.le_trans hb (hc.le b))⟩
    · exact .inr ⟨e1, fun b u hb => hk b u (Nat.le_trans hb (hc.le b))⟩
theorem Reps.to {k : Mk} (hF : Same F F') (hB : Same B B') : ∀ (d : List D) (v : List V) (O : Cnt), Reps K F B H d v O →
    ((k = .shr ∧ ∀ a u, 1 ≤ O a → H a = some u → F' a = some u) ∨ (k = .bor ∧ ∀ a u, 1 ≤ O a → H a = some u → B' a = some u)) → Reps K F' B' H' (D.toL k d) v (fun _ => 0)
  | [], _, _, h, _ => by unfold Reps at h; unfold D.toL; unfold Reps; exact ⟨h.1, fun _ => rfl⟩
  | d :: ds, vs, O, h, hk => by
    unfold Reps at h
    unfold D.toL; unfold Reps
    obtain ⟨v, vs', O1, O2, e, h1, h2, ho⟩ := h
    refine ⟨v, vs', fun _ => 0, fun _ => 0, e, Rep.to hF hB d v O1 h1 ?_, Reps.to hF hB ds vs' O2 h2 ?_, fun _ => rfl⟩
    · rcases hk with ⟨e1, hk⟩ | ⟨e1, hk⟩
      · exact .inl ⟨e1, fun b u hb => hk b u (by rw [ho b]; omega)⟩
      · exact .inr ⟨e1, fun b u hb => hk b u (by rw [ho b]; omega)⟩
    · rcases hk with ⟨e1, hk⟩ | ⟨e1, hk⟩
      · exact .inl ⟨e1, fun b u hb => hk b u (by rw [ho b]; omega)⟩
      · exact .inr ⟨e1, fun b u hb => hk b u (by rw [ho b]; omega)⟩
end
mutual
theorem Rep.nobor (hF : Same F F') : ∀ (d : D) (v : V) (O : Cnt), Rep K F B H d v O → d.nobor = true → Rep K F B' H d v O
  | .non, _, _, h, _ => by unfold Rep at h ⊢; exact h
  | .bl _, _, _, h, _ => by unfold Rep at h ⊢; exact h
  | .int _, _, _, h, _ => by unfold Rep at h ⊢; exact h
  | .str _, _, _, h, _ => by unfold Rep at h ⊢; exact h
  | .lst m xs, v, O, h, hn => by
    unfold Rep at h ⊢
    unfold D.nobor at hn
    rw [Bool.and_eq_true] at hn
    obtain ⟨a, vs, O1, e, hr, hc⟩ := h
    refine ⟨a, vs, O1, e, Reps.nobor hF xs vs O1 hr hn.2, ?_⟩
    rcases hc with hc | hc
    · refine .inl ?_
      cases m with
      | bor => exact absurd hn.1 (by decide)
      | own => exact hc
      | shr => exact hc
      | scr => exact hc
    · exact .inr hc
  | .tup xs, v, O, h, hn => by
    unfold Rep at h ⊢
    unfold D.nobor at hn
    obtain ⟨a, vs, e, hc, hr⟩ := h
    exact ⟨a, vs, e, hc, Reps.nobor hF xs vs O hr hn⟩
  | .dK m ks ds, v, O, h, hn => by
    unfold Rep at h ⊢
    unfold D.nobor at hn
    rw [Bool.and_eq_true] at hn
    obtain ⟨a, vs, O1, e, hr, hl, hc⟩ := h
    refine ⟨a, vs, O1, e, Reps.nobor hF ds vs O1 hr hn.2, hl, ?_⟩
    cases m with
    | bor => exact absurd hn.1 (by decide)
    | own => exact hc
    | shr => exact hc
    | scr => exact hc
  | .dT m ks ds, v, O, h, hn => by
    unfold Rep at h ⊢
    unfold D.nobor at hn
    rw [Bool.and_eq_true] at hn
    obtain ⟨a, vs, O1, e, hr, hl, hc⟩ := h
    refine ⟨a, vs, O1, e, Reps.nobor hF ds vs O1 hr hn.2, hl, ?_⟩
    cases m with
    | bor => exact absurd hn.1 (by decide)
    | own => exact hc
    | shr => exact hc
    | scr => exact hc
theorem Reps.nobor (hF : Same F F') : ∀ (d : List D) (v : List V) (O : Cnt), Reps K F B H d v O → D.noborL d = true → Reps K F B' H d v O
  | [], _, _, h, _ => by unfold Reps at h ⊢; exact h
  | d :: ds, vs, O, h, hn => by
    unfold Reps at h ⊢
    unfold D.noborL at hn
    rw [Bool.and_eq_true] at hn
    obtain ⟨v, vs', O1, O2, e, h1, h2, ho⟩ := h
    exact ⟨v, vs', O1, O2, e, Rep.nobor hF d v O1 h1 hn.1, Reps.nobor hF ds vs' O2 h2 hn.2, ho⟩
end

/-! ### slots -/
theorem SRep.len : ∀ {st : DSt} {σ : L2.St} {O : Cnt}, SRep K F B H st σ O → σ.length = st.length
  | [], _, _, h => by unfold SRep at h; rw [h.1]; rfl
  | none :: st, _, _, h => by
    unfold SRep at h
    obtain ⟨x, σ', rfl, h⟩ := h
    rw [List.length_cons, List.length_cons, SRep.len h]
  | some d :: st, _, _, h => by
    unfold SRep at h
    obtain ⟨v, σ', O1, O2, rfl, _, h, _⟩ := h
    rw [List.length_cons, List.length_cons, SRep.len h]
theorem SRep.mono (hF : Same F F') (hB : Same B B') : ∀ {st : DSt} {σ : L2.St} {O : Cnt}, SRep K F B H st σ O → (∀ a u, 1 ≤ O a → H a = some u → H' a = some u) → SRep K F' B' H' st σ O
  | [], _, _, h, _ => by unfold SRep at h ⊢; exact h
  | none :: st, _, _, h, hH => by
    unfold SRep at h ⊢
    obtain ⟨x, σ', rfl, h⟩ := h
    exact ⟨x, σ', rfl, SRep.mono hF hB h hH⟩
  | some d :: st, _, O, h, hH => by
    unfold SRep at h ⊢
    obtain ⟨v, σ', O1, O2, rfl, h1, h2, ho⟩ := h
    exact ⟨v, σ', O1, O2, rfl, Rep.mono hF hB d v O1 h1 fun b u hb => hH b u (by rw [ho b]; omega), SRep.mono hF hB h2 fun b u hb => hH b u (by rw [ho b]; omega), ho⟩
theorem SRep.trk : ∀ {st : DSt} {σ : L2.St} {O : Cnt}, SRep K F B H st σ O → Alone O H
  | [], _, _, h => by unfold SRep at h; intro a ha; rw [h.2 a] at ha; omega
  | none :: st, _, _, h => by
    unfold SRep at h
    obtain ⟨x, σ', rfl, h⟩ := h
    exact SRep.trk h
  | some d :: st, _, _, h => by
    unfold SRep at h
    obtain ⟨v, σ', O1, O2, rfl, h1, h2, ho⟩ := h
    intro b hb
    rw [ho b] at hb
    by_cases hz : 1 ≤ O1 b
    · exact Rep.trk d v O1 h1 b hz
    · exact SRep.trk h2 b (by omega)
theorem getS_nil {i : Nat} : getS [] i = none := rfl
theorem getS_zero {x : Option D} {st : DSt} : getS (x :: st) 0 = x := by cases x <;> rfl
theorem getS_succ {x : Option D} {st : DSt} {i : Nat} : getS (x :: st) (i + 1) = getS st i := rfl
/-- a slot's tree taken out -/
theorem SRep.take : ∀ {st : DSt} {σ : L2.St} {O : Cnt} {i : Nat} {d : D}, SRep K F B H st σ O → getS st i = some d →
    ∃ v Oi Or, σ[i]? = some (some v) ∧ Rep K F B H d v Oi ∧ SRep K F B H (st.set i none) σ Or ∧ ∀ a, O a = Or a + Oi a
  | [], _, _, _, _, _, e => by rw [getS_nil] at e; cases e
  | none :: st, _, _, 0, _, h, e => by rw [getS_zero] at e; cases e
  | some d' :: st, _, _, 0, _, h, e => by
    rw [getS_zero] at e
    cases e
    unfold SRep at h
    obtain ⟨v, σ', O1, O2, rfl, h1, h2, ho⟩ := h
    refine ⟨v, O1, O2, rfl, h1, ?_, fun a => by rw [ho a]; omega⟩
    show SRep K F B H (none :: st) _ _
    unfold SRep
    exact ⟨_, _, rfl, h2⟩
  | none :: st, _, _, i + 1, d, h, e => by
    rw [getS_succ] at e
    unfold SRep at h
    obtain ⟨x, σ', rfl, h⟩ := h
    obtain ⟨v, Oi, Or, e1, r, s, ho⟩ := SRep.take h e
    refine ⟨v, Oi, Or, by simpa using e1, r, ?_, ho⟩
    show SRep K F B H (none :: st.set i none) _ _
    unfold SRep
    exact ⟨_, _, rfl, s⟩
  | some d' :: st, _, _, i + 1, d, h, e => by
    rw [getS_succ] at e
    unfold SRep at h
    obtain ⟨w, σ', O1, O2, rfl, h1, h2, ho'⟩ := h
    obtain ⟨v, Oi, Or, e1, r, s, ho⟩ := SRep.take h2 e
    refine ⟨v, Oi, fun a => O1 a + Or a, by simpa using e1, r, ?_, fun a => by have q1 := ho' a; have q2 := ho a; dsimp only; omega⟩
    show SRep K F B H (some d' :: st.set i none) _ _
    unfold SRep
    exact ⟨w, σ', O1, Or, rfl, h1, s, fun _ => rfl⟩
/-- a slot's tree laid where the slot's value stands -/
theorem SRep.put : ∀ {st : DSt} {σ : L2.St} {Or Oi : Cnt} {i : Nat} {d : D} {v : V}, SRep K F B H (st.set i none) σ Or → σ[i]? = some (some v) → Rep K F B H d v Oi →
    SRep K F B H (st.set i (some d)) σ (fun a => Or a + Oi a)
  | [], σ, _, _, i, _, _, h, e, _ => by
    have h5 : SRep K F B H [] σ _ := h
    unfold SRep at h5
    rw [h5.1] at e
    simp at e
  | x :: st, σ, Or, Oi, 0, d, v, h, e, r => by
    have h5 : SRep K F B H (none :: st) σ Or := h
    unfold SRep at h5
    obtain ⟨y, σ', rfl, h6⟩ := h5
    have e : some y = some (some v) := by simpa using e
    cases e
    show SRep K F B H (some d :: st) _ _
    unfold SRep
    exact ⟨v, σ', Oi, Or, rfl, r, h6, fun a => by dsimp only; omega⟩
  | none :: st, σ, Or, Oi, i + 1, d, v, h, e, r => by
    have h5 : SRep K F B H (none :: st.set i none) σ Or := h
    unfold SRep at h5
    obtain ⟨y, σ', rfl, h6⟩ := h5
    show SRep K F B H (none :: st.set i (some d)) _ _
    unfold SRep
    exact ⟨y, σ', rfl, SRep.put h6 (by simpa using e) r⟩
  | some d' :: st, σ, Or, Oi, i + 1, d, v, h, e, r => by
    have h5 : SRep K F B H (some d' :: st.set i none) σ Or := h
    unfold SRep at h5
    obtain ⟨w, σ', O1, O2, rfl, h1, h2, ho⟩ := h5
    show SRep K F B H (some d' :: st.set i (some d)) _ _
    unfold SRep
    exact ⟨w, σ', O1, fun a => O2 a + Oi a, rfl, h1, SRep.put h2 (by simpa using e) r, fun a => by have q := ho a; dsimp only; omega⟩
/-- a slot stored anew -/
theorem SRep.store : ∀ {st : DSt} {σ : L2.St} {O Od : Cnt} {i : Nat} {d : D} {v : V}, SRep K F B H st σ O → Rep K F B H d v Od → i < st.length →
    ∃ O', SRep K F B H (st.set i (some d)) (σ.set i (some v)) O' ∧ ∀ a, O' a ≤ O a + Od a
  | [], _, _, _, _, _, _, _, _, hi => absurd hi (by simp)
  | none :: st, σ, O, Od, 0, d, v, h, r, hi => by
    unfold SRep at h
    obtain ⟨y, σ', rfl, h⟩ := h
    refine ⟨fun a => Od a + O a, ?_, fun a => by dsimp only; omega⟩
    show SRep K F B H (some d :: st) (some v :: σ') _
    unfold SRep
    exact ⟨v, σ', Od, O, rfl, r, h, fun _ => rfl⟩
  | some d' :: st, σ, O, Od, 0, d, v, h, r, hi => by
    unfold SRep at h
    obtain ⟨w, σ', O1, O2, rfl, h1, h2, ho⟩ := h
    refine ⟨fun a => Od a + O2 a, ?_, fun a => by have q := ho a; dsimp only; omega⟩
    show SRep K F B H (some d :: st) (some v :: σ') _
    unfold SRep
    exact ⟨v, σ', Od, O2, rfl, r, h2, fun _ => rfl⟩
  | none :: st, σ, O, Od, i + 1, d, v, h, r, hi => by
    unfold SRep at h
    obtain ⟨y, σ', rfl, h⟩ := h
    obtain ⟨O', h', le⟩ := SRep.store (i := i) h r (by simpa using hi)
    refine ⟨O', ?_, le⟩
    show SRep K F B H (none :: st.set i (some d)) (y :: σ'.set i (some v)) _
    unfold SRep
    exact ⟨y, _, rfl, h'⟩
  | some d' :: st, σ, O, Od, i + 1, d, v, h, r, hi => by
    unfold SRep at h
    obtain ⟨w, σ', O1, O2, rfl, h1, h2, ho⟩ := h
    obtain ⟨O', h', le⟩ := SRep.store (i := i) h2 r (by simpa using hi)
    refine ⟨fun a => O1 a + O' a, ?_, fun a => by have q := le a; have q2 := ho a; dsimp only; omega⟩
    show SRep K F B H (some d' :: st.set i (some d)) (some w :: σ'.set i (some v)) _
    unfold SRep
    exact ⟨w, _, O1, O', rfl, h1, h', fun _ => rfl⟩
/-- a slot forgotten -/
theorem SRep.drop : ∀ {st : DSt} {σ : L2.St} {O : Cnt} (i : Nat), SRep K F B H st σ O → ∃ O', SRep K F B H (st.set i none) σ O' ∧ ∀ a, O' a ≤ O a
  | st, σ, O, i, h => by
    cases e : getS st i with
    | some d =>
      obtain ⟨v, Oi, Or, _, _, s, ho⟩ := h.take e
      exact ⟨Or, s, fun a => by rw [ho a]; omega⟩
    | none =>
      refine ⟨O, ?_, fun a => Nat.le_refl _⟩
      have e2 : st.set i none = st := by
        unfold getS at e
        split at e
        · cases e
        · rename_i hh
          apply List.ext_getElem?
          intro j
          rw [List.getElem?_set]
          by_cases hij : i = j
          · subst hij
            rw [if_pos rfl]
            by_cases hl : i < st.length
            · rw [if_pos hl]
              cases q : st[i]? with
              | none => rw [List.getElem?_eq_none_iff] at q; omega
              | some o =>
                cases o with
                | none => rfl
                | some d => exact absurd q (hh d)
            · rw [if_neg hl, List.getElem?_eq_none_iff.mpr (by omega)]
          · rw [if_neg hij]
      rw [e2]
      exact h
end
end DL
set_option Elab.async false
set_option linter.all false
set_option maxRecDepth 100000
/-! DL2: steps, judgements, operands. -/
namespace DL
open PySem PySem.Spec PyProof.Rows L2

structure Good (F B H : Hp) (O : Cnt) : Prop where
  one : ∀ a, O a ≤ 1
  nf : ∀ a, 1 ≤ O a → F a = none
  nb : ∀ a, 1 ≤ O a → B a = none
  fh : Same F H
  bh : Same B H
structure Step (F H : Hp) (O : Cnt) (F' H' : Hp) (O' : Cnt) : Prop where
  keep : ∀ a u, H a = some u → O a = 0 → H' a = some u
  mono : Same F F'
  new : ∀ a u, F' a = some u → F a ≠ none ∨ 1 ≤ O a ∨ H a = none
  own : ∀ a, 1 ≤ O' a → 1 ≤ O a ∨ H a = none
theorem Good.le {F B H : Hp} {O O' : Cnt} (g : Good F B H O) (h : ∀ a, O' a ≤ O a) : Good F B H O' :=
  ⟨fun a => Nat.le_trans (h a) (g.one a), fun a x => g.nf a (Nat.le_trans x (h a)), fun a x => g.nb a (Nat.le_trans x (h a)), g.fh, g.bh⟩
theorem Step.le {F H F' H' : Hp} {O O' O'' : Cnt} (s : Step F H O F' H' O') (h : ∀ a, O'' a ≤ O' a) : Step F H O F' H' O'' :=
  ⟨s.keep, s.mono, s.new, fun a x => s.own a (Nat.le_trans x (h a))⟩
theorem Step.refl {F H : Hp} {O O' : Cnt} (h : ∀ a, O' a ≤ O a) : Step F H O F H O' :=
  ⟨fun _ _ e _ => e, Same.refl _, fun a u e => .inl (by rw [e]; intro z; cases z), fun a x => .inl (Nat.le_trans x (h a))⟩
theorem Step.trans {F H F1 H1 F2 H2 : Hp} {O O1 O2 : Cnt} (a : Step F H O F1 H1 O1) (b : Step F1 H1 O1 F2 H2 O2) : Step F H O F2 H2 O2 := by
  have z : ∀ x u, H x = some u → O x = 0 → O1 x = 0 := fun x u e o => by
    cases q : O1 x with
    | zero => rfl
    | succ n =>
      rcases a.own x (by rw [q]; omega) with h | h
      · omega
      · rw [e] at h; cases h
  have th : ∀ x, H1 x = none → 1 ≤ O x ∨ H x = none := fun x e => by
    by_cases o : O x = 0
    · right
      cases q : H x with
      | none => rfl
      | some u => rw [a.keep x u q o] at e; cases e
    · left; omega
  refine ⟨fun x u e o => b.keep x u (a.keep x u e o) (z x u e o), a.mono.trans b.mono, fun x u e => ?_, fun x o => ?_⟩
  · rcases b.new x u e with h | h | h
    · cases q : F1 x with
      | none => exact absurd q h
      | some w => exact a.new x w q
    · exact .inr (a.own x h)
    · exact .inr (th x h)
  · rcases b.own x o with h | h
    · exact a.own x h
    · exact th x h
/-- what is held alone besides stays through a step -/
theorem Step.frame {F1 B H1 F2 H2 : Hp} {O1 O2 E : Cnt} (s : Step F1 H1 O1 F2 H2 O2) (g : Good F1 B H1 (fun a => O1 a + E a)) (g2 : Good F2 B H2 O2) (t : Alone E H1) :
    Good F2 B H2 (fun a => O2 a + E a) ∧ Step F1 H1 (fun a => O1 a + E a) F2 H2 (fun a => O2 a + E a) ∧ ∀ a u, 1 ≤ E a → H1 a = some u → H2 a = some u := by
  have e1 : ∀ a, 1 ≤ E a → O1 a = 0 := fun a h => by have := g.one a; (try dsimp only at this); omega
  have ft : ∀ a, 1 ≤ E a → H1 a ≠ none := fun a h => by obtain ⟨u, e, _⟩ := t a h; rw [e]; intro z; cases z
  have e2 : ∀ a, 1 ≤ E a → O2 a = 0 := fun a h => by
    cases q : O2 a with
    | zero => rfl
    | succ n =>
      rcases s.own a (by rw [q]; omega) with x | x
      · rw [e1 a h] at x; omega
      · exact absurd x (ft a h)
  have nf : ∀ a, 1 ≤ E a → F2 a = none := fun a h => by
    cases q : F2 a with
    | none => rfl
    | some u =>
      rcases s.new a u q with x | x | x
      · exact absurd (g.nf a (by (try dsimp only); omega)) x
      · rw [e1 a h] at x; omega
      · exact absurd x (ft a h)
  refine ⟨⟨fun a => ?_, fun a h => ?_, fun a h => ?_, g2.fh, g2.bh⟩, ⟨fun a u e o => s.keep a u e (by (try dsimp only at o); omega), s.mono, fun a u e => ?_, fun a h => ?_⟩, fun a u h e => s.keep a u e (e1 a h)⟩
  · (try dsimp only)
    by_cases x : 1 ≤ E a
    · have := e2 a x; have := g.one a; (try dsimp only at this); omega
    · have := g2.one a; omega
  · (try dsimp only at h)
    by_cases x : 1 ≤ E a
    · exact nf a x
    · exact g2.nf a (by omega)
  · (try dsimp only at h)
    by_cases x : 1 ≤ E a
    · exact g.nb a (by (try dsimp only); omega)
    · exact g2.nb a (by omega)
  · rcases s.new a u e with x | x | x
    · exact .inl x
    · exact .inr (.inl (by (try dsimp only); omega))
    · exact .inr (.inr x)
  · (try dsimp only at h ⊢)
    by_cases x : 1 ≤ E a
    · exact .inl (by omega)
    · rcases s.own a (by omega) with y | y
      · exact .inl (by omega)
      · exact .inr y

/-- objects were made, none written: what is new of it -/
structure Ext (F H F' H' : Hp) (Od : Cnt) : Prop where
  hh : Same H H'
  ff : Same F F'
  fh : Same F' H'
  new : ∀ a u, F' a = some u → F a ≠ none ∨ H a = none
  one : ∀ a, Od a ≤ 1
  od : ∀ a, 1 ≤ Od a → H a = none ∧ F' a = none
theorem Ext.refl {F H : Hp} (h : Same F H) : Ext F H F H (fun _ => 0) :=
  ⟨Same.refl _, Same.refl _, h, fun a u e => .inl (by rw [e]; intro z; cases z), fun _ => by omega, fun a x => absurd x (by (try dsimp only); omega)⟩
theorem Ext.step {K : PySem.W.Frag} {F B H F' H' : Hp} {O Od : Cnt} (x : Ext F H F' H' Od) (g : Good F B H O) (t : Alone O H) :
    Good F' B H' (fun a => O a + Od a) ∧ Step F H O F' H' (fun a => O a + Od a) := by
  have nh : ∀ a, 1 ≤ O a → H a ≠ none := fun a h => by obtain ⟨u, e, _⟩ := t a h; rw [e]; intro z; cases z
  have zo : ∀ a, 1 ≤ O a → Od a = 0 := fun a h => by
    cases q : Od a with
    | zero => rfl
    | succ n => exact absurd (x.od a (by omega)).1 (nh a h)
  refine ⟨⟨fun a => ?_, fun a h => ?_, fun a h => ?_, x.fh, g.bh.trans x.hh⟩, ⟨fun a u e _ => x.hh a u e, x.ff, fun a u e => ?_, fun a h => ?_⟩⟩
  · (try dsimp only)
    by_cases h : 1 ≤ O a
    · have := zo a h; have := g.one a; omega
    · have := x.one a; omega
  · (try dsimp only at h)
    by_cases y : 1 ≤ O a
    · cases q : F' a with
      | none => rfl
      | some u =>
        rcases x.new a u q with z | z
        · exact absurd (g.nf a y) z
        · exact absurd z (nh a y)
    · exact (x.od a (by omega)).2
  · (try dsimp only at h)
    by_cases y : 1 ≤ O a
    · exact g.nb a y
    · exact g.bh.free (x.od a (by omega)).1
  · rcases x.new a u e with z | z
    · exact .inl z
    · exact .inr (.inr z)
  · (try dsimp only at h)
    by_cases y : 1 ≤ O a
    · exact .inl y
    · exact .inr (x.od a (by omega)).1
/-- a new list, held alone -/
theorem Ext.lst {F H : Hp} {p : Addr} {u : HO} (hp : H p = none) (fh : Same F H) : Ext F H F (upd H p u) (sing p) := by
  have hs : Same H (upd H p u) := fun b x e => by rw [upd_ne (ne_of_none e hp)]; exact e
  refine ⟨hs, Same.refl _, fh.trans hs, fun a w e => .inl (by rw [e]; intro z; cases z), fun a => ?_, fun a h => ?_⟩
  · by_cases e : a = p
    · rw [e, sing_self]; omega
    · rw [sing_ne e]; omega
  · rw [sing_pos h]; exact ⟨hp, fh.free hp⟩
/-- a new thing that stays -/
theorem Ext.tup {F H : Hp} {p : Addr} {u : HO} (hp : H p = none) (fh : Same F H) : Ext F H (upd F p u) (upd H p u) (fun _ => 0) := by
  have hs : Same H (upd H p u) := fun b x e => by rw [upd_ne (ne_of_none e hp)]; exact e
  have fs : Same F (upd F p u) := fun b x e => by rw [upd_ne (ne_of_none e (fh.free hp))]; exact e
  refine ⟨hs, fs, fun b x e => ?_, fun a w e => ?_, fun a => by omega, fun a h => absurd h (by (try dsimp only); omega)⟩
  · by_cases q : b = p
    · subst q; rw [upd_same] at e ⊢; exact e
    · rw [upd_ne q] at e ⊢; exact fh _ _ e
  · by_cases q : a = p
    · subst q; exact .inr hp
    · rw [upd_ne q] at e; exact .inl (by rw [e]; intro z; cases z)
theorem Ext.trans {F H F1 H1 F2 H2 : Hp} {O2 : Cnt} (a : Ext F H F1 H1 (fun _ => 0)) (b : Ext F1 H1 F2 H2 O2) : Ext F H F2 H2 O2 := by
  refine ⟨a.hh.trans b.hh, a.ff.trans b.ff, b.fh, fun x u e => ?_, b.one, fun x h => ⟨a.hh.free (b.od x h).1, (b.od x h).2⟩⟩
  rcases b.new x u e with z | z
  · cases q : F1 x with
    | none => exact absurd q z
    | some w => exact a.new x w q
  · exact .inr (a.hh.free z)

/-! ### views -/
section
variable (K : PySem.W.Frag) (F B H : Hp) (O : Cnt)
def View (d : D) (v : V) : Prop := ∃ Ov, Rep K F B H d v Ov ∧ ∀ a, Ov a ≤ O a
def Views : List D → List V → Prop
  | [], vs => vs = []
  | d :: ds, vs => ∃ v vs', vs = v :: vs' ∧ View K F B H O d v ∧ Views ds vs'
end
section
variable {K : PySem.W.Frag} {F B H F' H' : Hp} {O O' : Cnt}
theorem View.of {d : D} {v : V} {Ov : Cnt} (h : Rep K F B H d v Ov) (le : ∀ a, Ov a ≤ O a) : View K F B H O d v := ⟨Ov, h, le⟩
theorem Views.of : ∀ {ds : List D} {vs : List V} {Ov : Cnt}, Reps K F B H ds vs Ov → (∀ a, Ov a ≤ O a) → Views K F B H O ds vs
  | [], _, _, h, _ => by unfold Reps at h; exact h.1
  | d :: ds, _, _, h, le => by
    unfold Reps at h
    obtain ⟨v, vs', O1, O2, rfl, h1, h2, ho⟩ := h
    exact ⟨v, vs', rfl, ⟨O1, h1, fun a => by have q1 := ho a; have q2 := le a; omega⟩, Views.of h2 fun a => by have q1 := ho a; have q2 := le a; omega⟩
/-- a copy: nothing of it is held alone -/
theorem Rep.zero {d : D} {v : V} {Ov : Cnt} (h : Rep K F B H d v Ov) (n : d.nown = true) : Rep K F B H d v (fun _ => 0) := h.congr fun a => (Rep.nown d v Ov h n a).symm
theorem Reps.zero {d : List D} {v : List V} {Ov : Cnt} (h : Reps K F B H d v Ov) (n : D.nownL d = true) : Reps K F B H d v (fun _ => 0) := by
  have e : Ov = fun _ => 0 := funext (Reps.nown d v Ov h n)
  rw [← e]; exact h
theorem Reps.length : ∀ {ds : List D} {vs : List V} {Ov : Cnt}, Reps K F B H ds vs Ov → vs.length = ds.length
  | [], _, _, h => by unfold Reps at h; rw [h.1]; rfl
  | d :: ds, _, _, h => by
    unfold Reps at h
    obtain ⟨v, vs', O1, O2, rfl, h1, h2, ho⟩ := h
    rw [List.length_cons, List.length_cons, Reps.length h2]
theorem Reps.get : ∀ {ds : List D} {vs : List V} {Ov : Cnt} {i : Nat} {d : D}, Reps K F B H ds vs Ov → ds[i]? = some d → ∃ v Oi, vs[i]? = some v ∧ Rep K F B H d v Oi ∧ ∀ a, Oi a ≤ Ov a
  | [], _, _, _, _, _, e => by simp at e
  | d :: ds, _, _, 0, d2, h, e => by
    unfold Reps at h
    obtain ⟨v, vs', O1, O2, rfl, h1, h2, ho⟩ := h
    have e : d = d2 := by simpa using e
    subst e
    exact ⟨v, O1, rfl, h1, fun a => by have := ho a; omega⟩
  | d :: ds, _, _, i + 1, _, h, e => by
    unfold Reps at h
    obtain ⟨v, vs', O1, O2, rfl, h1, h2, ho⟩ := h
    obtain ⟨w, Oi, e1, r, le⟩ := Reps.get h2 (by simpa using e)
    exact ⟨w, Oi, by simpa using e1, r, fun a => by have := ho a; have := le a; omega⟩
theorem Reps.append : ∀ {ds es : List D} {vs ws : List V} {O1 O2 : Cnt}, Reps K F B H ds vs O1 → Reps K F B H es ws O2 → Reps K F B H (ds ++ es) (vs ++ ws) (fun a => O1 a + O2 a)
  | [], es, _, ws, O1, O2, h, k => by
    unfold Reps at h
    obtain ⟨rfl, h⟩ := h
    have e : (fun a => O1 a + O2 a) = O2 := funext fun a => by rw [h a, Nat.zero_add]
    show Reps K F B H es ws _
    rw [e]; exact k
  | d :: ds, _, _, _, _, _, h, k => by
    unfold Reps at h
    obtain ⟨v, vs', O1, O2, rfl, h1, h2, ho⟩ := h
    show Reps K F B H (d :: (ds ++ _)) (v :: (vs' ++ _)) _
    unfold Reps
    exact ⟨v, _, O1, _, rfl, h1, Reps.append h2 k, fun a => by have q := ho a; (try dsimp only); omega⟩
theorem Reps.congr {d : List D} {v : List V} {Ov Ow : Cnt} (h : Reps K F B H d v Ov) (e : ∀ a, Ow a = Ov a) : Reps K F B H d v Ow := by
  have e : Ow = Ov := funext e
  rw [e]; exact h
theorem Reps.one {d : D} {v : V} {Ov : Cnt} (h : Rep K F B H d v Ov) : Reps K F B H [d] [v] Ov := by
  unfold Reps
  exact ⟨v, [], Ov, fun _ => 0, rfl, h, by unfold Reps; exact ⟨rfl, fun _ => rfl⟩, fun a => by (try dsimp only); omega⟩
theorem Reps.nilR : Reps K F B H [] [] (fun _ => 0) := by unfold Reps; exact ⟨rfl, fun _ => rfl⟩
end

/-! ### judgements -/
def tE (K : PySem.W.Frag) (m : DSt → Option (D × DSt)) : TE := fun σ H Q => ∃ F B O st d st', SRep K F B H st σ O ∧ Good F B H O ∧ m st = some (d, st') ∧
  ∀ v F' H' O' Od, SRep K F' B H' st' σ O' → Rep K F' B H' d v Od → Good F' B H' (fun a => O' a + Od a) → Step F H O F' H' (fun a => O' a + Od a) → Q v H'
def tT (K : PySem.W.Frag) (m : DSt → Option (Bool × DSt)) : TT := fun σ H Q => ∃ F B O st d st', SRep K F B H st σ O ∧ Good F B H O ∧ m st = some (d, st') ∧
  ∀ F' H' O', SRep K F' B H' st' σ O' → Good F' B H' O' → Step F H O F' H' O' → Q d H'
theorem _root_.L2.PE.imp {X : Cx} {e : Expr} {t t' : TE} (h : PE X e t) (i : ∀ σ H Q, t' σ H Q → t σ H Q) : PE X e t' := ⟨fun pins s σ H Q I q => h.run pins s σ H Q I (i σ H Q q)⟩
theorem _root_.L2.PT.imp {X : Cx} {e : Expr} {t t' : TT} (h : PT X e t) (i : ∀ σ H Q, t' σ H Q → t σ H Q) : PT X e t' := ⟨fun pins s σ H Q I q => h.run pins s σ H Q I (i σ H Q q)⟩
theorem _root_.L2.PS.imp {X : Cx} {e : Stmt} {t t' : TS} (h : PS X e t) (i : ∀ D σ H, t' D σ H → t D σ H) : PS X e t' := ⟨fun pins s σ H D I q => h.run pins s σ H D I (i D σ H q)⟩
theorem _root_.L2.PSs.imp {X : Cx} {e : List Stmt} {t t' : TS} (h : PSs X e t) (i : ∀ D σ H, t' D σ H → t D σ H) : PSs X e t' := ⟨fun pins s σ H D I q => h.run pins s σ H D I (i D σ H q)⟩

section
variable {K : PySem.W.Frag} {F B H : Hp} {O : Cnt} {st : DSt} {σ : L2.St}
theorem bnd_some {α β : Type} {x : Option (α × DSt)} {f : α → DSt → Option β} {r : β} (h : bnd x f = some r) : ∃ a s, x = some (a, s) ∧ f a s = some r := by
  unfold bnd at h
  split at h
  · rename_i a s
    exact ⟨a, s, rfl, h⟩
  · cases h
theorem onB_some {β : Type} {d : D} {f : Bool → Option β} {r : β} (h : onB d f = some r) : ∃ b, d = .bl b ∧ f b = some r := by
  unfold onB at h
  split at h
  · exact ⟨_, rfl, h⟩
  · cases h
/-- quiet readings -/
def tQ (K : PySem.W.Frag) : Qo → TE
  | .v i => tVar i
  | .n k => tC (.int k)
  | .ix a b => tOp (rIx K) (tQ K a) (tQ K b)
  | .add a b => tOp (rI0 fun i j => .int (i + j)) (tQ K a) (tQ K b)
  | .sub a b => tOp (rI0 fun i j => .int (i - j)) (tQ K a) (tQ K b)
theorem atI_map {xs : List D} {vs : List V} {Ov : Cnt} {k : Int} {d : D} (h : Reps K F B H xs vs Ov) (e : atI xs k = some d) : ∃ v Oi, atI vs k = some v ∧ Rep K F B H d v Oi ∧ ∀ a, Oi a ≤ Ov a := by
  unfold atI at e ⊢
  rw [h.length]
  cases q : ixN xs.length k with
  | none => rw [q] at e; cases e
  | some j =>
    rw [q] at e
    exact h.get e
theorem cell_of {m : Mk} {a : Addr} {u : HO} {O O1 : Cnt} (g : Good F B H O') (h : Cell F B H m a u O O1) : H a = some u := by
  cases m with
  | own => exact h.1
  | shr => exact g.fh _ _ h.1
  | bor => exact g.bh _ _ h.1
  | scr => exact h.elim
theorem lst_seq {m : Mk} {a : Addr} {vs : List V} {O O1 O' : Cnt} (g : Good F B H O') (h : Cell F B H m a (.lst vs) O O1 ∨ (m = .scr ∧ SqL K F a vs ∧ ∀ b, O b = O1 b)) : SqL K H a vs := by
  rcases h with h | ⟨_, h, _⟩
  · exact .inl (.inl (cell_of g h))
  · exact g.fh.seq h
theorem lst_le {m : Mk} {a : Addr} {vs : List V} {O O1 : Cnt} (h : Cell F B H m a (.lst vs) O O1 ∨ (m = .scr ∧ SqL K F a vs ∧ ∀ b, O b = O1 b)) (b : Addr) : O1 b ≤ O b := by
  rcases h with h | ⟨_, _, h⟩
  · exact h.le b
  · rw [h b]; omega
theorem tQ_ok : ∀ (o : Qo) {d : D} {Q : VK}, SRep K F B H st σ O → Good F B H O → iQ o st = some d → (∀ v, View K F B H O d v → Q v H) → tQ K o σ H Q
  | .v i, d, Q, s, g, e, q => by
    obtain ⟨v, Oi, Or, e1, r, _, ho⟩ := s.take (show getS st i = some d from e)
    exact ⟨v, e1, q v ⟨Oi, r, fun a => by have := ho a; omega⟩⟩
  | .n k, d, Q, s, g, e, q => by
    cases (show some (D.int k) = some d from e)
    exact q _ ⟨fun _ => 0, by unfold Rep; exact ⟨rfl, fun _ => rfl⟩, fun a => Nat.zero_le _⟩
  | .ix a b, d, Q, s, g, e, q => by
    unfold iQ at e
    split at e
    · rename_i x y ex ey
      refine tQ_ok a s g ex fun v hv => tQ_ok b s g ey fun w hw => ?_
      obtain ⟨O1, r1, l1⟩ := hv
      obtain ⟨O2, r2, l2⟩ := hw
      unfold itemAt at e
      split at e
      · unfold Rep at r1 r2
        obtain ⟨p, vs, O3, rfl, rs, hc⟩ := r1
        obtain ⟨rfl, _⟩ := r2
        obtain ⟨z, Oz, ez, rz, lz⟩ := atI_map rs e
        exact .inl ⟨p, vs, _, z, rfl, rfl, lst_seq g hc, ez, q z ⟨Oz, rz, fun x => Nat.le_trans (lz x) (Nat.le_trans (lst_le hc x) (l1 x))⟩⟩
      · unfold Rep at r1 r2
        obtain ⟨p, vs, rfl, hc, rs⟩ := r1
        obtain ⟨rfl, _⟩ := r2
        obtain ⟨z, Oz, ez, rz, lz⟩ := atI_map rs e
        exact .inr (.inl ⟨p, vs, _, z, rfl, rfl, .inl (.inl (g.fh _ _ hc)), ez, q z ⟨Oz, rz, fun x => Nat.le_trans (lz x) (l1 x)⟩⟩)
      · cases e
    · cases e
  | .add a b, d, Q, s, g, e, q => by
    unfold iQ at e
    split at e
    · rename_i x y ex ey
      refine tQ_ok a s g ex fun v hv => tQ_ok b s g ey fun w hw => ?_
      obtain ⟨O1, r1, l1⟩ := hv
      obtain ⟨O2, r2, l2⟩ := hw
      unfold Rep at r1 r2
      cases e
      exact ⟨x, y, r1.1, r2.1, q _ ⟨fun _ => 0, by unfold Rep; exact ⟨rfl, fun _ => rfl⟩, fun a => Nat.zero_le _⟩⟩
    · cases e
  | .sub a b, d, Q, s, g, e, q => by
    unfold iQ at e
    split at e
    · rename_i x y ex ey
      refine tQ_ok a s g ex fun v hv => tQ_ok b s g ey fun w hw => ?_
      obtain ⟨O1, r1, l1⟩ := hv
      obtain ⟨O2, r2, l2⟩ := hw
      unfold Rep at r1 r2
      cases e
      exact ⟨x, y, r1.1, r2.1, q _ ⟨fun _ => 0, by unfold Rep; exact ⟨rfl, fun _ => rfl⟩, fun a => Nat.zero_le _⟩⟩
    · cases e
end
end DL
set_option Elab.async false
set_option linter.all false
set_option maxRecDepth 100000
/-! DL3: primitives. -/
namespace DL
open PySem PySem.Spec PyProof.Rows L2

section
variable {K : PySem.W.Frag} {F B H : Hp} {O : Cnt}
/-- what follows a primitive -/
abbrev Cont (K : PySem.W.Frag) (F B H : Hp) (d : D) (Q : VK) : Prop := ∀ v F' H' Od, Rep K F' B H' d v Od → Ext F H F' H' Od → Q v H'
theorem rep_int {k : Int} : Rep K F B H (.int k) (.int k) (fun _ => 0) := by unfold Rep; exact ⟨rfl, fun _ => rfl⟩
theorem rep_bl {k : Bool} : Rep K F B H (.bl k) (.bl k) (fun _ => 0) := by unfold Rep; exact ⟨rfl, fun _ => rfl⟩
theorem rep_str {k : Str} : Rep K F B H (.str k) (.str k) (fun _ => 0) := by unfold Rep; exact ⟨rfl, fun _ => rfl⟩
theorem rep_non : Rep K F B H .non .non (fun _ => 0) := by unfold Rep; exact ⟨rfl, fun _ => rfl⟩
theorem int_inv {k : Int} {v : V} {Ov : Cnt} (h : Rep K F B H (.int k) v Ov) : v = .int k := by unfold Rep at h; exact h.1
theorem bl_inv {k : Bool} {v : V} {Ov : Cnt} (h : Rep K F B H (.bl k) v Ov) : v = .bl k := by unfold Rep at h; exact h.1
theorem str_inv {k : Str} {v : V} {Ov : Cnt} (h : Rep K F B H (.str k) v Ov) : v = .str k := by unfold Rep at h; exact h.1
theorem non_inv {v : V} {Ov : Cnt} (h : Rep K F B H .non v Ov) : v = .non := by unfold Rep at h; exact h.1
/-- a list: its cell -/
theorem lst_inv {m : Mk} {xs : List D} {v : V} {Ov : Cnt} (g : Good F B H O) (h : Rep K F B H (.lst m xs) v Ov) :
    ∃ a vs O1, v = .ref a ∧ Reps K F B H xs vs O1 ∧ SqL K H a vs ∧ (∀ b, O1 b ≤ Ov b) ∧ (m ≠ .scr → H a = some (.lst vs)) := by
  unfold Rep at h
  obtain ⟨a, vs, O1, e, r, hc⟩ := h
  refine ⟨a, vs, O1, e, r, lst_seq g hc, lst_le hc, fun hm => ?_⟩
  rcases hc with hc | ⟨em, _, _⟩
  · exact cell_of g hc
  · exact absurd em hm
theorem tup_inv {xs : List D} {v : V} {Ov : Cnt} (g : Good F B H O) (h : Rep K F B H (.tup xs) v Ov) :
    ∃ a vs, v = .ref a ∧ Reps K F B H xs vs Ov ∧ F a = some (.tup vs) ∧ H a = some (.tup vs) := by
  unfold Rep at h
  obtain ⟨a, vs, e, hc, r⟩ := h
  exact ⟨a, vs, e, r, hc, g.fh _ _ hc⟩
theorem dK_inv {m : Mk} {ks : List Key} {xs : List D} {v : V} {Ov : Cnt} (g : Good F B H O) (h : Rep K F B H (.dK m ks xs) v Ov) :
    ∃ a vs O1, v = .ref a ∧ Reps K F B H xs vs O1 ∧ H a = some (.dK (ks.zip vs)) ∧ (∀ b, O1 b ≤ Ov b) ∧ ks.length = vs.length := by
  unfold Rep at h
  obtain ⟨a, vs, O1, e, r, hl, hc⟩ := h
  exact ⟨a, vs, O1, e, r, cell_of g hc, hc.le, hl⟩
theorem dT_inv {m : Mk} {ks : List (List Key)} {xs : List D} {v : V} {Ov : Cnt} (g : Good F B H O) (h : Rep K F B H (.dT m ks xs) v Ov) :
    ∃ a vs O1, v = .ref a ∧ Reps K F B H xs vs O1 ∧ H a = some (.dT (ks.zip vs)) ∧ (∀ b, O1 b ≤ Ov b) ∧ ks.length = vs.length := by
  unfold Rep at h
  obtain ⟨a, vs, O1, e, r, hl, hc⟩ := h
  exact ⟨a, vs, O1, e, r, cell_of g hc, hc.le, hl⟩
theorem c_int {k : Int} {Q : VK} (g : Good F B H O) (c : Cont K F B H (.int k) Q) : Q (.int k) H := c _ F H _ rep_int (Ext.refl g.fh)
theorem c_bl {k : Bool} {Q : VK} (g : Good F B H O) (c : Cont K F B H (.bl k) Q) : Q (.bl k) H := c _ F H _ rep_bl (Ext.refl g.fh)
theorem c_str {k : Str} {Q : VK} (g : Good F B H O) (c : Cont K F B H (.str k) Q) : Q (.str k) H := c _ F H _ rep_str (Ext.refl g.fh)
theorem c_old {d : D} {v : V} {Q : VK} (g : Good F B H O) (r : Rep K F B H d v (fun _ => 0)) (c : Cont K F B H d Q) : Q v H := c _ F H _ r (Ext.refl g.fh)
/-- trees without cells held alone go with the extension -/
theorem Rep.ext0 {F' H' : Hp} {Od : Cnt} {d : D} {v : V} (x : Ext F H F' H' Od) (r : Rep K F B H d v (fun _ => 0)) : Rep K F' B H' d v (fun _ => 0) := Rep.mono x.ff (Same.refl _) d v _ r fun a u h => absurd h (by (try dsimp only); omega)
theorem Reps.ext0 {F' H' : Hp} {Od : Cnt} {d : List D} {v : List V} (x : Ext F H F' H' Od) (r : Reps K F B H d v (fun _ => 0)) : Reps K F' B H' d v (fun _ => 0) := Reps.mono x.ff (Same.refl _) d v _ r fun a u h => absurd h (by (try dsimp only); omega)
theorem rep_own {ds : List D} {vs : List V} {p : Addr} {H' : Hp} (r : Reps K F B H' ds vs (fun _ => 0)) (e : H' p = some (.lst vs)) : Rep K F B H' (.lst .own ds) (.ref p) (sing p) := by
  unfold Rep
  exact ⟨p, vs, fun _ => 0, rfl, r, .inl ⟨e, fun b => by (try dsimp only); omega⟩⟩
theorem c_lst {ds : List D} {vs : List V} {Q : VK} (g : Good F B H O) (r : Reps K F B H ds vs (fun _ => 0)) (c : Cont K F B H (.lst .own ds) Q) : ∀ p, H p = none → Q (.ref p) (upd H p (.lst vs)) := fun p hp => by
  have x := Ext.lst (u := .lst vs) hp g.fh
  exact c _ F _ _ (rep_own (r.ext0 x) upd_same) x
theorem c_tup {ds : List D} {vs : List V} {Q : VK} (g : Good F B H O) (r : Reps K F B H ds vs (fun _ => 0)) (c : Cont K F B H (.tup ds) Q) : ∀ p, H p = none → Q (.ref p) (upd H p (.tup vs)) := fun p hp => by
  have x := Ext.tup (u := .tup vs) hp g.fh
  refine c _ _ _ _ ?_ x
  unfold Rep
  exact ⟨p, vs, rfl, upd_same, r.ext0 x⟩

/-! ### data -/
mutual
theorem Rep.dp (g : Good F B H O) : ∀ (d : D) (v : V) (Ov : Cnt), Rep K F B H d v Ov → d.py.canLay0 = true → Dp K H v d.py
  | .non, v, _, h, _ => by rw [non_inv h]; unfold D.py; exact .non
  | .bl b, v, _, h, _ => by rw [bl_inv h]; unfold D.py; exact .bl b
  | .int i, v, _, h, _ => by rw [int_inv h]; unfold D.py; exact .int i
  | .str x, v, _, h, _ => by rw [str_inv h]; unfold D.py; exact .str x
  | .lst m xs, v, _, h, hc => by
    obtain ⟨a, vs, O1, rfl, r, hs, _, _⟩ := lst_inv g h
    unfold D.py at hc ⊢
    exact .lst hs (Reps.dp g xs vs O1 r (by simpa [PyData.canLay0] using hc))
  | .tup xs, v, Ov, h, hc => by
    obtain ⟨a, vs, rfl, r, _, hs⟩ := tup_inv g h
    unfold D.py at hc ⊢
    exact .tup (.inl (.inl hs)) (Reps.dp g xs vs Ov r (by simpa [PyData.canLay0] using hc))
  | .dK m ks xs, v, _, h, hc => by unfold D.py at hc; simp [PyData.canLay0] at hc
  | .dT m ks xs, v, _, h, hc => by unfold D.py at hc; simp [PyData.canLay0] at hc
theorem Reps.dp (g : Good F B H O) : ∀ (d : List D) (v : List V) (Ov : Cnt), Reps K F B H d v Ov → PyData.canLayAll0 (D.pyL d) = true → DpAll K H v (D.pyL d)
  | [], v, _, h, _ => by unfold Reps at h; rw [h.1]; unfold D.pyL; exact .nil
  | d :: ds, vs, _, h, hc => by
    unfold Reps at h
    obtain ⟨v, vs', O1, O2, rfl, h1, h2, ho⟩ := h
    unfold D.pyL at hc ⊢
    have hc : d.py.canLay0 = true ∧ PyData.canLayAll0 (D.pyL ds) = true := by simpa [PyData.canLayAll0] using hc
    exact .cons (Rep.dp g d v O1 h1 hc.1) (Reps.dp g ds vs' O2 h2 hc.2)
end
theorem shp_lay {d : D} (h : d.shp = true) : d.py.canLay0 = true := by
  have h : (d.py.canLay0 && decide (d.py.depth ≤ 64)) = true := h
  rw [Bool.and_eq_true] at h
  exact h.1
theorem ints_reps : ∀ {xs : List D} {is : List Int} {vs : List V} {Ov : Cnt}, intsOf xs = some is → Reps K F B H xs vs Ov → vs = is.map V.int ∧ xs = is.map D.int
  | [], is, vs, _, e, h => by
    have e : is = [] := (Option.some.inj e).symm
    subst e
    unfold Reps at h
    exact ⟨h.1, rfl⟩
  | .int i :: r, is, vs, _, e, h => by
    unfold intsOf at e
    obtain ⟨js, e1, rfl⟩ := Option.map_eq_some_iff.mp e
    unfold Reps at h
    obtain ⟨v, vs', O1, O2, rfl, h1, h2, ho⟩ := h
    obtain ⟨q1, q2⟩ := ints_reps e1 h2
    rw [int_inv h1, q1, q2]
    exact ⟨rfl, rfl⟩
  | .non :: _, _, _, _, e, _ => by cases e
  | .bl _ :: _, _, _, _, e, _ => by cases e
  | .str _ :: _, _, _, _, e, _ => by cases e
  | .lst _ _ :: _, _, _, _, e, _ => by cases e
  | .tup _ :: _, _, _, _, e, _ => by cases e
  | .dK _ _ _ :: _, _, _, _, e, _ => by cases e
  | .dT _ _ _ :: _, _, _, _, e, _ => by cases e
theorem reps_ints : ∀ {is : List Int}, Reps K F B H (is.map D.int) (is.map V.int) (fun _ => 0)
  | [] => Reps.nilR
  | i :: is => by
    show Reps K F B H (.int i :: is.map D.int) (.int i :: is.map V.int) _
    unfold Reps
    exact ⟨_, _, fun _ => 0, fun _ => 0, rfl, rep_int, reps_ints, fun _ => rfl⟩
theorem bls_reps : ∀ {xs : List D} {is : List Bool} {vs : List V} {Ov : Cnt}, blsOf xs = some is → Reps K F B H xs vs Ov → vs = is.map V.bl
  | [], is, vs, _, e, h => by
    have e : is = [] := (Option.some.inj e).symm
    subst e
    unfold Reps at h
    exact h.1
  | .bl i :: r, is, vs, _, e, h => by
    unfold blsOf at e
    obtain ⟨js, e1, rfl⟩ := Option.map_eq_some_iff.mp e
    unfold Reps at h
    obtain ⟨v, vs', O1, O2, rfl, h1, h2, ho⟩ := h
    rw [bl_inv h1, bls_reps e1 h2]
    rfl
  | .non :: _, _, _, _, e, _ => by cases e
  | .int _ :: _, _, _, _, e, _ => by cases e
  | .str _ :: _, _, _, _, e, _ => by cases e
  | .lst _ _ :: _, _, _, _, e, _ => by cases e
  | .tup _ :: _, _, _, _, e, _ => by cases e
  | .dK _ _ _ :: _, _, _, _, e, _ => by cases e
  | .dT _ _ _ :: _, _, _, _, e, _ => by cases e
theorem keyOf_inv {d : D} {k : Key} {v : V} {Ov : Cnt} (e : keyOf d = some k) (h : Rep K F B H d v Ov) : v = kV k := by
  unfold keyOf at e
  split at e
  · cases e; exact int_inv h
  · cases e; exact str_inv h
  · cases e
theorem keysOf_inv : ∀ {ds : List D} {ks : List Key} {vs : List V} {Ov : Cnt}, keysOf ds = some ks → Reps K F B H ds vs Ov → vs = ks.map kV
  | [], ks, vs, _, e, h => by
    have e : ks = [] := (Option.some.inj e).symm
    subst e
    unfold Reps at h
    exact h.1
  | d :: ds, ks, vs, _, e, h => by
    unfold keysOf at e
    obtain ⟨k, e1, e2⟩ := Option.bind_eq_some_iff.mp e
    obtain ⟨js, e3, rfl⟩ := Option.map_eq_some_iff.mp e2
    unfold Reps at h
    obtain ⟨v, vs', O1, O2, rfl, h1, h2, ho⟩ := h
    rw [keyOf_inv e1 h1, keysOf_inv e3 h2]
    rfl
theorem look_val {κ : Type} [DecidableEq κ] : ∀ {ks : List κ} {ds : List D} {vs : List V} {Ov : Cnt} {k : κ} {d : D}, Reps K F B H ds vs Ov → ks.length = vs.length → look ks ds k = some d →
    ∃ v Oi, valV (ks.zip vs) k = some v ∧ Rep K F B H d v Oi ∧ ∀ a, Oi a ≤ Ov a
  | [], ds, vs, _, _, _, h, hl, e => by unfold look at e; cases e
  | k :: ks, [], vs, _, _, _, h, hl, e => by unfold look at e; cases e
  | k :: ks, d :: ds, vs, Ov, x, _, h, hl, e => by
    unfold Reps at h
    obtain ⟨v, vs', O1, O2, rfl, h1, h2, ho⟩ := h
    unfold look at e
    split at e
    · rename_i q
      cases e
      refine ⟨v, O1, ?_, h1, fun a => by have := ho a; omega⟩
      unfold valV
      show Option.map (·.2) (List.find? _ ((k, v) :: ks.zip vs')) = _
      rw [List.find?_cons_of_pos (by simp [q])]
      rfl
    · rename_i q
      obtain ⟨w, Oi, e1, r, le⟩ := look_val h2 (by simpa using hl) e
      refine ⟨w, Oi, ?_, r, fun a => by have := ho a; have := le a; omega⟩
      unfold valV at e1 ⊢
      show Option.map (·.2) (List.find? _ ((k, v) :: ks.zip vs')) = _
      rw [List.find?_cons_of_neg (by simp [q])]
      exact e1
theorem any_val {κ : Type} [DecidableEq κ] : ∀ {ks : List κ} {vs : List V} {k : κ}, ks.length = vs.length → (valV (ks.zip vs) k).isSome = ks.any fun x => decide (x = k)
  | [], vs, k, _ => rfl
  | a :: ks, [], k, h => by simp at h
  | a :: ks, v :: vs, k, h => by
    have ih := any_val (ks := ks) (vs := vs) (k := k) (by simpa using h)
    unfold valV at ih ⊢
    show (Option.map (·.2) (List.find? _ ((a, v) :: ks.zip vs))).isSome = _
    by_cases q : a = k
    · rw [List.find?_cons_of_pos (by simp [q])]
      simp [q]
    · rw [List.find?_cons_of_neg (by simp [q])]
      simp only [List.any_cons]
      rw [ih]
      simp [q]
theorem cpy_inv {o : Option D} {d : D} (h : cpy o = some d) : o = some d ∧ d.nown = true := by
  unfold cpy at h
  split at h
  · split at h
    · cases h; exact ⟨rfl, by assumption⟩
    · cases h
  · cases h
end

/-! ### operators by values -/
def rInn (K : PySem.W.Frag) : R2 := fun x y H Q => rInD K x y H Q ∨ ∃ a o, y = .ref a ∧ DGet H a x o ∧ Q (.bl o.isSome) H
def rNotInn (K : PySem.W.Frag) : R2 := fun x y H Q => rNotInD K x y H Q ∨ ∃ a o, y = .ref a ∧ DGet H a x o ∧ Q (.bl (!o.isSome)) H
def rIxx (K : PySem.W.Frag) : R2 := fun x y H Q => rIx K x y H Q ∨ ∃ a v, x = .ref a ∧ DGet H a y (some v) ∧ Q v H
def rB (K : PySem.W.Frag) : Prim → R2
  | .add => fun x y H Q => rI0 (fun i j => .int (i + j)) x y H Q ∨ rCat x y H Q ∨ rCatT K x y H Q
  | .sub => rI0 fun i j => .int (i - j)
  | .mul => fun x y H Q => rI CMulW (fun i j => .int (i * j)) x y H Q ∨ rRep x y H Q
  | .mod => rI (fun _ j => 0 < j) fun i j => .int (i % j)
  | .fdiv => rI CDiv fun i j => .int (i / j)
  | .pow => rI CPow fun i j => .int (i ^ j.toNat)
  | .shl => rI CPow fun i j => .int (i * 2 ^ j.toNat)
  | .shr => rI (fun _ j => 0 ≤ j) fun i j => .int (i / 2 ^ j.toNat)
  | .band => rI0 fun i j => .int (Builtin.bitAnd i j)
  | .bor => rI0 fun i j => .int (Builtin.bitOr i j)
  | .bxor => rI0 fun i j => .int (Builtin.bitXor i j)
  | .eq => rEqD K
  | .ne => rNeD K
  | .lt => rI0 fun i j => .bl (decide (i < j))
  | .le => rI0 fun i j => .bl (decide (i ≤ j))
  | .gt => rI0 fun i j => .bl (decide (j < i))
  | .ge => rI0 fun i j => .bl (decide (j ≤ i))
  | .inn => rInn K
  | .notIn => rNotInn K
  | .idx => rIxx K
  | _ => fun _ _ _ _ => False
def binOf : Operator → Option Prim
  | .Add => some .add
  | .Sub => some .sub
  | .Mult => some .mul
  | .Mod => some .mod
  | .FloorDiv => some .fdiv
  | .Pow => some .pow
  | .LShift => some .shl
  | .RShift => some .shr
  | .BitAnd => some .band
  | .BitOr => some .bor
  | .BitXor => some .bxor
  | _ => none
def cmpOf : CmpOp → Option Prim
  | .Eq => some .eq
  | .NotEq => some .ne
  | .Lt => some .lt
  | .LtE => some .le
  | .Gt => some .gt
  | .GtE => some .ge
  | .In => some .inn
  | .NotIn => some .notIn
  | _ => none
section
variable {X : Cx}
theorem opr_bin {op : Operator} {q : Prim} (h : binOf op = some q) : OpR X (binaryOp op) (rB X.K q) := by
  cases op <;> (first | cases h | skip)
  · exact op_add.or (op_cat.or op_catT)
  · exact op_sub
  · exact op_mulW.or op_rep
  · exact op_mod
  · exact op_pow
  · exact op_shl
  · exact op_shr
  · exact op_or
  · exact op_xor
  · exact op_and
  · exact op_fdiv
theorem op_inn (hu : X.A.units + 65 < cLine) : OpR X (compareOp .In) (rInn X.K) := by
  refine OpR.or (op_inD hu) ?_
  intro pins s σ H x y v u Q I rx ry h
  obtain ⟨a, o, rfl, g, q⟩ := h
  cases (show u = Value.ref a from ry)
  exact d_in (by omega) I g rx fun s' I' => ⟨.bl _, H, I', rfl, q⟩
theorem op_notInn (hu : X.A.units + 65 < cLine) : OpR X (compareOp .NotIn) (rNotInn X.K) := by
  refine OpR.or (op_notInD hu) ?_
  intro pins s σ H x y v u Q I rx ry h
  obtain ⟨a, o, rfl, g, q⟩ := h
  cases (show u = Value.ref a from ry)
  exact d_notIn (by omega) I g rx fun s' I' => ⟨.bl _, H, I', rfl, q⟩
theorem opr_cmp {op : CmpOp} {q : Prim} (h : cmpOf op = some q) (hu : X.A.units + 65 < cLine) : OpR X (compareOp op) (rB X.K q) := by
  cases op <;> (first | cases h | skip)
  · exact op_eqD (by omega)
  · exact op_neD (by omega)
  · exact op_lt
  · exact op_le
  · exact op_gt
  · exact op_ge
  · exact op_inn hu
  · exact op_notInn hu
theorem ix_dict (hu : X.A.units + 1 < cLine) : IxR X (fun x y H Q => ∃ a v, x = .ref a ∧ DGet H a y (some v) ∧ Q v H) := by
  intro value slice pins s σ H x y vv u Q I rx ry h hs
  obtain ⟨a, v, rfl, g, q⟩ := h
  cases (show vv = Value.ref a from rx)
  have hT := dict_typeIs I g
  unfold subscriptTail
  refine wpAny_bind ?_
  rw [getitemInPython_of_ne hT.not_modules]
  refine wpAny_bind (wpAny_specialOf hT PySem.F.slot_dict_getitem.lookup ?_)
  have fin : wpAny (model X.prog X.w) X.A (subscripted slice false (.ref a) u) (fun r s₃ => wpAny (model X.prog X.w) X.A (letTemporaryGo value (.ref a) r >>= fun _ => pure r) (EP X pins σ Q) X.xe s₃) X.xe s := by
    rw [hs]
    exact wpAny_operating (wpAny_mono (d_getItem hu I g ry fun w' s3 I3 rw' => (show EP X pins σ Q w' s3 from ⟨v, H, I3, rw', q⟩)) (fun r s₃ h₃ => wpAny_bind (wpAny_letTemporaryGo (wpAny_pure h₃))) fun _ _ x => x)
  first
    | exact wpAny_pure (wpAny_bind fin)
    | exact wpAny_bind (wpAny_pure (wpAny_bind fin))
    | exact wpAny_bind fin
theorem ixr (hu : X.A.units + 65 < cLine) : IxR X (rB X.K .idx) := ix_seq.or (ix_dict (by omega))
end

section
variable {K : PySem.W.Frag} {F B H : Hp} {O O1 O2 : Cnt} {d1 d2 d : D} {v1 v2 : V} {Q : VK}
theorem dget_in {x y : D} {vx : V} {Oy : Cnt} (g : Good F B H O) {as ks : List D} : True := trivial
theorem b_ok {q : Prim} (g : Good F B H O) (h : pr q [d1, d2] = some d) (r1 : Rep K F B H d1 v1 O1) (r2 : Rep K F B H d2 v2 O2) (c : Cont K F B H d Q)
    (hq : (∃ op, binOf op = some q) ∨ (∃ op, cmpOf op = some q) ∨ q = .idx) : rB K q v1 v2 H Q := by
  cases q with
  | add =>
    replace h : p_add [d1, d2] = some d := h
    unfold p_add at h
    split at h
    · rename_i i j e
      cases e; cases h
      exact .inl ⟨i, j, int_inv r1, int_inv r2, c_int g c⟩
    · rename_i m xs n ys e
      cases e
      split at h
      · rename_i hc
        simp only [Bool.and_eq_true, decide_eq_true_eq] at hc
        obtain ⟨⟨⟨⟨n1, n2⟩, m1⟩, m2⟩, hl⟩ := hc
        cases h
        obtain ⟨a, vs, Oa, rfl, ra, _, _, ea⟩ := lst_inv g r1
        obtain ⟨b, ws, Ob, rfl, rb, _, _, eb⟩ := lst_inv g r2
        refine .inr (.inl ⟨a, b, vs, ws, rfl, rfl, ea m1, eb m2, by rw [ra.length, rb.length]; exact hl, c_lst g ?_ c⟩)
        exact ((ra.zero n1).append (rb.zero n2)).congr fun _ => rfl
      · cases h
    · rename_i xs ys e
      cases e
      split at h
      · rename_i hc
        simp only [Bool.and_eq_true, decide_eq_true_eq] at hc
        obtain ⟨⟨⟨⟨n1, n2⟩, m1⟩, m2⟩, hl⟩ := hc
        cases h
        obtain ⟨a, vs, rfl, ra, _, ea⟩ := tup_inv g r1
        obtain ⟨b, ws, rfl, rb, _, eb⟩ := tup_inv g r2
        have l1 := ra.length
        have l2 := rb.length
        refine .inr (.inr ⟨a, b, vs, ws, rfl, rfl, .inl (.inl ea), .inl (.inl eb), fun z => m1 ?_, by omega, fun z => absurd ?_ m2, fun _ => c_tup g ?_ c⟩)
        · subst z; exact List.length_eq_zero_iff.mp (by rw [← l1]; rfl)
        · subst z; exact List.length_eq_zero_iff.mp (by rw [← l2]; rfl)
        · exact ((ra.zero n1).append (rb.zero n2)).congr fun _ => rfl
      · cases h
    · cases h
  | sub =>
    replace h : p_sub [d1, d2] = some d := h
    unfold p_sub at h
    split at h
    · rename_i i j e
      cases e; cases h
      exact ⟨i, j, int_inv r1, int_inv r2, c_int g c⟩
    · cases h
  | mul =>
    replace h : p_mul [d1, d2] = some d := h
    unfold p_mul at h
    split at h
    · rename_i i j e
      cases e
      split at h
      · rename_i hc
        cases h
        simp only [okMul, Bool.and_eq_true, decide_eq_true_eq] at hc
        exact .inl ⟨i, j, int_inv r1, int_inv r2, wide_mul hc.1 hc.2 (by decide) (by decide) (by decide), c_int g c⟩
      · cases h
    · rename_i m xs k e
      cases e
      split at h
      · rename_i hc
        simp only [Bool.and_eq_true, decide_eq_true_eq] at hc
        obtain ⟨⟨⟨⟨n1, m1⟩, k1⟩, k2⟩, hl⟩ := hc
        cases h
        obtain ⟨a, vs, Oa, rfl, ra, _, _, ea⟩ := lst_inv g r1
        have rr : ∀ n : Nat, Reps K F B H (List.replicate n xs).flatten (List.replicate n vs).flatten (fun _ => 0) := fun n => by
          induction n with
          | zero => exact Reps.nilR
          | succ n ih =>
            rw [List.replicate_succ, List.replicate_succ, List.flatten_cons, List.flatten_cons]
            exact ((ra.zero n1).append ih).congr fun _ => rfl
        exact .inr ⟨a, k, vs, rfl, int_inv r2, ea m1, k1, k2, by rw [ra.length]; exact hl, c_lst g (rr _) c⟩
      · cases h
    · cases h
  | mod =>
    replace h : p_mod [d1, d2] = some d := h
    unfold p_mod at h
    split at h
    · rename_i i j e
      cases e
      split at h
      · rename_i hc
        cases h
        exact ⟨i, j, int_inv r1, int_inv r2, hc, c_int g c⟩
      · cases h
    · cases h
  | fdiv =>
    replace h : p_fdiv [d1, d2] = some d := h
    unfold p_fdiv at h
    split at h
    · rename_i i j e
      cases e
      split at h
      · rename_i hc
        cases h
        exact ⟨i, j, int_inv r1, int_inv r2, hc, c_int g c⟩
      · cases h
    · cases h
  | pow =>
    replace h : p_pow [d1, d2] = some d := h
    unfold p_pow at h
    split at h
    · rename_i i j e
      cases e
      split at h
      · rename_i hc
        cases h
        exact ⟨i, j, int_inv r1, int_inv r2, ⟨hc.2.1, hc.2.2, hc.1⟩, c_int g c⟩
      · cases h
    · cases h
  | shl =>
    replace h : p_shl [d1, d2] = some d := h
    unfold p_shl at h
    split at h
    · rename_i i j e
      cases e
      split at h
      · rename_i hc
        cases h
        exact ⟨i, j, int_inv r1, int_inv r2, ⟨hc.2.1, hc.2.2, hc.1⟩, c_int g c⟩
      · cases h
    · cases h
  | shr =>
    replace h : p_shr [d1, d2] = some d := h
    unfold p_shr at h
    split at h
    · rename_i i j e
      cases e
      split at h
      · rename_i hc
        cases h
        exact ⟨i, j, int_inv r1, int_inv r2, hc, c_int g c⟩
      · cases h
    · cases h
  | band =>
    replace h : p_band [d1, d2] = some d := h
    unfold p_band at h
    split at h
    · rename_i i j e
      cases e; cases h
      exact ⟨i, j, int_inv r1, int_inv r2, c_int g c⟩
    · cases h
  | bor =>
    replace h : p_bor [d1, d2] = some d := h
    unfold p_bor at h
    split at h
    · rename_i i j e
      cases e; cases h
      exact ⟨i, j, int_inv r1, int_inv r2, c_int g c⟩
    · cases h
  | bxor =>
    replace h : p_bxor [d1, d2] = some d := h
    unfold p_bxor at h
    split at h
    · rename_i i j e
      cases e; cases h
      exact ⟨i, j, int_inv r1, int_inv r2, c_int g c⟩
    · cases h
  | eq =>
    replace h : (if d1.shp && d2.shp then some (D.bl (PyData.eqv d1.py d2.py)) else none) = some d := h
    split at h
    · rename_i hc
      rw [Bool.and_eq_true] at hc
      cases h
      exact ⟨_, _, Rep.dp g _ _ _ r1 (shp_lay hc.1), Rep.dp g _ _ _ r2 (shp_lay hc.2), hc.1, hc.2, c_bl g c⟩
    · cases h
  | ne =>
    replace h : (if d1.shp && d2.shp then some (D.bl (!PyData.eqv d1.py d2.py)) else none) = some d := h
    split at h
    · rename_i hc
      rw [Bool.and_eq_true] at hc
      cases h
      exact ⟨_, _, Rep.dp g _ _ _ r1 (shp_lay hc.1), Rep.dp g _ _ _ r2 (shp_lay hc.2), hc.1, hc.2, c_bl g c⟩
    · cases h
  | lt =>
    replace h : p_lt [d1, d2] = some d := h
    unfold p_lt at h
    split at h
    · rename_i i j e
      cases e; cases h
      exact ⟨i, j, int_inv r1, int_inv r2, c_bl g c⟩
    · cases h
  | le =>
    replace h : p_le [d1, d2] = some d := h
    unfold p_le at h
    split at h
    · rename_i i j e
      cases e; cases h
      exact ⟨i, j, int_inv r1, int_inv r2, c_bl g c⟩
    · cases h
  | gt =>
    replace h : p_gt [d1, d2] = some d := h
    unfold p_gt at h
    split at h
    · rename_i i j e
      cases e; cases h
      exact ⟨i, j, int_inv r1, int_inv r2, c_bl g c⟩
    · cases h
  | ge =>
    replace h : p_ge [d1, d2] = some d := h
    unfold p_ge at h
    split at h
    · rename_i i j e
      cases e; cases h
      exact ⟨i, j, int_inv r1, int_inv r2, c_bl g c⟩
    · cases h
  | inn =>
    replace h : p_inn [d1, d2] = some d := h
    unfold p_inn at h
    split at h
    · rename_i a m xs e
      cases e
      split at h
      · rename_i hc
        rw [Bool.and_eq_true] at hc
        cases h
        have e1 : (D.lst m xs).py = .list (D.pyL xs) := by rw [D.py]
        refine .inl ⟨_, _, Rep.dp g _ _ _ r1 (shp_lay hc.1), e1 ▸ Rep.dp g _ _ _ r2 (shp_lay hc.2), hc.1, e1 ▸ hc.2, c_bl g c⟩
      · cases h
    · rename_i a m ks xs e
      cases e
      obtain ⟨k, ek, rfl⟩ := Option.map_eq_some_iff.mp h
      obtain ⟨p, vs, Oa, rfl, ra, ea, _, el⟩ := dK_inv g r2
      rw [keyOf_inv ek r1]
      refine .inr ⟨p, _, rfl, DGet.k ea, ?_⟩
      rw [any_val el]
      exact c_bl g c
    · rename_i as m ks xs e
      cases e
      obtain ⟨k, ek, rfl⟩ := Option.map_eq_some_iff.mp h
      obtain ⟨p, vs, Oa, rfl, ra, ea, _, el⟩ := dT_inv g r2
      obtain ⟨b, ws, rfl, rb, _, eb⟩ := tup_inv g r1
      have e2 := keysOf_inv ek rb
      subst e2
      refine .inr ⟨p, _, rfl, DGet.t ea eb, ?_⟩
      rw [any_val el]
      exact c_bl g c
    · cases h
  | notIn =>
    replace h : p_notIn [d1, d2] = some d := h
    unfold p_notIn at h
    split at h
    · rename_i a m xs e
      cases e
      split at h
      · rename_i hc
        rw [Bool.and_eq_true] at hc
        cases h
        have e1 : (D.lst m xs).py = .list (D.pyL xs) := by rw [D.py]
        refine .inl ⟨_, _, Rep.dp g _ _ _ r1 (shp_lay hc.1), e1 ▸ Rep.dp g _ _ _ r2 (shp_lay hc.2), hc.1, e1 ▸ hc.2, c_bl g c⟩
      · cases h
    · rename_i a m ks xs e
      cases e
      obtain ⟨k, ek, rfl⟩ := Option.map_eq_some_iff.mp h
      obtain ⟨p, vs, Oa, rfl, ra, ea, _, el⟩ := dK_inv g r2
      rw [keyOf_inv ek r1]
      refine .inr ⟨p, _, rfl, DGet.k ea, ?_⟩
      rw [any_val el]
      exact c_bl g c
    · rename_i as m ks xs e
      cases e
      obtain ⟨k, ek, rfl⟩ := Option.map_eq_some_iff.mp h
      obtain ⟨p, vs, Oa, rfl, ra, ea, _, el⟩ := dT_inv g r2
      obtain ⟨b, ws, rfl, rb, _, eb⟩ := tup_inv g r1
      have e2 := keysOf_inv ek rb
      subst e2
      refine .inr ⟨p, _, rfl, DGet.t ea eb, ?_⟩
      rw [any_val el]
      exact c_bl g c
    · cases h
  | idx =>
    replace h : p_idx [d1, d2] = some d := h
    unfold p_idx at h
    split at h
    · rename_i m xs k e
      cases e
      obtain ⟨e1, n⟩ := cpy_inv h
      obtain ⟨a, vs, Oa, rfl, ra, ea, _, _⟩ := lst_inv g r1
      obtain ⟨z, Oz, ez, rz, _⟩ := atI_map ra e1
      exact .inl (.inl ⟨a, vs, k, z, rfl, int_inv r2, ea, ez, c_old g (rz.zero n) c⟩)
    · rename_i xs k e
      cases e
      obtain ⟨e1, n⟩ := cpy_inv h
      obtain ⟨a, vs, rfl, ra, _, ea⟩ := tup_inv g r1
      obtain ⟨z, Oz, ez, rz, _⟩ := atI_map ra e1
      exact .inl (.inr (.inl ⟨a, vs, k, z, rfl, int_inv r2, .inl (.inl ea), ez, c_old g (rz.zero n) c⟩))
    · rename_i m ks xs k e
      cases e
      obtain ⟨k', ek, h⟩ := Option.bind_eq_some_iff.mp h
      obtain ⟨e1, n⟩ := cpy_inv h
      obtain ⟨p, vs, Oa, rfl, ra, ea, _, el⟩ := dK_inv g r1
      obtain ⟨z, Oz, ez, rz, _⟩ := look_val ra el e1
      rw [keyOf_inv ek r2]
      exact .inr ⟨p, z, rfl, ez ▸ DGet.k ea, c_old g (rz.zero n) c⟩
    · rename_i m ks xs as e
      cases e
      obtain ⟨k', ek, h⟩ := Option.bind_eq_some_iff.mp h
      obtain ⟨e1, n⟩ := cpy_inv h
      obtain ⟨p, vs, Oa, rfl, ra, ea, _, el⟩ := dT_inv g r1
      obtain ⟨z, Oz, ez, rz, _⟩ := look_val ra el e1
      obtain ⟨b, ws, rfl, rb, _, eb⟩ := tup_inv g r2
      have e2 := keysOf_inv ek rb
      subst e2
      exact .inr ⟨p, z, rfl, ez ▸ DGet.t ea eb, c_old g (rz.zero n) c⟩
    · cases h
  | _ =>
    exfalso
    rcases hq with ⟨op, e⟩ | ⟨op, e⟩ | e
    · cases op <;> cases e
    · cases op <;> cases e
    · cases e
end
end DL
set_option Elab.async false
set_option linter.all false
set_option maxRecDepth 100000
/-! DL4: sorting; built-in functions called. -/
namespace DL
open PySem PySem.Spec PyProof.Rows L2

theorem insI_perm (x : Int) : ∀ l, (insI x l).Perm (x :: l)
  | [] => List.Perm.refl _
  | y :: r => by
    unfold insI
    split
    · exact List.Perm.refl _
    · exact ((insI_perm x r).cons y).trans (List.Perm.swap x y r)
theorem isort_perm : ∀ l, (isort l).Perm l
  | [] => List.Perm.refl _
  | x :: r => (insI_perm x (isort r)).trans ((isort_perm r).cons x)
theorem insI_sorted (x : Int) : ∀ l : List Int, l.Pairwise (· ≤ ·) → (insI x l).Pairwise (· ≤ ·)
  | [], _ => by unfold insI; simp
  | y :: r, h => by
    unfold insI
    have h' := List.pairwise_cons.mp h
    split
    · rename_i c
      refine List.pairwise_cons.mpr ⟨fun z hz => ?_, h⟩
      rcases List.mem_cons.mp hz with e | hz
      · rw [e]; exact c
      · exact Int.le_trans c (h'.1 z hz)
    · rename_i c
      refine List.pairwise_cons.mpr ⟨fun z hz => ?_, insI_sorted x r h'.2⟩
      rcases List.mem_cons.mp ((insI_perm x r).mem_iff.mp hz) with e | hz
      · rw [e]; omega
      · exact h'.1 z hz
theorem isort_sorted : ∀ l : List Int, (isort l).Pairwise (· ≤ ·)
  | [] => List.Pairwise.nil
  | x :: r => insI_sorted x _ (isort_sorted r)
theorem isort_uniq {l m : List Int} (p : m.Perm l) (s : m.Pairwise (· ≤ ·)) : m = isort l :=
  (p.trans (isort_perm l).symm).eq_of_pairwise (fun x y _ _ h1 h2 => Int.le_antisymm h1 h2) s (isort_sorted l)
theorem leP_iff {a b : Int × Int} : leP a b = true ↔ a.1 < b.1 ∨ (a.1 = b.1 ∧ a.2 ≤ b.2) := by
  unfold leP
  simp
theorem insP_perm (x : Int × Int) : ∀ l, (insP x l).Perm (x :: l)
  | [] => List.Perm.refl _
  | y :: r => by
    unfold insP
    split
    · exact List.Perm.refl _
    · exact ((insP_perm x r).cons y).trans (List.Perm.swap x y r)
theorem psort_perm : ∀ l, (psort l).Perm l
  | [] => List.Perm.refl _
  | x :: r => (insP_perm x (psort r)).trans ((psort_perm r).cons x)
theorem insP_sorted (x : Int × Int) : ∀ l : List (Int × Int), l.Pairwise (fun a b => leP a b = true) → (insP x l).Pairwise (fun a b => leP a b = true)
  | [], _ => by unfold insP; simp
  | y :: r, h => by
    unfold insP
    have h' := List.pairwise_cons.mp h
    split
    · rename_i c
      refine List.pairwise_cons.mpr ⟨fun z hz => ?_, h⟩
      rcases List.mem_cons.mp hz with e | hz
      · rw [e]; exact c
      · have q1 := leP_iff.mp c
        have q2 := leP_iff.mp (h'.1 z hz)
        exact leP_iff.mpr (by omega)
    · rename_i c
      refine List.pairwise_cons.mpr ⟨fun z hz => ?_, insP_sorted x r h'.2⟩
      rcases List.mem_cons.mp ((insP_perm x r).mem_iff.mp hz) with e | hz
      · rw [e]
        have q : ¬ (x.1 < y.1 ∨ (x.1 = y.1 ∧ x.2 ≤ y.2)) := fun z => c (leP_iff.mpr z)
        exact leP_iff.mpr (by omega)
      · exact h'.1 z hz
theorem psort_sorted : ∀ l : List (Int × Int), (psort l).Pairwise (fun a b => leP a b = true)
  | [] => List.Pairwise.nil
  | x :: r => insP_sorted x _ (psort_sorted r)
theorem psort_uniq {l m : List (Int × Int)} (p : m.Perm l) (s : m.Pairwise (fun a b => leP a b = true)) : m = psort l :=
  (p.trans (psort_perm l).symm).eq_of_pairwise (fun x y _ _ h1 h2 => by
    have q1 := leP_iff.mp h1
    have q2 := leP_iff.mp h2
    exact Prod.ext (by omega) (by omega)) s (psort_sorted l)

def kkF (F : Hp) (v : V) : Int × Int := match v with
  | .ref t => match F t with
    | some (.tup [.int i, .int j]) => (i, j)
    | _ => (0, 0)
  | _ => (0, 0)
def pairD (p : Int × Int) : D := .tup [.int p.1, .int p.2]
section
variable {K : PySem.W.Frag} {F B H : Hp} {O : Cnt}
def IsPr (F : Hp) (v : V) : Prop := ∃ t, v = .ref t ∧ F t = some (.tup [.int (kkF F v).1, .int (kkF F v).2])
theorem pairs_reps : ∀ {xs : List D} {ps : List (Int × Int)} {vs : List V} {Ov : Cnt}, pairsOf xs = some ps → Reps K F B H xs vs Ov → (∀ v ∈ vs, IsPr F v) ∧ vs.map (kkF F) = ps
  | [], ps, vs, _, e, h => by
    have e : ps = [] := (Option.some.inj e).symm
    subst e
    unfold Reps at h
    rw [h.1]
    exact ⟨fun v hv => absurd hv (by simp), rfl⟩
  | x :: r, ps, vs, _, e, h => by
    unfold pairsOf at e
    split at e
    · cases (show x :: r = [] from by assumption)
    · rename_i i j r' ee
      cases ee
      obtain ⟨js, e1, rfl⟩ := Option.map_eq_some_iff.mp e
      unfold Reps at h
      obtain ⟨v, vs', O1, O2, rfl, h1, h2, ho⟩ := h
      obtain ⟨q1, q2⟩ := pairs_reps e1 h2
      unfold Rep at h1
      obtain ⟨a, ws, rfl, ea, rw'⟩ := h1
      unfold Reps at rw'
      obtain ⟨w1, ws1, _, _, rfl, g1, rw', _⟩ := rw'
      unfold Reps at rw'
      obtain ⟨w2, ws2, _, _, rfl, g2, rw', _⟩ := rw'
      unfold Reps at rw'
      obtain ⟨rfl, _⟩ := rw'
      rw [int_inv g1, int_inv g2] at ea
      have ek : kkF F (.ref a) = (i, j) := by
        unfold kkF
        simp only [ea]
      refine ⟨fun v hv => ?_, ?_⟩
      · rcases List.mem_cons.mp hv with e | hv
        · rw [e]; exact ⟨a, rfl, by rw [ek]; exact ea⟩
        · exact q1 v hv
      · rw [List.map_cons, ek, q2]
    · cases e
theorem reps_pairs : ∀ {vs : List V}, (∀ v ∈ vs, IsPr F v) → Reps K F B H ((vs.map (kkF F)).map pairD) vs (fun _ => 0)
  | [], _ => Reps.nilR
  | v :: vs, h => by
    have ih := reps_pairs (vs := vs) fun w hw => h w (List.mem_cons_of_mem _ hw)
    obtain ⟨t, ev, et⟩ := h v List.mem_cons_self
    show Reps K F B H (pairD (kkF F v) :: _) (v :: vs) _
    unfold Reps
    refine ⟨v, vs, fun _ => 0, fun _ => 0, rfl, ?_, ih, fun _ => rfl⟩
    unfold pairD
    unfold Rep
    refine ⟨t, _, ev, et, ?_⟩
    exact (Reps.append (Reps.one rep_int) (Reps.one rep_int)).congr fun _ => rfl
end

/-! ### least and greatest of a tuple of ints -/
def rMinT (K : PySem.W.Frag) : List V → Hp → VK → Prop := fun vs H Q => ∃ (a : Addr) (n : Int) (ns : List Int), vs = [V.ref a] ∧ SqT K H a ((n :: ns).map V.int) ∧ Q (.int (ns.foldl (fun a b => if b < a then b else a) n)) H
def rMaxT (K : PySem.W.Frag) : List V → Hp → VK → Prop := fun vs H Q => ∃ (a : Addr) (n : Int) (ns : List Int), vs = [V.ref a] ∧ SqT K H a ((n :: ns).map V.int) ∧ Q (.int (ns.foldl (fun a b => if b > a then b else a) n)) H
theorem dl_int (a b : Int) : PySem.W.dataLt (.int a) (.int b) = decide (a < b) := PySem.W.dataLt_int a b
theorem minD_ints : ∀ (ns : List Int) (n : Int), PySem.W.minD (.int n) (ns.map PyData.int) = .int (ns.foldl (fun a b => if b < a then b else a) n)
  | [], n => rfl
  | m :: ns, n => by
    have ih := minD_ints ns (if m < n then m else n)
    unfold PySem.W.minD at ih ⊢
    rw [List.map_cons, List.foldl_cons, List.foldl_cons, dl_int]
    by_cases h : m < n
    · simp only [h, decide_true, if_true] at ih ⊢
      exact ih
    · simp only [h, decide_false, if_false, Bool.false_eq_true] at ih ⊢
      exact ih
theorem maxD_ints : ∀ (ns : List Int) (n : Int), PySem.W.maxD (.int n) (ns.map PyData.int) = .int (ns.foldl (fun a b => if b > a then b else a) n)
  | [], n => rfl
  | m :: ns, n => by
    have ih := maxD_ints ns (if m > n then m else n)
    unfold PySem.W.maxD at ih ⊢
    rw [List.map_cons, List.foldl_cons, List.foldl_cons, dl_int]
    by_cases h : m > n
    · have h' : n < m := h
      simp only [h, h', decide_true, if_true] at ih ⊢
      exact ih
    · have h' : ¬ n < m := h
      simp only [h, h', decide_false, if_false, Bool.false_eq_true] at ih ⊢
      exact ih
theorem dpAll_ints {K : PySem.W.Frag} {H : Hp} : ∀ (ns : List Int), DpAll K H (ns.map V.int) (ns.map PyData.int)
  | [] => .nil
  | n :: ns => .cons (.int n) (dpAll_ints ns)
theorem depth_ints : ∀ (ns : List Int), PyData.depthAll (ns.map PyData.int) = 0
  | [] => by simp [PyData.depthAll]
  | n :: ns => by simp [PyData.depthAll, PyData.depth, depth_ints ns]
theorem alike_ints (ns : List Int) : PySem.W.AlikeAll (ns.map PyData.int) := by
  refine ⟨fun x hx y hy => ?_, fun x hx e => ?_⟩
  · obtain ⟨a, _, rfl⟩ := List.mem_map.mp hx
    obtain ⟨b, _, rfl⟩ := List.mem_map.mp hy
    simp [PySem.W.alike]
  · obtain ⟨a, _, rfl⟩ := List.mem_map.mp hx
    cases e
section
variable {X : Cx}
theorem cr_minT (hc : X.calm = true) (hu : X.A.units + 65 < cLine) : CallR X (.builtin "min") (rMinT X.K) := by
  intro pins s σ H vs us Q I r h
  obtain ⟨a, n, ns, rfl, hs, q⟩ := h
  obtain ⟨its, rv, hl, _⟩ := I.tuple hs
  rw [Vals.ref1 r]
  obtain ⟨as, ra⟩ := Dp.readsAll I ((n :: ns).map PyData.int) _ its (dpAll_ints _) rv
  refine PySem.W.min_tuple_data (I.ok.hd hc) hl (x := .int n) (xs := ns.map PyData.int) (as := as) (by simpa using ra) (alike_ints (n :: ns)) (by have := depth_ints (n :: ns); rw [show PyData.int n :: ns.map PyData.int = (n :: ns).map PyData.int from rfl, this]; omega) fun i v h' tk bs hv hr hk => ?_
  rw [minD_ints] at hr
  cases hr
  exact ⟨.int _, H, I.kept hk, ⟨_, rfl⟩, q⟩
theorem cr_maxT (hc : X.calm = true) (hu : X.A.units + 65 < cLine) : CallR X (.builtin "max") (rMaxT X.K) := by
  intro pins s σ H vs us Q I r h
  obtain ⟨a, n, ns, rfl, hs, q⟩ := h
  obtain ⟨its, rv, hl, _⟩ := I.tuple hs
  rw [Vals.ref1 r]
  obtain ⟨as, ra⟩ := Dp.readsAll I ((n :: ns).map PyData.int) _ its (dpAll_ints _) rv
  refine PySem.W.max_tuple_data (I.ok.hd hc) hl (x := .int n) (xs := ns.map PyData.int) (as := as) (by simpa using ra) (alike_ints (n :: ns)) (by have := depth_ints (n :: ns); rw [show PyData.int n :: ns.map PyData.int = (n :: ns).map PyData.int from rfl, this]; omega) fun i v h' tk bs hv hr hk => ?_
  rw [maxD_ints] at hr
  cases hr
  exact ⟨.int _, H, I.kept hk, ⟨_, rfl⟩, q⟩
end

/-! ### built-in functions, by values -/
def rC (K : PySem.W.Frag) : Prim → List V → Hp → VK → Prop
  | .len => fun xs H Q => ∃ p ys, xs = [.ref p] ∧ (SqL K H p ys ∨ SqT K H p ys) ∧ Q (.int ys.length) H
  | .list => fun xs H Q => (∃ p ys, xs = [.ref p] ∧ (SqL K H p ys ∨ SqT K H p ys) ∧ ∀ l, H l = none → Q (.ref l) (upd H l (.lst ys))) ∨ rListD xs H Q
  | .tuple => fun xs H Q => ∃ p ys, xs = [.ref p] ∧ ((SqL K H p ys ∧ ∀ l, H l = none → Q (.ref l) (upd H l (.tup ys))) ∨ (SqT K H p ys ∧ Q (.ref p) H))
  | .sorted => fun xs H Q => rSortedI K xs H Q ∨ rSortedPO K xs H Q
  | .sum => rSum K
  | .min1 => fun xs H Q => rMin K xs H Q ∨ rMinT K xs H Q
  | .max1 => fun xs H Q => rMax K xs H Q ∨ rMaxT K xs H Q
  | .min2 => fun xs H Q => ∃ i j, xs = [.int i, .int j] ∧ Q (.int (if j < i then j else i)) H
  | .max2 => fun xs H Q => ∃ i j, xs = [.int i, .int j] ∧ Q (.int (if j > i then j else i)) H
  | .int1 => fun xs H Q => (∃ i, xs = [.int i] ∧ Q (.int i) H) ∨ ∃ k, xs = [.bl k] ∧ Q (.int (if k then 1 else 0)) H
  | .all => rAll K
  | _ => fun _ _ _ => False
/-- the name, whether it is a type, how many arguments -/
def bltOf : Prim → Option (String × Bool × Nat)
  | .len => some ("len", false, 1)
  | .list => some ("list", true, 1)
  | .tuple => some ("tuple", true, 1)
  | .sorted => some ("sorted", false, 1)
  | .sum => some ("sum", false, 1)
  | .min1 => some ("min", false, 1)
  | .max1 => some ("max", false, 1)
  | .min2 => some ("min", false, 2)
  | .max2 => some ("max", false, 2)
  | .int1 => some ("int", true, 1)
  | .all => some ("all", false, 1)
  | _ => none
def bltV (n : String) (t : Bool) : Value := if t then .type n else .builtin n
section
variable {X : Cx}
theorem callr {q : Prim} {n : String} {t : Bool} {k : Nat} (h : bltOf q = some (n, t, k)) (hc : X.calm = true) (hu : X.A.units + 65 < cLine) : CallR X (bltV n t) (rC X.K q) := by
  cases q <;> (first | cases h | skip)
  · exact call_len_seq
  · exact call_list_of.or (call_list_dK hc)
  · exact call_tuple_of
  · exact cr_sortedI.or cr_sortedPO
  · exact cr_sum hc
  · exact (cr_min hc).or (cr_minT hc hu)
  · exact (cr_max hc).or (cr_maxT hc hu)
  · exact call_min2 hc
  · exact call_max2 hc
  · exact call_int1
  · exact cr_all hc
theorem blt_boot {q : Prim} {n : String} {t : Bool} {k : Nat} (h : bltOf q = some (n, t, k)) : bootBuiltins n = some (bltV n t) ∧ (n : Str) ≠ "__name__" ∧ ((n : Str) == ("__debug__" : Str)) = false := by
  cases q <;> (first | cases h | skip)
  all_goals exact ⟨by decide +kernel, by decide +kernel, by decide +kernel⟩
end
section
variable {K : PySem.W.Frag} {F B H : Hp} {O : Cnt}
theorem views1 {d : D} {vs : List V} (h : Views K F B H O [d] vs) : ∃ v Ov, vs = [v] ∧ Rep K F B H d v Ov := by
  obtain ⟨v, vs', rfl, ⟨Ov, r, _⟩, h⟩ := h
  cases h
  exact ⟨v, Ov, rfl, r⟩
theorem views2 {d e : D} {vs : List V} (h : Views K F B H O [d, e] vs) : ∃ v w Ov Ow, vs = [v, w] ∧ Rep K F B H d v Ov ∧ Rep K F B H e w Ow := by
  obtain ⟨v, vs', rfl, ⟨Ov, r, _⟩, h⟩ := h
  obtain ⟨w, ws, rfl, ⟨Ow, r', _⟩, h⟩ := h
  cases h
  exact ⟨v, w, Ov, Ow, rfl, r, r'⟩
theorem min_of {n : Int} {ns : List Int} : minI (n :: ns) = some (ns.foldl (fun a b => if b < a then b else a) n) := rfl
theorem foldMin : ∀ (ns : List Int) (n : Int), (ns.foldl (fun a b => if b < a then b else a) n) ∈ n :: ns ∧ ∀ y ∈ n :: ns, (ns.foldl (fun a b => if b < a then b else a) n) ≤ y
  | [], n => ⟨List.mem_cons_self, fun y hy => by simp at hy; subst hy; exact Int.le_refl _⟩
  | m :: ns, n => by
    rw [List.foldl_cons]
    obtain ⟨h1, h2⟩ := foldMin ns (if m < n then m else n)
    refine ⟨?_, fun y hy => ?_⟩
    · rcases List.mem_cons.mp h1 with e | h
      · rw [e]; split <;> simp
      · exact List.mem_cons_of_mem _ (List.mem_cons_of_mem _ h)
    · have h0 := h2 _ List.mem_cons_self
      rcases List.mem_cons.mp hy with e | hy
      · subst e; split at h0 <;> rename_i q <;> (try simp only [q, if_true, if_false]) <;> omega
      · rcases List.mem_cons.mp hy with e | hy
        · subst e; split at h0 <;> rename_i q <;> (try simp only [q, if_true, if_false]) <;> omega
        · exact h2 y (List.mem_cons_of_mem _ hy)
theorem foldMax : ∀ (ns : List Int) (n : Int), (ns.foldl (fun a b => if b > a then b else a) n) ∈ n :: ns ∧ ∀ y ∈ n :: ns, y ≤ (ns.foldl (fun a b => if b > a then b else a) n)
  | [], n => ⟨List.mem_cons_self, fun y hy => by simp at hy; subst hy; exact Int.le_refl _⟩
  | m :: ns, n => by
    rw [List.foldl_cons]
    obtain ⟨h1, h2⟩ := foldMax ns (if m > n then m else n)
    refine ⟨?_, fun y hy => ?_⟩
    · rcases List.mem_cons.mp h1 with e | h
      · rw [e]; split <;> simp
      · exact List.mem_cons_of_mem _ (List.mem_cons_of_mem _ h)
    · have h0 := h2 _ List.mem_cons_self
      rcases List.mem_cons.mp hy with e | hy
      · subst e; split at h0 <;> rename_i q <;> (try simp only [q, if_true, if_false]) <;> omega
      · rcases List.mem_cons.mp hy with e | hy
        · subst e; split at h0 <;> rename_i q <;> (try simp only [q, if_true, if_false]) <;> omega
        · exact h2 y (List.mem_cons_of_mem _ hy)
theorem lexB_leP {a b : Int × Int} (h : SrtO.lexB b a = false) : leP a b = true := by
  have q := SrtO.lexB_no.mp h
  exact leP_iff.mpr (by omega)
theorem zip_keys : ∀ {ks : List Key} {ws : List V}, ks.length = ws.length → (ks.zip ws).map (fun kv => kV kv.1) = ks.map kV
  | [], _, _ => rfl
  | k :: ks, [], h => by simp at h
  | k :: ks, w :: ws, h => by
    have ih := zip_keys (ks := ks) (ws := ws) (by simpa using h)
    exact congrArg (kV k :: ·) ih
theorem reps_keys : ∀ {ks : List Key}, Reps K F B H (ks.map fun k => match k with | .inl i => D.int i | .inr x => D.str x) (ks.map kV) (fun _ => 0)
  | [] => Reps.nilR
  | k :: ks => by
    rw [List.map_cons, List.map_cons]
    unfold Reps
    refine ⟨_, _, fun _ => 0, fun _ => 0, rfl, ?_, reps_keys, fun _ => rfl⟩
    cases k with
    | inl i => exact rep_int
    | inr x => exact rep_str
theorem call_ok {q : Prim} {ds : List D} {vs : List V} {d : D} {Q : VK} {t : String × Bool × Nat} (g : Good F B H O) (h : pr q ds = some d) (vw : Views K F B H O ds vs) (c : Cont K F B H d Q) (hq : bltOf q = some t) : rC K q vs H Q := by
  cases q with
  | len =>
    replace h : p_len ds = some d := h
    unfold p_len at h
    split at h
    · cases h
      obtain ⟨v, Ov, rfl, r⟩ := views1 vw
      obtain ⟨a, ws, O1, rfl, rs, hs, _, _⟩ := lst_inv g r
      refine ⟨a, ws, rfl, .inl hs, ?_⟩
      rw [rs.length]; exact c_int g c
    · cases h
      obtain ⟨v, Ov, rfl, r⟩ := views1 vw
      obtain ⟨a, ws, rfl, rs, _, hs⟩ := tup_inv g r
      refine ⟨a, ws, rfl, .inr (.inl (.inl hs)), ?_⟩
      rw [rs.length]; exact c_int g c
    · cases h
  | list =>
    replace h : p_list ds = some d := h
    unfold p_list at h
    split at h
    · split at h
      · rename_i hn
        cases h
        obtain ⟨v, Ov, rfl, r⟩ := views1 vw
        obtain ⟨a, ws, O1, rfl, rs, hs, _, _⟩ := lst_inv g r
        exact .inl ⟨a, ws, rfl, .inl hs, c_lst g (rs.zero hn) c⟩
      · cases h
    · split at h
      · rename_i hn
        cases h
        obtain ⟨v, Ov, rfl, r⟩ := views1 vw
        obtain ⟨a, ws, rfl, rs, _, hs⟩ := tup_inv g r
        exact .inl ⟨a, ws, rfl, .inr (.inl (.inl hs)), c_lst g (rs.zero hn) c⟩
      · cases h
    · rename_i ks xs
      cases h
      obtain ⟨v, Ov, rfl, r⟩ := views1 vw
      obtain ⟨a, ws, O1, rfl, rs, hs, _, hl⟩ := dK_inv g r
      refine .inr ⟨a, _, rfl, hs, ?_⟩
      rw [zip_keys hl]
      exact c_lst g reps_keys c
    · cases h
  | tuple =>
    replace h : p_tuple ds = some d := h
    unfold p_tuple at h
    split at h
    · split at h
      · rename_i hn
        cases h
        obtain ⟨v, Ov, rfl, r⟩ := views1 vw
        obtain ⟨a, ws, O1, rfl, rs, hs, _, _⟩ := lst_inv g r
        exact ⟨a, ws, rfl, .inl ⟨hs, c_tup g (rs.zero hn) c⟩⟩
      · cases h
    · split at h
      · rename_i hn
        cases h
        obtain ⟨v, Ov, rfl, r⟩ := views1 vw
        obtain ⟨a, ws, rfl, rs, hf, hs⟩ := tup_inv g r
        refine ⟨a, ws, rfl, .inr ⟨.inl (.inl hs), c_old g ?_ c⟩⟩
        unfold Rep
        exact ⟨a, ws, rfl, hf, rs.zero hn⟩
      · cases h
    · cases h
  | sorted =>
    replace h : p_sorted ds = some d := h
    unfold p_sorted at h
    split at h
    · split at h
      · rename_i is e
        cases h
        obtain ⟨v, Ov, rfl, r⟩ := views1 vw
        obtain ⟨a, ws, O1, rfl, rs, hs, _, _⟩ := lst_inv g r
        obtain ⟨rfl, rfl⟩ := ints_reps e rs
        refine .inl ⟨a, is, rfl, hs, fun ns' p hp hw hn => ?_⟩
        rw [isort_uniq hp hw]
        exact c_lst g reps_ints c p hn
      · rename_i e
        obtain ⟨ps, e2, rfl⟩ := Option.map_eq_some_iff.mp h
        obtain ⟨v, Ov, rfl, r⟩ := views1 vw
        obtain ⟨a, ws, O1, rfl, rs, hs, _, _⟩ := lst_inv g r
        obtain ⟨q1, q2⟩ := pairs_reps e2 rs
        refine .inr ⟨a, ws, kkF F, rfl, hs, fun x hx => ?_, fun ys p h1 h2 hn => ?_⟩
        · obtain ⟨t, e3, e4⟩ := q1 x hx
          exact ⟨t, e3, g.fh _ _ e4⟩
        · have e5 : ys.map (kkF F) = psort ps := by
            refine psort_uniq (by rw [← q2]; exact h2.perm.map _) (List.pairwise_map.mpr ?_)
            exact h1.imp fun hh => lexB_leP hh
          have rr := reps_pairs (K := K) (F := F) (B := B) (H := H) (vs := ys) fun v hv => q1 v (h2.perm.mem_iff.mp hv)
          rw [e5] at rr
          exact c_lst g rr c p hn
    · cases h
  | sum =>
    replace h : p_sum ds = some d := h
    unfold p_sum at h
    split at h
    · obtain ⟨is, e, rfl⟩ := Option.map_eq_some_iff.mp h
      obtain ⟨v, Ov, rfl, r⟩ := views1 vw
      obtain ⟨a, ws, O1, rfl, rs, hs, _, _⟩ := lst_inv g r
      obtain ⟨rfl, rfl⟩ := ints_reps e rs
      exact ⟨a, is, rfl, hs, c_int g c⟩
    · cases h
  | min1 =>
    replace h : p_min1 ds = some d := h
    unfold p_min1 at h
    split at h
    · obtain ⟨is, e, h⟩ := Option.bind_eq_some_iff.mp h
      obtain ⟨m, e2, rfl⟩ := Option.map_eq_some_iff.mp h
      obtain ⟨v, Ov, rfl, r⟩ := views1 vw
      obtain ⟨a, ws, O1, rfl, rs, hs, _, _⟩ := lst_inv g r
      obtain ⟨rfl, rfl⟩ := ints_reps e rs
      cases is with
      | nil => cases e2
      | cons n ns =>
        cases e2
        obtain ⟨f1, f2⟩ := foldMin ns n
        refine .inl ⟨a, n :: ns, rfl, hs, by simp, fun m hm hle => ?_⟩
        have e3 : m = ns.foldl (fun a b => if b < a then b else a) n := Int.le_antisymm (hle _ f1) (f2 _ hm)
        rw [e3]; exact c_int g c
    · obtain ⟨is, e, h⟩ := Option.bind_eq_some_iff.mp h
      obtain ⟨m, e2, rfl⟩ := Option.map_eq_some_iff.mp h
      obtain ⟨v, Ov, rfl, r⟩ := views1 vw
      obtain ⟨a, ws, rfl, rs, hf, hs⟩ := tup_inv g r
      obtain ⟨rfl, rfl⟩ := ints_reps e rs
      cases is with
      | nil => cases e2
      | cons n ns =>
        cases e2
        exact .inr ⟨a, n, ns, rfl, .inl (.inl hs), c_int g c⟩
    · cases h
  | max1 =>
    replace h : p_max1 ds = some d := h
    unfold p_max1 at h
    split at h
    · obtain ⟨is, e, h⟩ := Option.bind_eq_some_iff.mp h
      obtain ⟨m, e2, rfl⟩ := Option.map_eq_some_iff.mp h
      obtain ⟨v, Ov, rfl, r⟩ := views1 vw
      obtain ⟨a, ws, O1, rfl, rs, hs, _, _⟩ := lst_inv g r
      obtain ⟨rfl, rfl⟩ := ints_reps e rs
      cases is with
      | nil => cases e2
      | cons n ns =>
        cases e2
        obtain ⟨f1, f2⟩ := foldMax ns n
        refine .inl ⟨a, n :: ns, rfl, hs, by simp, fun m hm hle => ?_⟩
        have e3 : m = ns.foldl (fun a b => if b > a then b else a) n := Int.le_antisymm (f2 _ hm) (hle _ f1)
        rw [e3]; exact c_int g c
    · obtain ⟨is, e, h⟩ := Option.bind_eq_some_iff.mp h
      obtain ⟨m, e2, rfl⟩ := Option.map_eq_some_iff.mp h
      obtain ⟨v, Ov, rfl, r⟩ := views1 vw
      obtain ⟨a, ws, rfl, rs, hf, hs⟩ := tup_inv g r
      obtain ⟨rfl, rfl⟩ := ints_reps e rs
      cases is with
      | nil => cases e2
      | cons n ns =>
        cases e2
        exact .inr ⟨a, n, ns, rfl, .inl (.inl hs), c_int g c⟩
    · cases h
  | min2 =>
    replace h : p_min2 ds = some d := h
    unfold p_min2 at h
    split at h
    · cases h
      obtain ⟨v, w, _, _, rfl, r1, r2⟩ := views2 vw
      rw [int_inv r1, int_inv r2]
      exact ⟨_, _, rfl, c_int g c⟩
    · cases h
  | max2 =>
    replace h : p_max2 ds = some d := h
    unfold p_max2 at h
    split at h
    · cases h
      obtain ⟨v, w, _, _, rfl, r1, r2⟩ := views2 vw
      rw [int_inv r1, int_inv r2]
      exact ⟨_, _, rfl, c_int g c⟩
    · cases h
  | int1 =>
    replace h : p_int1 ds = some d := h
    unfold p_int1 at h
    split at h
    · cases h
      obtain ⟨v, _, rfl, r1⟩ := views1 vw
      rw [int_inv r1]
      exact .inl ⟨_, rfl, c_int g c⟩
    · cases h
      obtain ⟨v, _, rfl, r1⟩ := views1 vw
      rw [bl_inv r1]
      exact .inr ⟨_, rfl, c_int g c⟩
    · cases h
  | all =>
    replace h : p_all ds = some d := h
    unfold p_all at h
    split at h
    · obtain ⟨bs, e, rfl⟩ := Option.map_eq_some_iff.mp h
      obtain ⟨v, _, rfl, r1⟩ := views1 vw
      obtain ⟨a, ws, O1, rfl, rs, hs, _, _⟩ := lst_inv g r1
      rw [bls_reps e rs] at hs
      exact ⟨a, bs, rfl, hs, c_bl g c⟩
    · cases h
  | _ => cases hq
end
end DL
set_option Elab.async false
set_option linter.all false
set_option maxRecDepth 100000
/-! DL5: operands, calls, displays: what the interpreter says, over the heap. -/
namespace DL
open PySem PySem.Spec PyProof.Rows L2

section
variable {K : PySem.W.Frag} {F B H F' H' F1 H1 : Hp} {O O' O1 Od : Cnt} {st st1 : DSt} {σ : L2.St}
theorem SRep.step (s : SRep K F B H st σ O) (e : Step F H (fun _ => 0) F' H' O') : SRep K F' B H' st σ O :=
  s.mono e.mono (Same.refl _) fun a u h q => e.keep a u q rfl
theorem SRep.ext (s : SRep K F B H st σ O) (e : Ext F H F' H' Od) : SRep K F' B H' st σ O := s.mono e.ff (Same.refl _) fun a u _ q => e.hh a u q
theorem Rep.ext {d : D} {v : V} (s : Rep K F B H d v O) (e : Ext F H F' H' Od) : Rep K F' B H' d v O := Rep.mono e.ff (Same.refl _) d v _ s fun a u _ q => e.hh a u q
theorem Reps.ext {d : List D} {v : List V} (s : Reps K F B H d v O) (e : Ext F H F' H' Od) : Reps K F' B H' d v O := Reps.mono e.ff (Same.refl _) d v _ s fun a u _ q => e.hh a u q
/-- what an expression's wish gives a primitive -/
theorem post_cont {Q : VK} {d : D} (s : SRep K F1 B H1 st1 σ O1) (g : Good F1 B H1 O1) (e : Step F H O F1 H1 O1)
    (q : ∀ v F' H' O' Od, SRep K F' B H' st1 σ O' → Rep K F' B H' d v Od → Good F' B H' (fun a => O' a + Od a) → Step F H O F' H' (fun a => O' a + Od a) → Q v H') : Cont K F1 B H1 d Q := fun v F' H' Od r x => by
  obtain ⟨g2, e2⟩ := x.step g s.trk (K := K)
  exact q v F' H' O1 Od (s.ext x) r g2 (e.trans e2)

/-- the cells held alone by a tree, for ever still from now on -/
def frzF (F H : Hp) (E : Cnt) : Hp := fun a => if 1 ≤ E a then H a else F a
theorem frzF_same {E : Cnt} (h : ∀ a, 1 ≤ E a → F a = none) : Same F (frzF F H E) := fun a u e => by
  unfold frzF
  by_cases x : 1 ≤ E a
  · rw [h a x] at e; cases e
  · rw [if_neg x]; exact e
theorem frz_step {E : Cnt} (g : Good F B H (fun a => O a + E a)) (t : Alone E H) : Good (frzF F H E) B H O ∧ Step F H (fun a => O a + E a) (frzF F H E) H O := by
  have fs : Same F (frzF F H E) := frzF_same fun a x => g.nf a (by (try dsimp only); omega)
  refine ⟨⟨fun a => ?_, fun a h => ?_, fun a h => ?_, fun a u e => ?_, g.bh⟩, ⟨fun a u e _ => e, fs, fun a u e => ?_, fun a h => ?_⟩⟩
  · have := g.one a; (try dsimp only at this); omega
  · have := g.one a
    (try dsimp only at this)
    unfold frzF
    rw [if_neg (by omega)]
    exact g.nf a (by (try dsimp only); omega)
  · exact g.nb a (by (try dsimp only); omega)
  · unfold frzF at e
    split at e
    · exact e
    · exact g.fh a u e
  · unfold frzF at e
    split at e
    · exact .inr (.inl (by (try dsimp only); omega))
    · exact .inl (by rw [e]; intro z; cases z)
  · exact .inl (by (try dsimp only); omega)
theorem Rep.freeze {E : Cnt} {d : D} {v : V} (r : Rep K F B H d v E) (g : Good F B H (fun a => O a + E a)) : Rep K (frzF F H E) B H d.frz v (fun _ => 0) :=
  Rep.to (frzF_same fun a x => g.nf a (by (try dsimp only); omega)) (Same.refl _) d v E r (.inl ⟨rfl, fun a u x e => by unfold frzF; rw [if_pos x]; exact e⟩)
theorem SRep.frzF {E : Cnt} (s : SRep K F B H st σ O) (g : Good F B H (fun a => O a + E a)) : SRep K (frzF F H E) B H st σ O :=
  s.mono (frzF_same fun a x => g.nf a (by (try dsimp only); omega)) (Same.refl _) fun a u _ e => e
end

section
variable (K : PySem.W.Frag) (Fn : FT) (G : Str → Option D)
def tOs : Os → TA
  | .nil => tNil
  | .e a r => tCons (tE K (iE Fn G a)) (tOs r)
  | .v i r => tCons (tVar i) (tOs r)
  | .q o r => tCons (tQ K o) (tOs r)
  | .l i r => tCons (tVar i) (tOs r)
end
section
variable {K : PySem.W.Frag} {Fn : FT} {G : Str → Option D} {F B H F' H' F1 H1 : Hp} {O O' O1 Od : Cnt} {σ : L2.St}
theorem SRep.val {st : DSt} {i : Nat} {d : D} (s : SRep K F B H st σ O) (e : getS st i = some d) : ∃ v, σ[i]? = some (some v) ∧ View K F B H O d v := by
  obtain ⟨v, Oi, Or, e1, r, _, ho⟩ := s.take e
  exact ⟨v, e1, Oi, r, fun a => by have := ho a; omega⟩
theorem View.cons {d : D} {v : V} {ds : List D} {vs : List V} (h : View K F B H O d v) (t : Views K F B H O ds vs) : Views K F B H O (d :: ds) (v :: vs) := ⟨v, vs, rfl, h, t⟩
theorem View.zero {d : D} {v : V} (h : View K F B H O d v) (n : d.nown = true) : Rep K F B H d v (fun _ => 0) := let ⟨_, r, _⟩ := h; r.zero n
theorem View.of0 {d : D} {v : V} (h : Rep K F B H d v (fun _ => 0)) : View K F B H O d v := ⟨_, h, fun a => Nat.zero_le _⟩
theorem Rep.step0 {d : D} {v : V} (r : Rep K F B H d v (fun _ => 0)) (e : Step F H O F' H' O') : Rep K F' B H' d v (fun _ => 0) :=
  Rep.mono e.mono (Same.refl _) d v _ r fun a u h => absurd h (by (try dsimp only); omega)
/-- a row of quiet operands -/
theorem tOs_quiet : ∀ (as : Os) {st st' : DSt} {ds : List D} {Q : List V → Hp → Prop}, quietO as = true → SRep K F B H st σ O → Good F B H O → iO Fn G as st = some (ds, st') →
    st' = st ∧ ((∀ vs, Views K F B H O ds vs → Q vs H) → tOs K Fn G as σ H Q)
  | .nil, st, st', ds, Q, _, s, g, e => by
    cases (show some ([], st) = some (ds, st') from e)
    exact ⟨rfl, fun q => q [] rfl⟩
  | .e a r, _, _, _, _, hq, _, _, _ => by cases hq
  | .l i r, _, _, _, _, hq, _, _, _ => by cases hq
  | .v i r, st, st', ds, Q, hq, s, g, e => by
    unfold iO at e
    split at e
    · cases e
    · rename_i d0 e0
      obtain ⟨ds1, st1, e1, e2⟩ := bnd_some e
      split at e2
      · rename_i d e3
        cases e2
        have h1 := (tOs_quiet r (Q := fun _ _ => True) (show quietO r = true from hq) s g e1).1
        subst h1
        refine ⟨rfl, fun q => ?_⟩
        obtain ⟨v, ev, hv⟩ := s.val e3
        refine ⟨v, ev, ?_⟩
        exact (tOs_quiet r (show quietO r = true from hq) s g e1).2 fun vs hvs => q _ (hv.cons hvs)
      · cases e2
  | .q o r, st, st', ds, Q, hq, s, g, e => by
    unfold iO at e
    split at e
    · rename_i d e3
      split at e
      · obtain ⟨ds1, st1, e1, e2⟩ := bnd_some e
        cases e2
        refine ⟨(tOs_quiet r (Q := fun _ _ => True) (show quietO r = true from hq) s g e1).1, fun q => ?_⟩
        exact tQ_ok o s g e3 fun v hv => (tOs_quiet r (show quietO r = true from hq) s g e1).2 fun vs hvs => q _ (hv.cons hvs)
      · cases e
    · cases e
/-- operands of a primitive -/
theorem tOs_ok : ∀ (as : Os) {F H : Hp} {O : Cnt} {st st' : DSt} {ds : List D} {Q : List V → Hp → Prop}, SRep K F B H st σ O → Good F B H O → iO Fn G as st = some (ds, st') →
    (∀ vs F' H' O', SRep K F' B H' st' σ O' → Views K F' B H' O' ds vs → Good F' B H' O' → Step F H O F' H' O' → Q vs H') → tOs K Fn G as σ H Q
  | .nil, F, H, O, st, st', ds, Q, s, g, e, q => by
    cases (show some ([], st) = some (ds, st') from e)
    exact q [] F H O s rfl g (Step.refl fun _ => Nat.le_refl _)
  | .l i r, _, _, _, _, _, _, _, _, _, e, _ => by cases (show none = some _ from e)
  | .e a r, F, H, O, st, st', ds, Q, s, g, e, q => by
    obtain ⟨d, st1, e1, e2⟩ := bnd_some (show bnd (iE Fn G a st) _ = some (ds, st') from e)
    obtain ⟨ds1, st2, e3, e4⟩ := bnd_some e2
    cases e4
    refine ⟨F, B, O, st, d, st1, s, g, e1, fun v F1 H1 O1 Od s1 r1 g1 p1 => ?_⟩
    obtain ⟨g2, p2⟩ := frz_step g1 (Rep.trk d v Od r1)
    have r2 := r1.freeze g1
    refine tOs_ok r (s1.frzF g1) g2 e3 fun vs F2 H2 O2 s3 w3 g3 p3 => ?_
    exact q _ F2 H2 O2 s3 ((View.of0 (r2.step0 p3)).cons w3) g3 ((p1.trans p2).trans p3)
  | .v i r, F, H, O, st, st', ds, Q, s, g, e, q => by
    unfold iO at e
    split at e
    · cases e
    · rename_i d0 e0
      obtain ⟨ds1, st1, e1, e2⟩ := bnd_some e
      split at e2
      · rename_i d e3
        cases e2
        obtain ⟨v, ev, _⟩ := s.val e0
        refine ⟨v, ev, ?_⟩
        refine tOs_ok r s g e1 fun vs F1 H1 O1 s1 w1 g1 p1 => ?_
        obtain ⟨v', ev', hv⟩ := s1.val e3
        rw [ev] at ev'
        cases ev'
        exact q _ F1 H1 O1 s1 (hv.cons w1) g1 p1
      · cases e2
  | .q o r, F, H, O, st, st', ds, Q, s, g, e, q => by
    unfold iO at e
    split at e
    · rename_i d e3
      split at e
      · rename_i hc
        obtain ⟨ds1, st1, e1, e2⟩ := bnd_some e
        cases e2
        refine tQ_ok o s g e3 fun v hv => ?_
        rcases Bool.or_eq_true_iff.mp hc with hc | hc
        · refine tOs_ok r s g e1 fun vs F1 H1 O1 s1 w1 g1 p1 => ?_
          exact q _ F1 H1 O1 s1 ((View.of0 ((hv.zero hc).step0 p1)).cons w1) g1 p1
        · obtain ⟨h1, h2⟩ := tOs_quiet r (Q := fun vs H' => Q (v :: vs) H') hc s g e1
          subst h1
          exact h2 fun vs hvs => q _ F H O s (hv.cons hvs) g (Step.refl fun _ => Nat.le_refl _)
      · cases e
    · cases e
/-- items of a display -/
theorem tXs_ok : ∀ (as : Os) {F H : Hp} {O : Cnt} {st st' : DSt} {ds : List D} {Q : List V → Hp → Prop}, SRep K F B H st σ O → Good F B H O → iX Fn G as st = some (ds, st') →
    (∀ vs F' H' O' Od, SRep K F' B H' st' σ O' → Reps K F' B H' ds vs Od → Good F' B H' (fun a => O' a + Od a) → Step F H O F' H' (fun a => O' a + Od a) → Q vs H') → tOs K Fn G as σ H Q
  | .nil, F, H, O, st, st', ds, Q, s, g, e, q => by
    cases (show some ([], st) = some (ds, st') from e)
    exact q [] F H O (fun _ => 0) s Reps.nilR (g.le fun a => by (try dsimp only); omega) (Step.refl fun a => by (try dsimp only); omega)
  | .l i r, _, _, _, _, _, _, _, _, _, e, _ => by cases (show none = some _ from e)
  | .v i r, _, _, _, _, _, _, _, _, _, e, _ => by cases (show none = some _ from e)
  | .q o r, F, H, O, st, st', ds, Q, s, g, e, q => by
    unfold iX at e
    split at e
    · rename_i d e3
      split at e
      · rename_i hc
        obtain ⟨ds1, st1, e1, e2⟩ := bnd_some e
        cases e2
        refine tQ_ok o s g e3 fun v hv => ?_
        refine tXs_ok r s g e1 fun vs F1 H1 O1 Od s1 w1 g1 p1 => ?_
        refine q _ F1 H1 O1 Od s1 ?_ g1 p1
        unfold Reps
        exact ⟨v, vs, fun _ => 0, Od, rfl, (hv.zero hc).step0 p1, w1, fun a => by (try dsimp only); omega⟩
      · cases e
    · cases e
  | .e a r, F, H, O, st, st', ds, Q, s, g, e, q => by
    obtain ⟨d, st1, e1, e2⟩ := bnd_some (show bnd (iE Fn G a st) _ = some (ds, st') from e)
    obtain ⟨ds1, st2, e3, e4⟩ := bnd_some e2
    cases e4
    refine ⟨F, B, O, st, d, st1, s, g, e1, fun v F1 H1 O1 Od s1 r1 g1 p1 => ?_⟩
    refine tXs_ok r s1 (g1.le fun a => by (try dsimp only); omega) e3 fun vs F2 H2 O2 Oe s2 w2 g2 p2 => ?_
    obtain ⟨g3, p3, k3⟩ := p2.frame g1 g2 (Rep.trk d v Od r1)
    refine q _ F2 H2 O2 (fun a => Od a + Oe a) s2 ?_ (g3.le fun a => by (try dsimp only); omega) ((p1.trans p3).le fun a => by (try dsimp only); omega)
    unfold Reps
    exact ⟨v, vs, Od, Oe, rfl, Rep.mono p2.mono (Same.refl _) d v Od r1 k3, w2, fun a => rfl⟩

/-! ### arguments of a call -/
/-- what is known of the arguments' values behind their expressions; Ot: what the temporaries hold alone -/
def AView (K : PySem.W.Frag) (F B H : Hp) (σ : L2.St) : Os → List D → List V → Cnt → Prop
  | .nil, ds, vs, Ot => ds = [] ∧ vs = [] ∧ ∀ a, Ot a = 0
  | .e _ r, ds, vs, Ot => ∃ d ds' v vs' Oi Or, ds = d :: ds' ∧ vs = v :: vs' ∧ Rep K F B H d v Oi ∧ AView K F B H σ r ds' vs' Or ∧ ∀ a, Ot a = Oi a + Or a
  | .v i r, ds, vs, Ot => ∃ d ds' v vs', ds = d :: ds' ∧ vs = v :: vs' ∧ σ[i]? = some (some v) ∧ AView K F B H σ r ds' vs' Ot
  | .l i r, ds, vs, Ot => ∃ d ds' v vs', ds = d :: ds' ∧ vs = v :: vs' ∧ σ[i]? = some (some v) ∧ AView K F B H σ r ds' vs' Ot
  | .q _ _, _, _, _ => False
theorem tAs_ok : ∀ (as : Os) {F H : Hp} {O : Cnt} {st st' : DSt} {ds : List D} {Q : List V → Hp → Prop}, SRep K F B H st σ O → Good F B H O → iA Fn G as st = some (ds, st') →
    (∀ vs F' H' O' Ot, SRep K F' B H' st' σ O' → AView K F' B H' σ as ds vs Ot → Good F' B H' (fun a => O' a + Ot a) → Step F H O F' H' (fun a => O' a + Ot a) → Q vs H') → tOs K Fn G as σ H Q
  | .nil, F, H, O, st, st', ds, Q, s, g, e, q => by
    cases (show some ([], st) = some (ds, st') from e)
    exact q [] F H O (fun _ => 0) s ⟨rfl, rfl, fun _ => rfl⟩ (g.le fun a => by (try dsimp only); omega) (Step.refl fun a => by (try dsimp only); omega)
  | .q o r, _, _, _, _, _, _, _, _, _, e, _ => by cases (show none = some _ from e)
  | .e a r, F, H, O, st, st', ds, Q, s, g, e, q => by
    obtain ⟨d, st1, e1, e2⟩ := bnd_some (show bnd (iE Fn G a st) _ = some (ds, st') from e)
    obtain ⟨ds1, st2, e3, e4⟩ := bnd_some e2
    cases e4
    refine ⟨F, B, O, st, d, st1, s, g, e1, fun v F1 H1 O1 Od s1 r1 g1 p1 => ?_⟩
    refine tAs_ok r s1 (g1.le fun a => by (try dsimp only); omega) e3 fun vs F2 H2 O2 Oe s2 w2 g2 p2 => ?_
    obtain ⟨g3, p3, k3⟩ := p2.frame g1 g2 (Rep.trk d v Od r1)
    refine q _ F2 H2 O2 (fun a => Od a + Oe a) s2 ?_ (g3.le fun a => by (try dsimp only); omega) ((p1.trans p3).le fun a => by (try dsimp only); omega)
    exact ⟨_, _, _, _, Od, Oe, rfl, rfl, Rep.mono p2.mono (Same.refl _) d v Od r1 k3, w2, fun a => rfl⟩
  | .v i r, F, H, O, st, st', ds, Q, s, g, e, q => by
    unfold iA at e
    split at e
    · cases e
    · rename_i d0 e0
      obtain ⟨ds1, st1, e1, e2⟩ := bnd_some e
      cases e2
      obtain ⟨v, ev, _⟩ := s.val e0
      refine ⟨v, ev, ?_⟩
      refine tAs_ok r s g e1 fun vs F1 H1 O1 Ot s1 w1 g1 p1 => ?_
      exact q _ F1 H1 O1 Ot s1 ⟨_, _, _, _, rfl, rfl, ev, w1⟩ g1 p1
  | .l i r, F, H, O, st, st', ds, Q, s, g, e, q => by
    unfold iA at e
    split at e
    · cases e
    · rename_i d0 e0
      obtain ⟨ds1, st1, e1, e2⟩ := bnd_some e
      cases e2
      obtain ⟨v, ev, _⟩ := s.val e0
      refine ⟨v, ev, ?_⟩
      refine tAs_ok r s g e1 fun vs F1 H1 O1 Ot s1 w1 g1 p1 => ?_
      exact q _ F1 H1 O1 Ot s1 ⟨_, _, _, _, rfl, rfl, ev, w1⟩ g1 p1
/-- the trees of the lent slots -/
def LRep (K : PySem.W.Frag) (F B H : Hp) (st1 : DSt) : Os → List V → Cnt → Prop
  | .nil, _, Oc => ∀ a, Oc a = 0
  | .e _ r, vs, Oc => ∃ v vs', vs = v :: vs' ∧ LRep K F B H st1 r vs' Oc
  | .v _ r, vs, Oc => ∃ v vs', vs = v :: vs' ∧ LRep K F B H st1 r vs' Oc
  | .l i r, vs, Oc => ∃ v vs' d Oi Or, vs = v :: vs' ∧ getS st1 i = some d ∧ Rep K F B H d v Oi ∧ LRep K F B H st1 r vs' Or ∧ ∀ a, Oc a = Oi a + Or a
  | .q _ _, _, _ => False
theorem getS_set_none {s : DSt} {i j : Nat} {d : D} (e : getS (s.set i none) j = some d) : getS s j = some d := by
  unfold getS at e ⊢
  rw [List.getElem?_set] at e
  by_cases h : i = j
  · rw [if_pos h] at e
    split at e
    · rename_i hh
      split at hh
      · cases hh
      · cases hh
    · cases e
  · rw [if_neg h] at e
    exact e
theorem lend_ok {st1 : DSt} : ∀ (as : Os) {s s2 : DSt} {ds : List D} {vs : List V} {Os' Ot : Cnt}, SRep K F B H s σ Os' → (∀ i d, getS s i = some d → getS st1 i = some d) → AView K F B H σ as ds vs Ot → lendA as s = some s2 →
    ∃ O2 Oc, SRep K F B H s2 σ O2 ∧ LRep K F B H st1 as vs Oc ∧ ∀ a, Os' a = O2 a + Oc a
  | .nil, s, s2, ds, vs, Os', Ot, h, hs, hv, e => by
    cases (show some s = some s2 from e)
    exact ⟨Os', fun _ => 0, h, fun _ => rfl, fun a => by (try dsimp only); omega⟩
  | .e a r, s, s2, ds, vs, Os', Ot, h, hs, hv, e => by
    obtain ⟨d, ds', v, vs', Oi, Or, rfl, rfl, _, hv, _⟩ := hv
    obtain ⟨O2, Oc, h2, l, ho⟩ := lend_ok r h hs hv (show lendA r s = some s2 from e)
    exact ⟨O2, Oc, h2, ⟨v, vs', rfl, l⟩, ho⟩
  | .v a r, s, s2, ds, vs, Os', Ot, h, hs, hv, e => by
    obtain ⟨d, ds', v, vs', rfl, rfl, _, hv⟩ := hv
    obtain ⟨O2, Oc, h2, l, ho⟩ := lend_ok r h hs hv (show lendA r s = some s2 from e)
    exact ⟨O2, Oc, h2, ⟨v, vs', rfl, l⟩, ho⟩
  | .q _ _, _, _, _, _, _, _, _, _, hv, _ => hv.elim
  | .l i r, s, s2, ds, vs, Os', Ot, h, hs, hv, e => by
    obtain ⟨d, ds', v, vs', rfl, rfl, ev, hv⟩ := hv
    unfold lendA at e
    split at e
    · rename_i d0 e0
      obtain ⟨w, Oi, Or, ew, rw', sw, hw⟩ := h.take e0
      rw [ev] at ew
      cases ew
      obtain ⟨O2, Oc, h2, l, ho⟩ := lend_ok r sw (fun j d q => hs j d (getS_set_none q)) hv e
      exact ⟨O2, fun a => Oi a + Oc a, h2, ⟨v, vs', d0, Oi, Oc, rfl, hs i d0 e0, rw', l, fun a => rfl⟩, fun a => by have := hw a; have := ho a; (try dsimp only); omega⟩
    · cases e
/-- the region that a callee may look at: what the caller holds alone besides -/
def lookB (B H : Hp) (E : Cnt) : Hp := fun a => if 1 ≤ E a then H a else B a
theorem lookB_same {E : Cnt} (h : ∀ a, 1 ≤ E a → B a = none) : Same B (lookB B H E) := fun a u e => by
  unfold lookB
  by_cases x : 1 ≤ E a
  · rw [h a x] at e; cases e
  · rw [if_neg x]; exact e
theorem fill_ok {st1 s2 : DSt} {O2 : Cnt} (hs : SRep K F B H s2 σ O2) (hb : ∀ a, 1 ≤ O2 a → B a = none) : ∀ (as : Os) {ds es : List D} {vs : List V} {Oc Ot : Cnt}, AView K F B H σ as ds vs Ot → LRep K F B H st1 as vs Oc → fillA as ds st1 s2 = some es →
    Reps K F (lookB B H O2) H es vs (fun a => Oc a + Ot a)
  | .nil, ds, es, vs, Oc, Ot, hv, l, e => by
    obtain ⟨rfl, rfl, h0⟩ := hv
    cases (show some [] = some es from e)
    unfold Reps
    exact ⟨rfl, fun a => by have q := l a; have := h0 a; (try dsimp only); omega⟩
  | .e a r, ds, es, vs, Oc, Ot, hv, l, e => by
    obtain ⟨d, ds', v, vs', Oi, Or, rfl, rfl, rv, hv, ht⟩ := hv
    obtain ⟨w, ws, ew, l⟩ := l
    cases ew
    obtain ⟨es', e1, rfl⟩ := Option.map_eq_some_iff.mp (show (fillA r ds' st1 s2).map (d :: ·) = some es from e)
    unfold Reps
    exact ⟨v, vs', Oi, fun a => Oc a + Or a, rfl, Rep.mono (Same.refl _) (lookB_same hb) d v _ rv fun a u _ q => q, fill_ok hs hb r hv l e1, fun a => by have := ht a; (try dsimp only); omega⟩
  | .v i r, ds, es, vs, Oc, Ot, hv, l, e => by
    obtain ⟨d, ds', v, vs', rfl, rfl, ev, hv⟩ := hv
    obtain ⟨w, ws, ew, l⟩ := l
    cases ew
    unfold fillA at e
    split at e
    · rename_i d0 e0
      obtain ⟨es', e1, rfl⟩ := Option.map_eq_some_iff.mp e
      obtain ⟨w, Oi, Or, ew, rw', _, hw⟩ := hs.take e0
      rw [ev] at ew
      cases ew
      unfold Reps
      refine ⟨v, vs', fun _ => 0, fun a => Oc a + Ot a, rfl, Rep.to (Same.refl _) (lookB_same hb) d0 v Oi rw' (.inr ⟨rfl, fun a u x q => ?_⟩), fill_ok hs hb r hv l e1, fun a => by (try dsimp only); omega⟩
      unfold lookB
      rw [if_pos (by have := hw a; omega)]
      exact q
    · cases e
  | .l i r, ds, es, vs, Oc, Ot, hv, l, e => by
    obtain ⟨d, ds', v, vs', rfl, rfl, ev, hv⟩ := hv
    obtain ⟨w, ws, d1, Oi, Or, ew, e2, rr, l, ho⟩ := l
    cases ew
    unfold fillA at e
    rw [e2] at e
    obtain ⟨es', e1, rfl⟩ := Option.map_eq_some_iff.mp e
    unfold Reps
    exact ⟨v, vs', Oi, fun a => Or a + Ot a, rfl, Rep.mono (Same.refl _) (lookB_same hb) d1 v _ rr fun a u _ q => q, fill_ok hs hb r hv l e1, fun a => by have := ho a; (try dsimp only); omega⟩
  | .q _ _, _, _, _, _, _, hv, _, _ => hv.elim
/-- what a callee hands back of its parameters' trees -/
def ORep (K : PySem.W.Frag) (F B H : Hp) : List (Option D) → List V → Cnt → Prop
  | [], _, Oo => ∀ a, Oo a = 0
  | none :: os, vs, Oo => ∃ v vs', vs = v :: vs' ∧ ORep K F B H os vs' Oo
  | some d :: os, vs, Oo => ∃ v vs' Oi Or, vs = v :: vs' ∧ Rep K F B H d v Oi ∧ ORep K F B H os vs' Or ∧ ∀ a, Oo a = Oi a + Or a
theorem rest_ok : ∀ (as : Os) {s s3 : DSt} {outs : List (Option D)} {ds : List D} {vs : List V} {Os' Oo Ot : Cnt} {Fv Bv Hv : Hp}, SRep K F B H s σ Os' → AView K Fv Bv Hv σ as ds vs Ot → ORep K F B H outs vs Oo → restA as outs s = some s3 →
    ∃ O3, SRep K F B H s3 σ O3 ∧ ∀ a, O3 a ≤ Os' a + Oo a
  | .nil, s, s3, outs, ds, vs, Os', Oo, Ot, _, _, _, h, hv, l, e => by
    cases outs with
    | nil =>
      cases (show some s = some s3 from e)
      exact ⟨Os', h, fun a => by omega⟩
    | cons _ _ => cases (show none = some s3 from e)
  | .e a r, s, s3, outs, ds, vs, Os', Oo, Ot, _, _, _, h, hv, l, e => by
    obtain ⟨d, ds', v, vs', Oa, Ob, rfl, rfl, _, hv, _⟩ := hv
    cases outs with
    | nil => cases (show none = some s3 from e)
    | cons o os =>
      cases o with
      | none =>
        obtain ⟨w, ws, ew, l⟩ := l
        cases ew
        exact rest_ok r h hv l (show restA r os s = some s3 from e)
      | some d1 =>
        obtain ⟨w, ws, Oi, Or, ew, _, l, ho⟩ := l
        cases ew
        obtain ⟨O3, h3, le⟩ := rest_ok r h hv l (show restA r os s = some s3 from e)
        exact ⟨O3, h3, fun a => by have := le a; have := ho a; omega⟩
  | .v a r, s, s3, outs, ds, vs, Os', Oo, Ot, _, _, _, h, hv, l, e => by
    obtain ⟨d, ds', v, vs', rfl, rfl, _, hv⟩ := hv
    cases outs with
    | nil => cases (show none = some s3 from e)
    | cons o os =>
      cases o with
      | none =>
        obtain ⟨w, ws, ew, l⟩ := l
        cases ew
        exact rest_ok r h hv l (show restA r os s = some s3 from e)
      | some d1 =>
        obtain ⟨w, ws, Oi, Or, ew, _, l, ho⟩ := l
        cases ew
        obtain ⟨O3, h3, le⟩ := rest_ok r h hv l (show restA r os s = some s3 from e)
        exact ⟨O3, h3, fun a => by have := le a; have := ho a; omega⟩
  | .l i r, s, s3, outs, ds, vs, Os', Oo, Ot, _, _, _, h, hv, l, e => by
    obtain ⟨d, ds', v, vs', rfl, rfl, ev, hv⟩ := hv
    cases outs with
    | nil => cases (show none = some s3 from e)
    | cons o os =>
      cases o with
      | none =>
        obtain ⟨w, ws, ew, l⟩ := l
        cases ew
        obtain ⟨O1, h1, le1⟩ := h.drop i
        obtain ⟨O3, h3, le⟩ := rest_ok r h1 hv l (show restA r os (s.set i none) = some s3 from e)
        exact ⟨O3, h3, fun a => by have := le a; have := le1 a; omega⟩
      | some d1 =>
        obtain ⟨w, ws, Oi, Or, ew, rr, l, ho⟩ := l
        cases ew
        obtain ⟨O1, h1, le1⟩ := h.drop i
        obtain ⟨O3, h3, le⟩ := rest_ok r (h1.put ev rr) hv l (show restA r os (s.set i (some d1)) = some s3 from e)
        exact ⟨O3, h3, fun a => by have q1 := le a; have := le1 a; have := ho a; (try dsimp only at q1); omega⟩
  | .q _ _, _, _, _, _, _, _, _, _, _, _, _, _, hv, _, _ => hv.elim

/-- a def's promise, by its mirror -/
def spOf (K : PySem.W.Frag) (mf : List D → Option (D × List (Option D))) (np : Nat) : Sp := fun vs H Q _ => ∃ F B O ds d outs, Reps K F B H ds vs O ∧ Good F B H O ∧ mf ds = some (d, outs) ∧ ds.length = np ∧
  ∀ v F' H' Od Oo, (∀ B2, Rep K F' B2 H' d v Od) → (∀ B2, ORep K F' B2 H' outs vs Oo) → Good F' B H' (fun a => Od a + Oo a) → Step F H O F' H' (fun a => Od a + Oo a) → Q v H'
theorem call_spec {as : Os} {s1 s2 s3 : DSt} {ds es : List D} {vs : List V} {d : D} {outs : List (Option D)} {f : Str} {np : Nat} {Q : VK} {Ot : Cnt} (h : SRep K F B H s1 σ O) (g : Good F B H (fun a => O a + Ot a)) (hv : AView K F B H σ as ds vs Ot)
    (e1 : lendA as s1 = some s2) (e2 : fillA as ds s1 s2 = some es) (e3 : Fn f es = some (d, outs)) (e4 : restA as outs s2 = some s3) (hn : es.length = np)
    (q : ∀ v F' H' O' Od, SRep K F' B H' s3 σ O' → Rep K F' B H' d v Od → Good F' B H' (fun a => O' a + Od a) → Step F H (fun a => O a + Ot a) F' H' (fun a => O' a + Od a) → Q v H') : spOf K (Fn f) np vs H Q E0 := by
  obtain ⟨O2, Oc, h2, l, ho⟩ := lend_ok as h (fun _ _ q => q) hv e1
  have gs : Good F B H (fun a => (Oc a + Ot a) + O2 a) := g.le fun a => by have := ho a; (try dsimp only); omega
  have hb : ∀ a, 1 ≤ O2 a → B a = none := fun a x => gs.nb a (by (try dsimp only); omega)
  have hr := fill_ok h2 hb as hv l e2
  have bs : Same B (lookB B H O2) := lookB_same hb
  refine ⟨F, lookB B H O2, fun a => Oc a + Ot a, es, d, outs, hr, ⟨fun a => ?_, fun a x => ?_, fun a x => ?_, g.fh, fun a u e => ?_⟩, e3, hn, fun v F' H' Od Oo rd ro g' p => ?_⟩
  · have := gs.one a; (try dsimp only at this); omega
  · exact gs.nf a (by (try dsimp only); omega)
  · unfold lookB
    have := gs.one a
    (try dsimp only at this)
    rw [if_neg (by omega)]
    exact gs.nb a (by (try dsimp only); omega)
  · unfold lookB at e
    split at e
    · exact e
    · exact g.bh a u e
  · have g1 : Good F' B H' (fun a => Od a + Oo a) := ⟨g'.one, g'.nf, fun a x => bs.free (g'.nb a x), g'.fh, bs.trans g'.bh⟩
    obtain ⟨g2, p2, k2⟩ := p.frame gs g1 h2.trk
    obtain ⟨O3, h3, le⟩ := rest_ok as (h2.mono p.mono (Same.refl _) k2) hv (ro B) e4
    have p3 : Step F H (fun a => O a + Ot a) F' H' (fun a => O3 a + Od a) := by
      have z : Step F H (fun a => O a + Ot a) F H (fun a => (Oc a + Ot a) + O2 a) := Step.refl fun a => by have := ho a; (try dsimp only); omega
      exact (z.trans p2).le fun a => by have := le a; (try dsimp only); omega
    exact q v F' H' O3 Od h3 (rd B) (g2.le fun a => by have := le a; (try dsimp only); omega) p3
end
end DL
set_option Elab.async false
set_option linter.all false
set_option maxRecDepth 100000
/-! DL6: the context, the checker, what is walked, comprehensions. -/
namespace DL
open PySem PySem.Spec PyProof.Rows L2

/-! ### the context -/
structure Sc where
  N : List Str
  sc : Scope
  fn : Str → Bool
def visB (sc : Scope) (x : Str) : Bool := match sc.names.lookup x with
  | some .local => true
  | some .cell => true
  | some .free => true
  | _ => false
def isVar (S : Sc) (i : Nat) (x : Str) : Bool := decide (S.N[i]? = some x) && visB S.sc x && !(x == ("__debug__" : Str)) && !(x == ("__classdict__" : Str))
def isTgt (S : Sc) (i : Nat) (x : Str) : Bool := decide (S.N[i]? = some x) && (match S.sc.names.lookup x with
  | some .local => true
  | some .cell => S.fn x
  | _ => false)
def isGl (S : Sc) (x : Str) : Bool := (match S.sc.names.lookup x with
  | some .globalImplicit => true
  | _ => false) && !(x == ("__debug__" : Str))
def bltNames : List Str := ["len", "list", "tuple", "sorted", "sum", "min", "max", "int", "all", "range", "zip", "enumerate", "isinstance", "bool", "str"]
structure XOk (X : Cx) (S : Sc) (n : Nat) (Fn : FT) (G : Str → Option D) : Prop where
  N : X.N = S.N
  sc : X.env.scope = S.sc
  fnv : X.fn = S.fn
  nd : X.N.Nodup
  calm : X.calm = true
  room : Room n X.A
  xe0 : X.xe = fun _ _ => False
  fns : ∀ x ds r, Fn x ds = some r → ∃ f fd ps, X.mg x = some (.ref f) ∧ PySem.W.keepIn X.K (.ref f) = true ∧ Binds X.K fd ps [] ∧ ps.length = ds.length ∧ FnOk X.prog X.w X.K X.mg X.base CX0 n f fd ps (spOf X.K (Fn x) ps.length)
  blt : ∀ x ∈ bltNames, X.mg x = none
  glb : ∀ x d, G x = some d → (∃ i t, d = .int i ∧ X.mg x = some (.int i t)) ∨ ∃ s t, d = .str s ∧ X.mg x = some (.str s t)
section
variable {X : Cx} {S : Sc} {n : Nat} {Fn : FT} {G : Str → Option D}
theorem XOk.units (ok : XOk X S n Fn G) : X.A.units + 65 < cLine := by have := ok.room.un; omega
theorem XOk.gl (ok : XOk X S n Fn G) {x : Str} (h : isGl S x = true) : Gl X x ∧ (x == ("__debug__" : Str)) = false := by
  unfold isGl at h
  rw [Bool.and_eq_true] at h
  refine ⟨?_, by simpa using h.2⟩
  show X.env.scope.names.lookup x = _
  rw [ok.sc]
  have h1 := h.1
  split at h1
  · assumption
  · cases h1
theorem XOk.var (ok : XOk X S n Fn G) {i : Nat} {x : Str} {p : Pos} (h : isVar S i x = true) : PE X (.Name x p) (tVar i) := by
  unfold isVar at h
  simp only [Bool.and_eq_true, decide_eq_true_eq, Bool.not_eq_true'] at h
  obtain ⟨⟨⟨h1, h2⟩, h3⟩, h4⟩ := h
  refine pe_var (by rw [ok.N]; exact h1) ?_ h3 h4
  unfold visB at h2
  rw [← ok.sc] at h2
  split at h2
  · rename_i e; exact .inl e
  · rename_i e; exact .inr (.inl e)
  · rename_i e; exact .inr (.inr e)
  · cases h2
theorem XOk.tgt (ok : XOk X S n Fn G) {i : Nat} {x : Str} {p : Pos} (h : isTgt S i x = true) : PG X (.Name x p) (gName i) := by
  unfold isTgt at h
  simp only [Bool.and_eq_true, decide_eq_true_eq] at h
  obtain ⟨h1, h2⟩ := h
  rw [← ok.sc, ← ok.fnv] at h2
  split at h2
  · rename_i e; exact pg_name ok.nd (by rw [ok.N]; exact h1) (.inl e) (.inr e)
  · rename_i e; exact pg_name ok.nd (by rw [ok.N]; exact h1) (.inr e) (.inl h2)
  · cases h2
end

/-! ### the checker -/
def noStar : Expr → Bool
  | .Starred _ _ => false
  | _ => true
def plainIx : Expr → Bool
  | .Slice _ _ _ _ => false
  | _ => true
theorem plainIx_ok {e : Expr} (h : plainIx e = true) : PlainIx e := by
  intro o i
  cases e <;> first | rfl | cases h
theorem star_cons {e : Expr} {es : List Expr} {env : Env} (h : noStar e = true) : starEach (e :: es) env = (false, eval e env) :: starEach es env := by
  cases e <;> first | rfl | cases h
def ckQ (S : Sc) : Qo → Expr → Bool
  | .v i, e => (match e with
    | .Name x _ => isVar S i x
    | _ => false)
  | .n k, e => (match e with
    | .Constant (.int j) _ _ => decide (k = j)
    | _ => false)
  | .ix a b, e => (match e with
    | .Subscript x y _ => plainIx y && ckQ S a x && ckQ S b y
    | _ => false)
  | .add a b, e => (match e with
    | .BinOp x .Add y _ => ckQ S a x && ckQ S b y
    | _ => false)
  | .sub a b, e => (match e with
    | .BinOp x .Sub y _ => ckQ S a x && ckQ S b y
    | _ => false)
mutual
def ckT (S : Sc) (kp : Nat → Bool) : Tg → Expr → Bool
  | .n i, e => (match e with
    | .Name x _ => isTgt S i x && !kp i
    | _ => false)
  | .t gs, e => (match e with
    | .Tuple es _ _ => ckTs S kp gs es
    | _ => false)
def ckTs (S : Sc) (kp : Nat → Bool) : List Tg → List Expr → Bool
  | [], [] => true
  | g :: gs, e :: es => ckT S kp g e && ckTs S kp gs es
  | _, _ => false
end
section
variable {X : Cx} {S : Sc} {n : Nat} {Fn : FT} {G : Str → Option D}
theorem ckQ_ok (ok : XOk X S n Fn G) : ∀ (o : Qo) (e : Expr), ckQ S o e = true → PE X e (tQ X.K o)
  | .v i, e, h => by
    unfold ckQ at h
    split at h
    · exact ok.var h
    · cases h
  | .n k, e, h => by
    unfold ckQ at h
    split at h
    · rw [decide_eq_true_eq] at h; subst h; exact pe_int
    · cases h
  | .ix a b, e, h => by
    unfold ckQ at h
    split at h
    · simp only [Bool.and_eq_true] at h
      exact pe_ix ix_seq (ckQ_ok ok a _ h.1.2) (ckQ_ok ok b _ h.2) (plainIx_ok h.1.1)
    · cases h
  | .add a b, e, h => by
    unfold ckQ at h
    split at h
    · simp only [Bool.and_eq_true] at h
      exact pe_op op_add (ckQ_ok ok a _ h.1) (ckQ_ok ok b _ h.2)
    · cases h
  | .sub a b, e, h => by
    unfold ckQ at h
    split at h
    · simp only [Bool.and_eq_true] at h
      exact pe_op op_sub (ckQ_ok ok a _ h.1) (ckQ_ok ok b _ h.2)
    · cases h
mutual
def gT (K : PySem.W.Frag) : Tg → TG
  | .n i => gName i
  | .t gs => gTup K gs.length (gTs K gs)
def gTs (K : PySem.W.Frag) : List Tg → TGs
  | [] => gNil
  | g :: gs => gCons (gT K g) (gTs K gs)
end
theorem assignEach_cons {e : Expr} {es : List Expr} {env : Env} (h : noStar e = true) : assignEach (e :: es) env = (false, assign e env) :: assignEach es env := by
  cases e <;> first | rfl | cases h
mutual
theorem ckT_ok (ok : XOk X S n Fn G) {kp : Nat → Bool} : ∀ (t : Tg) (e : Expr), ckT S kp t e = true → PG X e (gT X.K t) ∧ noStar e = true
  | .n i, e, h => by
    unfold ckT at h
    split at h
    · rw [Bool.and_eq_true] at h; unfold gT; exact ⟨ok.tgt h.1, rfl⟩
    · cases h
  | .t gs, e, h => by
    unfold ckT at h
    split at h
    · rename_i es k pos
      obtain ⟨h1, h2, h3⟩ := ckTs_ok ok gs es h
      unfold gT
      exact ⟨pg_tup ok.calm h1 h2 h3, rfl⟩
    · cases h
theorem ckTs_ok (ok : XOk X S n Fn G) {kp : Nat → Bool} : ∀ (t : List Tg) (es : List Expr), ckTs S kp t es = true → PGs X es (gTs X.K t) ∧ (assignEach es X.env).length = t.length ∧ (assignEach es X.env).findIdx? (·.1) = none
  | [], [], h => by unfold gTs; exact ⟨pgs_nil, rfl, rfl⟩
  | g :: gs, e :: es, h => by
    unfold ckTs at h
    rw [Bool.and_eq_true] at h
    obtain ⟨h1, h2⟩ := ckT_ok ok g e h.1
    obtain ⟨h3, h4, h5⟩ := ckTs_ok ok gs es h.2
    unfold gTs
    refine ⟨pgs_cons h1 h3 (by rw [assignEach_cons h2]; rfl), ?_, ?_⟩
    · rw [assignEach_cons h2, List.length_cons, h4, List.length_cons]
    · rw [assignEach_cons h2]
      rw [List.findIdx?_cons]
      simp only [Bool.false_eq_true, if_false]
      rw [h5]
      rfl
  | [], _ :: _, h => by unfold ckTs at h; cases h
  | _ :: _, [], h => by unfold ckTs at h; cases h
end
end

/-! ### stores into targets -/
/-- the slots of kp are as they were -/
def Keep (kp : Nat → Bool) (σ σ' : L2.St) : Prop := ∀ i, kp i = true → σ'[i]? = σ[i]?
theorem Keep.refl {kp : Nat → Bool} {σ : L2.St} : Keep kp σ σ := fun _ _ => rfl
theorem Keep.trans {kp : Nat → Bool} {σ σ1 σ2 : L2.St} (a : Keep kp σ σ1) (b : Keep kp σ1 σ2) : Keep kp σ σ2 := fun i h => (b i h).trans (a i h)
theorem Keep.set {kp : Nat → Bool} {σ : L2.St} {i : Nat} {v : Option V} (h : kp i = false) : Keep kp σ (σ.set i v) := fun j hj => by
  rw [List.getElem?_set_ne]
  intro e
  subst e
  rw [h] at hj
  cases hj
section
variable {K : PySem.W.Frag} {F B H : Hp} {S : Sc}
mutual
theorem asg_ok {kp : Nat → Bool} : ∀ (t : Tg) {e : Expr} {d : D} {v : V} {s s' : DSt} {σ : L2.St} {O Od : Cnt} {Q : L2.St → Hp → Prop}, ckT S kp t e = true → SRep K F B H s σ O → Rep K F B H d v Od → Same F H → asgT t d s = some s' →
    (∀ σ' O', SRep K F B H s' σ' O' → (∀ a, O' a ≤ O a + Od a) → Keep kp σ σ' → Q σ' H) → gT K t v σ H Q
  | .n i, e, d, v, s, s', σ, O, Od, Q, hk, h, r, fh, ea, q => by
    unfold asgT at ea
    split at ea
    · rename_i hi
      cases ea
      unfold ckT at hk
      split at hk
      · simp only [Bool.and_eq_true, Bool.not_eq_true'] at hk
        obtain ⟨O', h', le⟩ := h.store r hi
        unfold gT
        exact q _ O' h' le (Keep.set hk.2)
      · cases hk
    · cases ea
  | .t gs, e, d, v, s, s', σ, O, Od, Q, hk, h, r, fh, ea, q => by
    unfold asgT at ea
    split at ea
    · rename_i xs
      unfold ckT at hk
      split at hk
      · rename_i es k pos
        unfold Rep at r
        obtain ⟨a, vs, rfl, hf, rs⟩ := r
        unfold gT
        exact ⟨a, vs, rfl, .inl (.inl (fh _ _ hf)), by rw [rs.length]; exact asgTs_len ea, asgs_ok gs hk h rs fh ea q⟩
      · cases hk
    · cases ea
theorem asgs_ok {kp : Nat → Bool} : ∀ (t : List Tg) {e : List Expr} {d : List D} {v : List V} {s s' : DSt} {σ : L2.St} {O Od : Cnt} {Q : L2.St → Hp → Prop}, ckTs S kp t e = true → SRep K F B H s σ O → Reps K F B H d v Od → Same F H → asgTs t d s = some s' →
    (∀ σ' O', SRep K F B H s' σ' O' → (∀ a, O' a ≤ O a + Od a) → Keep kp σ σ' → Q σ' H) → gTs K t v σ H Q
  | [], e, d, v, s, s', σ, O, Od, Q, hk, h, r, fh, ea, q => by
    cases d with
    | nil =>
      cases (show some s = some s' from by unfold asgTs at ea; exact ea)
      unfold Reps at r
      unfold gTs
      exact ⟨r.1, q σ O h (fun a => by omega) Keep.refl⟩
    | cons _ _ => unfold asgTs at ea; cases ea
  | g :: gs, e, d, v, s, s', σ, O, Od, Q, hk, h, r, fh, ea, q => by
    cases d with
    | nil => unfold asgTs at ea; cases ea
    | cons d ds =>
      cases e with
      | nil => unfold ckTs at hk; cases hk
      | cons e es =>
        unfold ckTs at hk
        rw [Bool.and_eq_true] at hk
        unfold asgTs at ea
        split at ea
        · rename_i s1 e1
          unfold Reps at r
          obtain ⟨w, vs', O1, O2, rfl, h1, h2, ho⟩ := r
          unfold gTs
          refine ⟨w, vs', rfl, asg_ok g hk.1 h h1 fh e1 fun σ1 O3 h3 le3 k3 => ?_⟩
          exact asgs_ok gs hk.2 h3 h2 fh ea fun σ2 O4 h4 le4 k4 => q σ2 O4 h4 (fun a => by have := le3 a; have := le4 a; have := ho a; omega) (k3.trans k4)
        · cases ea
theorem asgTs_len : ∀ {t : List Tg} {d : List D} {s s' : DSt}, asgTs t d s = some s' → d.length = t.length
  | [], [], _, _, _ => rfl
  | [], _ :: _, _, _, h => by unfold asgTs at h; cases h
  | _ :: _, [], _, _, h => by unfold asgTs at h; cases h
  | g :: gs, d :: ds, s, s', h => by
    unfold asgTs at h
    split at h
    · rw [List.length_cons, List.length_cons, asgTs_len h]
    · cases h
end
end

/-! ### what is walked -/
/-- a list or a tuple -/
def iSeq (K : PySem.W.Frag) (tl : TE) : TI := fun σ H R => tl σ H fun x H1 => (∃ a, x = .ref a ∧ (∃ xs, SqL K H1 a xs) ∧ R (Itl K a) H1) ∨ ∃ a, x = .ref a ∧ (∃ xs, SqT K H1 a xs) ∧ R (Itt K a) H1
theorem pi_seq {X : Cx} {tg l : Expr} {tl : TE} (hl : PE X l tl) : PI X tg l (iSeq X.K tl) := by
  refine ⟨fun pins s σ H R I h => ?_⟩
  refine thn (hl.run pins s σ H _ I h) fun v s1 ⟨x, H1, I1, r1, q1⟩ => ?_
  rcases q1 with ⟨a, e, ⟨xs, hq⟩, q⟩ | ⟨a, e, ⟨xs, hq⟩, q⟩
  · subst e
    cases r1
    obtain ⟨its, rv, p, hz⟩ := I1.list hq
    refine wpAny_pyIter_list p.isList ?_
    refine ⟨s1.heap.objs.size, [s1.heap.objs.size], _, _, H1, rfl, I1.kept (t' := s1.toks) fun b o e => Heap.get?_push_of_some _ e, turn_list a _, ⟨_, Heap.get?_push_size _ rfl, rfl, rfl⟩, fun b hb => ?_, q⟩
    have e : b = s1.heap.objs.size := by simpa using hb
    subst e
    exact I1.fpOk (Nat.le_refl _) (I1.hok.fresh (Nat.le_refl _))
  · subst e
    cases r1
    obtain ⟨its, rv, p, hz⟩ := I1.tuple hq
    refine wpAny_pyIter_tuple (show s1.heap.IsTuple a its.toArray from p) ?_
    refine ⟨s1.heap.objs.size, [s1.heap.objs.size], _, _, H1, rfl, I1.kept (t' := s1.toks) fun b o e => Heap.get?_push_of_some _ e, turn_tuple a _, ⟨_, Heap.get?_push_size _ rfl, rfl, rfl⟩, fun b hb => ?_, q⟩
    have e : b = s1.heap.objs.size := by simpa using hb
    subst e
    exact I1.fpOk (Nat.le_refl _) (I1.hok.fresh (Nat.le_refl _))
section
variable (K : PySem.W.Frag) (Fn : FT) (G : Str → Option D)
def tI : It → TI
  | .e a => iSeq K (tE K (iE Fn G a))
  | .s i => iSeq K (tVar i)
  | .r1 a => iRng1 (tCons (tE K (iE Fn G a)) tNil)
  | .r2 a b => iRng2 (tCons (tE K (iE Fn G a)) (tCons (tE K (iE Fn G b)) tNil))
  | .zip a b => RZ.iZipA K (tCons (tE K (iE Fn G a)) (tCons (tE K (iE Fn G b)) tNil))
  | .enum a => iEnum K (tCons (tE K (iE Fn G a)) tNil)
end
/-- the walk J goes over the trees xs; E: what is held alone and walked -/
def Wk (K : PySem.W.Frag) (B F H : Hp) (E : Cnt) (J : L2.It) (xs : List D) : Prop := ∀ i F1 H1, Same F F1 → Same F1 H1 → Same B H1 → (∀ a u, 1 ≤ E a → H a = some u → H1 a = some u) →
  (∀ d, xs[i]? = some d → J.go i H1 ∧ ∀ x H2, J.yld i H1 x H2 → ∃ F2, Rep K F2 B H2 d x (fun _ => 0) ∧ Ext F1 H1 F2 H2 (fun _ => 0)) ∧ (xs.length ≤ i → J.stop i H1)
def Bk (K : PySem.W.Frag) (B F H : Hp) (st : DSt) (σ : L2.St) (E : Cnt) : It → Prop
  | .s i => ∃ d v, getS st i = some d ∧ σ[i]? = some (some v) ∧ Rep K F B H d v E
  | _ => ∀ a, E a = 0
section
variable {K : PySem.W.Frag} {F B H : Hp} {O : Cnt} {σ : L2.St} {Fn : FT} {G : Str → Option D}
theorem item_rep {F1 H1 : Hp} {xs : List D} {vs : List V} {Ov : Cnt} {i : Nat} {d : D} (r : Reps K F B H xs vs Ov) (n : D.nownL xs = true) (hF : Same F F1) (e : xs[i]? = some d) : ∃ v, vs[i]? = some v ∧ Rep K F1 B H1 d v (fun _ => 0) := by
  obtain ⟨v, Oi, e1, r1, le⟩ := r.get e
  refine ⟨v, e1, ?_⟩
  have z : ∀ a, Oi a = 0 := fun a => by have := le a; have := Reps.nown xs vs Ov r n a; omega
  exact Rep.mono hF (Same.refl _) d v _ (r1.congr fun a => (z a).symm) fun a u h _ => absurd h (by (try dsimp only); omega)
theorem rep_items {d : D} {xs : List D} (e : itemsOf d = some xs) : D.nownL xs = true ∧ ((∃ m, d = .lst m xs) ∨ d = .tup xs) := by
  unfold itemsOf at e
  split at e
  · split at e
    · cases e; exact ⟨by assumption, .inl ⟨_, rfl⟩⟩
    · cases e
  · split at e
    · cases e; exact ⟨by assumption, .inr rfl⟩
    · cases e
  · cases e
theorem list_items {d : D} {xs : List D} (e : listOf d = some xs) : D.nownL xs = true ∧ ∃ m, d = .lst m xs := by
  unfold listOf at e
  split at e
  · split at e
    · cases e; exact ⟨by assumption, ⟨_, rfl⟩⟩
    · cases e
  · cases e
/-- a list's cell, as it is seen later -/
theorem lst_later {F1 H1 : Hp} {m : Mk} {a : Addr} {vs : List V} {Ov O1 : Cnt} (h : Cell F B H m a (.lst vs) Ov O1 ∨ (m = .scr ∧ SqL K F a vs ∧ ∀ b, Ov b = O1 b)) (hF : Same F F1) (fh : Same F1 H1) (bh : Same B H1) (k : ∀ a u, 1 ≤ Ov a → H a = some u → H1 a = some u) : SqL K H1 a vs := by
  rcases h with h | ⟨_, h, _⟩
  · cases m with
    | own => exact .inl (.inl (k a _ (by rw [h.2 a, sing_self]; omega) h.1))
    | shr => exact .inl (.inl (fh _ _ (hF _ _ h.1)))
    | bor => exact .inl (.inl (bh _ _ h.1))
    | scr => exact h.elim
  · exact (hF.trans fh).seq h
theorem wk_seq {d : D} {xs : List D} {v : V} {E : Cnt} {R : L2.It → Hp → Prop} (e : itemsOf d = some xs) (r : Rep K F B H d v E) (g : Good F B H O) (q : ∀ J, Wk K B F H E J xs → R J H) :
    (∃ a, v = .ref a ∧ (∃ xs, SqL K H a xs) ∧ R (Itl K a) H) ∨ ∃ a, v = .ref a ∧ (∃ xs, SqT K H a xs) ∧ R (Itt K a) H := by
  obtain ⟨n, hd⟩ := rep_items e
  rcases hd with ⟨m, rfl⟩ | rfl
  · unfold Rep at r
    obtain ⟨a, vs, O1, rfl, rs, hc⟩ := r
    refine .inl ⟨a, rfl, ⟨vs, lst_seq g hc⟩, q _ fun i F1 H1 hF fh bh k => ⟨fun d hd => ?_, fun hi => ?_⟩⟩
    · have hs := lst_later hc hF fh bh k
      obtain ⟨w, ew, rw'⟩ := item_rep (H1 := H1) rs n hF hd
      refine ⟨⟨vs, w, hs, ew⟩, fun x H2 y => ?_⟩
      obtain ⟨rfl, y⟩ := y
      have ex := Option.some.inj ((y vs hs).symm.trans ew)
      subst ex
      exact ⟨F1, rw', Ext.refl fh⟩
    · exact ⟨vs, lst_later hc hF fh bh k, by rw [rs.length]; exact hi⟩
  · unfold Rep at r
    obtain ⟨a, vs, rfl, hc, rs⟩ := r
    refine .inr ⟨a, rfl, ⟨vs, .inl (.inl (g.fh _ _ hc))⟩, q _ fun i F1 H1 hF fh bh k => ⟨fun d hd => ?_, fun hi => ?_⟩⟩
    · have hs : SqT K H1 a vs := .inl (.inl (fh _ _ (hF _ _ hc)))
      obtain ⟨w, ew, rw'⟩ := item_rep (H1 := H1) rs n hF hd
      refine ⟨⟨vs, w, hs, ew⟩, fun x H2 y => ?_⟩
      obtain ⟨rfl, y⟩ := y
      have ex := Option.some.inj ((y vs hs).symm.trans ew)
      subst ex
      exact ⟨F1, rw', Ext.refl fh⟩
    · exact ⟨vs, .inl (.inl (fh _ _ (hF _ _ hc))), by rw [rs.length]; exact hi⟩
theorem rng_get : ∀ {n : Nat} {a : Int} {i : Nat} {d : D}, (rng a n)[i]? = some d → i < n ∧ d = .int (a + i)
  | 0, _, _, _, e => by unfold rng at e; simp at e
  | n + 1, a, 0, d, e => by
    unfold rng at e
    have e : D.int a = d := by simpa using e
    exact ⟨Nat.succ_pos _, by rw [← e]; simp⟩
  | n + 1, a, i + 1, d, e => by
    unfold rng at e
    obtain ⟨h1, h2⟩ := rng_get (n := n) (a := a + 1) (i := i) (d := d) (by simpa using e)
    exact ⟨by omega, by rw [h2]; congr 1; push_cast; omega⟩
theorem rng_len : ∀ {n : Nat} {a : Int}, (rng a n).length = n
  | 0, _ => rfl
  | n + 1, a => by unfold rng; rw [List.length_cons, rng_len]
theorem wk_rng {a : Int} {n : Nat} : Wk K B F H (fun _ => 0) (Itr a n) (rng a n) := fun i F1 H1 hF fh bh k => by
  refine ⟨fun d hd => ?_, fun hi => by rw [rng_len] at hi; exact hi⟩
  obtain ⟨h1, h2⟩ := rng_get hd
  refine ⟨h1, fun x H2 y => ?_⟩
  obtain ⟨rfl, rfl⟩ := y
  exact ⟨F1, by rw [h2]; exact rep_int, Ext.refl fh⟩
theorem zipT_get : ∀ {xs ys : List D} {i : Nat} {d : D}, (zipT xs ys)[i]? = some d → ∃ x y, xs[i]? = some x ∧ ys[i]? = some y ∧ d = .tup [x, y]
  | [], _, _, _, e => by unfold zipT at e; simp at e
  | _ :: _, [], _, _, e => by unfold zipT at e; simp at e
  | x :: xs, y :: ys, 0, d, e => by
    unfold zipT at e
    exact ⟨x, y, rfl, rfl, by simpa using e.symm⟩
  | x :: xs, y :: ys, i + 1, d, e => by
    unfold zipT at e
    exact zipT_get (xs := xs) (ys := ys) (by simpa using e)
theorem zipT_len : ∀ {xs ys : List D}, (zipT xs ys).length = min xs.length ys.length
  | [], _ => by unfold zipT; simp
  | _ :: _, [] => by unfold zipT; simp
  | x :: xs, y :: ys => by unfold zipT; simp only [List.length_cons, zipT_len]; omega
theorem enumT_get : ∀ {xs : List D} {n i : Nat} {d : D}, (enumT n xs)[i]? = some d → ∃ x, xs[i]? = some x ∧ d = .tup [.int ((n + i : Nat) : Int), x]
  | [], _, _, _, e => by unfold enumT at e; simp at e
  | x :: xs, n, 0, d, e => by
    unfold enumT at e
    exact ⟨x, rfl, by simpa using e.symm⟩
  | x :: xs, n, i + 1, d, e => by
    unfold enumT at e
    obtain ⟨y, h1, h2⟩ := enumT_get (xs := xs) (n := n + 1) (i := i) (by simpa using e)
    exact ⟨y, by simpa using h1, by rw [h2, show n + 1 + i = n + (i + 1) by omega]⟩
theorem enumT_len : ∀ {xs : List D} {n : Nat}, (enumT n xs).length = xs.length
  | [], _ => rfl
  | x :: xs, n => by unfold enumT; rw [List.length_cons, List.length_cons, enumT_len]
theorem rep_pair {p : Addr} {H1 F1 : Hp} {x y : D} {v w : V} (hp : H1 p = none) (fh : Same F1 H1) (r1 : Rep K F1 B H1 x v (fun _ => 0)) (r2 : Rep K F1 B H1 y w (fun _ => 0)) :
    Rep K (upd F1 p (.tup [v, w])) B (upd H1 p (.tup [v, w])) (.tup [x, y]) (.ref p) (fun _ => 0) ∧ Ext F1 H1 (upd F1 p (.tup [v, w])) (upd H1 p (.tup [v, w])) (fun _ => 0) := by
  have ex := Ext.tup (u := .tup [v, w]) hp fh
  refine ⟨?_, ex⟩
  unfold Rep
  refine ⟨p, _, rfl, upd_same, ?_⟩
  exact (Reps.append (Reps.one (r1.ext0 ex)) (Reps.one (r2.ext0 ex))).congr fun _ => rfl
/-- two lists, for ever still -/
theorem wk_zip {a b : Addr} {xs ys : List D} {vs ws : List V} {O1 O2 : Cnt} (r1 : Reps K F B H xs vs O1) (r2 : Reps K F B H ys ws O2) (n1 : D.nownL xs = true) (n2 : D.nownL ys = true)
    (h1 : ∀ F1 H1, Same F F1 → Same F1 H1 → Same B H1 → SqL K H1 a vs) (h2 : ∀ F1 H1, Same F F1 → Same F1 H1 → Same B H1 → SqL K H1 b ws) : Wk K B F H (fun _ => 0) (Itz K a b) (zipT xs ys) := fun i F1 H1 hF fh bh k => by
  have s1 := h1 F1 H1 hF fh bh
  have s2 := h2 F1 H1 hF fh bh
  refine ⟨fun d hd => ?_, fun hi => ⟨vs, ws, s1, s2, ?_⟩⟩
  · obtain ⟨x, y, ex, ey, rfl⟩ := zipT_get hd
    obtain ⟨v, ev, rv⟩ := item_rep (H1 := H1) r1 n1 hF ex
    obtain ⟨w, ew, rw'⟩ := item_rep (H1 := H1) r2 n2 hF ey
    refine ⟨⟨vs, ws, v, w, s1, s2, ev, ew⟩, fun z H2 yl => ?_⟩
    obtain ⟨T, v', w', rfl, nT, rfl, f1, f2⟩ := yl
    have q1 := Option.some.inj ((f1 vs s1).symm.trans ev)
    have q2 := Option.some.inj ((f2 ws s2).symm.trans ew)
    subst q1; subst q2
    exact ⟨_, rep_pair nT fh rv rw'⟩
  · rw [zipT_len] at hi
    rw [r1.length, r2.length]
    omega
theorem wk_enum {a : Addr} {xs : List D} {vs : List V} {O1 : Cnt} (r1 : Reps K F B H xs vs O1) (n1 : D.nownL xs = true)
    (h1 : ∀ F1 H1, Same F F1 → Same F1 H1 → Same B H1 → SqL K H1 a vs) : Wk K B F H (fun _ => 0) (Ite K a) (enumT 0 xs) := fun i F1 H1 hF fh bh k => by
  have s1 := h1 F1 H1 hF fh bh
  refine ⟨fun d hd => ?_, fun hi => ⟨vs, s1, ?_⟩⟩
  · obtain ⟨x, ex, rfl⟩ := enumT_get hd
    obtain ⟨v, ev, rv⟩ := item_rep (H1 := H1) r1 n1 hF ex
    refine ⟨⟨vs, v, s1, ev⟩, fun z H2 yl => ?_⟩
    obtain ⟨T, v', rfl, nT, rfl, f1⟩ := yl
    have q1 := Option.some.inj ((f1 vs s1).symm.trans ev)
    subst q1
    rw [Nat.zero_add]
    exact ⟨_, rep_pair nT fh rep_int rv⟩
  · rw [enumT_len] at hi
    rw [r1.length]
    exact hi
end
end DL
set_option Elab.async false
set_option linter.all false
set_option maxRecDepth 100000
/-! DL7: walks begun, comprehensions. -/
namespace DL
open PySem PySem.Spec PyProof.Rows L2

section
variable {K : PySem.W.Frag} {Fn : FT} {G : Str → Option D} {B : Hp} {σ : L2.St}
theorem tI_ok : ∀ (it : It) {F H : Hp} {O : Cnt} {st st' : DSt} {xs : List D} {R : L2.It → Hp → Prop}, SRep K F B H st σ O → Good F B H O → iT Fn G it st = some (xs, st') →
    (∀ J F' H' O' E, SRep K F' B H' st' σ O' → Good F' B H' (fun a => O' a + E a) → Step F H O F' H' (fun a => O' a + E a) → Alone E H' → Wk K B F' H' E J xs → Bk K B F' H' st σ E it → R J H') → tI K Fn G it σ H R
  | .e a, F, H, O, st, st', xs, R, s, g, e, q => by
    unfold iT at e
    obtain ⟨d, st1, e1, e2⟩ := bnd_some e
    split at e2
    · rename_i xs' e3
      cases e2
      refine ⟨F, B, O, st, d, _, s, g, e1, fun v F1 H1 O1 Od s1 r1 g1 p1 => ?_⟩
      obtain ⟨g2, p2⟩ := frz_step g1 (Rep.trk d v Od r1)
      have r2 := r1.freeze g1
      refine wk_seq e3 r2 g2 fun J w => ?_
      exact q J _ H1 O1 (fun _ => 0) (s1.frzF g1) (g2.le fun a => by (try dsimp only); omega) ((p1.trans p2).le fun a => by (try dsimp only); omega) (fun a h => absurd h (by (try dsimp only); omega)) w (fun _ => rfl)
    · cases e2
  | .s i, F, H, O, st, st', xs, R, s, g, e, q => by
    unfold iT at e
    split at e
    · rename_i d e0
      split at e
      · rename_i xs' e3
        cases e
        obtain ⟨v, Oi, Or, ev, r, sr, ho⟩ := s.take e0
        refine ⟨v, ev, wk_seq e3 r g fun J w => ?_⟩
        exact q J F H Or Oi sr (g.le fun a => by have := ho a; (try dsimp only); omega) (Step.refl fun a => by have := ho a; (try dsimp only); omega) (Rep.trk d v Oi r) w ⟨d, v, e0, ev, r⟩
      · cases e
    · cases e
  | .r1 a, F, H, O, st, st', xs, R, s, g, e, q => by
    unfold iT at e
    obtain ⟨d, st1, e1, e2⟩ := bnd_some e
    split at e2
    · rename_i j
      split at e2
      · rename_i hj
        cases e2
        refine ⟨F, B, O, st, _, _, s, g, e1, fun v F1 H1 O1 Od s1 r1 g1 p1 => ?_⟩
        rw [int_inv r1]
        refine ⟨j, rfl, hj.1, hj.2, ?_⟩
        exact q _ F1 H1 O1 (fun _ => 0) s1 (g1.le fun a => by (try dsimp only); omega) (p1.le fun a => by (try dsimp only); omega) (fun a h => absurd h (by (try dsimp only); omega)) wk_rng (fun _ => rfl)
      · cases e2
    · cases e2
  | .r2 a b, F, H, O, st, st', xs, R, s, g, e, q => by
    unfold iT at e
    obtain ⟨d, st1, e1, e2⟩ := bnd_some e
    obtain ⟨d2, st2, e3, e4⟩ := bnd_some e2
    split at e4
    · rename_i i j
      split at e4
      · rename_i hj
        cases e4
        refine ⟨F, B, O, st, _, _, s, g, e1, fun v F1 H1 O1 Od s1 r1 g1 p1 => ?_⟩
        refine ⟨F1, B, O1, _, _, _, s1, g1.le fun a => by (try dsimp only); omega, e3, fun v2 F2 H2 O2 Od2 s2 r2 g2 p2 => ?_⟩
        rw [int_inv r1, int_inv r2]
        refine ⟨i, j, rfl, ⟨hj.1.1, hj.1.2, hj.2.1, hj.2.2⟩, ?_⟩
        have p3 := (p1.le (O'' := O1) fun a => by (try dsimp only); omega).trans p2
        exact q _ F2 H2 O2 (fun _ => 0) s2 (g2.le fun a => by (try dsimp only); omega) (p3.le fun a => by (try dsimp only); omega) (fun a h => absurd h (by (try dsimp only); omega)) wk_rng (fun _ => rfl)
      · cases e4
    · cases e4
  | .zip a b, F, H, O, st, st', xs, R, s, g, e, q => by
    unfold iT at e
    obtain ⟨d, st1, e1, e2⟩ := bnd_some e
    obtain ⟨d2, st2, e3, e4⟩ := bnd_some e2
    split at e4
    · rename_i xs1 ys1 x1 x2
      cases e4
      refine ⟨F, B, O, st, d, _, s, g, e1, fun v F1 H1 O1 Od s1 r1 g1 p1 => ?_⟩
      obtain ⟨g2, p2⟩ := frz_step g1 (Rep.trk d v Od r1)
      have r2 := r1.freeze g1
      refine ⟨_, B, O1, _, d2, _, s1.frzF g1, g2, e3, fun w F3 H3 O3 Oe s3 r3 g3 p3 => ?_⟩
      obtain ⟨g4, p4⟩ := frz_step g3 (Rep.trk d2 w Oe r3)
      have r4 := r3.freeze g3
      have r5 := (r2.step0 p3).step0 p4
      obtain ⟨n1, m1, q1⟩ := list_items x1
      obtain ⟨n2, m2, q2⟩ := list_items x2
      rw [q1] at r5
      rw [q2] at r4
      unfold Rep at r5 r4
      obtain ⟨a, vs, Oa, rfl, ra, ca⟩ := r5
      obtain ⟨b, ws, Ob, rfl, rb, cb⟩ := r4
      refine ⟨a, b, vs, ws, rfl, .inl ⟨lst_seq g4 ca, lst_seq g4 cb, ?_⟩⟩
      have z : ∀ {F9 H9 : Hp} (a : Addr) (u : HO), 1 ≤ (fun _ : Addr => (0 : Nat)) a → F9 a = some u → H9 a = some u := fun a u h _ => absurd h (by (try dsimp only); omega)
      exact q _ _ H3 O3 (fun _ => 0) (s3.frzF g3) (g4.le fun a => by (try dsimp only); omega) ((((p1.trans p2).trans p3).trans p4).le fun a => by (try dsimp only); omega) (fun a h => absurd h (by (try dsimp only); omega))
        (wk_zip ra rb n1 n2 (fun F9 H9 hF fh bh => lst_later ca hF fh bh z) (fun F9 H9 hF fh bh => lst_later cb hF fh bh z)) (fun _ => rfl)
    · cases e4
  | .enum a, F, H, O, st, st', xs, R, s, g, e, q => by
    unfold iT at e
    obtain ⟨d, st1, e1, e2⟩ := bnd_some e
    split at e2
    · rename_i xs1 x1
      cases e2
      refine ⟨F, B, O, st, d, _, s, g, e1, fun v F1 H1 O1 Od s1 r1 g1 p1 => ?_⟩
      obtain ⟨g2, p2⟩ := frz_step g1 (Rep.trk d v Od r1)
      have r2 := r1.freeze g1
      obtain ⟨n1, m1, q1⟩ := list_items x1
      rw [q1] at r2
      unfold Rep at r2
      obtain ⟨a, vs, Oa, rfl, ra, ca⟩ := r2
      refine ⟨a, vs, rfl, lst_seq g2 ca, ?_⟩
      have z : ∀ {F9 H9 : Hp} (a : Addr) (u : HO), 1 ≤ (fun _ : Addr => (0 : Nat)) a → F9 a = some u → H9 a = some u := fun a u h _ => absurd h (by (try dsimp only); omega)
      exact q _ _ H1 O1 (fun _ => 0) (s1.frzF g1) (g2.le fun a => by (try dsimp only); omega) ((p1.trans p2).le fun a => by (try dsimp only); omega) (fun a h => absurd h (by (try dsimp only); omega))
        (wk_enum ra n1 fun F9 H9 hF fh bh => lst_later ca hF fh bh z) (fun _ => rfl)
    · cases e2

/-! ### slots wiped and back -/
theorem SRep.agree {F H : Hp} : ∀ {st : DSt} {σ σ' : L2.St} {O : Cnt}, SRep K F B H st σ O → σ'.length = σ.length → (∀ i d, getS st i = some d → σ'[i]? = σ[i]?) → SRep K F B H st σ' O
  | [], σ, σ', O, h, hl, _ => by
    unfold SRep at h ⊢
    obtain ⟨rfl, h⟩ := h
    exact ⟨List.length_eq_zero_iff.mp hl, h⟩
  | none :: st, σ, σ', O, h, hl, ha => by
    unfold SRep at h ⊢
    obtain ⟨x, τ, rfl, h⟩ := h
    cases σ' with
    | nil => simp at hl
    | cons y τ' => exact ⟨y, τ', rfl, SRep.agree h (by simpa using hl) fun i d e => by simpa using ha (i + 1) d (by rw [getS_succ]; exact e)⟩
  | some d :: st, σ, σ', O, h, hl, ha => by
    unfold SRep at h ⊢
    obtain ⟨v, τ, O1, O2, rfl, h1, h2, ho⟩ := h
    cases σ' with
    | nil => simp at hl
    | cons y τ' =>
      have e0 : y = some v := by simpa using ha 0 d getS_zero
      exact ⟨v, τ', O1, O2, by rw [e0], h1, SRep.agree h2 (by simpa using hl) fun i d e => by simpa using ha (i + 1) d (by rw [getS_succ]; exact e), ho⟩
theorem getS_set {s : DSt} {i j : Nat} {o : Option D} : getS (s.set i o) j = if i = j ∧ j < s.length then o else getS s j := by
  unfold getS
  rw [List.getElem?_set]
  by_cases h : i = j
  · subst h
    by_cases hl : i < s.length
    · simp only [if_true, hl, and_self]
      cases o <;> rfl
    · simp only [if_true, hl, and_false, if_false]
      rw [List.getElem?_eq_none (by omega)]
  · simp [h]
theorem wipeD_len : ∀ (w : List Nat) (s : DSt), (wipeD s w).length = s.length
  | [], s => rfl
  | v :: vs, s => by unfold wipeD; rw [List.length_set, wipeD_len vs s]
theorem wipeD_get : ∀ (w : List Nat) {s : DSt} {i : Nat} {d : D}, getS (wipeD s w) i = some d → i ∉ w ∧ getS s i = some d
  | [], s, i, d, e => ⟨by simp, e⟩
  | v :: vs, s, i, d, e => by
    unfold wipeD at e
    rw [getS_set] at e
    split at e
    · cases e
    · rename_i h
      obtain ⟨h1, h2⟩ := wipeD_get vs e
      refine ⟨?_, h2⟩
      intro hm
      rcases List.mem_cons.mp hm with rfl | hm
      · refine h ⟨rfl, ?_⟩
        rw [wipeD_len]
        unfold getS at h2
        split at h2
        · rename_i q; exact (List.getElem?_eq_some_iff.mp q).1
        · cases h2
      · exact h1 hm
theorem wipe_get : ∀ (w : List Nat) {σ : L2.St} {i : Nat}, i ∉ w → (wipe σ w)[i]? = σ[i]?
  | [], _, _, _ => rfl
  | v :: vs, σ, i, h => by
    unfold wipe
    rw [List.getElem?_set_ne (fun e => h (by rw [e]; exact List.mem_cons_self))]
    exact wipe_get vs fun m => h (List.mem_cons_of_mem _ m)
theorem wipe_eq : ∀ (w : List Nat) {σ σ' : L2.St}, σ'.length = σ.length → (∀ i, i ∉ w → σ'[i]? = σ[i]?) → wipe σ' w = wipe σ w := fun w σ σ' hl h => by
  have both : ∀ (w : List Nat) (σ : L2.St) (i : Nat), i ∈ w → (wipe σ w)[i]? = if i < σ.length then some none else none := by
    intro w
    induction w with
    | nil => intro σ i hi; cases hi
    | cons v vs ih =>
      intro σ i hi
      unfold wipe
      rw [List.getElem?_set, wipe_length]
      by_cases e : v = i
      · subst e; simp
      · rw [if_neg e]
        rcases List.mem_cons.mp hi with r | r
        · exact absurd r.symm e
        · exact ih σ i r
  apply List.ext_getElem?
  intro i
  by_cases hi : i ∈ w
  · rw [both w σ' i hi, both w σ i hi, hl]
  · rw [wipe_get w hi, wipe_get w hi, h i hi]
theorem SRep.wipe {F H : Hp} : ∀ (w : List Nat) {st : DSt} {σ : L2.St} {O : Cnt}, SRep K F B H st σ O → ∃ O', SRep K F B H (wipeD st w) (wipe σ w) O' ∧ ∀ a, O' a ≤ O a := fun w st σ O h => by
  have go : ∀ w : List Nat, ∃ O', SRep K F B H (wipeD st w) σ O' ∧ ∀ a, O' a ≤ O a := by
    intro w
    induction w with
    | nil => exact ⟨O, h, fun a => Nat.le_refl _⟩
    | cons v vs ih =>
      obtain ⟨O1, h1, l1⟩ := ih
      obtain ⟨O2, h2, l2⟩ := h1.drop v
      exact ⟨O2, h2, fun a => Nat.le_trans (l2 a) (l1 a)⟩
  obtain ⟨O', h', le⟩ := go w
  exact ⟨O', h'.agree (wipe_length _ _) fun i d e => wipe_get w (wipeD_get w e).1, le⟩
theorem SRep.unwipe {F H : Hp} {w : List Nat} {st : DSt} {σ : L2.St} {O : Cnt} (h : SRep K F B H (wipeD st w) (L2.wipe σ w) O) : SRep K F B H (wipeD st w) σ O :=
  h.agree (wipe_length _ _).symm fun i d e => (wipe_get w (wipeD_get w e).1).symm
theorem SRep.back {F H F1 H1 : Hp} {s0 s : DSt} {σ : L2.St} {O O1 : Cnt} (w : List Nat) (h : SRep K F B H (wipeD s w) σ O) (h0 : SRep K F1 B H1 s0 σ O1) (hF : Same F1 F) : ∃ O', SRep K F B H (backD s0 s w) σ O' ∧ ∀ a, O' a ≤ O a := by
  unfold backD
  have go : ∀ (vs : List Nat) (t : DSt), SRep K F B H t σ O → ∃ O', SRep K F B H (backL s0 t vs) σ O' ∧ ∀ a, O' a ≤ O a := by
    intro vs t ht
    induction vs with
    | nil => exact ⟨O, ht, fun a => Nat.le_refl _⟩
    | cons v vs ih =>
      obtain ⟨O2, h2, l2⟩ := ih
      unfold backL
      obtain ⟨O3, h3, l3⟩ := h2.drop v
      cases e : getS s0 v with
      | none => exact ⟨O3, h3, fun a => Nat.le_trans (l3 a) (l2 a)⟩
      | some d =>
        show ∃ O', SRep K F B H ((backL s0 t vs).set v (if d.nown then some d else none)) σ O' ∧ _
        by_cases hn : d.nown = true
        · rw [if_pos hn]
          obtain ⟨x, Oi, Or, ev, r, _, _⟩ := h0.take e
          have r2 : Rep K F B H d x (fun _ => 0) := Rep.mono hF (Same.refl _) d x _ (r.zero hn) fun a u z => absurd z (by (try dsimp only); omega)
          exact ⟨_, h3.put ev r2, fun a => by have := l3 a; have := l2 a; (try dsimp only); omega⟩
        · rw [if_neg hn]
          exact ⟨O3, h3, fun a => Nat.le_trans (l3 a) (l2 a)⟩
  exact go w _ h
/-- behind the walk -/
theorem SRep.ends {F H F1 H1 : Hp} {st s : DSt} {σ σ0 : L2.St} {O E : Cnt} : ∀ {it : It}, SRep K F B H s σ O → Bk K B F1 H1 st σ0 E it → Same F1 F → (∀ a u, 1 ≤ E a → H1 a = some u → H a = some u) → (∀ i, it = .s i → σ[i]? = σ0[i]?) →
    ∃ O', SRep K F B H (endT it st s) σ O' ∧ ∀ a, O' a ≤ O a + E a
  | .s i, h, hb, hF, hE, hi => by
    obtain ⟨d, v, e, ev, r⟩ := hb
    show ∃ O', SRep K F B H (s.set i (getS st i)) σ O' ∧ _
    rw [e]
    obtain ⟨O3, h3, l3⟩ := h.drop i
    exact ⟨_, h3.put (by rw [hi i rfl]; exact ev) (Rep.mono hF (Same.refl _) d v _ r hE), fun a => by have := l3 a; (try dsimp only); omega⟩
  | .e _, h, _, _, _, _ => ⟨O, h, fun a => Nat.le_add_right _ _⟩
  | .r1 _, h, _, _, _, _ => ⟨O, h, fun a => Nat.le_add_right _ _⟩
  | .r2 _ _, h, _, _, _, _ => ⟨O, h, fun a => Nat.le_add_right _ _⟩
  | .zip _ _, h, _, _, _, _ => ⟨O, h, fun a => Nat.le_add_right _ _⟩
  | .enum _, h, _, _, _, _ => ⟨O, h, fun a => Nat.le_add_right _ _⟩
end

section
variable {K : PySem.W.Frag} {F B H : Hp} {O : Cnt}
/-- an own cell is written -/
theorem upd_step {D : Addr} {u : HO} (g : Good F B H O) (hD : 1 ≤ O D) : Good F B (upd H D u) O ∧ Step F H O F (upd H D u) O := by
  have ne : ∀ {X : Hp} {a : Addr} {w : HO}, X D = none → X a = some w → a ≠ D := fun e q z => by rw [z, e] at q; cases q
  refine ⟨⟨g.one, g.nf, g.nb, fun a w e => ?_, fun a w e => ?_⟩, ⟨fun a w e z => ?_, Same.refl _, fun a w e => .inl (by rw [e]; intro z; cases z), fun a h => .inl h⟩⟩
  · rw [upd_ne (ne (g.nf D hD) e)]; exact g.fh _ _ e
  · rw [upd_ne (ne (g.nb D hD) e)]; exact g.bh _ _ e
  · rw [upd_ne (fun q => by rw [q] at z; omega)]; exact e
theorem Rep.upd {D : Addr} {u : HO} {d : DL.D} {v : V} {Ov : Cnt} (r : Rep K F B H d v Ov) (h : Ov D = 0) : Rep K F B (upd H D u) d v Ov :=
  Rep.mono (Same.refl _) (Same.refl _) d v Ov r fun a w x e => by rw [upd_ne (fun q => by rw [q] at x; omega)]; exact e
theorem Reps.upd {D : Addr} {u : HO} {d : List DL.D} {v : List V} {Ov : Cnt} (r : Reps K F B H d v Ov) (h : Ov D = 0) : Reps K F B (upd H D u) d v Ov :=
  Reps.mono (Same.refl _) (Same.refl _) d v Ov r fun a w x e => by rw [upd_ne (fun q => by rw [q] at x; omega)]; exact e
theorem SRep.upd {D : Addr} {u : HO} {st : DSt} {σ : L2.St} {Ov : Cnt} (r : SRep K F B H st σ Ov) (h : Ov D = 0) : SRep K F B (upd H D u) st σ Ov :=
  r.mono (Same.refl _) (Same.refl _) fun a w x e => by rw [upd_ne (fun q => by rw [q] at x; omega)]; exact e
end

/-! ### comprehensions -/
/-- a test's mirror -/
def mB (c : DSt → Option (D × DSt)) : DSt → Option (Bool × DSt) := fun s => bnd (c s) fun d s1 => onB d fun b => some (b, s1)
theorem mB_of {c : DSt → Option (D × DSt)} {s s1 : DSt} {b : Bool} (h : c s = some (.bl b, s1)) : mB c s = some (b, s1) := by
  unfold mB
  rw [h]
  rfl
theorem asgT_len : ∀ (t : Tg) {d : D} {s s' : DSt}, asgT t d s = some s' → s'.length = s.length := by
  have both : (∀ (t : Tg) {d : D} {s s' : DSt}, asgT t d s = some s' → s'.length = s.length) ∧ (∀ (ts : List Tg) {d : List D} {s s' : DSt}, asgTs ts d s = some s' → s'.length = s.length) := by
    refine ⟨fun t => ?_, fun ts => ?_⟩
    · exact Tg.rec (motive_1 := fun t => ∀ {d : D} {s s' : DSt}, asgT t d s = some s' → s'.length = s.length) (motive_2 := fun ts => ∀ {d : List D} {s s' : DSt}, asgTs ts d s = some s' → s'.length = s.length)
        (fun i d s s' h => by
          unfold asgT at h
          split at h
          · cases h; simp
          · cases h)
        (fun gs ih d s s' h => by
          unfold asgT at h
          split at h
          · exact ih h
          · cases h)
        (fun {d s s'} h => by
          cases d with
          | nil => unfold asgTs at h; cases h; rfl
          | cons _ _ => unfold asgTs at h; cases h)
        (fun g gs ih1 ih2 {d s s'} h => by
          cases d with
          | nil => unfold asgTs at h; cases h
          | cons d ds =>
            unfold asgTs at h
            split at h
            · rename_i s1 e
              rw [ih2 h, ih1 e]
            · cases h) t
    · exact Tg.rec_1 (motive_1 := fun t => ∀ {d : D} {s s' : DSt}, asgT t d s = some s' → s'.length = s.length) (motive_2 := fun ts => ∀ {d : List D} {s s' : DSt}, asgTs ts d s = some s' → s'.length = s.length)
        (fun i d s s' h => by
          unfold asgT at h
          split at h
          · cases h; simp
          · cases h)
        (fun gs ih d s s' h => by
          unfold asgT at h
          split at h
          · exact ih h
          · cases h)
        (fun {d s s'} h => by
          cases d with
          | nil => unfold asgTs at h; cases h; rfl
          | cons _ _ => unfold asgTs at h; cases h)
        (fun g gs ih1 ih2 {d s s'} h => by
          cases d with
          | nil => unfold asgTs at h; cases h
          | cons d ds =>
            unfold asgTs at h
            split at h
            · rename_i s1 e
              rw [ih2 h, ih1 e]
            · cases h) ts
  exact both.1
section
variable {K : PySem.W.Frag} {Fn : FT} {G : Str → Option D} {B : Hp} {σ : L2.St} {S : Sc}
theorem lc_sem {it : It} {t : Tg} {tg : Expr} {w : List Nat} {c e : DSt → Option (D × DSt)} {F H : Hp} {O : Cnt} {st s1 s2 : DSt} {xs ys : List D} {Q : VK}
    (hk : ckT S (fun j => !w.contains j) t tg = true) (s : SRep K F B H st σ O) (g : Good F B H O) (e1 : iT Fn G it st = some (xs, s1)) (hz : xs.length ≤ sizeLine) (e2 : loopC w t c e xs [] s1 = some (ys, s2))
    (q : ∀ v F' H' O' Od, SRep K F' B H' (endT it st (backD s1 s2 w)) σ O' → Rep K F' B H' (.lst .own ys) v Od → Good F' B H' (fun a => O' a + Od a) → Step F H O F' H' (fun a => O' a + Od a) → Q v H') :
    tLc (tI K Fn G it) (gT K t) (tT K (mB c)) (tE K e) w σ H Q := by
  refine tI_ok it s g e1 fun J F1 H1 O1 E ss1 g1 p1 al wk bk => ?_
  intro D hD
  have al1 : Alone (fun a => O1 a + E a) H1 := fun a h => by
    by_cases z : 1 ≤ E a
    · exact al a z
    · exact ss1.trk a (by (try dsimp only at h); omega)
  obtain ⟨O1w, sw, lw⟩ := ss1.wipe w
  have ex0 : Ext F1 H1 F1 (upd H1 D (.lst [])) (sing D) := Ext.lst hD g1.fh
  obtain ⟨g2, p2⟩ := ex0.step g1 al1 (K := K)
  refine ⟨fun i m Hc => m + i = xs.length ∧ ∃ F' O' Oa acc sc vs, SRep K F' B Hc (wipeD sc w) (wipe σ w) O' ∧ Reps K F' B Hc acc vs Oa ∧ Hc D = some (.lst vs) ∧
      Good F' B Hc (fun a => O' a + ((Oa a + sing D a) + E a)) ∧ Step F1 H1 (fun a => O1 a + E a) F' Hc (fun a => O' a + ((Oa a + sing D a) + E a)) ∧ (∀ a u, 1 ≤ E a → H1 a = some u → Hc a = some u) ∧
      acc.length ≤ i ∧ loopC w t c e (xs.drop i) acc sc = some (ys, s2), ⟨xs.length, rfl, F1, O1w, fun _ => 0, [], s1, [], sw.ext ex0, Reps.nilR, upd_same, g2.le fun a => ?_, p2.le fun a => ?_, fun a u _ q => ex0.hh a u q, Nat.le_refl _, e2⟩, ?_⟩
  · have := lw a; (try dsimp only); omega
  · have := lw a; (try dsimp only); omega
  rintro i m Hc ⟨hm, F', O', Oa, acc, sc, vs, hs, hr, hd, hg, hp, hE, hl, he⟩
  have fh := hg.fh
  have bh := hg.bh
  obtain ⟨k1, k2⟩ := wk i F' Hc hp.mono fh bh hE
  by_cases hi : i < xs.length
  · obtain ⟨k3, k4⟩ := k1 xs[i] (List.getElem?_eq_getElem hi)
    rw [List.drop_eq_getElem_cons hi] at he
    unfold loopC at he
    split at he
    · cases he
    rename_i sa ea
    obtain ⟨bd, sb, ec, he2⟩ := bnd_some he
    obtain ⟨b, eb, he3⟩ := onB_some he2
    subst eb
    clear he he2
    refine .inr ⟨k3, fun H' => (m - 1) + (i + 1) = xs.length ∧ ∃ F' O' Oa acc sc vs, SRep K F' B H' (wipeD sc w) (wipe σ w) O' ∧ Reps K F' B H' acc vs Oa ∧ H' D = some (.lst vs) ∧
      Good F' B H' (fun a => O' a + ((Oa a + sing D a) + E a)) ∧ Step F1 H1 (fun a => O1 a + E a) F' H' (fun a => O' a + ((Oa a + sing D a) + E a)) ∧ (∀ a u, 1 ≤ E a → H1 a = some u → H' a = some u) ∧
      acc.length ≤ i + 1 ∧ loopC w t c e (xs.drop (i + 1)) acc sc = some (ys, s2), fun H' n => ⟨m - 1, by omega, n⟩, fun x H2 hy => ?_⟩
    obtain ⟨F2, rx, ex⟩ := k4 x H2 hy
    have alc : Alone (fun a => O' a + ((Oa a + sing D a) + E a)) Hc := fun a h => by
      by_cases z : 1 ≤ E a
      · obtain ⟨u, e3, mu⟩ := al a z
        exact ⟨u, hE a u z e3, mu⟩
      · by_cases z2 : 1 ≤ Oa a
        · exact Reps.trk _ _ _ hr a z2
        · by_cases z3 : a = D
          · rw [z3]; exact ⟨_, hd, True.intro⟩
          · exact hs.trk a (by have := sing_ne z3; (try dsimp only at h); omega)
    obtain ⟨g3, p3⟩ := ex.step hg alc (K := K)
    refine asg_ok (K := K) (F := F2) (B := B) (H := H2) t hk (hs.ext ex) rx ex.fh ea fun σ2 O3 h3 le3 kp3 => ?_
    have hlen : σ2.length = σ.length := by rw [h3.len, asgT_len t ea, ← hs.len, wipe_length]
    refine ⟨?_, ?_⟩
    · refine wipe_eq w hlen fun j hj => ?_
      rw [kp3 j (by simpa using hj), wipe_get w hj]
    -- the frame through the turn
    have al2 : Alone (fun a => (Oa a + sing D a) + E a) H2 := fun a h => by
      obtain ⟨u, e3, mu⟩ := alc a (by (try dsimp only at h ⊢); omega)
      exact ⟨u, ex.hh a u e3, mu⟩
    have g3' : Good F2 B H2 (fun a => O3 a + ((Oa a + sing D a) + E a)) := g3.le fun a => by have := le3 a; (try dsimp only); omega
    refine ⟨F2, B, O3, sa, b, sb, h3, g3'.le fun a => by (try dsimp only); omega, mB_of ec, fun F3 H3 O4 h4 g4 p4 => ?_⟩
    obtain ⟨g5, p5, fr5⟩ := p4.frame g3' g4 al2
    have hp5 : Step F1 H1 (fun a => O1 a + E a) F3 H3 (fun a => O4 a + ((Oa a + sing D a) + E a)) := (hp.trans (p3.le fun a => by have := le3 a; (try dsimp only); omega)).trans p5
    have hr5 : Reps K F3 B H3 acc vs Oa := Reps.mono p4.mono (Same.refl _) _ _ _ (hr.ext ex) fun a u z q => fr5 a u (by (try dsimp only); omega) q
    have hd5 : H3 D = some (.lst vs) := fr5 D _ (by have := sing_self (a := D); (try dsimp only); omega) (ex.hh _ _ hd)
    have hE5 : ∀ a u, 1 ≤ E a → H1 a = some u → H3 a = some u := fun a u z q => fr5 a u (by (try dsimp only); omega) (ex.hh a u (hE a u z q))
    have al5 : Alone (fun a => (Oa a + sing D a) + E a) H3 := fun a h => by
      obtain ⟨u, e3, mu⟩ := al2 a h
      exact ⟨u, fr5 a u h e3, mu⟩
    have wz : wipe σ2 w = wipe σ w := by
      refine wipe_eq w hlen fun j hj => ?_
      rw [kp3 j (by simpa using hj), wipe_get w hj]
    cases b with
    | false =>
      rw [if_neg (by decide)] at he3 ⊢
      obtain ⟨Ow, hw, lew⟩ := h4.wipe w
      rw [wz] at hw
      exact ⟨by omega, F3, Ow, Oa, acc, sb, vs, hw, hr5, hd5, g5.le fun a => by have := lew a; (try dsimp only); omega, hp5.le fun a => by have := lew a; (try dsimp only); omega, hE5, by omega, he3⟩
    | true =>
      rw [if_pos rfl] at he3 ⊢
      obtain ⟨y, sd, ee, he⟩ := bnd_some he3
      refine ⟨F3, B, O4, sb, y, sd, h4, g4, ee, fun v F4 H4 O5 Od h5 r5 g6 p6 => ?_⟩
      obtain ⟨g7, p7, fr7⟩ := p6.frame g5 g6 al5
      have hr7 : Reps K F4 B H4 acc vs Oa := Reps.mono p6.mono (Same.refl _) _ _ _ hr5 fun a u z q => fr7 a u (by (try dsimp only); omega) q
      have hd7 : H4 D = some (.lst vs) := fr7 D _ (by have := sing_self (a := D); (try dsimp only); omega) hd5
      have hE7 : ∀ a u, 1 ≤ E a → H1 a = some u → H4 a = some u := fun a u z q => fr7 a u (by (try dsimp only); omega) (hE5 a u z q)
      refine ⟨vs, hd7, by rw [hr7.length]; omega, ?_⟩
      have oD : 1 ≤ (fun a => (O5 a + Od a) + ((Oa a + sing D a) + E a)) D := by have := sing_self (a := D); (try dsimp only); omega
      obtain ⟨g8, p8⟩ := upd_step (u := .lst (vs ++ [v])) g7 oD
      have one := g7.one D
      have sD := sing_self (a := D)
      (try dsimp only at one)
      obtain ⟨Ow, hw, lew⟩ := (h5.upd (u := .lst (vs ++ [v])) (show O5 D = 0 by omega)).wipe w
      rw [wz] at hw
      refine ⟨by omega, F4, Ow, fun a => Oa a + Od a, acc ++ [y], sd, vs ++ [v], hw, ?_, upd_same, g8.le fun a => by have := lew a; (try dsimp only); omega, (((hp5.trans p7).trans p8)).le fun a => by have := lew a; (try dsimp only); omega, fun a u z q => ?_, by simp; omega, he⟩
      · exact (hr7.upd (by omega)).append (Reps.one (r5.upd (by omega)))
      · rw [upd_ne (fun e0 => by rw [e0] at z; omega)]
        exact hE7 a u z q
  · refine .inl ⟨k2 (by omega), ?_⟩
    rw [List.drop_of_length_le (by omega)] at he
    have he : some (acc, sc) = some (ys, s2) := by unfold loopC at he; exact he
    cases he
    obtain ⟨O4, h4, l4⟩ := (SRep.unwipe hs).back w ss1 hp.mono
    obtain ⟨O5, h5, l5⟩ := h4.ends bk hp.mono hE (fun _ _ => rfl)
    refine q (.ref D) F' Hc O5 (fun a => Oa a + sing D a) h5 ?_ (hg.le fun a => by have := l4 a; have := l5 a; (try dsimp only); omega) ((p1.trans hp).le fun a => by have := l4 a; have := l5 a; (try dsimp only); omega)
    unfold Rep
    exact ⟨D, vs, Oa, rfl, hr, .inl ⟨hd, fun b => rfl⟩⟩
end
end DL
set_option Elab.async false
set_option linter.all false
set_option maxRecDepth 100000
/-! DL8: expressions against the core, and that the core tells them. -/
namespace DL
open PySem PySem.Spec PyProof.Rows L2

section
variable {K : PySem.W.Frag} {F B H : Hp} {O Od : Cnt} {σ : L2.St} {st : DSt}
theorem new_own {D : Addr} {ds : List DL.D} {vs : List V} (hD : H D = none) (s : SRep K F B H st σ O) (r : Reps K F B H ds vs Od) (g : Good F B H (fun a => O a + Od a)) :
    SRep K F B (upd H D (.lst vs)) st σ O ∧ Rep K F B (upd H D (.lst vs)) (.lst .own ds) (.ref D) (fun a => Od a + sing D a) ∧ Good F B (upd H D (.lst vs)) (fun a => O a + (Od a + sing D a)) ∧
      Step F H (fun a => O a + Od a) F (upd H D (.lst vs)) (fun a => O a + (Od a + sing D a)) := by
  have ex : Ext F H F (upd H D (.lst vs)) (sing D) := Ext.lst hD g.fh
  have al : Alone (fun a => O a + Od a) H := fun a h => by
    by_cases z : 1 ≤ Od a
    · exact Reps.trk _ _ _ r a z
    · exact s.trk a (by (try dsimp only at h); omega)
  obtain ⟨g2, p2⟩ := ex.step g al (K := K)
  refine ⟨s.ext ex, ?_, g2.le fun a => by (try dsimp only); omega, p2.le fun a => by (try dsimp only); omega⟩
  unfold Rep
  exact ⟨D, vs, Od, rfl, r.ext ex, .inl ⟨upd_same, fun b => rfl⟩⟩
theorem new_tup {D : Addr} {ds : List DL.D} {vs : List V} (hD : H D = none) (s : SRep K F B H st σ O) (r : Reps K F B H ds vs Od) (g : Good F B H (fun a => O a + Od a)) :
    SRep K (upd F D (.tup vs)) B (upd H D (.tup vs)) st σ O ∧ Rep K (upd F D (.tup vs)) B (upd H D (.tup vs)) (.tup ds) (.ref D) Od ∧ Good (upd F D (.tup vs)) B (upd H D (.tup vs)) (fun a => O a + Od a) ∧
      Step F H (fun a => O a + Od a) (upd F D (.tup vs)) (upd H D (.tup vs)) (fun a => O a + Od a) := by
  have ex := Ext.tup (u := .tup vs) hD g.fh
  have al : Alone (fun a => O a + Od a) H := fun a h => by
    by_cases z : 1 ≤ Od a
    · exact Reps.trk _ _ _ r a z
    · exact s.trk a (by (try dsimp only at h); omega)
  obtain ⟨g2, p2⟩ := ex.step g al (K := K)
  refine ⟨s.ext ex, ?_, g2.le fun a => by (try dsimp only); omega, p2.le fun a => by (try dsimp only); omega⟩
  unfold Rep
  exact ⟨D, vs, rfl, upd_same, r.ext ex⟩
theorem new_dict {D : Addr} {d : DL.D} {u : HO} (hu : (d = .dK .own [] [] ∧ u = .dK []) ∨ (d = .dT .own [] [] ∧ u = .dT [])) (hD : H D = none) (s : SRep K F B H st σ O) (g : Good F B H O) :
    SRep K F B (upd H D u) st σ O ∧ Rep K F B (upd H D u) d (.ref D) (sing D) ∧ Good F B (upd H D u) (fun a => O a + sing D a) ∧ Step F H O F (upd H D u) (fun a => O a + sing D a) := by
  have ex : Ext F H F (upd H D u) (sing D) := Ext.lst hD g.fh
  obtain ⟨g2, p2⟩ := ex.step g s.trk (K := K)
  refine ⟨s.ext ex, ?_, g2, p2⟩
  rcases hu with ⟨rfl, rfl⟩ | ⟨rfl, rfl⟩
  · unfold Rep
    exact ⟨D, [], fun _ => 0, rfl, Reps.nilR, rfl, upd_same, fun b => by (try dsimp only); omega⟩
  · unfold Rep
    exact ⟨D, [], fun _ => 0, rfl, Reps.nilR, rfl, upd_same, fun b => by (try dsimp only); omega⟩
end

/-! ### the checker of expressions -/
def opd2 : Os → Bool
  | .e _ (.e _ .nil) => true
  | .e _ (.v _ .nil) => true
  | .e _ (.q _ .nil) => true
  | .v _ (.e _ .nil) => true
  | .v _ (.v _ .nil) => true
  | .v _ (.q _ .nil) => true
  | .q _ (.e _ .nil) => true
  | .q _ (.v _ .nil) => true
  | .q _ (.q _ .nil) => true
  | _ => false
def opd1 : Os → Bool
  | .e _ .nil => true
  | .v _ .nil => true
  | .q _ .nil => true
  | _ => false
def isNone : Expr → Bool
  | .Constant .none _ _ => true
  | _ => false
def lineOf (p : Pos) : Nat := p.line
mutual
def ckE (S : Sc) : CE → Expr → Bool
  | .v i, e => (match e with
    | .Name x _ => isVar S i x
    | _ => false)
  | .vf i, e => (match e with
    | .Name x _ => isVar S i x
    | _ => false)
  | .vt i, e => (match e with
    | .Name x _ => isVar S i x
    | _ => false)
  | .n k, e => (match e with
    | .Constant (.int j) _ _ => decide (k = j)
    | _ => false)
  | .b k, e => (match e with
    | .Constant (.bool j) _ _ => decide (k = j)
    | _ => false)
  | .non, e => isNone e
  | .s k, e => (match e with
    | .Constant (.str j) _ _ => decide (k = j)
    | _ => false)
  | .g x, e => (match e with
    | .Name y _ => decide (x = y) && isGl S x
    | _ => false)
  | .p q as, e => (match e with
    | .BinOp a op b _ => decide (binOf op = some q) && opd2 as && ckL S as [a, b]
    | .UnaryOp .USub a _ => decide (q = .neg) && opd1 as && ckL S as [a]
    | .Compare a [op] [b] _ => (decide (cmpOf op = some q) && opd2 as && !(behindInMarks op b) && ckL S as [a, b]) ||
        (decide (op = .Is) && decide (q = .isN) && isNone b && opd1 as && ckL S as [a]) || (decide (op = .IsNot) && decide (q = .notN) && isNone b && opd1 as && ckL S as [a])
    | .Subscript a b _ => decide (q = .idx) && opd2 as && plainIx b && ckL S as [a, b]
    | .Call (.Name x _) es [] _ => (match bltOf q with
        | some (n, _, k) => decide (x = Str.ofString n) && isGl S x && decide (es.length = k) && ckL S as es
        | none => false) || (match q, es with
        | .isinst T, [a, .Name y _] => decide (x = Str.ofString "isinstance") && isGl S x && decide (y = Str.ofString T) && isGl S y && decide (T ∈ ["int", "bool", "list", "tuple", "str"]) && opd1 as && ckL S as [a]
        | _, _ => false)
    | _ => false)
  | .not a, e => (match e with
    | .UnaryOp .Not x _ => ckE S a x
    | _ => false)
  | .and a b, e => (match e with
    | .BoolOp .And [x, y] _ => ckE S a x && ckE S b y
    | .BoolOp .And (x :: y :: z :: r) pos => ckE S a x && ckE S b (.BoolOp .And (y :: z :: r) pos)
    | _ => false)
  | .or a b, e => (match e with
    | .BoolOp .Or [x, y] _ => ckE S a x && ckE S b y
    | .BoolOp .Or (x :: y :: z :: r) pos => ckE S a x && ckE S b (.BoolOp .Or (y :: z :: r) pos)
    | _ => false)
  | .chain p q a b c, e => (match e with
    | .Compare x [o1, o2] [y, z] _ => decide (cmpOf o1 = some p) && decide (cmpOf o2 = some q) && !(lastMarks [o1, o2] [y, z]) && ckE S a x && ckE S b y && ckE S c z
    | _ => false)
  | .sl o a l h, e => (match e with
    | .Subscript x (.Slice lo hi none _) _ => (match o with
      | some i => (match x with
        | .Name y _ => isVar S i y
        | _ => false)
      | none => ckE S a x) && (match lo with
      | none => isNonC l
      | some y => !(isNonC l) && ckE S l y) && (match hi with
      | none => isNonC h
      | some y => !(isNonC h) && ckE S h y)
    | _ => false)
  | .lst as, e => (match e with
    | .List es _ => ckL S as es
    | _ => false)
  | .tup as, e => (match e with
    | .Tuple es _ _ => ckL S as es
    | _ => false)
  | .dnew _, e => (match e with
    | .Dict [] [] _ => true
    | _ => false)
  | .call f as, e => (match e with
    | .Call (.Name x _) (y :: es) [] _ => decide (x = f) && isGl S x && ckL S as (y :: es)
    | _ => false)
  | .comp w t it c e, x => (match x with
    | .ListComp elt [⟨tg, iter, ifs, 0⟩] scope _ => ckI S it tg iter && blkC S.N S.sc scope (w.map fun i => ((S.N[i]?).getD (Str.ofString ""), i)) &&
        ckT ⟨S.N, relS scope S.sc, fun x => scope.names.lookup x == some .cell⟩ (fun j => !w.contains j) t tg &&
        (match ifs with
          | [] => (match c with
            | .b true => true
            | _ => false)
          | [f] => ckE ⟨S.N, relS scope S.sc, fun x => scope.names.lookup x == some .cell⟩ c f
          | _ => false) && ckE ⟨S.N, relS scope S.sc, fun x => scope.names.lookup x == some .cell⟩ e elt
    | _ => false)
def ckL (S : Sc) : Os → List Expr → Bool
  | .nil, [] => true
  | .e a r, x :: es => noStar x && ckE S a x && ckL S r es
  | .v i r, x :: es => (match x with
    | .Name y _ => isVar S i y
    | _ => false) && ckL S r es
  | .l i r, x :: es => (match x with
    | .Name y _ => isVar S i y
    | _ => false) && ckL S r es
  | .q o r, x :: es => noStar x && ckQ S o x && ckL S r es
  | _, _ => false
def ckI (S : Sc) : It → Expr → Expr → Bool
  | .e a, _, e => ckE S a e && (match e with
    | .Set _ _ _ => false
    | _ => true)
  | .s i, _, e => (match e with
    | .Name y _ => isVar S i y
    | _ => false)
  | .r1 a, _, e => (match e with
    | .Call (.Name x _) [y] [] _ => decide (x = Str.ofString "range") && isGl S x && noStar y && ckE S a y
    | _ => false)
  | .r2 a b, _, e => (match e with
    | .Call (.Name x _) [y, z] [] _ => decide (x = Str.ofString "range") && isGl S x && noStar y && noStar z && ckE S a y && ckE S b z
    | _ => false)
  | .zip a b, tg, e => (match e, tg with
    | .Call (.Name x _) [y, z] [] _, .Tuple _ _ _ => decide (x = Str.ofString "zip") && isGl S x && noStar y && noStar z && ckE S a y && ckE S b z
    | _, _ => false)
  | .enum a, tg, e => (match e, tg with
    | .Call (.Name x _) [y] [] _, .Tuple _ _ _ => decide (x = Str.ofString "enumerate") && isGl S x && noStar y && ckE S a y
    | _, _ => false)
end
/-! ### operands' judgements -/
def Os.len : Os → Nat
  | .nil => 0
  | .e _ r => r.len + 1
  | .v _ r => r.len + 1
  | .l _ r => r.len + 1
  | .q _ r => r.len + 1
section
variable {Fn : FT} {G : Str → Option D}
theorem iO_len : ∀ (as : Os) {s s' : DSt} {ds : List D}, iO Fn G as s = some (ds, s') → ds.length = as.len
  | .nil, s, s', ds, e => by cases (show some ([], s) = some (ds, s') from e); rfl
  | .l _ _, _, _, _, e => by cases (show none = some _ from e)
  | .e a r, s, s', ds, e => by
    obtain ⟨d, st1, e1, e2⟩ := bnd_some (show bnd (iE Fn G a s) _ = some (ds, s') from e)
    obtain ⟨ds1, st2, e3, e4⟩ := bnd_some e2
    cases e4
    rw [List.length_cons, iO_len r e3]; rfl
  | .v i r, s, s', ds, e => by
    unfold iO at e
    split at e
    · cases e
    · obtain ⟨ds1, st1, e1, e2⟩ := bnd_some e
      split at e2
      · cases e2
        rw [List.length_cons, iO_len r e1]; rfl
      · cases e2
  | .q o r, s, s', ds, e => by
    unfold iO at e
    split at e
    · split at e
      · obtain ⟨ds1, st1, e1, e2⟩ := bnd_some e
        cases e2
        rw [List.length_cons, iO_len r e1]; rfl
      · cases e
    · cases e
theorem iA_len : ∀ (as : Os) {s s' : DSt} {ds : List D}, iA Fn G as s = some (ds, s') → ds.length = as.len
  | .nil, s, s', ds, e => by cases (show some ([], s) = some (ds, s') from e); rfl
  | .q _ _, _, _, _, e => by cases (show none = some _ from e)
  | .e a r, s, s', ds, e => by
    obtain ⟨d, st1, e1, e2⟩ := bnd_some (show bnd (iE Fn G a s) _ = some (ds, s') from e)
    obtain ⟨ds1, st2, e3, e4⟩ := bnd_some e2
    cases e4
    rw [List.length_cons, iA_len r e3]; rfl
  | .v i r, s, s', ds, e => by
    unfold iA at e
    split at e
    · cases e
    · obtain ⟨ds1, st1, e1, e2⟩ := bnd_some e
      cases e2
      rw [List.length_cons, iA_len r e1]; rfl
  | .l i r, s, s', ds, e => by
    unfold iA at e
    split at e
    · cases e
    · obtain ⟨ds1, st1, e1, e2⟩ := bnd_some e
      cases e2
      rw [List.length_cons, iA_len r e1]; rfl
def PEL (X : Cx) (Fn : FT) (G : Str → Option D) : Os → List Expr → Prop
  | .nil, es => es = []
  | .e a r, es => ∃ x es', es = x :: es' ∧ noStar x = true ∧ PE X x (tE X.K (iE Fn G a)) ∧ PEL X Fn G r es'
  | .v i r, es => ∃ x es', es = x :: es' ∧ noStar x = true ∧ PE X x (tVar i) ∧ PEL X Fn G r es'
  | .l i r, es => ∃ x es', es = x :: es' ∧ noStar x = true ∧ PE X x (tVar i) ∧ PEL X Fn G r es'
  | .q o r, es => ∃ x es', es = x :: es' ∧ noStar x = true ∧ PE X x (tQ X.K o) ∧ PEL X Fn G r es'
theorem PEL.pa {X : Cx} : ∀ {as : Os} {es : List Expr}, PEL X Fn G as es → PA X es (tOs X.K Fn G as)
  | .nil, _, h => by cases (show _ = [] from h); exact pa_nil
  | .e _ _, _, h => by obtain ⟨x, es', rfl, n, p, h⟩ := h; exact pa_cons p (PEL.pa h) (star_cons n)
  | .v _ _, _, h => by obtain ⟨x, es', rfl, n, p, h⟩ := h; exact pa_cons p (PEL.pa h) (star_cons n)
  | .l _ _, _, h => by obtain ⟨x, es', rfl, n, p, h⟩ := h; exact pa_cons p (PEL.pa h) (star_cons n)
  | .q _ _, _, h => by obtain ⟨x, es', rfl, n, p, h⟩ := h; exact pa_cons p (PEL.pa h) (star_cons n)
theorem any_back {env : Env} {pos : Pos} {x : Expr} {es : List Expr} (n : noStar x = true) (h : (backTo pos (starEach es env)).any (·.1) = false) : (backTo pos (starEach (x :: es) env)).any (·.1) = false := by
  rw [star_cons n]
  unfold backTo at h ⊢
  rw [List.map_cons, List.any_cons, h]
  rfl
theorem PEL.any {X : Cx} {pos : Pos} : ∀ {as : Os} {es : List Expr}, PEL X Fn G as es → (backTo pos (starEach es X.env)).any (·.1) = false
  | .nil, _, h => by cases (show _ = [] from h); rfl
  | .e _ _, _, h => by obtain ⟨x, es', rfl, n, p, h⟩ := h; exact any_back n (PEL.any h)
  | .v _ _, _, h => by obtain ⟨x, es', rfl, n, p, h⟩ := h; exact any_back n (PEL.any h)
  | .l _ _, _, h => by obtain ⟨x, es', rfl, n, p, h⟩ := h; exact any_back n (PEL.any h)
  | .q _ _, _, h => by obtain ⟨x, es', rfl, n, p, h⟩ := h; exact any_back n (PEL.any h)
theorem PEL.ns {X : Cx} {as : Os} {x : Expr} {es : List Expr} (h : PEL X Fn G as (x :: es)) : noStar x = true ∧ (∀ pos : Pos, (backTo pos (starEach es X.env)).any (·.1) = false) := by
  cases as with
  | nil => cases (show x :: es = [] from h)
  | e _ _ => obtain ⟨x, es', e, n, p, h⟩ := h; cases e; exact ⟨n, fun pos => PEL.any h⟩
  | v _ _ => obtain ⟨x, es', e, n, p, h⟩ := h; cases e; exact ⟨n, fun pos => PEL.any h⟩
  | l _ _ => obtain ⟨x, es', e, n, p, h⟩ := h; cases e; exact ⟨n, fun pos => PEL.any h⟩
  | q _ _ => obtain ⟨x, es', e, n, p, h⟩ := h; cases e; exact ⟨n, fun pos => PEL.any h⟩
theorem PEL.one {X : Cx} {as : Os} {a : Expr} (h1 : opd1 as = true) (h : PEL X Fn G as [a]) : ∃ ta, PE X a ta ∧ tOs X.K Fn G as = tCons ta tNil ∧ as.len = 1 := by
  unfold opd1 at h1
  split at h1
  · obtain ⟨x, es', e, n, p, h⟩ := h; cases e; exact ⟨_, p, rfl, rfl⟩
  · obtain ⟨x, es', e, n, p, h⟩ := h; cases e; exact ⟨_, p, rfl, rfl⟩
  · obtain ⟨x, es', e, n, p, h⟩ := h; cases e; exact ⟨_, p, rfl, rfl⟩
  · cases h1
theorem PEL.two {X : Cx} {as : Os} {a b : Expr} (h1 : opd2 as = true) (h : PEL X Fn G as [a, b]) : ∃ ta tb, PE X a ta ∧ PE X b tb ∧ tOs X.K Fn G as = tCons ta (tCons tb tNil) ∧ as.len = 2 := by
  unfold opd2 at h1
  split at h1
  all_goals first
    | (obtain ⟨x, es', e, n, p, y, es2, e2, n2, p2, h⟩ := h; cases e; cases e2; exact ⟨_, _, p, p2, rfl, rfl⟩)
    | cases h1
end

section
variable {K : PySem.W.Frag} {Fn : FT} {G : Str → Option D} {σ : L2.St} {H : Hp} {Q : VK}
theorem p_inv {q : Prim} {as : Os} {st st' : DSt} {d : D} (e : iE Fn G (.p q as) st = some (d, st')) : ∃ ds, iO Fn G as st = some (ds, st') ∧ pr q ds = some d := by
  unfold iE at e
  obtain ⟨ds, s1, e1, e2⟩ := bnd_some e
  split at e2
  · rename_i d' e3
    cases e2
    exact ⟨ds, e1, e3⟩
  · cases e2
theorem len2 {ds : List D} (h : ds.length = 2) : ∃ a b, ds = [a, b] := by
  match ds, h with
  | [a, b], _ => exact ⟨a, b, rfl⟩
theorem len1 {ds : List D} (h : ds.length = 1) : ∃ a, ds = [a] := by
  match ds, h with
  | [a], _ => exact ⟨a, rfl⟩
theorem b_sem {q : Prim} {as : Os} {ta tb : TE} (hl : as.len = 2) (ht : tOs K Fn G as = tCons ta (tCons tb tNil)) (hq : (∃ op, binOf op = some q) ∨ (∃ op, cmpOf op = some q) ∨ q = .idx) (h : tE K (iE Fn G (.p q as)) σ H Q) :
    tOp (rB K q) ta tb σ H Q := by
  obtain ⟨F, B, O, st, d, st', s, g, e, w⟩ := h
  obtain ⟨ds, e1, e2⟩ := p_inv e
  obtain ⟨d1, d2, rfl⟩ := len2 ((iO_len as e1).trans hl)
  have z := tOs_ok (K := K) as (Q := fun vs H2 => match vs with | [x, y] => rB K q x y H2 Q | _ => False) s g e1 fun vs F' H' O' s' vw g' p' => by
    obtain ⟨v1, v2, Ov, Ow, rfl, r1, r2⟩ := views2 vw
    exact b_ok g' e2 r1 r2 (post_cont s' g' p' w) hq
  rw [ht] at z
  exact z
theorem u_sem {q : Prim} {as : Os} {ta : TE} {r : V → Hp → VK → Prop} (hl : as.len = 1) (ht : tOs K Fn G as = tCons ta tNil) (h : tE K (iE Fn G (.p q as)) σ H Q)
    (hr : ∀ {F B H' : Hp} {O : Cnt} {d1 d : D} {v : V} {Ov : Cnt}, Good F B H' O → pr q [d1] = some d → Rep K F B H' d1 v Ov → Cont K F B H' d Q → r v H' Q) : tUn r ta σ H Q := by
  obtain ⟨F, B, O, st, d, st', s, g, e, w⟩ := h
  obtain ⟨ds, e1, e2⟩ := p_inv e
  obtain ⟨d1, rfl⟩ := len1 ((iO_len as e1).trans hl)
  have z := tOs_ok (K := K) as (Q := fun vs H2 => match vs with | [x] => r x H2 Q | _ => False) s g e1 fun vs F' H' O' s' vw g' p' => by
    obtain ⟨v1, Ov, rfl, r1⟩ := views1 vw
    exact hr g' e2 r1 (post_cont s' g' p' w)
  rw [ht] at z
  exact z
theorem c_sem {q : Prim} {as : Os} {t : String × Bool × Nat} (hq : bltOf q = some t) (h : tE K (iE Fn G (.p q as)) σ H Q) : tCB (rC K q) (tOs K Fn G as) σ H Q := by
  obtain ⟨F, B, O, st, d, st', s, g, e, w⟩ := h
  obtain ⟨ds, e1, e2⟩ := p_inv e
  exact tOs_ok (K := K) as (Q := fun vs H2 => rC K q vs H2 Q) s g e1 fun vs F' H' O' s' vw g' p' => call_ok g' e2 vw (post_cont s' g' p' w) hq
/-- isinstance -/
def tyN : D → String
  | .non => "NoneType"
  | .bl _ => "bool"
  | .int _ => "int"
  | .str _ => "str"
  | .lst _ _ => "list"
  | .tup _ => "tuple"
  | .dK _ _ _ => "dict"
  | .dT _ _ _ => "dict"
theorem kit_all : ∀ T ∈ ["int", "bool", "list", "tuple", "str"], ∀ a ∈ ["NoneType", "bool", "int", "str", "list", "tuple", "dict"], kitB a T = some (a == T || (a == "bool" && T == "int")) := by decide +kernel
theorem boot_ty : ∀ T ∈ ["int", "bool", "list", "tuple", "str"], bootBuiltins (Str.ofString T) = some (.type T) ∧ (Str.ofString T) ≠ "__name__" ∧ ((Str.ofString T) == ("__debug__" : Str)) = false := by decide +kernel
theorem tyIs_eq {T : String} (d : D) (hT : T ∈ ["int", "bool", "list", "tuple", "str"]) : kitB (tyN d) T = some (tyIs T d) := by
  have e : kitB (tyN d) T = some (tyN d == T || (tyN d == "bool" && T == "int")) := kit_all T hT (tyN d) (by cases d <;> simp [tyN])
  rw [e]
  congr 1
  simp only [List.mem_cons, List.not_mem_nil, or_false] at hT
  rcases hT with rfl | rfl | rfl | rfl | rfl <;> cases d <;> rfl
theorem rep_ty {F B : Hp} {O : Cnt} {d : D} {v : V} {Ov : Cnt} (g : Good F B H O) (r : Rep K F B H d v Ov) (h : ∀ xs, d ≠ .lst .scr xs) : TyX K H v (.type (tyN d)) := by
  cases d with
  | non => rw [non_inv r]; exact .base .non
  | bl b => rw [bl_inv r]; exact .base (.bl b)
  | int i => rw [int_inv r]; exact .base (.int i)
  | str x => rw [str_inv r]; exact .base (.str x)
  | lst m xs =>
    obtain ⟨a, vs, O1, rfl, _, _, _, e⟩ := lst_inv g r
    exact .base (.lst (e fun z => h xs (by rw [z])))
  | tup xs =>
    obtain ⟨a, vs, rfl, _, _, e⟩ := tup_inv g r
    exact .base (.tup e)
  | dK m ks xs =>
    obtain ⟨a, vs, O1, rfl, _, e, _⟩ := dK_inv g r
    exact .base (.dK e)
  | dT m ks xs =>
    obtain ⟨a, vs, O1, rfl, _, e, _⟩ := dT_inv g r
    exact .base (.dT e)
theorem isi_sem {T : String} {as : Os} {ta : TE} (hT : T ∈ ["int", "bool", "list", "tuple", "str"]) (hl : as.len = 1) (ht : tOs K Fn G as = tCons ta tNil) (h : tE K (iE Fn G (.p (.isinst T) as)) σ H Q) :
    tCB (rIsi K) (tCons ta (tCons (tC (.ty T)) tNil)) σ H Q := by
  refine u_sem (r := fun v H' Q => rIsi K [v, .ty T] H' Q) hl ht h fun {F B H' O d1 d v Ov} g e r c => ?_
  replace e : p_isinst T [d1] = some d := e
  have hn : ∀ xs, d1 ≠ .lst .scr xs := fun xs z => by subst z; cases e
  have e : D.bl (tyIs T d1) = d := by
    unfold p_isinst at e
    split at e
    · cases e
    · rename_i ee
      cases ee
      exact Option.some.inj e
    · cases e
  subst e
  exact ⟨v, .ty T, _, _, _, rfl, .ty T, rep_ty g r hn, kit_ty (tyIs_eq d1 hT), c_bl g c⟩
/-- slices -/
def rSl (K : PySem.W.Frag) : V → Option Int → Option Int → Hp → VK → Prop := fun x lo hi H Q => rSlL K x lo hi H Q ∨ rSlT K x lo hi H Q
theorem reps_cut {F B : Hp} {xs : List D} {vs : List V} (r : Reps K F B H xs vs (fun _ => 0)) (l h : Option Int) : Reps K F B H (cutL xs l h) (cutV vs l h) (fun _ => 0) := by
  have dr : ∀ (n : Nat) {xs : List D} {vs : List V}, Reps K F B H xs vs (fun _ => 0) → Reps K F B H (xs.drop n) (vs.drop n) (fun _ => 0) := by
    intro n
    induction n with
    | zero => intro xs vs r; exact r
    | succ n ih =>
      intro xs vs r
      cases xs with
      | nil => unfold Reps at r; rw [r.1]; exact Reps.nilR
      | cons x xs =>
        unfold Reps at r
        obtain ⟨v, vs', O1, O2, rfl, h1, h2, ho⟩ := r
        exact ih (h2.congr fun a => by have := ho a; (try dsimp only at this); omega)
  have tk : ∀ (n : Nat) {xs : List D} {vs : List V}, Reps K F B H xs vs (fun _ => 0) → Reps K F B H (xs.take n) (vs.take n) (fun _ => 0) := by
    intro n
    induction n with
    | zero => intro xs vs r; exact Reps.nilR
    | succ n ih =>
      intro xs vs r
      cases xs with
      | nil => unfold Reps at r; rw [r.1]; exact Reps.nilR
      | cons x xs =>
        unfold Reps at r
        obtain ⟨v, vs', O1, O2, rfl, h1, h2, ho⟩ := r
        rw [List.take_succ_cons, List.take_succ_cons]
        unfold Reps
        exact ⟨v, _, fun _ => 0, fun _ => 0, rfl, h1.congr fun a => by have := ho a; (try dsimp only at this ⊢); omega, ih (h2.congr fun a => by have := ho a; (try dsimp only at this); omega), fun _ => rfl⟩
  unfold cutL cutV
  rw [r.length]
  exact tk _ (dr _ r)
theorem sl_ok {F B : Hp} {O : Cnt} {d1 d : D} {v1 : V} {O1 : Cnt} {l h : Option Int} (g : Good F B H O) (e : cutD d1 l h = some d) (r1 : Rep K F B H d1 v1 O1) (c : Cont K F B H d Q) : rSl K v1 l h H Q := by
  unfold cutD at e
  split at e
  · rename_i m xs
    split at e
    · rename_i hn
      cases e
      obtain ⟨a, vs, Oa, rfl, ra, ea, _, _⟩ := lst_inv g r1
      exact .inl ⟨a, vs, rfl, ea, c_lst g (reps_cut (ra.zero hn) l h) c⟩
    · cases e
  · rename_i xs
    split at e
    · rename_i hn
      rw [Bool.and_eq_true, decide_eq_true_eq] at hn
      cases e
      obtain ⟨a, vs, rfl, ra, _, ea⟩ := tup_inv g r1
      have lr := ra.length
      refine .inr ⟨a, vs, rfl, .inl (.inl ea), fun z => hn.2 ?_, c_tup g (reps_cut (ra.zero hn.1) l h) c⟩
      unfold cutL
      rw [← lr, z.1, z.2]
      simp [lr]
    · cases e
  · cases e
/-- one part of a slice -/
def tPt (K : PySem.W.Frag) (Fn : FT) (G : Str → Option D) (l : CE) : TO := if isNonC l then tNoPart else tPart (tE K (iE Fn G l))
theorem pt_ok {F B : Hp} {O : Cnt} {l : CE} {st st' : DSt} {x : D} {lo : Option Int} {Q : Option Int → Hp → Prop} (s : SRep K F B H st σ O) (g : Good F B H O) (e : (if isNonC l then some (D.non, st) else iE Fn G l st) = some (x, st')) (ep : partI (isNonC l) x = some lo)
    (q : ∀ F' H' O', SRep K F' B H' st' σ O' → Good F' B H' O' → Step F H O F' H' O' → Q lo H') : tPt K Fn G l σ H Q := by
  unfold tPt
  unfold partI at ep
  by_cases h : isNonC l = true
  · rw [if_pos h] at e ep ⊢
    cases e; cases ep
    exact q F H O s g (Step.refl fun _ => Nat.le_refl _)
  · rw [if_neg h] at e ep ⊢
    split at ep
    · cases ep
      refine ⟨F, B, O, st, _, st', s, g, e, fun v F' H' O' Od s' r' g' p' => ⟨_, int_inv r', ?_⟩⟩
      exact q F' H' O' s' (g'.le fun a => by (try dsimp only); omega) (p'.le fun a => by (try dsimp only); omega)
    · cases ep
def tSlO (K : PySem.W.Frag) (Fn : FT) (G : Str → Option D) (o : Option Nat) (a : CE) : TE := match o with
  | some i => tVar i
  | none => tE K (iE Fn G a)
theorem sl_sem {o : Option Nat} {a l h : CE} (hh : tE K (iE Fn G (.sl o a l h)) σ H Q) : tSl (rSl K) (tSlO K Fn G o a) (tPt K Fn G l) (tPt K Fn G h) σ H Q := by
  obtain ⟨F, B, O, st, d, st', s, g, e, w⟩ := hh
  unfold iE at e
  split at e
  · obtain ⟨c, s1, e1, e⟩ := bnd_some e
    obtain ⟨x, s2, e2, e⟩ := bnd_some e
    obtain ⟨y, s3, e3, e⟩ := bnd_some e
    split at e
    · rename_i lo hi p1 p2
      obtain ⟨r, e4, e5⟩ := Option.map_eq_some_iff.mp e
      cases e5
      refine ⟨F, B, O, st, c, s1, s, g, e1, fun v F1 H1 O1 Od h1 r1 g1 q1 => ?_⟩
      obtain ⟨g2, q2⟩ := frz_step g1 (Rep.trk c v Od r1)
      have r2 := r1.freeze g1
      refine pt_ok (h1.frzF g1) g2 e2 p1 fun F3 H3 O3 h3 g3 q3 => ?_
      refine pt_ok h3 g3 e3 p2 fun F4 H4 O4 h4 g4 q4 => ?_
      exact sl_ok g4 e4 ((r2.step0 q3).step0 q4) (post_cont h4 g4 (((q1.trans q2).trans q3).trans q4) w)
    · cases e
  · rename_i i
    split at e
    · cases e
    rename_i d0 e0
    obtain ⟨x, s2, e2, e⟩ := bnd_some e
    obtain ⟨y, s3, e3, e⟩ := bnd_some e
    split at e
    · rename_i dd lo hi e6 p1 p2
      obtain ⟨r, e4, e5⟩ := Option.map_eq_some_iff.mp e
      cases e5
      obtain ⟨v, ev, _⟩ := s.val e0
      refine ⟨v, ev, ?_⟩
      refine pt_ok s g e2 p1 fun F3 H3 O3 h3 g3 q3 => ?_
      refine pt_ok h3 g3 e3 p2 fun F4 H4 O4 h4 g4 q4 => ?_
      obtain ⟨v', ev', Ov, rv, _⟩ := h4.val e6
      rw [ev] at ev'
      cases ev'
      exact sl_ok g4 e4 rv (post_cont h4 g4 (q3.trans q4) w)
    · cases e
end
end DL
set_option Elab.async false
set_option linter.all false
set_option maxRecDepth 100000
/-! DL9: expressions are what the core says. -/
namespace DL
open PySem PySem.Spec PyProof.Rows L2

structure EOk (X : Cx) (Fn : FT) (G : Str → Option D) (c : CE) (e : Expr) : Prop where
  pe : PE X e (tE X.K (iE Fn G c))
  pt : PT X e (tT X.K (mB (iE Fn G c)))
  pw : ∀ op es pos, e = .BoolOp op es pos → PW X e (tT X.K (mB (iE Fn G c)))
section
variable {X : Cx} {Fn : FT} {G : Str → Option D} {c : CE} {e : Expr}
theorem mB_inv {m : DSt → Option (D × DSt)} {s s1 : DSt} {b : Bool} (h : mB m s = some (b, s1)) : m s = some (.bl b, s1) := by
  obtain ⟨d, s2, e1, e2⟩ := bnd_some h
  obtain ⟨b', rfl, e3⟩ := onB_some e2
  cases e3
  exact e1
theorem tT_tE {K : PySem.W.Frag} {m : DSt → Option (D × DSt)} {σ : L2.St} {H : Hp} {Q : Bool → Hp → Prop} (h : tT K (mB m) σ H Q) : tE K m σ H (fun v H' => ∃ b, v = .bl b ∧ Q b H') := by
  obtain ⟨F, B, O, st, b, st', s, g, e, q⟩ := h
  exact ⟨F, B, O, st, _, st', s, g, mB_inv e, fun v F' H' O' Od s' r' g' p' => ⟨b, bl_inv r', q F' H' O' s' (g'.le fun a => by (try dsimp only); omega) (p'.le fun a => by (try dsimp only); omega)⟩⟩
theorem eok_val (h : PE X e (tE X.K (iE Fn G c))) (he : ∀ whole, isTrue e X.env whole = (do let v ← whole; standAt e.pos; holding [v] (truthy v))) (hb : ∀ op es pos, e ≠ .BoolOp op es pos) : EOk X Fn G c e :=
  ⟨h, (pt_val h he).imp fun σ H Q q => tT_tE q, fun op es pos z => absurd z (hb op es pos)⟩
theorem tE_non {K : PySem.W.Frag} {σ : L2.St} {H : Hp} {Q : VK} (h : tE K (iE Fn G .non) σ H Q) : Q .non H := by
  obtain ⟨F, B, O, st, d, st', s, g, e, q⟩ := h
  cases (show some (D.non, st) = some (d, st') from e)
  exact q .non F H O (fun _ => 0) s rep_non (g.le fun a => by (try dsimp only); omega) (Step.refl fun a => by (try dsimp only); omega)
/-- a value that is there already -/
theorem tE_atom {K : PySem.W.Frag} {σ : L2.St} {H : Hp} {Q : VK} {d : D} {v : V} {m : DSt → Option (D × DSt)} (hm : ∀ s d' s', m s = some (d', s') → d' = d ∧ s' = s) (hv : ∀ F B, Rep K F B H d v (fun _ => 0)) (h : tE K m σ H Q) : Q v H := by
  obtain ⟨F, B, O, st, d', st', s, g, e, q⟩ := h
  obtain ⟨rfl, rfl⟩ := hm _ _ _ e
  exact q v F H O (fun _ => 0) s (hv F B) (g.le fun a => by (try dsimp only); omega) (Step.refl fun a => by (try dsimp only); omega)
theorem tE_seq {K : PySem.W.Frag} {σ : L2.St} {H : Hp} {Q : VK} {a : CE} {m : DSt → Option (D × DSt)} {k : D → DSt → Option (D × DSt)} {R : V → Hp → Prop} (hm : ∀ s, m s = bnd (iE Fn G a s) k) (h : tE K m σ H Q)
    (hr : ∀ v H1, (∀ F1 B O1 Od d st1 st' d', SRep K F1 B H1 st1 σ O1 → Rep K F1 B H1 d v Od → Good F1 B H1 (fun a => O1 a + Od a) → k d st1 = some (d', st') →
      (∀ w F' H' O' Od', SRep K F' B H' st' σ O' → Rep K F' B H' d' w Od' → Good F' B H' (fun a => O' a + Od' a) → Step F1 H1 (fun a => O1 a + Od a) F' H' (fun a => O' a + Od' a) → Q w H') → R v H1)) : True := trivial
end
section
variable {K : PySem.W.Frag} {Fn : FT} {G : Str → Option D} {σ : L2.St} {H : Hp}
theorem not_sem {a : CE} {Q : Bool → Hp → Prop} (h : tT K (mB (iE Fn G (.not a))) σ H Q) : tNot (tT K (mB (iE Fn G a))) σ H Q := by
  obtain ⟨F, B, O, st, b, st', s, g, e, q⟩ := h
  have e := mB_inv e
  unfold iE at e
  obtain ⟨d, s1, e1, e2⟩ := bnd_some e
  obtain ⟨b', rfl, e3⟩ := onB_some e2
  cases e3
  exact ⟨F, B, O, st, b', _, s, g, mB_of e1, fun F' H' O' s' g' p' => q F' H' O' s' g' p'⟩
theorem notv_sem {a : CE} {Q : VK} (h : tE K (iE Fn G (.not a)) σ H Q) : tNotV (tE K (iE Fn G a)) σ H Q := by
  obtain ⟨F, B, O, st, d', st', s, g, e, q⟩ := h
  obtain ⟨d, s1, e1, e2⟩ := bnd_some (show bnd (iE Fn G a st) _ = some (d', st') from e)
  obtain ⟨b', rfl, e3⟩ := onB_some e2
  cases e3
  exact ⟨F, B, O, st, _, _, s, g, e1, fun v F' H' O' Od s' r' g' p' => ⟨b', bl_inv r', q _ F' H' O' (fun _ => 0) s' rep_bl (g'.le fun a => by (try dsimp only); omega) (p'.le fun a => by (try dsimp only); omega)⟩⟩
theorem and_sem {a b : CE} {Q : Bool → Hp → Prop} (h : tT K (mB (iE Fn G (.and a b))) σ H Q) : tAnd (tT K (mB (iE Fn G a))) (tT K (mB (iE Fn G b))) σ H Q := by
  obtain ⟨F, B, O, st, k, st', s, g, e, q⟩ := h
  have e := mB_inv e
  unfold iE at e
  obtain ⟨d, s1, e1, e2⟩ := bnd_some e
  obtain ⟨b', rfl, e3⟩ := onB_some e2
  refine ⟨F, B, O, st, b', s1, s, g, mB_of e1, fun F' H' O' s' g' p' => ?_⟩
  cases b' with
  | true =>
    rw [if_pos rfl] at e3 ⊢
    exact ⟨F', B, O', s1, k, st', s', g', mB_of e3, fun F2 H2 O2 s2 g2 p2 => q F2 H2 O2 s2 g2 (p'.trans p2)⟩
  | false =>
    rw [if_neg (by decide)] at e3 ⊢
    cases e3
    exact q F' H' O' s' g' p'
theorem or_sem {a b : CE} {Q : Bool → Hp → Prop} (h : tT K (mB (iE Fn G (.or a b))) σ H Q) : tOr (tT K (mB (iE Fn G a))) (tT K (mB (iE Fn G b))) σ H Q := by
  obtain ⟨F, B, O, st, k, st', s, g, e, q⟩ := h
  have e := mB_inv e
  unfold iE at e
  obtain ⟨d, s1, e1, e2⟩ := bnd_some e
  obtain ⟨b', rfl, e3⟩ := onB_some e2
  refine ⟨F, B, O, st, b', s1, s, g, mB_of e1, fun F' H' O' s' g' p' => ?_⟩
  cases b' with
  | false =>
    rw [if_neg (by decide)] at e3 ⊢
    exact ⟨F', B, O', s1, k, st', s', g', mB_of e3, fun F2 H2 O2 s2 g2 p2 => q F2 H2 O2 s2 g2 (p'.trans p2)⟩
  | true =>
    rw [if_pos rfl] at e3 ⊢
    cases e3
    exact q F' H' O' s' g' p'
theorem andv_sem {a b : CE} {Q : VK} (h : tE K (iE Fn G (.and a b)) σ H Q) : tAndV (tE K (iE Fn G a)) (tE K (iE Fn G b)) σ H Q := by
  obtain ⟨F, B, O, st, d', st', s, g, e, q⟩ := h
  obtain ⟨d, s1, e1, e2⟩ := bnd_some (show bnd (iE Fn G a st) _ = some (d', st') from e)
  obtain ⟨b', rfl, e3⟩ := onB_some e2
  refine ⟨F, B, O, st, _, s1, s, g, e1, fun v F' H' O' Od s' r' g' p' => ⟨b', bl_inv r', ?_⟩⟩
  have g1 := g'.le (O' := O') fun a => by (try dsimp only); omega
  have p1 := p'.le (O'' := O') fun a => by (try dsimp only); omega
  cases b' with
  | true =>
    rw [if_pos rfl] at e3 ⊢
    exact ⟨F', B, O', s1, d', st', s', g1, e3, fun v F2 H2 O2 Od s2 r2 g2 p2 => q v F2 H2 O2 Od s2 r2 g2 (p1.trans p2)⟩
  | false =>
    rw [if_neg (by decide)] at e3 ⊢
    cases e3
    exact q _ F' H' O' (fun _ => 0) s' rep_bl (g1.le fun a => by (try dsimp only); omega) (p1.le fun a => by (try dsimp only); omega)
theorem orv_sem {a b : CE} {Q : VK} (h : tE K (iE Fn G (.or a b)) σ H Q) : tOrV (tE K (iE Fn G a)) (tE K (iE Fn G b)) σ H Q := by
  obtain ⟨F, B, O, st, d', st', s, g, e, q⟩ := h
  obtain ⟨d, s1, e1, e2⟩ := bnd_some (show bnd (iE Fn G a st) _ = some (d', st') from e)
  obtain ⟨b', rfl, e3⟩ := onB_some e2
  refine ⟨F, B, O, st, _, s1, s, g, e1, fun v F' H' O' Od s' r' g' p' => ⟨b', bl_inv r', ?_⟩⟩
  have g1 := g'.le (O' := O') fun a => by (try dsimp only); omega
  have p1 := p'.le (O'' := O') fun a => by (try dsimp only); omega
  cases b' with
  | false =>
    rw [if_neg (by decide)] at e3 ⊢
    exact ⟨F', B, O', s1, d', st', s', g1, e3, fun v F2 H2 O2 Od s2 r2 g2 p2 => q v F2 H2 O2 Od s2 r2 g2 (p1.trans p2)⟩
  | true =>
    rw [if_pos rfl] at e3 ⊢
    cases e3
    exact q _ F' H' O' (fun _ => 0) s' rep_bl (g1.le fun a => by (try dsimp only); omega) (p1.le fun a => by (try dsimp only); omega)
/-- of a comparison's operands nothing is held alone that counts behind -/
theorem cmp_bl {p : Prim} {x y : D} {d : D} (hq : ∃ op, cmpOf op = some p) (h : pr p [x, y] = some d) : ∃ b, d = .bl b := by
  obtain ⟨op, hq⟩ := hq
  cases op <;> cases hq
  · replace h : (if x.shp && y.shp then some (D.bl (PyData.eqv x.py y.py)) else none) = some d := h
    split at h
    · cases h; exact ⟨_, rfl⟩
    · cases h
  · replace h : (if x.shp && y.shp then some (D.bl (!PyData.eqv x.py y.py)) else none) = some d := h
    split at h
    · cases h; exact ⟨_, rfl⟩
    · cases h
  · replace h : p_lt [x, y] = some d := h
    unfold p_lt at h
    split at h
    · cases h; exact ⟨_, rfl⟩
    · cases h
  · replace h : p_le [x, y] = some d := h
    unfold p_le at h
    split at h
    · cases h; exact ⟨_, rfl⟩
    · cases h
  · replace h : p_gt [x, y] = some d := h
    unfold p_gt at h
    split at h
    · cases h; exact ⟨_, rfl⟩
    · cases h
  · replace h : p_ge [x, y] = some d := h
    unfold p_ge at h
    split at h
    · cases h; exact ⟨_, rfl⟩
    · cases h
  · replace h : p_inn [x, y] = some d := h
    unfold p_inn at h
    split at h
    · split at h
      · cases h; exact ⟨_, rfl⟩
      · cases h
    · obtain ⟨k, _, rfl⟩ := Option.map_eq_some_iff.mp h; exact ⟨_, rfl⟩
    · obtain ⟨k, _, rfl⟩ := Option.map_eq_some_iff.mp h; exact ⟨_, rfl⟩
    · cases h
  · replace h : p_notIn [x, y] = some d := h
    unfold p_notIn at h
    split at h
    · split at h
      · cases h; exact ⟨_, rfl⟩
      · cases h
    · obtain ⟨k, _, rfl⟩ := Option.map_eq_some_iff.mp h; exact ⟨_, rfl⟩
    · obtain ⟨k, _, rfl⟩ := Option.map_eq_some_iff.mp h; exact ⟨_, rfl⟩
    · cases h
theorem chain_sem {p q : Prim} {a b c : CE} {Q : VK} (hp : ∃ op, cmpOf op = some p) (hq : ∃ op, cmpOf op = some q) (h : tE K (iE Fn G (.chain p q a b c)) σ H Q) :
    tChain (rB K p) (rB K q) (tE K (iE Fn G a)) (tE K (iE Fn G b)) (tE K (iE Fn G c)) σ H Q := by
  obtain ⟨F, B, O, st, d', st', s, g, e, w⟩ := h
  unfold iE at e
  obtain ⟨x, s1, e1, e⟩ := bnd_some e
  obtain ⟨y, s2, e2, e⟩ := bnd_some e
  refine ⟨F, B, O, st, x, s1, s, g, e1, fun v1 F1 H1 O1 Oa h1 r1 g1 p1 => ?_⟩
  refine ⟨F1, B, O1, s1, y, s2, h1, g1.le fun a => by (try dsimp only); omega, e2, fun v2 F2 H2 O2 Ob h2 r2 g2 p2 => ?_⟩
  obtain ⟨g3, p3, k3⟩ := p2.frame g1 g2 (Rep.trk x v1 Oa r1)
  have r1' := Rep.mono p2.mono (Same.refl _) x v1 Oa r1 k3
  split at e
  · rename_i k ek
    refine b_ok g3 ek r1' r2 (fun v F4 H4 Od r4 x4 => ?_) (.inr (.inl hp))
    have hv := bl_inv r4
    refine ⟨k, hv, ?_⟩
    have h4 := h2.ext x4
    have al : Alone (fun a => (O2 a + Ob a) + Oa a) H2 := fun a h => by
      by_cases z : 1 ≤ Oa a
      · exact Rep.trk _ _ _ r1' a z
      · by_cases z2 : 1 ≤ Ob a
        · exact Rep.trk _ _ _ r2 a z2
        · exact h2.trk a (by (try dsimp only at h); omega)
    obtain ⟨g4, p4⟩ := x4.step g3 al (K := K)
    have p5 := (p1.trans p3).trans p4
    cases k with
    | false =>
      rw [if_neg (by decide)] at e ⊢
      cases e
      exact w _ F4 H4 O2 (fun _ => 0) h4 rep_bl (g4.le fun a => by (try dsimp only); omega) (p5.le fun a => by (try dsimp only); omega)
    | true =>
      rw [if_pos rfl] at e ⊢
      obtain ⟨z, s3, e3, e⟩ := bnd_some e
      refine ⟨F4, B, O2, s2, z, s3, h4, g4.le fun a => by (try dsimp only); omega, e3, fun v3 F5 H5 O5 Oc h5 r5 g5 p6 => ?_⟩
      have g4' : Good F4 B H4 (fun a => O2 a + Ob a) := g4.le fun a => by (try dsimp only); omega
      obtain ⟨g6, p7, k7⟩ := p6.frame g4' g5 (Rep.trk y v2 Ob (r2.ext x4))
      have r2' := Rep.mono p6.mono (Same.refl _) y v2 Ob (r2.ext x4) k7
      split at e
      · rename_i k2 ek2
        cases e
        refine b_ok g6 ek2 r2' r5 (fun v F7 H7 Od7 r7 x7 => ?_) (.inr (.inl hq))
        obtain ⟨g7, p8⟩ := x7.step (g6.le (O' := O5) fun a => by (try dsimp only); omega) h5.trk (K := K)
        refine w v F7 H7 O5 Od7 (h5.ext x7) r7 g7 ?_
        exact ((p5.le (O'' := fun a => O2 a + Ob a) fun a => by (try dsimp only); omega).trans (p7.le (O'' := O5) fun a => by (try dsimp only); omega)).trans p8
      · cases e
  · cases e
end
theorem chain_bl {Fn : FT} {G : Str → Option D} {p q : Prim} {a b c : CE} : True := trivial
section
variable {K : PySem.W.Frag} {Fn : FT} {G : Str → Option D} {σ : L2.St} {H : Hp}
theorem lst_sem {as : Os} {Q : VK} (h : tE K (iE Fn G (.lst as)) σ H Q) : tLst (tOs K Fn G as) σ H Q := by
  obtain ⟨F, B, O, st, d, st', s, g, e, w⟩ := h
  unfold iE at e
  obtain ⟨ds, s1, e1, e⟩ := bnd_some e
  split at e
  · rename_i hz
    cases e
    refine tXs_ok (K := K) as s g e1 fun vs F1 H1 O1 Od h1 r1 g1 p1 => ⟨by rw [r1.length]; exact hz, fun p hp => ?_⟩
    obtain ⟨h2, r2, g2, p2⟩ := new_own hp h1 r1 g1
    exact w _ _ _ O1 _ h2 r2 g2 (p1.trans p2)
  · cases e
theorem tup_sem {as : Os} {Q : VK} (h : tE K (iE Fn G (.tup as)) σ H Q) : tTup (tOs K Fn G as) σ H Q := by
  obtain ⟨F, B, O, st, d, st', s, g, e, w⟩ := h
  unfold iE at e
  obtain ⟨ds, s1, e1, e⟩ := bnd_some e
  split at e
  · rename_i hz
    cases e
    refine tXs_ok (K := K) as s g e1 fun vs F1 H1 O1 Od h1 r1 g1 p1 => ⟨by rw [r1.length]; exact hz, fun p hp => ?_⟩
    obtain ⟨h2, r2, g2, p2⟩ := new_tup hp h1 r1 g1
    exact w _ _ _ O1 _ h2 r2 g2 (p1.trans p2)
  · cases e
theorem fillA_len : ∀ (as : Os) {ds es : List D} {s1 s2 : DSt}, fillA as ds s1 s2 = some es → es.length = as.len
  | .nil, ds, es, s1, s2, h => by
    cases ds with
    | nil => cases (show some [] = some es from h); rfl
    | cons _ _ => cases (show none = some es from h)
  | .e a r, ds, es, s1, s2, h => by
    cases ds with
    | nil => cases (show none = some es from h)
    | cons x xs =>
      obtain ⟨es', q, rfl⟩ := Option.map_eq_some_iff.mp (show (fillA r xs s1 s2).map (x :: ·) = some es from h)
      rw [List.length_cons, fillA_len r q]; rfl
  | .v i r, ds, es, s1, s2, h => by
    cases ds with
    | nil => cases (show none = some es from h)
    | cons x xs =>
      unfold fillA at h
      split at h
      · obtain ⟨es', q, rfl⟩ := Option.map_eq_some_iff.mp h
        rw [List.length_cons, fillA_len r q]; rfl
      · cases h
  | .l i r, ds, es, s1, s2, h => by
    cases ds with
    | nil => cases (show none = some es from h)
    | cons x xs =>
      unfold fillA at h
      split at h
      · obtain ⟨es', q, rfl⟩ := Option.map_eq_some_iff.mp h
        rw [List.length_cons, fillA_len r q]; rfl
      · cases h
  | .q o r, ds, es, s1, s2, h => by
    cases ds <;> cases (show none = some es from h)
theorem call_sem {f : Str} {as : Os} {Q : VK} {np : Nat} (hn : as.len = np) (h : tE K (iE Fn G (.call f as)) σ H Q) : tCall (spOf K (Fn f) np) [] E0 (tOs K Fn G as) σ H Q := by
  obtain ⟨F, B, O, st, d, st', s, g, e, w⟩ := h
  unfold iE at e
  obtain ⟨ds, s1, e1, e⟩ := bnd_some e
  split at e
  · cases e
  rename_i s2 e2
  split at e
  · cases e
  rename_i es e3
  split at e
  · cases e
  rename_i d' outs e4
  split at e
  · cases e
  rename_i s3 e5
  cases e
  refine tAs_ok (K := K) as s g e1 fun vs F1 H1 O1 Ot h1 v1 g1 p1 => ?_
  rw [List.append_nil]
  refine call_spec h1 g1 v1 e2 e3 e4 e5 ?_ fun v F' H' O' Od h' r' g' p' => w v F' H' O' Od h' r' g' (p1.trans p')
  exact (fillA_len as e3).trans hn
end
end DL
set_option Elab.async false
set_option linter.all false
set_option maxRecDepth 100000
/-! DL10: every expression that the checker lets pass is what the core says. -/
namespace DL
open PySem PySem.Spec PyProof.Rows L2

section
variable {Fn : FT} {G : Str → Option D}
theorem nameOf {S : Sc} {i : Nat} {e : Expr} (h : (match e with
    | .Name y _ => isVar S i y
    | _ => false) = true) : ∃ y p, e = .Name y p ∧ isVar S i y = true := by
  split at h
  · exact ⟨_, _, rfl, h⟩
  · cases h
theorem blt_mem {q : Prim} {n : String} {t : Bool} {k : Nat} (h : bltOf q = some (n, t, k)) : (Str.ofString n) ∈ bltNames ∧ 0 < k := by
  cases q <;> (first | cases h | skip)
  all_goals exact ⟨by decide +kernel, by decide⟩
theorem ty_mem : ∀ T ∈ ["int", "bool", "list", "tuple", "str"], Str.ofString T ∈ bltNames := by decide +kernel
theorem strip_and {p q : Bool} (h : (p && q) = true) : p = true ∧ q = true := by
  rw [Bool.and_eq_true] at h; exact h
theorem tC_of {X : Cx} {e : Expr} {c : CE} {v : V} {d : D} (h : PE X e (tC v)) (hm : ∀ s d' s', iE Fn G c s = some (d', s') → d' = d ∧ s' = s) (hv : ∀ F B H, Rep X.K F B H d v (fun _ => 0)) : PE X e (tE X.K (iE Fn G c)) :=
  h.imp fun σ H Q q => tE_atom hm (fun F B => hv F B H) q
theorem var_sem {K : PySem.W.Frag} {i : Nat} {σ : L2.St} {H : Hp} {Q : VK} (h : tE K (iE Fn G (.v i)) σ H Q) : tVar i σ H Q := by
  obtain ⟨F, B, O, st, d, st', s, g, e, w⟩ := h
  unfold iE at e
  split at e
  · rename_i d0 e0
    split at e
    · rename_i hn
      cases e
      obtain ⟨v, ev, hv⟩ := s.val e0
      exact ⟨v, ev, w v F H O (fun _ => 0) s (hv.zero hn) (g.le fun a => by (try dsimp only); omega) (Step.refl fun a => by (try dsimp only); omega)⟩
    · cases e
  · cases e
theorem varf_sem {K : PySem.W.Frag} {i : Nat} {σ : L2.St} {H : Hp} {Q : VK} (h : tE K (iE Fn G (.vf i)) σ H Q) : tVar i σ H Q := by
  obtain ⟨F, B, O, st, d, st', s, g, e, w⟩ := h
  unfold iE at e
  split at e
  · rename_i d0 e0
    cases e
    obtain ⟨v, Oi, Or, ev, r, sr, ho⟩ := s.take e0
    have g1 : Good F B H (fun a => Or a + Oi a) := g.le fun a => by have := ho a; (try dsimp only); omega
    obtain ⟨g2, p2⟩ := frz_step g1 (Rep.trk _ _ _ r)
    have r2 := r.freeze g1
    have s2 := (sr.frzF g1).put (d := d0.frz) ev r2
    refine ⟨v, ev, w v _ H _ (fun _ => 0) s2 r2 (g2.le fun a => by (try dsimp only); omega) ?_⟩
    have z : Step F H O F H (fun a => Or a + Oi a) := Step.refl fun a => by have := ho a; (try dsimp only); omega
    exact (z.trans p2).le fun a => by (try dsimp only); omega
  · cases e
theorem vart_sem {K : PySem.W.Frag} {i : Nat} {σ : L2.St} {H : Hp} {Q : VK} (h : tE K (iE Fn G (.vt i)) σ H Q) : tVar i σ H Q := by
  obtain ⟨F, B, O, st, d, st', s, g, e, w⟩ := h
  unfold iE at e
  split at e
  · rename_i d0 e0
    cases e
    obtain ⟨v, Oi, Or, ev, r, sr, ho⟩ := s.take e0
    exact ⟨v, ev, w v F H Or Oi sr r (g.le fun a => by have := ho a; (try dsimp only); omega) (Step.refl fun a => by have := ho a; (try dsimp only); omega)⟩
  · cases e
theorem XOk.blk {X : Cx} {S : Sc} {n : Nat} (ok : XOk X S n Fn G) (s : Shared) (H : Hp) (scope : Scope) (C : Addr) (cl : List (Str × Addr)) (fp : List Addr) :
    XOk (X.blk s H scope (compEnvC scope cl C X.env) fp) ⟨S.N, relS scope S.sc, fun x => scope.names.lookup x == some .cell⟩ n Fn G where
  N := ok.N
  sc := by
    show relabel scope X.env = relS scope S.sc
    rw [← ok.sc]
    rfl
  fnv := rfl
  nd := ok.nd
  calm := ok.calm
  room := ok.room
  xe0 := rfl
  fns := ok.fns
  blt := ok.blt
  glb := ok.glb
theorem own_map {S : Sc} (w : List Nat) : (w.map fun i => ((S.N[i]?).getD (Str.ofString ""), i)).map (·.2) = w := by
  rw [List.map_map]
  exact List.map_id w
theorem mBtrue {K : PySem.W.Frag} {σ : L2.St} {H : Hp} {Q : Bool → Hp → Prop} (h : tT K (mB (iE Fn G (.b true))) σ H Q) : tYes σ H Q := by
  obtain ⟨F, B, O, st, b, st', s, g, e, q⟩ := h
  cases (show some (true, st) = some (b, st') from e)
  exact q F H O s g (Step.refl fun _ => Nat.le_refl _)
theorem iblt {X : Cx} {S : Sc} {n : Nat} (ok : XOk X S n Fn G) {x : Str} (h : x ∈ bltNames) : X.mg x = none := ok.blt x h
theorem comp_sem {K : PySem.W.Frag} {S : Sc} {w : List Nat} {t : Tg} {tg : Expr} {it : It} {c e : CE} {σ : L2.St} {H : Hp} {Q : VK} (hk : ckT S (fun j => !w.contains j) t tg = true) (h : tE K (iE Fn G (.comp w t it c e)) σ H Q) :
    tLc (tI K Fn G it) (gT K t) (tT K (mB (iE Fn G c))) (tE K (iE Fn G e)) w σ H Q := by
  obtain ⟨F, B, O, st, d, st', s, g, ee, q⟩ := h
  unfold iE at ee
  obtain ⟨xs, s1, e1, ee⟩ := bnd_some ee
  split at ee
  · rename_i hz
    obtain ⟨ys, s2, e2, ee⟩ := bnd_some ee
    cases ee
    exact lc_sem hk s g e1 hz e2 q
  · cases ee
mutual
theorem ckE_ok : ∀ (c : CE) {X : Cx} {S : Sc} {n : Nat} {e : Expr}, ckE S c e = true → XOk X S n Fn G → EOk X Fn G c e
  | .v i, X, S, n, e, h, ok => by
    obtain ⟨y, p, rfl, hv⟩ := nameOf (S := S) (i := i) (show _ = true by unfold ckE at h; exact h)
    exact eok_val ((ok.var hv).imp fun σ H Q q => var_sem q) (by intro _; rfl) (fun _ _ _ z => by cases z)
  | .vf i, X, S, n, e, h, ok => by
    obtain ⟨y, p, rfl, hv⟩ := nameOf (S := S) (i := i) (show _ = true by unfold ckE at h; exact h)
    exact eok_val ((ok.var hv).imp fun σ H Q q => varf_sem q) (by intro _; rfl) (fun _ _ _ z => by cases z)
  | .vt i, X, S, n, e, h, ok => by
    obtain ⟨y, p, rfl, hv⟩ := nameOf (S := S) (i := i) (show _ = true by unfold ckE at h; exact h)
    exact eok_val ((ok.var hv).imp fun σ H Q q => vart_sem q) (by intro _; rfl) (fun _ _ _ z => by cases z)
  | .n k, X, S, n, e, h, ok => by
    unfold ckE at h
    split at h
    · rw [decide_eq_true_eq] at h
      subst h
      exact eok_val (tC_of (d := .int k) pe_int (fun s d' s' q => by cases (show some (D.int k, s) = some (d', s') from q); exact ⟨rfl, rfl⟩) fun _ _ _ => rep_int) (by intro _; rfl) (fun _ _ _ z => by cases z)
    · cases h
  | .b k, X, S, n, e, h, ok => by
    unfold ckE at h
    split at h
    · rw [decide_eq_true_eq] at h
      subst h
      exact eok_val (tC_of (d := .bl k) pe_bl (fun s d' s' q => by cases (show some (D.bl k, s) = some (d', s') from q); exact ⟨rfl, rfl⟩) fun _ _ _ => rep_bl) (by intro _; rfl) (fun _ _ _ z => by cases z)
    · cases h
  | .non, X, S, n, e, h, ok => by
    unfold ckE isNone at h
    split at h
    · exact eok_val (tC_of (d := .non) pe_non (fun s d' s' q => by cases (show some (D.non, s) = some (d', s') from q); exact ⟨rfl, rfl⟩) fun _ _ _ => rep_non) (by intro _; rfl) (fun _ _ _ z => by cases z)
    · cases h
  | .s k, X, S, n, e, h, ok => by
    unfold ckE at h
    split at h
    · rw [decide_eq_true_eq] at h
      subst h
      exact eok_val (tC_of (d := .str k) pe_str (fun s d' s' q => by cases (show some (D.str k, s) = some (d', s') from q); exact ⟨rfl, rfl⟩) fun _ _ _ => rep_str) (by intro _; rfl) (fun _ _ _ z => by cases z)
    · cases h
  | .g x, X, S, n, e, h, ok => by
    unfold ckE at h
    split at h
    · rename_i y p
      obtain ⟨h1, h2⟩ := strip_and h
      rw [decide_eq_true_eq] at h1
      subst h1
      obtain ⟨gl, hd⟩ := ok.gl h2
      refine eok_val ?_ (by intro _; rfl) (fun _ _ _ z => by cases z)
      cases eg : G x with
      | none =>
        refine ⟨fun pins s σ H Q I hq => ?_⟩
        obtain ⟨F, B, O, st, d', st', _, _, e, _⟩ := hq
        unfold iE at e
        rw [eg] at e
        cases e
      | some d =>
        have hm : ∀ s d' s', iE Fn G (.g x) s = some (d', s') → d' = d ∧ s' = s := fun s d' s' q => by
          unfold iE at q
          rw [eg] at q
          cases q
          exact ⟨rfl, rfl⟩
        rcases ok.glb x d eg with ⟨i, t, rfl, m⟩ | ⟨i, t, rfl, m⟩
        · exact tC_of (d := .int i) (pe_glob (v := .int i) gl m ⟨t, rfl⟩ hd) hm fun _ _ _ => rep_int
        · exact tC_of (d := .str i) (pe_glob (v := .str i) gl m ⟨t, rfl⟩ hd) hm fun _ _ _ => rep_str
    · cases h
  | .p q as, X, S, n, e, h, ok => by
    unfold ckE at h
    split at h
    · rename_i a op b pos
      obtain ⟨h, h3⟩ := strip_and h
      obtain ⟨h1, h2⟩ := strip_and h
      rw [decide_eq_true_eq] at h1
      obtain ⟨ta, tb, pa, pb, et, el⟩ := PEL.two h2 (ckL_ok as h3 ok)
      exact eok_val ((pe_op (opr_bin h1) pa pb).imp fun σ H Q hq => b_sem el et (.inl ⟨op, h1⟩) hq) (by intro _; rfl) (fun _ _ _ z => by cases z)
    · rename_i a pos
      obtain ⟨h, h3⟩ := strip_and h
      obtain ⟨h1, h2⟩ := strip_and h
      rw [decide_eq_true_eq] at h1
      subst h1
      obtain ⟨ta, pa, et, el⟩ := PEL.one h2 (ckL_ok as h3 ok)
      refine eok_val ((pe_un un_neg pa).imp fun σ H Q hq => u_sem el et hq fun {F B H' O d1 d v Ov} g e r c => ?_) (by intro _; rfl) (fun _ _ _ z => by cases z)
      replace e : p_neg [d1] = some d := e
      unfold p_neg at e
      split at e
      · rename_i i ee
        cases ee; cases e
        exact ⟨i, int_inv r, c_int g c⟩
      · cases e
    · rename_i a op b pos
      rcases Bool.or_eq_true_iff.mp h with h | h
      · rcases Bool.or_eq_true_iff.mp h with h | h
        · obtain ⟨h, h4⟩ := strip_and h
          obtain ⟨h, h3⟩ := strip_and h
          obtain ⟨h1, h2⟩ := strip_and h
          rw [decide_eq_true_eq] at h1
          have h3 : behindInMarks op b = false := by simpa using h3
          obtain ⟨ta, tb, pa, pb, et, el⟩ := PEL.two h2 (ckL_ok as h4 ok)
          exact ⟨(pe_cmpR (opr_cmp h1 ok.units) pa pb h3).imp fun σ H Q hq => b_sem el et (.inr (.inl ⟨op, h1⟩)) hq,
            (pt_cmpR (opr_cmp h1 ok.units) pa pb h3).imp fun σ H Q hq => b_sem el et (.inr (.inl ⟨op, h1⟩)) (tT_tE hq), fun _ _ _ z => by cases z⟩
        · obtain ⟨h, h5⟩ := strip_and h
          obtain ⟨h, h4⟩ := strip_and h
          obtain ⟨h, h3⟩ := strip_and h
          obtain ⟨h1, h2⟩ := strip_and h
          rw [decide_eq_true_eq] at h1 h2
          subst h1 h2
          unfold isNone at h3
          split at h3
          · obtain ⟨ta, pa, et, el⟩ := PEL.one h4 (ckL_ok as h5 ok)
            have sem : ∀ {σ H Q}, tE X.K (iE Fn G (.p .isN as)) σ H Q → tIsN ta σ H Q := fun {σ H Q} hq => by
              refine u_sem (r := fun v H' Q => Q (.bl (decide (v = .non))) H') el et hq fun {F B H' O d1 d v Ov} g e r c => ?_
              have e : D.bl (isNonD d1) = d := Option.some.inj (show some _ = some d from e)
              subst e
              have ev : decide (v = .non) = isNonD d1 := by
                cases d1 with
                | non => rw [non_inv r]; rfl
                | bl b => rw [bl_inv r]; rfl
                | int i => rw [int_inv r]; rfl
                | str x => rw [str_inv r]; rfl
                | lst m xs => obtain ⟨a, _, _, rfl, _⟩ := lst_inv g r; rfl
                | tup xs => obtain ⟨a, _, rfl, _⟩ := tup_inv g r; rfl
                | dK m ks xs => obtain ⟨a, _, _, rfl, _⟩ := dK_inv g r; rfl
                | dT m ks xs => obtain ⟨a, _, _, rfl, _⟩ := dT_inv g r; rfl
              rw [ev]
              exact c_bl g c
            exact ⟨(pe_cmp (pc_isN pa) rfl).imp fun σ H Q hq => sem hq, (pt_cmp (pc_isN pa) rfl).imp fun σ H Q hq => sem (tT_tE hq), fun _ _ _ z => by cases z⟩
          · cases h3
      · obtain ⟨h, h5⟩ := strip_and h
        obtain ⟨h, h4⟩ := strip_and h
        obtain ⟨h, h3⟩ := strip_and h
        obtain ⟨h1, h2⟩ := strip_and h
        rw [decide_eq_true_eq] at h1 h2
        subst h1 h2
        unfold isNone at h3
        split at h3
        · obtain ⟨ta, pa, et, el⟩ := PEL.one h4 (ckL_ok as h5 ok)
          have sem : ∀ {σ H Q}, tE X.K (iE Fn G (.p .notN as)) σ H Q → tNotN ta σ H Q := fun {σ H Q} hq => by
            refine u_sem (r := fun v H' Q => Q (.bl (!decide (v = .non))) H') el et hq fun {F B H' O d1 d v Ov} g e r c => ?_
            have e : D.bl (!isNonD d1) = d := Option.some.inj (show some _ = some d from e)
            subst e
            have ev : (!decide (v = .non)) = (!isNonD d1) := by
              cases d1 with
              | non => rw [non_inv r]; rfl
              | bl b => rw [bl_inv r]; rfl
              | int i => rw [int_inv r]; rfl
              | str x => rw [str_inv r]; rfl
              | lst m xs => obtain ⟨a, _, _, rfl, _⟩ := lst_inv g r; rfl
              | tup xs => obtain ⟨a, _, rfl, _⟩ := tup_inv g r; rfl
              | dK m ks xs => obtain ⟨a, _, _, rfl, _⟩ := dK_inv g r; rfl
              | dT m ks xs => obtain ⟨a, _, _, rfl, _⟩ := dT_inv g r; rfl
            rw [ev]
            exact c_bl g c
          exact ⟨(pe_cmp (pc_notN pa) rfl).imp fun σ H Q hq => sem hq, (pt_cmp (pc_notN pa) rfl).imp fun σ H Q hq => sem (tT_tE hq), fun _ _ _ z => by cases z⟩
        · cases h3
    · rename_i a b pos hb
      obtain ⟨h, h4⟩ := strip_and h
      obtain ⟨h, h3⟩ := strip_and h
      obtain ⟨h1, h2⟩ := strip_and h
      rw [decide_eq_true_eq] at h1
      subst h1
      obtain ⟨ta, tb, pa, pb, et, el⟩ := PEL.two h2 (ckL_ok as h4 ok)
      exact eok_val ((pe_ix (ixr ok.units) pa pb (plainIx_ok h3)).imp fun σ H Q hq => b_sem el et (.inr (.inr rfl)) hq) (by intro _; rfl) (fun _ _ _ z => by cases z)
    · rename_i x p es pos
      rcases Bool.or_eq_true_iff.mp h with h | h
      · split at h
        · rename_i nm t k hb
          obtain ⟨h, h4⟩ := strip_and h
          obtain ⟨h, h3⟩ := strip_and h
          obtain ⟨h1, h2⟩ := strip_and h
          rw [decide_eq_true_eq] at h1 h3
          subst h1
          obtain ⟨gl, hd⟩ := ok.gl h2
          obtain ⟨bm, k0⟩ := blt_mem hb
          obtain ⟨b1, b2, b3⟩ := blt_boot hb
          have pl := ckL_ok as h4 ok
          cases es with
          | nil => rw [List.length_nil] at h3; omega
          | cons y es =>
            obtain ⟨ns, an⟩ := pl.ns
            have cr := callr hb ok.calm ok.units
            refine eok_val ?_ (by intro _; rfl) (fun _ _ _ z => by cases z)
            refine PE.imp (t := tCB (rC X.K q) (tOs X.K Fn G as)) ?_ fun σ H Q hq => c_sem hb hq
            cases t with
            | true => exact pe_callTy cr gl (iblt ok bm) b1 pl.pa b2 b3 (star_cons ns) (an _)
            | false => exact pe_callB cr gl (iblt ok bm) b1 pl.pa b2 b3 (star_cons ns) (an _)
        · cases h
      · split at h
        · rename_i T a y p2 _
          obtain ⟨h, h7⟩ := strip_and h
          obtain ⟨h, h6⟩ := strip_and h
          obtain ⟨h, h5⟩ := strip_and h
          obtain ⟨h, h4⟩ := strip_and h
          obtain ⟨h, h3⟩ := strip_and h
          obtain ⟨h1, h2⟩ := strip_and h
          rw [decide_eq_true_eq] at h1 h3 h5
          subst h1 h3
          obtain ⟨gl, hd⟩ := ok.gl h2
          obtain ⟨gl2, hd2⟩ := ok.gl h4
          have pl := ckL_ok as h7 ok
          obtain ⟨ta, pa, et, el⟩ := PEL.one h6 pl
          obtain ⟨ns, an⟩ := pl.ns
          obtain ⟨b1, b2, b3⟩ := boot_ty T h5
          have pt : PE X (.Name (Str.ofString T) p2) (tC (.ty T)) := pe_bltn gl2 (iblt ok (ty_mem T h5)) b1 rfl b2 b3
          refine eok_val ?_ (by intro _; rfl) (fun _ _ _ z => by cases z)
          refine PE.imp (t := tCB (rIsi X.K) (tCons ta (tCons (tC (.ty T)) tNil))) ?_ fun σ H Q hq => isi_sem h5 el et hq
          exact pe_callB call_isi gl (iblt ok (by decide +kernel)) (by decide +kernel) (pa_cons pa (pa_cons pt pa_nil) (star_cons ns)) (by decide +kernel) hd (star_cons ns) rfl
        · cases h
    · cases h
  | .not a, X, S, n, e, h, ok => by
    unfold ckE at h
    split at h
    · have ih := ckE_ok a h ok
      exact ⟨(pe_not ih.pe).imp fun σ H Q q => notv_sem q, (pt_not ih.pt).imp fun σ H Q q => not_sem q, fun _ _ _ z => by cases z⟩
    · cases h
  | .and a b, X, S, n, e, h, ok => by
    unfold ckE at h
    split at h
    · rename_i x y pos
      obtain ⟨h1, h2⟩ := strip_and h
      have i1 := ckE_ok a h1 ok
      have i2 := ckE_ok b h2 ok
      have pw : PW X (.BoolOp .And [x, y] pos) (tT X.K (mB (iE Fn G (.and a b)))) := ⟨fun wh pins s σ H Q I q => (pw_and i1.pt (pw_and1 i2.pt)).run wh pins s σ H Q I (and_sem q)⟩
      exact ⟨(pe_and i1.pe (pe_one i2.pe)).imp fun σ H Q q => andv_sem q, pw.pt, fun op es p z => by cases z; exact pw⟩
    · rename_i x y z r pos
      obtain ⟨h1, h2⟩ := strip_and h
      have i1 := ckE_ok a h1 ok
      have i2 := ckE_ok b h2 ok
      have pw : PW X (.BoolOp .And (x :: y :: z :: r) pos) (tT X.K (mB (iE Fn G (.and a b)))) := ⟨fun wh pins s σ H Q I q => (pw_and i1.pt (i2.pw _ _ _ rfl)).run wh pins s σ H Q I (and_sem q)⟩
      exact ⟨(pe_and i1.pe i2.pe).imp fun σ H Q q => andv_sem q, pw.pt, fun op es p z => by cases z; exact pw⟩
    · cases h
  | .or a b, X, S, n, e, h, ok => by
    unfold ckE at h
    split at h
    · rename_i x y pos
      obtain ⟨h1, h2⟩ := strip_and h
      have i1 := ckE_ok a h1 ok
      have i2 := ckE_ok b h2 ok
      have pw : PW X (.BoolOp .Or [x, y] pos) (tT X.K (mB (iE Fn G (.or a b)))) := ⟨fun wh pins s σ H Q I q => (pw_or i1.pt (pw_or1 i2.pt)).run wh pins s σ H Q I (or_sem q)⟩
      exact ⟨(pe_or i1.pe (pe_one i2.pe)).imp fun σ H Q q => orv_sem q, pw.pt, fun op es p z => by cases z; exact pw⟩
    · rename_i x y z r pos
      obtain ⟨h1, h2⟩ := strip_and h
      have i1 := ckE_ok a h1 ok
      have i2 := ckE_ok b h2 ok
      have pw : PW X (.BoolOp .Or (x :: y :: z :: r) pos) (tT X.K (mB (iE Fn G (.or a b)))) := ⟨fun wh pins s σ H Q I q => (pw_or i1.pt (i2.pw _ _ _ rfl)).run wh pins s σ H Q I (or_sem q)⟩
      exact ⟨(pe_or i1.pe i2.pe).imp fun σ H Q q => orv_sem q, pw.pt, fun op es p z => by cases z; exact pw⟩
    · cases h
  | .chain p q a b c, X, S, n, e, h, ok => by
    unfold ckE at h
    split at h
    · rename_i x o1 o2 y z pos
      obtain ⟨h, h6⟩ := strip_and h
      obtain ⟨h, h5⟩ := strip_and h
      obtain ⟨h, h4⟩ := strip_and h
      obtain ⟨h, h3⟩ := strip_and h
      obtain ⟨h1, h2⟩ := strip_and h
      rw [decide_eq_true_eq] at h1 h2
      have h3 : lastMarks [o1, o2] [y, z] = false := by simpa using h3
      have i1 := ckE_ok a h4 ok
      have i2 := ckE_ok b h5 ok
      have i3 := ckE_ok c h6 ok
      exact ⟨(pe_chain (opr_cmp h1 ok.units) (opr_cmp h2 ok.units) i1.pe i2.pe i3.pe h3).imp fun σ H Q hq => chain_sem ⟨o1, h1⟩ ⟨o2, h2⟩ hq,
        (pt_chain (opr_cmp h1 ok.units) (opr_cmp h2 ok.units) i1.pe i2.pe i3.pe h3).imp fun σ H Q hq => chain_sem ⟨o1, h1⟩ ⟨o2, h2⟩ (tT_tE hq), fun _ _ _ z => by cases z⟩
    · cases h
  | .sl o a l hh, X, S, n, e, h, ok => by
    unfold ckE at h
    split at h
    · rename_i x lo hi p2 pos
      obtain ⟨h, h3⟩ := strip_and h
      obtain ⟨h1, h2⟩ := strip_and h
      have po1 : PO X lo (tPt X.K Fn G l) := by
        unfold tPt
        split at h2
        · rw [if_pos h2]; exact po_none
        · obtain ⟨q1, q2⟩ := strip_and h2
          have q1 : isNonC l = false := by simpa using q1
          rw [q1, if_neg (by decide)]
          exact po_some (ckE_ok l q2 ok).pe
      have po2 : PO X hi (tPt X.K Fn G hh) := by
        unfold tPt
        split at h3
        · rw [if_pos h3]; exact po_none
        · obtain ⟨q1, q2⟩ := strip_and h3
          have q1 : isNonC hh = false := by simpa using q1
          rw [q1, if_neg (by decide)]
          exact po_some (ckE_ok hh q2 ok).pe
      refine eok_val ?_ (by intro _; rfl) (fun _ _ _ z => by cases z)
      have po0 : PE X x (tSlO X.K Fn G o a) := by
        unfold tSlO
        split at h1
        · obtain ⟨y, p, rfl, hv⟩ := nameOf h1
          exact ok.var hv
        · exact (ckE_ok a h1 ok).pe
      exact PE.imp (pe_slice (sl_list.or sl_tup) po0 po1 po2) fun σ H Q hq => sl_sem hq
    · cases h
  | .lst as, X, S, n, e, h, ok => by
    unfold ckE at h
    split at h
    · exact eok_val ((pe_lst (ckL_ok as h ok).pa).imp fun σ H Q q => lst_sem q) (by intro _; rfl) (fun _ _ _ z => by cases z)
    · cases h
  | .tup as, X, S, n, e, h, ok => by
    unfold ckE at h
    split at h
    · exact eok_val ((pe_tup (ckL_ok as h ok).pa).imp fun σ H Q q => tup_sem q) (by intro _; rfl) (fun _ _ _ z => by cases z)
    · cases h
  | .dnew t, X, S, n, e, h, ok => by
    unfold ckE at h
    split at h
    · rename_i pos
      refine eok_val ?_ (by intro _; rfl) (fun _ _ _ z => by cases z)
      cases t with
      | true =>
        refine PE.imp pe_dnewT fun σ H Q hq => ?_
        obtain ⟨F, B, O, st, d, st', s, g, e, w⟩ := hq
        cases (show some (D.dT .own [] [], st) = some (d, st') from e)
        intro p hp
        obtain ⟨s2, r2, g2, p2⟩ := new_dict (.inr ⟨rfl, rfl⟩) hp s g
        exact w _ F _ O _ s2 r2 g2 p2
      | false =>
        refine PE.imp pe_dnewK fun σ H Q hq => ?_
        obtain ⟨F, B, O, st, d, st', s, g, e, w⟩ := hq
        cases (show some (D.dK .own [] [], st) = some (d, st') from e)
        intro p hp
        obtain ⟨s2, r2, g2, p2⟩ := new_dict (.inl ⟨rfl, rfl⟩) hp s g
        exact w _ F _ O _ s2 r2 g2 p2
    · cases h
  | .call f as, X, S, n, e, h, ok => by
    unfold ckE at h
    split at h
    · rename_i x p y es pos
      obtain ⟨h, h3⟩ := strip_and h
      obtain ⟨h1, h2⟩ := strip_and h
      rw [decide_eq_true_eq] at h1
      subst h1
      obtain ⟨gl, hd⟩ := ok.gl h2
      have pl := ckL_ok as h3 ok
      obtain ⟨ns, an⟩ := pl.ns
      refine eok_val ⟨fun pins s σ H Q I hq => ?_⟩ (by intro _; rfl) (fun _ _ _ z => by cases z)
      obtain ⟨F, B, O, st, d, st', ss, g, e, w⟩ := id hq
      unfold iE at e
      obtain ⟨ds, s1, e1, e⟩ := bnd_some e
      split at e
      · cases e
      split at e
      · cases e
      rename_i es' e3
      split at e
      · cases e
      rename_i d' outs e4
      obtain ⟨fa, fd, ps, m1, m2, m3, m4, m5⟩ := ok.fns _ _ _ e4
      have hn : as.len = ps.length := by rw [m4, fillA_len as e3]
      exact (PE.imp (pe_call (E := E0) m5 ok.room gl m1 m2 m3 .nil pass0 pl.pa hd (star_cons ns) (an _)) fun σ H Q hq => call_sem hn hq).run pins s σ H Q I hq
    · cases h
  | .comp w t it c e, X, S, n, x, h, ok => by
    unfold ckE at h
    split at h
    · rename_i elt tg iter ifs scope pos
      obtain ⟨h, h5⟩ := strip_and h
      obtain ⟨h, h4⟩ := strip_and h
      obtain ⟨h, h3⟩ := strip_and h
      obtain ⟨h1, h2⟩ := strip_and h
      obtain ⟨pi, hs⟩ := ckI_ok it h1 ok
      have bk : BlkOk X.N X.env.scope scope (w.map fun i => ((S.N[i]?).getD (Str.ofString ""), i)) := by
        rw [ok.N, ok.sc]
        exact blkOk_by h2
      refine eok_val ?_ (by intro _; rfl) (fun _ _ _ z => by cases z)
      refine PE.imp (t := tLc (tI X.K Fn G it) (gT X.K t) (tT X.K (mB (iE Fn G c))) (tE X.K (iE Fn G e)) w) ?_ fun σ H Q hq => comp_sem h3 hq
      have hts : ∀ (s : Shared) (H : Hp) (C : Addr) (cl : List (Str × Addr)) (fp : List Addr), PTs (X.blk s H scope (compEnvC scope cl C X.env) fp) ifs (tT X.K (mB (iE Fn G c))) := by
        intro s H C cl fp
        cases ifs with
        | nil =>
          dsimp only at h4
          split at h4
          · exact ⟨fun pins s σ H Q I q => pts_nil.run pins s σ H Q I (mBtrue q)⟩
          · cases h4
        | cons f r =>
          cases r with
          | nil => exact pts_one (ckE_ok c h4 (ok.blk s H scope C cl fp)).pt
          | cons _ _ => cases h4
      have z := pe_lc (pos := pos) (wi := tI X.K Fn G it) (g := gT X.K t) (tt := tT X.K (mB (iE Fn G c))) (te := tE X.K (iE Fn G e)) ok.calm ok.nd pi bk
        (fun s H C cl fp => (ckT_ok (ok.blk s H scope C cl fp) t tg h3).1) hts
        (fun s H C cl fp => (ckE_ok e h5 (ok.blk s H scope C cl fp)).pe) hs
      rw [own_map] at z
      exact z
    · cases h
theorem ckL_ok : ∀ (as : Os) {X : Cx} {S : Sc} {n : Nat} {es : List Expr}, ckL S as es = true → XOk X S n Fn G → PEL X Fn G as es
  | .nil, X, S, n, es, h, ok => by
    cases es with
    | nil => rfl
    | cons _ _ => unfold ckL at h; cases h
  | .e a r, X, S, n, es, h, ok => by
    cases es with
    | nil => unfold ckL at h; cases h
    | cons x es =>
      unfold ckL at h
      obtain ⟨h, h3⟩ := strip_and h
      obtain ⟨h1, h2⟩ := strip_and h
      exact ⟨x, es, rfl, h1, (ckE_ok a h2 ok).pe, ckL_ok r h3 ok⟩
  | .v i r, X, S, n, es, h, ok => by
    cases es with
    | nil => unfold ckL at h; cases h
    | cons x es =>
      unfold ckL at h
      obtain ⟨h1, h2⟩ := strip_and h
      obtain ⟨y, p, rfl, hv⟩ := nameOf h1
      exact ⟨_, es, rfl, rfl, ok.var hv, ckL_ok r h2 ok⟩
  | .l i r, X, S, n, es, h, ok => by
    cases es with
    | nil => unfold ckL at h; cases h
    | cons x es =>
      unfold ckL at h
      obtain ⟨h1, h2⟩ := strip_and h
      obtain ⟨y, p, rfl, hv⟩ := nameOf h1
      exact ⟨_, es, rfl, rfl, ok.var hv, ckL_ok r h2 ok⟩
  | .q o r, X, S, n, es, h, ok => by
    cases es with
    | nil => unfold ckL at h; cases h
    | cons x es =>
      unfold ckL at h
      obtain ⟨h, h3⟩ := strip_and h
      obtain ⟨h1, h2⟩ := strip_and h
      exact ⟨x, es, rfl, h1, ckQ_ok ok o x h2, ckL_ok r h3 ok⟩
theorem ckI_ok : ∀ (it : It) {X : Cx} {S : Sc} {n : Nat} {tg e : Expr}, ckI S it tg e = true → XOk X S n Fn G → PI X tg e (tI X.K Fn G it) ∧ (∀ x, foldedSetIterable e X.env x = pure x)
  | .e a, X, S, n, tg, e, h, ok => by
    unfold ckI at h
    obtain ⟨h1, h2⟩ := strip_and h
    refine ⟨pi_seq (ckE_ok a h1 ok).pe, fun x => ?_⟩
    cases e <;> first | rfl | cases h2
  | .s i, X, S, n, tg, e, h, ok => by
    obtain ⟨y, p, rfl, hv⟩ := nameOf (S := S) (i := i) (show _ = true by unfold ckI at h; exact h)
    exact ⟨pi_seq (ok.var hv), fun x => rfl⟩
  | .r1 a, X, S, n, tg, e, h, ok => by
    unfold ckI at h
    split at h
    · rename_i x p y pos
      obtain ⟨h, h4⟩ := strip_and h
      obtain ⟨h, h3⟩ := strip_and h
      obtain ⟨h1, h2⟩ := strip_and h
      rw [decide_eq_true_eq] at h1
      subst h1
      exact ⟨pi_range1 (ok.gl h2).1 (iblt ok (by decide +kernel)) (pa_cons (ckE_ok a h4 ok).pe pa_nil (star_cons h3)) (star_cons h3), fun x => rfl⟩
    · cases h
  | .r2 a b, X, S, n, tg, e, h, ok => by
    unfold ckI at h
    split at h
    · rename_i x p y z pos
      obtain ⟨h, h6⟩ := strip_and h
      obtain ⟨h, h5⟩ := strip_and h
      obtain ⟨h, h4⟩ := strip_and h
      obtain ⟨h, h3⟩ := strip_and h
      obtain ⟨h1, h2⟩ := strip_and h
      rw [decide_eq_true_eq] at h1
      subst h1
      have e1 : starEach [z] X.env = [(false, eval z X.env)] := star_cons h4
      exact ⟨pi_range2 (ok.gl h2).1 (iblt ok (by decide +kernel)) (pa_cons (ckE_ok a h5 ok).pe (pa_cons (ckE_ok b h6 ok).pe pa_nil e1) (star_cons h3)) (by rw [star_cons h3, e1]) e1, fun x => rfl⟩
    · cases h
  | .zip a b, X, S, n, tg, e, h, ok => by
    unfold ckI at h
    split at h
    · rename_i x p y z pos elts kk tpos
      obtain ⟨h, h6⟩ := strip_and h
      obtain ⟨h, h5⟩ := strip_and h
      obtain ⟨h, h4⟩ := strip_and h
      obtain ⟨h, h3⟩ := strip_and h
      obtain ⟨h1, h2⟩ := strip_and h
      rw [decide_eq_true_eq] at h1
      subst h1
      have e1 : starEach [z] X.env = [(false, eval z X.env)] := star_cons h4
      exact ⟨RZ.pi_zipA (ok.gl h2).1 (iblt ok (by decide +kernel)) (pa_cons (ckE_ok a h5 ok).pe (pa_cons (ckE_ok b h6 ok).pe pa_nil e1) (star_cons h3)) (star_cons h3) (by rw [e1]; rfl), fun x => rfl⟩
    · cases h
  | .enum a, X, S, n, tg, e, h, ok => by
    unfold ckI at h
    split at h
    · rename_i x p y pos elts kk tpos
      obtain ⟨h, h4⟩ := strip_and h
      obtain ⟨h, h3⟩ := strip_and h
      obtain ⟨h1, h2⟩ := strip_and h
      rw [decide_eq_true_eq] at h1
      subst h1
      exact ⟨pi_enum (ok.gl h2).1 (iblt ok (by decide +kernel)) (pa_cons (ckE_ok a h4 ok).pe pa_nil (star_cons h3)) (star_cons h3), fun x => rfl⟩
    · cases h
end
end
end DL
set_option Elab.async false
set_option linter.all false
set_option maxRecDepth 100000
/-! DL11: stores into things held alone. -/
namespace DL
open PySem PySem.Spec PyProof.Rows L2

section
variable {K : PySem.W.Frag} {F B H : Hp} {σ : L2.St}
/-- an item taken out and another one laid in its place (the references stay) -/
theorem Reps.focus : ∀ {xs : List D} {vs : List V} {O : Cnt} {j : Nat} {c : D}, Reps K F B H xs vs O → xs[j]? = some c →
    ∃ (v : V) (Oj Or : Cnt), vs[j]? = some v ∧ Rep K F B H c v Oj ∧ (∀ a, O a = Or a + Oj a) ∧
      ∀ {H' : Hp} {c' : D} {Oj' : Cnt}, (∀ a u, 1 ≤ Or a → H a = some u → H' a = some u) → Rep K F B H' c' v Oj' → Reps K F B H' (xs.set j c') vs (fun a => Or a + Oj' a)
  | [], _, _, _, _, _, e => by simp at e
  | x :: xs, vs, O, 0, c, h, e => by
    unfold Reps at h
    obtain ⟨v, vs', O1, O2, rfl, h1, h2, ho⟩ := h
    have e : x = c := by simpa using e
    subst e
    refine ⟨v, O1, O2, rfl, h1, fun a => by have := ho a; omega, fun {H' c' Oj'} hH r => ?_⟩
    show Reps K F B H' (c' :: xs) (v :: vs') _
    unfold Reps
    exact ⟨v, vs', Oj', O2, rfl, r, Reps.mono (Same.refl _) (Same.refl _) _ _ _ h2 hH, fun a => by (try dsimp only); omega⟩
  | x :: xs, vs, O, j + 1, c, h, e => by
    unfold Reps at h
    obtain ⟨v, vs', O1, O2, rfl, h1, h2, ho⟩ := h
    obtain ⟨w, Oj, Or, e1, r1, ho2, k⟩ := Reps.focus h2 (by simpa using e)
    refine ⟨w, Oj, fun a => O1 a + Or a, by simpa using e1, r1, fun a => by have := ho a; have := ho2 a; (try dsimp only); omega, fun {H' c' Oj'} hH r => ?_⟩
    show Reps K F B H' (x :: xs.set j c') (v :: vs') _
    unfold Reps
    exact ⟨v, vs', O1, fun a => Or a + Oj' a, rfl, Rep.mono (Same.refl _) (Same.refl _) _ _ _ h1 fun a u z q => hH a u (by (try dsimp only); omega) q, k (fun a u z q => hH a u (by (try dsimp only); omega) q) r, fun a => by (try dsimp only); omega⟩
/-- the item itself changed (another reference) -/
theorem Reps.setV : ∀ {xs : List D} {vs : List V} {O Od : Cnt} {j : Nat} {d : D} {w : V}, Reps K F B H xs vs O → Rep K F B H d w Od → j < xs.length → ∃ O', Reps K F B H (xs.set j d) (vs.set j w) O' ∧ ∀ a, O' a ≤ O a + Od a
  | [], _, _, _, _, _, _, _, _, hj => absurd hj (by simp)
  | x :: xs, vs, O, Od, 0, d, w, h, r, hj => by
    unfold Reps at h
    obtain ⟨v, vs', O1, O2, rfl, h1, h2, ho⟩ := h
    refine ⟨fun a => Od a + O2 a, ?_, fun a => by have := ho a; (try dsimp only); omega⟩
    show Reps K F B H (d :: xs) (w :: vs') _
    unfold Reps
    exact ⟨w, vs', Od, O2, rfl, r, h2, fun a => rfl⟩
  | x :: xs, vs, O, Od, j + 1, d, w, h, r, hj => by
    unfold Reps at h
    obtain ⟨v, vs', O1, O2, rfl, h1, h2, ho⟩ := h
    obtain ⟨O', h', le⟩ := Reps.setV (j := j) h2 r (by simpa using hj)
    refine ⟨fun a => O1 a + O' a, ?_, fun a => by have := ho a; have := le a; (try dsimp only); omega⟩
    show Reps K F B H (x :: xs.set j d) (v :: vs'.set j w) _
    unfold Reps
    exact ⟨v, _, O1, O', rfl, h1, h', fun a => rfl⟩
theorem Reps.takeR : ∀ {xs : List D} {vs : List V} {O : Cnt} (n : Nat), Reps K F B H xs vs O → ∃ O1 O2, Reps K F B H (xs.take n) (vs.take n) O1 ∧ Reps K F B H (xs.drop n) (vs.drop n) O2 ∧ ∀ a, O a = O1 a + O2 a
  | xs, vs, O, 0, h => ⟨fun _ => 0, O, Reps.nilR, h, fun a => by (try dsimp only); omega⟩
  | [], vs, O, n + 1, h => by
    unfold Reps at h
    obtain ⟨rfl, h⟩ := h
    exact ⟨fun _ => 0, fun _ => 0, Reps.nilR, Reps.nilR, fun a => by rw [h a]; rfl⟩
  | x :: xs, vs, O, n + 1, h => by
    unfold Reps at h
    obtain ⟨v, vs', O1, O2, rfl, h1, h2, ho⟩ := h
    obtain ⟨P1, P2, r1, r2, hp⟩ := Reps.takeR n h2
    refine ⟨fun a => O1 a + P1 a, P2, ?_, r2, fun a => by have := ho a; have := hp a; (try dsimp only); omega⟩
    rw [List.take_succ_cons, List.take_succ_cons]
    unfold Reps
    exact ⟨v, _, O1, P1, rfl, h1, r1, fun a => rfl⟩
theorem Reps.rev : ∀ {xs : List D} {vs : List V} {O : Cnt}, Reps K F B H xs vs O → Reps K F B H xs.reverse vs.reverse O
  | [], vs, O, h => by
    unfold Reps at h
    obtain ⟨rfl, h⟩ := h
    show Reps K F B H [] [] O
    unfold Reps
    exact ⟨rfl, h⟩
  | x :: xs, vs, O, h => by
    unfold Reps at h
    obtain ⟨v, vs', O1, O2, rfl, h1, h2, ho⟩ := h
    rw [List.reverse_cons, List.reverse_cons]
    exact ((Reps.rev h2).append (Reps.one h1)).congr fun a => by have := ho a; (try dsimp only); omega

/-! ### writes to an own list -/
def rMu (m : Mu) : V → List V → Hp → VK → Prop := match m with
  | .append => rAppend
  | .insert => fun x vs H Q => ∃ (l : Addr) (xs : List V) (i : Int) (y : V), x = .ref l ∧ vs = [.int i, y] ∧ H l = some (.lst xs) ∧ xs.length < sizeLine ∧ 0 ≤ i ∧ i < 2 ^ 63 ∧ Q .non (upd H l (.lst (xs.take i.toNat ++ [y] ++ xs.drop i.toNat)))
  | .extend => rExtend
  | .clear => rClear
  | .reverse => rReverse
/-- a method's reading: the new contents -/
theorem mu_ok {m : Mu} {a : Addr} {xs ys ds : List D} {vs ws : List V} {O Od : Cnt} {Q : VK} (r : Reps K F B H xs vs O) (e : H a = some (.lst vs)) (rd : Reps K F B H ds ws Od) (em : mutL m xs ds = some ys)
    (q : ∀ us O', Reps K F B H ys us O' → (∀ b, O' b ≤ O b + Od b) → Q .non (upd H a (.lst us))) : rMu m (.ref a) ws H Q := by
  unfold mutL at em
  split at em
  · rename_i xs d
    split at em
    · rename_i hl
      cases em
      unfold Reps at rd
      obtain ⟨v, vs', O1, O2, rfl, h1, h2, ho⟩ := rd
      unfold Reps at h2
      obtain ⟨rfl, z⟩ := h2
      exact ⟨a, vs, v, rfl, rfl, e, by rw [r.length]; exact hl, q _ _ (r.append (Reps.one h1)) fun b => by have := ho b; (try dsimp only); omega⟩
    · cases em
  · rename_i xs i d
    split at em
    · rename_i hl
      cases em
      unfold Reps at rd
      obtain ⟨v, vs', O1, O2, rfl, h1, h2, ho⟩ := rd
      unfold Reps at h2
      obtain ⟨w, ws', O3, O4, rfl, h3, h4, ho2⟩ := h2
      unfold Reps at h4
      obtain ⟨rfl, z⟩ := h4
      rw [int_inv h1]
      obtain ⟨P1, P2, r1, r2, hp⟩ := r.takeR i.toNat
      exact ⟨a, vs, i, w, rfl, rfl, e, by rw [r.length]; exact hl.1, hl.2.1, hl.2.2, q _ _ ((r1.append (Reps.one h3)).append r2) fun b => by have := ho b; have := ho2 b; have := hp b; (try dsimp only); omega⟩
    · cases em
  · rename_i xs zs
    split at em
    · rename_i hl
      cases em
      unfold Reps at rd
      obtain ⟨v, vs', O1, O2, rfl, h1, h2, ho⟩ := rd
      unfold Reps at h2
      obtain ⟨rfl, z⟩ := h2
      unfold Rep at h1
      obtain ⟨b, us, O3, rfl, r3, hc⟩ := h1
      rcases hc with hc | ⟨z, _⟩
      · exact ⟨a, b, vs, us, rfl, rfl, e, hc.1, by rw [r.length, r3.length]; exact hl, q _ _ (r.append r3) fun x => by have := ho x; have := hc.2 x; (try dsimp only); omega⟩
      · cases z
    · cases em
  · cases em
    unfold Reps at rd
    obtain ⟨rfl, _⟩ := rd
    exact ⟨a, vs, rfl, rfl, e, q [] _ Reps.nilR fun b => Nat.zero_le _⟩
  · cases em
    unfold Reps at rd
    obtain ⟨rfl, _⟩ := rd
    exact ⟨a, vs, rfl, rfl, e, q _ O r.rev fun b => by omega⟩
  · cases em
/-- an own list in a slot, written -/
theorem own_write {st : DSt} {i : Nat} {a : Addr} {ys : List D} {us : List V} {Or O' : Cnt} (s : SRep K F B H (st.set i none) σ Or) (ev : σ[i]? = some (some (.ref a))) (r : Reps K F B H ys us O') (g : Good F B H (fun b => Or b + (O' b + sing a b))) :
    SRep K F B (upd H a (.lst us)) (st.set i (some (.lst .own ys))) σ (fun b => Or b + (O' b + sing a b)) ∧ Good F B (upd H a (.lst us)) (fun b => Or b + (O' b + sing a b)) ∧ Step F H (fun b => Or b + (O' b + sing a b)) F (upd H a (.lst us)) (fun b => Or b + (O' b + sing a b)) := by
  have sa := sing_self (a := a)
  have o1 := g.one a
  (try dsimp only at o1)
  obtain ⟨g2, p2⟩ := upd_step (D := a) (u := .lst us) g (by (try dsimp only); omega)
  refine ⟨?_, g2, p2⟩
  refine (s.upd (by omega)).put ev ?_
  unfold Rep
  exact ⟨a, us, O', rfl, r.upd (by omega), .inl ⟨upd_same, fun b => rfl⟩⟩
theorem own_inv {xs : List D} {v : V} {O : Cnt} (r : Rep K F B H (.lst .own xs) v O) : ∃ a vs O1, v = .ref a ∧ Reps K F B H xs vs O1 ∧ H a = some (.lst vs) ∧ ∀ b, O b = O1 b + sing a b := by
  unfold Rep at r
  obtain ⟨a, vs, O1, e, r, hc⟩ := r
  rcases hc with hc | ⟨z, _⟩
  · exact ⟨a, vs, O1, e, r, hc.1, hc.2⟩
  · cases z
end

/-! ### stores by subscripts -/
def rSet (K : PySem.W.Frag) : TSet := fun o i v H Q => rSetL o i v H Q ∨ ∃ a H', o = .ref a ∧ DPut H a i v H' ∧ Q H'
theorem pset {X : Cx} (hu : X.A.units + 65 < cLine) : PSet X (rSet X.K) := by
  intro pins s σ H o i v ov iv u Q I ro ri rv h
  rcases h with h | ⟨a, H', rfl, g, q⟩
  · exact set_list pins s σ H o i v ov iv u Q I ro ri rv h
  · cases (show ov = Value.ref a from ro)
    exact d_setItem (by omega) I g ri rv fun s' I' => ⟨H', I', q⟩
section
variable {K : PySem.W.Frag} {F B H : Hp} {σ : L2.St}
theorem put_zip {κ : Type} [DecidableEq κ] {ks : List κ} {xs : List D} {vs : List V} {k : κ} {d : D} {w : V} (h : (ks.any fun x => decide (x = k)) = true) (hl : ks.length = vs.length) (r : Reps K F B H xs vs (fun _ => 0)) (rd : Rep K F B H d w (fun _ => 0)) :
    ∃ us, putK (ks.zip vs) k w = ks.zip us ∧ ks.length = us.length ∧ Reps K F B H (putV ks xs k d) us (fun _ => 0) := by
  have e1 : ((ks.zip vs).any fun kv => decide (kv.1 = k)) = true := by
    rw [valV_any, any_val hl]; exact h
  unfold putK
  rw [if_pos e1]
  clear h e1
  induction ks generalizing xs vs with
  | nil =>
    cases vs with
    | nil => exact ⟨[], rfl, rfl, by cases xs <;> (unfold putV; exact Reps.nilR)⟩
    | cons _ _ => simp at hl
  | cons k1 ks ih =>
    cases vs with
    | nil => simp at hl
    | cons v vs =>
      cases xs with
      | nil => unfold Reps at r; cases r.1
      | cons x xs =>
        unfold Reps at r
        obtain ⟨v', vs', O1, O2, e, h1, h2, ho⟩ := r
        cases e
        have z1 : ∀ a, O1 a = 0 := fun a => by have := ho a; (try dsimp only at this); omega
        have z2 : ∀ a, O2 a = 0 := fun a => by have := ho a; (try dsimp only at this); omega
        obtain ⟨us, e2, l2, r2⟩ := ih (xs := xs) (vs := vs) (by simpa using hl) (h2.congr fun a => (z2 a).symm)
        by_cases hk : k1 = k
        · refine ⟨w :: us, ?_, by simpa using l2, ?_⟩
          · show (if k1 = k then (k1, w) else (k1, v)) :: _ = (k1, w) :: ks.zip us
            rw [if_pos hk]
            exact congrArg _ e2
          · unfold putV
            rw [if_pos hk]
            unfold Reps
            exact ⟨w, us, fun _ => 0, fun _ => 0, rfl, rd, r2, fun _ => rfl⟩
        · refine ⟨v :: us, ?_, by simpa using l2, ?_⟩
          · show (if k1 = k then (k1, w) else (k1, v)) :: _ = (k1, v) :: ks.zip us
            rw [if_neg hk]
            exact congrArg _ e2
          · unfold putV
            rw [if_neg hk]
            unfold Reps
            exact ⟨v, us, fun _ => 0, fun _ => 0, rfl, h1.congr fun a => (z1 a).symm, r2, fun _ => rfl⟩
theorem put_new {κ : Type} [DecidableEq κ] {ks : List κ} {vs : List V} {k : κ} {w : V} (h : ¬ (ks.any fun x => decide (x = k)) = true) (hl : ks.length = vs.length) : putK (ks.zip vs) k w = (ks ++ [k]).zip (vs ++ [w]) := by
  have e1 : ¬ ((ks.zip vs).any fun kv => decide (kv.1 = k)) = true := by
    rw [valV_any, any_val hl]; exact h
  unfold putK
  rw [if_neg e1, List.zip_append hl]
  rfl
/-- a container held alone: its cell written, as setItem says -/
theorem set_ok {c k d c' : D} {v kv w : V} {Oc Ok Od : Cnt} {Q : Hp → Prop} (rc : Rep K F B H c v Oc) (rk : Rep K F B H k kv Ok) (rd : Rep K F B H d w Od) (fh : Same F H) (e : setItem c k d = some c')
    (one : ∀ a, Oc a + Od a ≤ 1)
    (q : ∀ a u O', v = .ref a → 1 ≤ Oc a → (∀ b, O' b ≤ Oc b + Od b) → Rep K F B (upd H a u) c' v O' → Q (upd H a u)) : rSet K v kv w H Q := by
  unfold setItem at e
  split at e
  · rename_i xs
    split at e
    · rename_i k
      obtain ⟨j, ej, rfl⟩ := Option.map_eq_some_iff.mp e
      obtain ⟨a, vs, O1, rfl, rs, ha, ho⟩ := own_inv rc
      have hj : j < xs.length := (ixN_seq ej).2.1
      obtain ⟨O', r', le⟩ := rs.setV rd hj
      have sa := sing_self (a := a)
      refine .inl ⟨a, vs, k, j, rfl, int_inv rk, ha, by rw [rs.length]; exact ej, ?_⟩
      refine q a (.lst (vs.set j w)) (fun b => O' b + sing a b) rfl (by rw [ho a]; omega) (fun b => by have := le b; have := ho b; (try dsimp only); omega) ?_
      unfold Rep
      exact ⟨a, _, O', rfl, r'.upd (by have := le a; have := ho a; have := one a; omega), .inl ⟨upd_same, fun b => rfl⟩⟩
    · cases e
  · rename_i ks xs
    obtain ⟨k1, ek, e⟩ := Option.bind_eq_some_iff.mp e
    split at e
    · rename_i hn
      unfold Rep at rc
      obtain ⟨a, vs, O1, rfl, rs, hl, hc⟩ := rc
      have sa := sing_self (a := a)
      have o1 : Oc a = O1 a + sing a a := hc.2 a
      have z1 := one a
      have rd0 := rd.zero hn.1
      rw [keyOf_inv ek rk]
      have hz : (ks.zip vs).length < sizeLine := by rw [List.length_zip]; omega
      split at e
      · rename_i hany
        cases e
        obtain ⟨us, e2, l2, r2⟩ := put_zip (k := k1) hany hl (rs.zero hn.2.1) rd0
        refine .inr ⟨a, upd H a (.dK (putK (ks.zip vs) k1 w)), rfl, DPut.k hc.1 hz, ?_⟩
        refine q a _ (sing a) rfl (by omega) (fun b => by have := hc.2 b; omega) ?_
        unfold Rep
        exact ⟨a, us, fun _ => 0, rfl, r2.upd rfl, l2, by rw [e2]; exact upd_same, fun b => by (try dsimp only); omega⟩
      · rename_i hany
        cases e
        refine .inr ⟨a, upd H a (.dK (putK (ks.zip vs) k1 w)), rfl, DPut.k hc.1 hz, ?_⟩
        refine q a _ (fun b => O1 b + sing a b) rfl (by omega) (fun b => by have := hc.2 b; (try dsimp only); omega) ?_
        unfold Rep
        refine ⟨a, vs ++ [w], O1, rfl, ((rs.append (Reps.one rd0)).congr fun b => by (try dsimp only); omega).upd (by omega), by simp [hl], by rw [put_new hany hl]; exact upd_same, fun b => rfl⟩
    · cases e
  · rename_i ks xs
    split at e
    · rename_i as
      obtain ⟨k1, ek, e⟩ := Option.bind_eq_some_iff.mp e
      split at e
      · rename_i hn
        unfold Rep at rc
        obtain ⟨a, vs, O1, rfl, rs, hl, hc⟩ := rc
        have sa := sing_self (a := a)
        have o1 : Oc a = O1 a + sing a a := hc.2 a
        have z1 := one a
        have rd0 := rd.zero hn.1
        unfold Rep at rk
        obtain ⟨b, ws, rfl, hb, rb⟩ := rk
        have eb := keysOf_inv ek rb
        subst eb
        have hz : (ks.zip vs).length < sizeLine := by rw [List.length_zip]; omega
        split at e
        · rename_i hany
          cases e
          obtain ⟨us, e2, l2, r2⟩ := put_zip (k := k1) hany hl (rs.zero hn.2.1) rd0
          refine .inr ⟨a, upd H a (.dT (putK (ks.zip vs) k1 w)), rfl, DPut.t hc.1 (fh _ _ hb) hz, ?_⟩
          refine q a _ (sing a) rfl (by omega) (fun b => by have := hc.2 b; omega) ?_
          unfold Rep
          exact ⟨a, us, fun _ => 0, rfl, r2.upd rfl, l2, by rw [e2]; exact upd_same, fun b => by (try dsimp only); omega⟩
        · rename_i hany
          cases e
          refine .inr ⟨a, upd H a (.dT (putK (ks.zip vs) k1 w)), rfl, DPut.t hc.1 (fh _ _ hb) hz, ?_⟩
          refine q a _ (fun b => O1 b + sing a b) rfl (by omega) (fun b => by have := hc.2 b; (try dsimp only); omega) ?_
          unfold Rep
          refine ⟨a, vs ++ [w], O1, rfl, ((rs.append (Reps.one rd0)).congr fun b => by (try dsimp only); omega).upd (by omega), by simp [hl], by rw [put_new hany hl]; exact upd_same, fun b => rfl⟩
      · cases e
    · cases e
  · cases e
end
end DL
set_option Elab.async false
set_option linter.all false
set_option maxRecDepth 100000
/-! DL12: statements. -/
namespace DL
open PySem PySem.Spec PyProof.Rows L2

/-- what is wanted behind a statement -/
def PostS (K : PySem.W.Frag) (kp : Nat → Bool) (F B H : Hp) (O : Cnt) (σ : L2.St) (D : Ends) (st' : DSt) : Fl → Prop
  | .nx => ∀ σ' F' H' O', SRep K F' B H' st' σ' O' → Good F' B H' O' → Step F H O F' H' O' → Keep kp σ σ' → D.nx σ' H'
  | .rt d => ∀ v σ' F' H' O' Od, SRep K F' B H' st' σ' O' → Rep K F' B H' d v Od → Good F' B H' (fun a => O' a + Od a) → Step F H O F' H' (fun a => O' a + Od a) → Keep kp σ σ' → D.rt v H'
def tS (K : PySem.W.Frag) (kp : Nat → Bool) (m : DSt → Option (Fl × DSt)) : TS := fun D σ H => ∃ F B O st r st', SRep K F B H st σ O ∧ Good F B H O ∧ m st = some (r, st') ∧ PostS K kp F B H O σ D st' r
/-- a statement ahead was taken -/
theorem PostS.pre {K : PySem.W.Frag} {kp : Nat → Bool} {F B H F1 H1 : Hp} {O O1 : Cnt} {σ σ1 : L2.St} {D : Ends} {st' : DSt} {r : Fl} (p : PostS K kp F B H O σ D st' r) (s : Step F H O F1 H1 O1) (k : Keep kp σ σ1) : PostS K kp F1 B H1 O1 σ1 D st' r := by
  cases r with
  | nx => exact fun σ' F' H' O' h g e kk => p σ' F' H' O' h g (s.trans e) (k.trans kk)
  | rt d => exact fun v σ' F' H' O' Od h r g e kk => p v σ' F' H' O' Od h r g (s.trans e) (k.trans kk)
section
variable {K : PySem.W.Frag} {kp : Nat → Bool} {Fn : FT} {G : Str → Option D} {D : Ends} {σ : L2.St} {H : Hp} {S : Sc}
theorem nil_sem (h : tS K kp (iSs Fn G []) D σ H) : tNext D σ H := by
  obtain ⟨F, B, O, st, r, st', s, g, e, q⟩ := h
  unfold iSs at e
  cases e
  exact q σ F H O s g (Step.refl fun _ => Nat.le_refl _) Keep.refl
theorem cons_sem {c : CS} {r : List CS} (h : tS K kp (iSs Fn G (c :: r)) D σ H) : tSeq (tS K kp (iS Fn G c)) (tS K kp (iSs Fn G r)) D σ H := by
  obtain ⟨F, B, O, st, f, st', s, g, e, q⟩ := h
  unfold iSs at e
  obtain ⟨f1, s1, e1, e2⟩ := bnd_some e
  cases f1 with
  | nx => exact ⟨F, B, O, st, .nx, s1, s, g, e1, fun σ' F' H' O' s' g' p' k' => ⟨F', B, O', s1, f, st', s', g', e2, q.pre p' k'⟩⟩
  | rt d =>
    dsimp only at e2
    cases e2
    exact ⟨F, B, O, st, .rt d, _, s, g, e1, q⟩
theorem asg_sem {t : Tg} {e : CE} {tg : Expr} (hk : ckT S kp t tg = true) (h : tS K kp (iS Fn G (.asg t e)) D σ H) : tAsg (tE K (iE Fn G e)) (gT K t) D σ H := by
  obtain ⟨F, B, O, st, f, st', s, g, ee, q⟩ := h
  unfold iS at ee
  obtain ⟨d, s1, e1, e2⟩ := bnd_some ee
  obtain ⟨s2, e3, e4⟩ := Option.map_eq_some_iff.mp e2
  cases e4
  refine ⟨F, B, O, st, d, s1, s, g, e1, fun v F1 H1 O1 Od h1 r1 g1 p1 => ?_⟩
  exact asg_ok t hk h1 r1 g1.fh e3 fun σ' O' h' le k => q σ' F1 H1 O' h' (g1.le le) (p1.le le) k
theorem par_sem {i j : Nat} {as : Os} (hi : kp i = false) (hj : kp j = false) (h : tS K kp (iS Fn G (.par i j as)) D σ H) : tPar i j (tOs K Fn G as) D σ H := by
  obtain ⟨F, B, O, st, f, st', s, g, ee, q⟩ := h
  unfold iS at ee
  obtain ⟨ds, s1, e1, e2⟩ := bnd_some ee
  split at e2
  · rename_i x y
    split at e2
    · rename_i hl
      cases e2
      refine tXs_ok (K := K) as s g e1 fun vs F1 H1 O1 Od h1 r1 g1 p1 => ?_
      unfold Reps at r1
      obtain ⟨v, vs', Oa, Ob, rfl, ra, r1, ho⟩ := r1
      unfold Reps at r1
      obtain ⟨w, vs'', Oc, Oe, rfl, rb, r1, ho2⟩ := r1
      unfold Reps at r1
      obtain ⟨rfl, z⟩ := r1
      obtain ⟨O2, h2, l2⟩ := h1.store ra hl.1
      obtain ⟨O3, h3, l3⟩ := h2.store rb (by rw [List.length_set]; exact hl.2)
      have le : ∀ a, O3 a ≤ O1 a + Od a := fun a => by have := l2 a; have := l3 a; have := ho a; have := ho2 a; omega
      exact ⟨v, w, rfl, q _ F1 H1 O3 h3 (g1.le le) (p1.le le) ((Keep.set hi).trans (Keep.set hj))⟩
    · cases e2
  · cases e2
theorem expr_sem {e : CE} (h : tS K kp (iS Fn G (.expr e)) D σ H) : tDrop (tE K (iE Fn G e)) D σ H := by
  obtain ⟨F, B, O, st, f, st', s, g, ee, q⟩ := h
  unfold iS at ee
  obtain ⟨d, s1, e1, e2⟩ := bnd_some ee
  cases e2
  exact ⟨F, B, O, st, d, _, s, g, e1, fun v F1 H1 O1 Od h1 r1 g1 p1 => q σ F1 H1 O1 h1 (g1.le fun a => by (try dsimp only); omega) (p1.le fun a => by (try dsimp only); omega) Keep.refl⟩
theorem ret_sem {e : CE} (h : tS K kp (iS Fn G (.ret e)) D σ H) : tRet (tE K (iE Fn G e)) D σ H := by
  obtain ⟨F, B, O, st, f, st', s, g, ee, q⟩ := h
  unfold iS at ee
  obtain ⟨d, s1, e1, e2⟩ := bnd_some ee
  cases e2
  exact ⟨F, B, O, st, d, _, s, g, e1, fun v F1 H1 O1 Od h1 r1 g1 p1 => q v σ F1 H1 O1 Od h1 r1 g1 p1 Keep.refl⟩
theorem retN_sem (h : tS K kp (iS Fn G .retN) D σ H) : tRetN D σ H := by
  obtain ⟨F, B, O, st, f, st', s, g, ee, q⟩ := h
  unfold iS at ee
  cases ee
  exact q .non σ F H O (fun _ => 0) s rep_non (g.le fun a => by (try dsimp only); omega) (Step.refl fun a => by (try dsimp only); omega) Keep.refl
theorem pass_sem (h : tS K kp (iS Fn G .pass) D σ H) : tNext D σ H := by
  obtain ⟨F, B, O, st, f, st', s, g, ee, q⟩ := h
  unfold iS at ee
  cases ee
  exact q σ F H O s g (Step.refl fun _ => Nat.le_refl _) Keep.refl
theorem never_sem (h : tS K kp (iS Fn G .never) D σ H) : tNever D σ H := by
  obtain ⟨F, B, O, st, f, st', s, g, ee, q⟩ := h
  unfold iS at ee
  cases ee
theorem ite_sem {c : CE} {a b : List CS} (h : tS K kp (iS Fn G (.ite c a b)) D σ H) : tIfS (tT K (mB (iE Fn G c))) (tS K kp (iSs Fn G a)) (tS K kp (iSs Fn G b)) D σ H := by
  obtain ⟨F, B, O, st, f, st', s, g, ee, q⟩ := h
  unfold iS at ee
  obtain ⟨d, s1, e1, e2⟩ := bnd_some ee
  obtain ⟨k, rfl, e3⟩ := onB_some e2
  refine ⟨F, B, O, st, k, s1, s, g, mB_of e1, fun F' H' O' s' g' p' => ?_⟩
  cases k with
  | true =>
    rw [if_pos rfl] at e3 ⊢
    exact ⟨F', B, O', s1, f, st', s', g', e3, q.pre p' Keep.refl⟩
  | false =>
    rw [if_neg (by decide)] at e3 ⊢
    exact ⟨F', B, O', s1, f, st', s', g', e3, q.pre p' Keep.refl⟩
theorem setI_sem {i : Nat} {k e : CE} (h : tS K kp (iS Fn G (.setI i k e)) D σ H) : tAsg (tE K (iE Fn G e)) (gSub (tVar i) (tE K (iE Fn G k)) (rSet K)) D σ H := by
  obtain ⟨F, B, O, st, f, st', s, g, ee, q⟩ := h
  unfold iS at ee
  obtain ⟨d, s1, e1, ee⟩ := bnd_some ee
  split at ee
  · cases ee
  rename_i c0 e0
  obtain ⟨kd, s2, e2, ee⟩ := bnd_some ee
  split at ee
  · cases ee
  rename_i c e3
  obtain ⟨c', e4, e5⟩ := Option.map_eq_some_iff.mp ee
  cases e5
  refine ⟨F, B, O, st, d, s1, s, g, e1, fun w F1 H1 O1 Od h1 r1 g1 p1 => ?_⟩
  obtain ⟨v, ev, _⟩ := h1.val e0
  refine ⟨v, ev, ?_⟩
  refine ⟨F1, B, O1, s1, kd, s2, h1, g1.le fun a => by (try dsimp only); omega, e2, fun kv F2 H2 O2 Ok h2 r2 g2 p2 => ?_⟩
  obtain ⟨g3, p3, k3⟩ := p2.frame g1 g2 (Rep.trk d w Od r1)
  have r1' := Rep.mono p2.mono (Same.refl _) d w Od r1 k3
  obtain ⟨v', Oc, Or, ev', rc, sr, ho⟩ := h2.take e3
  rw [ev] at ev'
  cases ev'
  have g4 : Good F2 B H2 (fun a => Or a + (Oc a + Od a)) := g3.le fun a => by have := ho a; (try dsimp only); omega
  refine set_ok rc r2 r1' g2.fh e4 (fun a => by have := g4.one a; (try dsimp only at this); omega) fun a u O' eva oa le r' => ?_
  have or0 : Or a = 0 := by have := g4.one a; (try dsimp only at this); omega
  obtain ⟨g5, p5⟩ := upd_step (D := a) (u := u) g4 (by (try dsimp only); omega)
  have s5 := (sr.upd (u := u) or0).put ev r'
  exact q σ F2 _ _ s5 (g5.le fun b => by have := le b; (try dsimp only); omega) (((p1.trans p3).le (O'' := fun a => Or a + (Oc a + Od a)) fun b => by have := ho b; (try dsimp only); omega).trans p5 |>.le fun b => by have := le b; (try dsimp only); omega) Keep.refl
theorem mut_sem {m : Mu} {i : Nat} {as : Os} (h : tS K kp (iS Fn G (.mut m i as)) D σ H) : tDrop (tBM K "list" (rMu m) (tVar i) (tOs K Fn G as)) D σ H := by
  obtain ⟨F, B, O, st, f, st', s, g, ee, q⟩ := h
  unfold iS at ee
  split at ee
  · rename_i xs0 e0
    obtain ⟨ds, s1, e1, ee⟩ := bnd_some ee
    split at ee
    · rename_i xs e2
      obtain ⟨ys, e3, e4⟩ := Option.map_eq_some_iff.mp ee
      cases e4
      obtain ⟨v, Oi, Or, ev, r0, _, _⟩ := s.take e0
      obtain ⟨a, vs0, O0, rfl, _, ha0, _⟩ := own_inv r0
      refine ⟨.ref a, ev, .inl ⟨rfl, _, .inl (.inl ha0)⟩, ?_⟩
      refine tXs_ok (K := K) as s g e1 fun ws F1 H1 O1 Od h1 rd g1 p1 => ?_
      obtain ⟨v', Oi1, Or1, ev', r1, sr1, ho1⟩ := h1.take e2
      rw [ev] at ev'
      cases ev'
      obtain ⟨a', vs, Ox, ea, rs, ha, hx⟩ := own_inv r1
      cases ea
      refine mu_ok rs ha rd e3 fun us O' r' le => ?_
      have g2 : Good F1 B H1 (fun b => Or1 b + (O' b + sing a b)) := g1.le fun b => by have := ho1 b; have := hx b; have := le b; (try dsimp only); omega
      obtain ⟨s3, g3, p3⟩ := own_write sr1 ev r' g2
      exact q σ F1 _ _ s3 g3 ((p1.le (O'' := fun b => Or1 b + (O' b + sing a b)) fun b => by have := ho1 b; have := hx b; have := le b; (try dsimp only); omega).trans p3) Keep.refl
    · cases ee
  · cases ee
/-- an item of a list held alone in a slot -/
theorem item2_inv {F B : Hp} {O : Cnt} {st : DSt} {i : Nat} {p : Qo} {xs : List DL.D} {j : Nat} {c : DL.D} (s : SRep K F B H st σ O) (g : Good F B H O) (e : item2 st i p = some (xs, j, c)) :
    ∃ (a : Addr) (v : V) (Or Oq Oj : Cnt), σ[i]? = some (some (.ref a)) ∧ 1 ≤ O a ∧ Oj a = 0 ∧ Rep K F B H c v Oj ∧ (∀ b, O b = Or b + Oj b) ∧
      (∀ Q : VK, Q v H → tQ K (.ix (.v i) p) σ H Q) ∧
      ∀ {H' : Hp} {c' : DL.D} {Oj' : Cnt}, (∀ b u, 1 ≤ Or b → H b = some u → H' b = some u) → Rep K F B H' c' v Oj' → SRep K F B H' (st.set i (some (.lst .own (xs.set j c')))) σ (fun b => Or b + Oj' b) := by
  unfold item2 at e
  split at e
  · rename_i xs' k e1 e2
    obtain ⟨j', ej, e⟩ := Option.bind_eq_some_iff.mp e
    obtain ⟨c', ec, e⟩ := Option.map_eq_some_iff.mp e
    cases e
    obtain ⟨v0, Oi, Or, ev, r, sr, ho⟩ := s.take e1
    obtain ⟨a, vs, O1, rfl, rs, ha, hx⟩ := own_inv r
    obtain ⟨w, Oj, Oq, ew, rw', hq, back⟩ := rs.focus ec
    have sa := sing_self (a := a)
    have o1 := g.one a
    have ha1 := ho a
    have ha2 := hx a
    have ha3 := hq a
    refine ⟨a, w, fun b => Or b + (Oq b + sing a b), Oq, Oj, ev, by omega, by omega, rw', fun b => by have := ho b; have := hx b; have := hq b; (try dsimp only); omega, fun Q hQ => ?_, fun {H' c' Oj'} hH r' => ?_⟩
    · refine ⟨.ref a, ev, ?_⟩
      refine tQ_ok p s g e2 fun kv hkv => ?_
      obtain ⟨_, rk, _⟩ := hkv
      rw [int_inv rk]
      refine .inl ⟨a, vs, k, w, rfl, rfl, .inl (.inl ha), ?_, hQ⟩
      unfold atI
      rw [rs.length, ej]
      exact ew
    · have b1 := back (H' := H') (c' := c') (Oj' := Oj') (fun b u z q => hH b u (by (try dsimp only); omega) q) r'
      have s1 : SRep K F B H' (st.set i none) σ Or := sr.mono (Same.refl _) (Same.refl _) fun b u z q => hH b u (by (try dsimp only); omega) q
      refine (s1.put (d := .lst .own (xs.set j c')) ev (Oi := fun b => (Oq b + Oj' b) + sing a b) ?_).congr fun b => by (try dsimp only); omega
      unfold Rep
      exact ⟨a, vs, _, rfl, b1, .inl ⟨hH a _ (by (try dsimp only); omega) ha, fun b => rfl⟩⟩
  · cases e
theorem setI2_sem {i : Nat} {p k : Qo} {e : CE} (h : tS K kp (iS Fn G (.setI2 i p k e)) D σ H) : tAsg (tE K (iE Fn G e)) (gSub (tQ K (.ix (.v i) p)) (tQ K k) (rSet K)) D σ H := by
  obtain ⟨F, B, O, st, f, st', s, g, ee, q⟩ := h
  unfold iS at ee
  obtain ⟨d, s1, e1, ee⟩ := bnd_some ee
  split at ee
  · rename_i xs j c kd e2 e3
    obtain ⟨c', e4, e5⟩ := Option.map_eq_some_iff.mp ee
    cases e5
    refine ⟨F, B, O, st, d, s1, s, g, e1, fun w F1 H1 O1 Od h1 r1 g1 p1 => ?_⟩
    have g0 : Good F1 B H1 O1 := g1.le fun a => by (try dsimp only); omega
    obtain ⟨a, v, Or, Oq, Oj, ev, oa, oj, rc, ho, rd, back⟩ := item2_inv h1 g0 e2
    refine rd _ ?_
    refine tQ_ok k h1 g0 e3 fun kv hkv => ?_
    obtain ⟨Ok, rk, _⟩ := hkv
    refine set_ok rc rk r1 g1.fh e4 (fun b => by have := g1.one b; have := ho b; (try dsimp only at *); omega) fun a2 u O' eva oa2 le r' => ?_
    have z := g1.one a2
    have z2 := ho a2
    (try dsimp only at z)
    obtain ⟨g5, p5⟩ := upd_step (D := a2) (u := u) g1 (by (try dsimp only); omega)
    have s5 := back (fun b x hb q => by rw [upd_ne (fun t => by rw [t] at hb; omega)]; exact q) r'
    exact q σ F1 _ _ s5 (g5.le fun b => by have := le b; have := ho b; (try dsimp only); omega) ((p1.trans p5).le fun b => by have := le b; have := ho b; (try dsimp only); omega) Keep.refl
  · cases ee
theorem iX_quiet : ∀ (as : Os) {s s' : DSt} {ds : List DL.D}, quietO as = true → iX Fn G as s = some (ds, s') → s' = s
  | .nil, s, s', ds, _, e => by cases (show some ([], s) = some (ds, s') from e); rfl
  | .e _ _, _, _, _, h, _ => by cases h
  | .l _ _, _, _, _, h, _ => by cases h
  | .v _ _, _, _, _, _, e => by cases (show none = some _ from e)
  | .q o r, s, s', ds, h, e => by
    unfold iX at e
    split at e
    · split at e
      · obtain ⟨ds1, st1, e1, e2⟩ := bnd_some e
        cases e2
        exact iX_quiet r (show quietO r = true from h) e1
      · cases e
    · cases e
theorem tX_quiet {F B : Hp} {O : Cnt} : ∀ (as : Os) {st st' : DSt} {ds : List DL.D} {Q : List V → Hp → Prop}, quietO as = true → SRep K F B H st σ O → Good F B H O → iX Fn G as st = some (ds, st') → (∀ vs, Reps K F B H ds vs (fun _ => 0) → Q vs H) → tOs K Fn G as σ H Q
  | .nil, st, st', ds, Q, _, s, g, e, q => by
    cases (show some ([], st) = some (ds, st') from e)
    exact q [] Reps.nilR
  | .e _ _, _, _, _, _, h, _, _, _, _ => by cases h
  | .l _ _, _, _, _, _, h, _, _, _, _ => by cases h
  | .v _ _, _, _, _, _, _, _, _, e, _ => by cases (show none = some _ from e)
  | .q o r, st, st', ds, Q, h, s, g, e, q => by
    unfold iX at e
    split at e
    · rename_i d e3
      split at e
      · rename_i hc
        obtain ⟨ds1, st1, e1, e2⟩ := bnd_some e
        cases e2
        refine tQ_ok o s g e3 fun v hv => ?_
        refine tX_quiet r (show quietO r = true from h) s g e1 fun vs hr => q _ ?_
        unfold Reps
        exact ⟨v, vs, fun _ => 0, fun _ => 0, rfl, hv.zero hc, hr, fun _ => rfl⟩
      · cases e
    · cases e
theorem mut2_sem {m : Mu} {i : Nat} {p : Qo} {as : Os} (h : tS K kp (iS Fn G (.mut2 m i p as)) D σ H) : tDrop (tBM K "list" (rMu m) (tQ K (.ix (.v i) p)) (tOs K Fn G as)) D σ H := by
  obtain ⟨F, B, O, st, f, st', s, g, ee, q⟩ := h
  unfold iS at ee
  split at ee
  · rename_i hq
    obtain ⟨ds, s1, e1, ee2⟩ := bnd_some ee
    have es := iX_quiet as hq e1
    subst es
    clear ee
    split at ee2
    · rename_i xs j ys e2
      obtain ⟨zs, e3, e4⟩ := Option.map_eq_some_iff.mp ee2
      cases e4
      obtain ⟨a, v, Or, Oq, Oj, ev, oa, oj, rc, ho, rd, back⟩ := item2_inv s g e2
      obtain ⟨b, vs, Ox, rfl, rs, hb, hx⟩ := own_inv rc
      refine rd _ ⟨.inl ⟨rfl, _, .inl (.inl hb)⟩, ?_⟩
      refine tX_quiet as hq s g e1 fun ws rw' => ?_
      refine mu_ok rs hb rw' e3 fun us O' r' le => ?_
      have sb := sing_self (a := b)
      have z := g.one b
      have z2 := ho b
      have z3 := hx b
      have z4 := le b
      obtain ⟨g5, p5⟩ := upd_step (D := b) (u := .lst us) g (by omega)
      have rn : Rep K F B (upd H b (.lst us)) (.lst .own zs) (.ref b) (fun c => O' c + sing b c) := by
        unfold Rep
        exact ⟨b, us, O', rfl, r'.upd (by omega), .inl ⟨upd_same, fun c => rfl⟩⟩
      have s5 := back (fun c x hc q => by rw [upd_ne (fun t => by rw [t] at hc; omega)]; exact q) rn
      exact q σ F _ _ s5 (g5.le fun c => by have := le c; have := ho c; have := hx c; (try dsimp only); omega) (p5.le fun c => by have := le c; have := ho c; have := hx c; (try dsimp only); omega) Keep.refl
    · cases ee2
  · cases ee
/-- loops -/
theorem while_sem {n : Nat} {c : CE} {body : List CS} (h : tS K kp (iS Fn G (.while n c body)) D σ H) : tWhile (tT K (mB (iE Fn G c))) (tS K kp (iSs Fn G body)) D σ H := by
  obtain ⟨F, B, O, st, f, st', s, g, ee, q⟩ := h
  unfold iS at ee
  refine ⟨fun m σ1 H1 => ∃ F1 O1 s1, SRep K F1 B H1 s1 σ1 O1 ∧ Good F1 B H1 O1 ∧ Step F H O F1 H1 O1 ∧ Keep kp σ σ1 ∧ loopW (iE Fn G c) (iSs Fn G body) m s1 = some (f, st'), ⟨n, F, O, st, s, g, Step.refl fun _ => Nat.le_refl _, Keep.refl, ee⟩, ?_⟩
  rintro m σ1 H1 ⟨F1, O1, s1, h1, g1, p1, k1, e1⟩
  cases m with
  | zero => unfold loopW at e1; cases e1
  | succ m =>
    unfold loopW at e1
    obtain ⟨d, s2, e2, e3⟩ := bnd_some e1
    obtain ⟨b, rfl, e4⟩ := onB_some e3
    refine ⟨F1, B, O1, s1, b, s2, h1, g1, mB_of e2, fun F2 H2 O2 h2 g2 p2 => ?_⟩
    cases b with
    | true =>
      rw [if_pos rfl] at e4 ⊢
      obtain ⟨f3, s3, e5, e6⟩ := bnd_some e4
      refine ⟨fun σ' H' => ∃ F1 O1 s1, SRep K F1 B H' s1 σ' O1 ∧ Good F1 B H' O1 ∧ Step F H O F1 H' O1 ∧ Keep kp σ σ' ∧ loopW (iE Fn G c) (iSs Fn G body) m s1 = some (f, st'), fun σ' H' hh => ⟨m, Nat.lt_succ_self m, hh⟩, ?_⟩
      cases f3 with
      | nx => exact ⟨F2, B, O2, s2, .nx, s3, h2, g2, e5, fun σ' F' H' O' h' g' p' k' => ⟨F', O', s3, h', g', (p1.trans p2).trans p', k1.trans k', e6⟩⟩
      | rt d =>
        dsimp only at e6
        cases e6
        exact ⟨F2, B, O2, s2, .rt d, _, h2, g2, e5, (q.pre (p1.trans p2) k1)⟩
    | false =>
      rw [if_neg (by decide)] at e4 ⊢
      cases e4
      exact q σ1 F2 H2 O2 h2 g2 (p1.trans p2) k1
theorem for_sem {t : Tg} {tg : Expr} {it : It} {body : List CS} {kp' : Nat → Bool} (hk : ckT S kp' t tg = true) (h1k : ∀ i, kp i = true → kp' i = true) (h2k : ∀ i, it = .s i → kp' i = true)
    (h : tS K kp (iS Fn G (.for t it body)) D σ H) : tFor (tI K Fn G it) (gT K t) (tS K kp' (iSs Fn G body)) D σ H := by
  obtain ⟨F, B, O, st, f, st', s, g, ee, q⟩ := h
  unfold iS at ee
  obtain ⟨xs, s1, e1, ee⟩ := bnd_some ee
  obtain ⟨f2, s2, e2, e3⟩ := bnd_some ee
  have hst : f = f2 ∧ st' = endT it st s2 := by
    cases f2 with
    | nx => dsimp only at e3; cases e3; exact ⟨rfl, rfl⟩
    | rt d => dsimp only at e3; cases e3; exact ⟨rfl, rfl⟩
  obtain ⟨rfl, rfl⟩ := hst
  clear e3
  refine tI_ok it s g e1 fun J F1 H1 O1 E ss1 g1 p1 al wk bk => ?_
  have kk : ∀ {σ1 : L2.St}, Keep kp' σ σ1 → Keep kp σ σ1 := fun k i hi => k i (h1k i hi)
  refine ⟨fun i m σc Hc => m + i = xs.length ∧ ∃ F' O' sc, SRep K F' B Hc sc σc O' ∧ Good F' B Hc (fun a => O' a + E a) ∧ Step F1 H1 (fun a => O1 a + E a) F' Hc (fun a => O' a + E a) ∧ (∀ a u, 1 ≤ E a → H1 a = some u → Hc a = some u) ∧ Keep kp' σ σc ∧
      loopF t (iSs Fn G body) (xs.drop i) sc = some (f, s2), ⟨xs.length, rfl, F1, O1, s1, ss1, g1, Step.refl fun _ => Nat.le_refl _, fun a u _ q => q, Keep.refl, e2⟩, ?_⟩
  rintro i m σc Hc ⟨hm, F', O', sc, hs, hg, hp, hE, hkp, he⟩
  obtain ⟨k1, k2⟩ := wk i F' Hc hp.mono hg.fh hg.bh hE
  by_cases hi : i < xs.length
  · obtain ⟨k3, k4⟩ := k1 xs[i] (List.getElem?_eq_getElem hi)
    rw [List.drop_eq_getElem_cons hi] at he
    unfold loopF at he
    split at he
    · cases he
    rename_i sa ea
    obtain ⟨f3, sb, eb, he2⟩ := bnd_some he
    refine .inr ⟨k3, fun σ' H' => (m - 1) + (i + 1) = xs.length ∧ ∃ F' O' sc, SRep K F' B H' sc σ' O' ∧ Good F' B H' (fun a => O' a + E a) ∧ Step F1 H1 (fun a => O1 a + E a) F' H' (fun a => O' a + E a) ∧ (∀ a u, 1 ≤ E a → H1 a = some u → H' a = some u) ∧ Keep kp' σ σ' ∧
      loopF t (iSs Fn G body) (xs.drop (i + 1)) sc = some (f, s2), fun σ' H' n => ⟨m - 1, by omega, n⟩, fun x H2 hy => ?_⟩
    obtain ⟨F2, rx, ex⟩ := k4 x H2 hy
    have alc : Alone (fun a => O' a + E a) Hc := fun a h => by
      by_cases z : 1 ≤ E a
      · obtain ⟨u, e3, mu⟩ := al a z
        exact ⟨u, hE a u z e3, mu⟩
      · exact hs.trk a (by (try dsimp only at h); omega)
    obtain ⟨g3, p3⟩ := ex.step hg alc (K := K)
    refine asg_ok (K := K) (F := F2) (B := B) (H := H2) t hk (hs.ext ex) rx ex.fh ea fun σ2 O3 h3 le3 kp3 => ?_
    have al2 : Alone E H2 := fun a h => by
      obtain ⟨u, e3, mu⟩ := alc a (by (try dsimp only); omega)
      exact ⟨u, ex.hh a u e3, mu⟩
    have g3' : Good F2 B H2 (fun a => O3 a + E a) := g3.le fun a => by have := le3 a; (try dsimp only); omega
    have hp3 : Step F1 H1 (fun a => O1 a + E a) F2 H2 (fun a => O3 a + E a) := hp.trans (p3.le fun a => by have := le3 a; (try dsimp only); omega)
    refine ⟨F2, B, O3, sa, f3, sb, h3, g3'.le fun a => by (try dsimp only); omega, eb, ?_⟩
    cases f3 with
    | nx =>
      intro σ4 F4 H4 O4 h4 g4 p4 k4
      obtain ⟨g5, p5, fr5⟩ := p4.frame g3' g4 al2
      exact ⟨by omega, F4, O4, sb, h4, g5, hp3.trans p5, fun a u z q => fr5 a u z (ex.hh a u (hE a u z q)), (hkp.trans kp3).trans k4, he2⟩
    | rt d =>
      dsimp only at he2
      cases he2
      intro v σ4 F4 H4 O4 Od h4 r4 g4 p4 k4
      obtain ⟨g5, p5, fr5⟩ := p4.frame g3' g4 al2
      have kall := (hkp.trans kp3).trans k4
      obtain ⟨O5, h5, l5⟩ := h4.ends bk (hp3.mono.trans p4.mono) (fun a u z q => fr5 a u z (ex.hh a u (hE a u z q))) (fun j ej => kall j (h2k j ej))
      exact q v σ4 F4 H4 O5 Od h5 r4 (g5.le fun a => by have := l5 a; (try dsimp only); omega) ((p1.trans (hp3.trans p5)).le fun a => by have := l5 a; (try dsimp only); omega) (kk kall)
  · refine .inl ⟨k2 (by omega), ?_⟩
    rw [List.drop_of_length_le (by omega)] at he
    have he : some (Fl.nx, sc) = some (f, s2) := by unfold loopF at he; exact he
    cases he
    obtain ⟨O5, h5, l5⟩ := hs.ends bk hp.mono hE (fun j ej => hkp j (h2k j ej))
    exact q σc F' Hc O5 h5 (hg.le fun a => by have := l5 a; (try dsimp only); omega) ((p1.trans hp).le fun a => by have := l5 a; (try dsimp only); omega) (kk hkp)
end
end DL
set_option Elab.async false
set_option linter.all false
set_option maxRecDepth 100000
/-! DL13: the checker of statements; defs; whole programs. -/
namespace DL
open PySem PySem.Spec PyProof.Rows L2

theorem par_sw {env : Env} {x y : Str} {px py pt pt2 : Pos} {k k2 : Nat} {a b : Expr} (hk : env.scope.kind = .function) (hx : env.kindOf x = some .local) (hy : env.kindOf y = some .local) (hl : py.line = px.line) (hxy : x ≠ y)
    (na : noStar a = true) (nb : noStar b = true) (hf : [a, b].all (foldedForSure 8) = false) (hc : [a, b].all (constantsAlone 8) = false) :
    swappedStores [.Tuple [.Name x px, .Name y py] k pt] (.Tuple [a, b] k2 pt2) env = pure (some [x, y]) := by
  have hb : env.blockKind = .function := by unfold Env.blockKind; rw [hk]; rfl
  have hs : ([a, b].any fun | .Starred .. => true | _ => false) = false := by
    cases a <;> (first | cases na | skip) <;> cases b <;> (first | cases nb | skip) <;> rfl
  have hxy' : (x == y) = false := by simpa using hxy
  have hyx' : (y == x) = false := by simpa using fun e => hxy e.symm
  unfold swappedStores
  simp only [hb, hs, hf, hc, hx, hy, List.filterMap_cons, List.filterMap_nil, List.head?_cons, Option.map_some, Option.getD_some, Expr.pos, hl, beq_self_eq_true, Bool.and_self, if_true, List.length_cons, List.length_nil]
  simp [List.eraseDups_cons, hxy, hyx', hxy', Ne.symm hxy]
  intro hh
  exfalso
  rcases hh with hh | hh
  · cases a <;> (first | (cases hh; done) | (cases na; done))
  · cases b <;> (first | (cases hh; done) | (cases nb; done))

def noComp : Expr → Bool
  | .ListComp _ _ _ _ => false
  | .SetComp _ _ _ _ => false
  | .DictComp _ _ _ _ _ => false
  | _ => true
theorem sw_none {e : Expr} {t : Option Expr} {l : Nat} {env : Env} (h : noComp e = true) : swapsWith e t l env = pure false := by
  cases e <;> first | rfl | cases h
theorem sw_sub {e o i : Expr} {p : Pos} {l : Nat} {env : Env} : swapsWith e (some (.Subscript o i p)) l env = pure false := by
  cases e <;> rfl
def noTup : Expr → Bool
  | .Tuple _ _ _ => false
  | .List _ _ => false
  | _ => true
theorem sst_none {tg e : Expr} {env : Env} (h : noTup tg = true ∨ noTup e = true) : swappedStores [tg] e env = pure none := by
  rcases h with h | h
  · cases tg <;> first | rfl | cases h | (cases e <;> rfl)
  · cases tg <;> first | rfl | (cases e <;> first | rfl | cases h)
theorem sw_cell {elt : Expr} {gs : List Comprehension} {scope : Scope} {pos py : Pos} {y : Str} {l : Nat} {env : Env} (hy : env.scope.names.lookup y = some .cell) : swapsWith (.ListComp elt gs scope pos) (some (.Name y py)) l env = pure false := by
  have ky : env.kindOf y = some .cell := hy
  unfold swapsWith
  simp only [ky]
  have e : ((some NameKind.cell : Option NameKind) == some .local) = false := by decide
  rw [e, Bool.and_false, Bool.false_and, Bool.false_and]
def asgOk (S : Sc) (tg v : Expr) : Bool := match v with
  | .ListComp _ [⟨_, _, _, 0⟩] scope cpos => (match tg with
    | .Name y py => (match S.sc.names.lookup y with
      | some .local => py.line == cpos.line && !(scope.names.any fun (n, k) => n == y && (k == .local || k == .cell))
      | some .cell => true
      | _ => false)
    | _ => false)
  | _ => noComp v && (noTup tg || noTup v)
def muName : Mu → Str × Nat
  | .append => ("append", 1)
  | .insert => ("insert", 2)
  | .extend => ("extend", 1)
  | .clear => ("clear", 0)
  | .reverse => ("reverse", 0)
def itIs : It → Nat → Bool
  | .s i, j => i == j
  | _, _ => false
mutual
def ckS (S : Sc) (kp : Nat → Bool) : CS → Stmt → Bool
  | .asg t e, s => (match s with
    | .Assign [tg] v _ => ckT S kp t tg && ckE S e v && asgOk S tg v
    | _ => false)
  | .par i j as, s => (match s with
    | .Assign [.Tuple [.Name x px, .Name y py] _ _] (.Tuple [a, b] _ _) _ => decide (S.N[i]? = some x) && decide (S.N[j]? = some y) && decide (i ≠ j) && decide (S.sc.names.lookup x = some .local) && decide (S.sc.names.lookup y = some .local) &&
        !kp i && !kp j && decide (py.line = px.line) && decide (x ≠ y) && noStar a && noStar b && !([a, b].all (foldedForSure 8)) && !([a, b].all (constantsAlone 8)) && ckL S as [a, b]
    | _ => false)
  | .setI i k e, s => (match s with
    | .Assign [.Subscript (.Name x _) ke _] v _ => isVar S i x && plainIx ke && ckE S k ke && ckE S e v
    | _ => false)
  | .setI2 i p k e, s => (match s with
    | .Assign [.Subscript o ke _] v _ => plainIx ke && ckQ S (.ix (.v i) p) o && ckQ S k ke && ckE S e v
    | _ => false)
  | .mut m i as, s => (match s with
    | .Expr (.Call (.Attribute (.Name x _) nm apos) es [] cpos) _ => isVar S i x && decide (nm = (muName m).1) && (apos.endLine == cpos.line) && decide (es.length = (muName m).2) && ckL S as es
    | _ => false)
  | .mut2 m i p as, s => (match s with
    | .Expr (.Call (.Attribute o nm apos) es [] cpos) _ => ckQ S (.ix (.v i) p) o && decide (nm = (muName m).1) && (apos.endLine == cpos.line) && decide (es.length = (muName m).2) && ckL S as es
    | _ => false)
  | .expr e, s => (match s with
    | .Expr v _ => noComp v && ckE S e v
    | _ => false)
  | .ite c a b, s => (match s with
    | .If t x y _ => ckE S c t && ckSs S kp a x && ckSs S kp b y
    | _ => false)
  | .for t it body, s => (match s with
    | .For tg iter b [] _ => ckT S (fun j => kp j || itIs it j) t tg && ckI S it tg iter && ckSs S (fun j => kp j || itIs it j) body b
    | _ => false)
  | .while _ c body, s => (match s with
    | .While t b [] _ => ckE S c t && ckSs S kp body b
    | _ => false)
  | .ret e, s => (match s with
    | .Return (some v) _ => ckE S e v
    | _ => false)
  | .retN, s => (match s with
    | .Return none _ => true
    | _ => false)
  | .pass, s => (match s with
    | .Pass _ => true
    | _ => false)
  | .never, _ => true
def ckSs (S : Sc) (kp : Nat → Bool) : List CS → List Stmt → Bool
  | [], [] => true
  | c :: r, s :: ss => ckS S kp c s && ckSs S kp r ss
  | _, _ => false
end
section
variable {Fn : FT} {G : Str → Option D}
/-- a comprehension's parts -/
theorem comp_parts {X : Cx} {S : Sc} {n : Nat} {w : List Nat} {t : Tg} {it : It} {c e : CE} {elt tg iter : Expr} {ifs : List Expr} {scope : Scope} {pos : Pos} (h : ckE S (.comp w t it c e) (.ListComp elt [⟨tg, iter, ifs, 0⟩] scope pos) = true) (ok : XOk X S n Fn G) {i : Nat} {y : Str} {py spos : Pos}
    (hy : X.N[i]? = some y) (hyl : X.env.scope.names.lookup y = some .local) (hsw : swapsWith (.ListComp elt [⟨tg, iter, ifs, 0⟩] scope pos) (some (.Name y py)) spos.line X.env = pure true) :
    PS X (.Assign [.Name y py] (.ListComp elt [⟨tg, iter, ifs, 0⟩] scope pos) spos) (tAsg (tE X.K (iE Fn G (.comp w t it c e))) (gName i)) := by
  unfold ckE at h
  obtain ⟨h, h5⟩ := strip_and h
  obtain ⟨h, h4⟩ := strip_and h
  obtain ⟨h, h3⟩ := strip_and h
  obtain ⟨h1, h2⟩ := strip_and h
  obtain ⟨pi, hs⟩ := ckI_ok it h1 ok
  have bk : BlkOk X.N X.env.scope scope (w.map fun i => ((S.N[i]?).getD (Str.ofString ""), i)) := by
    rw [ok.N, ok.sc]
    exact blkOk_by h2
  have hts : ∀ (s : Shared) (H : Hp) (C : Addr) (cl : List (Str × Addr)) (fp : List Addr), PTs (X.blk s H scope (compEnvC scope cl C X.env) fp) ifs (tT X.K (mB (iE Fn G c))) := by
    intro s H C cl fp
    cases ifs with
    | nil =>
      dsimp only at h4
      split at h4
      · exact ⟨fun pins s σ H Q I q => pts_nil.run pins s σ H Q I (mBtrue q)⟩
      · cases h4
    | cons f r =>
      cases r with
      | nil => exact pts_one (ckE_ok c h4 (ok.blk s H scope C cl fp)).pt
      | cons _ _ => cases h4
  have z := ps_setLc (pos := pos) (spos := spos) (wi := tI X.K Fn G it) (g := gT X.K t) (tt := tT X.K (mB (iE Fn G c))) (te := tE X.K (iE Fn G e)) ok.calm ok.nd hy hyl hsw pi bk
    (fun s H C cl fp => (ckT_ok (ok.blk s H scope C cl fp) t tg h3).1) hts
    (fun s H C cl fp => (ckE_ok e h5 (ok.blk s H scope C cl fp)).pe) hs
  rw [own_map] at z
  exact z.imp fun D σ H q => comp_sem h3 q
theorem asg_ps {X : Cx} {S : Sc} {n : Nat} {kp : Nat → Bool} {t : Tg} {e : CE} {tg v : Expr} {pos : Pos} (ok : XOk X S n Fn G) (h1 : ckT S kp t tg = true) (h2 : ckE S e v = true) (h3 : asgOk S tg v = true) : PS X (.Assign [tg] v pos) (tAsg (tE X.K (iE Fn G e)) (gT X.K t)) := by
  obtain ⟨pg, ns⟩ := ckT_ok ok t tg h1
  have pe := (ckE_ok e h2 ok).pe
  unfold asgOk at h3
  split at h3
  · rename_i elt tgc iter ifs scope cpos
    split at h3
    · rename_i y py
      split at h3
      · rename_i hl
        obtain ⟨q1, q2⟩ := strip_and h3
        have q2 : (scope.names.any fun (n, k) => n == y && (k == .local || k == .cell)) = false := by simpa using q2
        cases t with
        | t gs => unfold ckT at h1; cases h1
        | n i =>
          unfold ckT at h1
          obtain ⟨q3, q4⟩ := strip_and h1
          unfold isTgt at q3
          obtain ⟨q5, _⟩ := strip_and q3
          rw [decide_eq_true_eq] at q5
          have hl' : X.env.scope.names.lookup y = some .local := by rw [ok.sc]; exact hl
          have gte : gT X.K (.n i) = gName i := by unfold gT; rfl
          rw [gte]
          refine ⟨fun pins s σ H D I hq => ?_⟩
          have hsw : swapsWith (.ListComp elt [⟨tgc, iter, ifs, 0⟩] scope cpos) (some (.Name y py)) pos.line X.env = pure true := sw_true I.ok.kind hl' q1 q2
          cases e with
          | comp w t' it c e' => exact (comp_parts (S := S) (n := n) h2 ok (by rw [ok.N]; exact q5) hl' hsw).run pins s σ H D I hq
          | _ => exfalso; unfold ckE at h2; (try unfold isNone at h2); cases h2
      · rename_i hl
        have hl' : X.env.scope.names.lookup y = some .cell := by rw [ok.sc]; exact hl
        exact ps_asg (pos := pos) pe pg (sw_cell (l := pos.line) (env := X.env) hl') (sst_none (.inl rfl)) (by rw [assignEach_cons ns]; rfl)
      · cases h3
    · cases h3
  · obtain ⟨q1, q2⟩ := strip_and h3
    refine ps_asg pe pg (sw_none q1) (sst_none ?_) (by rw [assignEach_cons ns]; rfl)
    rcases Bool.or_eq_true_iff.mp q2 with q | q
    · exact .inl q
    · exact .inr q
/-- a list's method called -/
theorem mu_pe {X : Cx} {m : Mu} {as : Os} {o : Expr} {to : TE} {es : List Expr} {nm : Str} {apos cpos : Pos} (po : PE X o to) (pl : PEL X Fn G as es) (hn : nm = (muName m).1) (hl : (apos.endLine == cpos.line) = true) (he : es.length = (muName m).2) (hb : ∀ nm, attributeBase o nm X.env (eval o X.env) = eval o X.env) :
    PE X (.Call (.Attribute o nm apos) es [] cpos) (tBM X.K "list" (rMu m) to (tOs X.K Fn G as)) := by
  subst hn
  have one : ∀ {a : Expr} {r : V → List V → Hp → VK → Prop} {id : String} {name : Str}, PEL X Fn G as [a] → PlainAttrs "list" → Slot "list" name id → typeOf (.builtin id) = pure (.type "method_descriptor") → MtR X id r → PE X (.Call (.Attribute o name apos) [a] [] cpos) (tBM X.K "list" r to (tOs X.K Fn G as)) := fun {a r id name} pl pa sl ty mt => by
    obtain ⟨ns, an⟩ := pl.ns
    exact pe_bm pa sl ty mt po pl.pa (hb _) (by rw [star_cons ns]; rfl) hl (star_cons ns) (an _)
  have two : ∀ {a b : Expr} {r : V → List V → Hp → VK → Prop} {id : String} {name : Str}, PEL X Fn G as [a, b] → noStar b = true → PlainAttrs "list" → Slot "list" name id → typeOf (.builtin id) = pure (.type "method_descriptor") → MtR X id r → PE X (.Call (.Attribute o name apos) [a, b] [] cpos) (tBM X.K "list" r to (tOs X.K Fn G as)) := fun {a b r id name} pl nb pa sl ty mt => by
    obtain ⟨ns, an⟩ := pl.ns
    exact pe_bm pa sl ty mt po pl.pa (hb _) (by rw [star_cons ns, star_cons nb]; rfl) hl (star_cons ns) (an _)
  have zero : ∀ {r : V → List V → Hp → VK → Prop} {id : String} {name : Str}, PEL X Fn G as [] → PlainAttrs "list" → Slot "list" name id → typeOf (.builtin id) = pure (.type "method_descriptor") → MtR X id r → PE X (.Call (.Attribute o name apos) [] [] cpos) (tBM X.K "list" r to (tOs X.K Fn G as)) := fun {r id name} pl pa sl ty mt => by
    have e : tOs X.K Fn G as = tNil := by
      cases as with
      | nil => rfl
      | e _ _ => obtain ⟨x, es', e, _⟩ := pl; cases e
      | v _ _ => obtain ⟨x, es', e, _⟩ := pl; cases e
      | l _ _ => obtain ⟨x, es', e, _⟩ := pl; cases e
      | q _ _ => obtain ⟨x, es', e, _⟩ := pl; cases e
    rw [e]
    exact pe_bm0 pa sl ty mt po (hb _) hl
  cases m with
  | append =>
    match es, he, pl with
    | [a], _, pl => exact one pl PySem.F.plainAttrs_list PySem.F.slot_list_append PySem.F.type_list_append mt_append
  | extend =>
    match es, he, pl with
    | [a], _, pl => exact one pl PySem.F.plainAttrs_list PySem.F.slot_list_extend PySem.F.type_list_extend mt_extend
  | insert =>
    match es, he, pl with
    | [a, b], _, pl =>
      have nb : noStar b = true := by
        cases as with
        | nil => cases (show [a, b] = [] from pl)
        | e _ r => obtain ⟨x, es', e, _, _, pl⟩ := pl; cases e; exact pl.ns.1
        | v _ r => obtain ⟨x, es', e, _, _, pl⟩ := pl; cases e; exact pl.ns.1
        | l _ r => obtain ⟨x, es', e, _, _, pl⟩ := pl; cases e; exact pl.ns.1
        | q _ r => obtain ⟨x, es', e, _, _, pl⟩ := pl; cases e; exact pl.ns.1
      exact two pl nb PySem.F.plainAttrs_list PySem.F.slot_list_insert PySem.F.type_list_insert mt_insert
  | clear =>
    match es, he, pl with
    | [], _, pl => exact zero pl PySem.F.plainAttrs_list PySem.F.slot_list_clear PySem.F.type_list_clear mt_clear
  | reverse =>
    match es, he, pl with
    | [], _, pl => exact zero pl PySem.F.plainAttrs_list PySem.F.slot_list_reverse PySem.F.type_list_reverse mt_reverse
theorem base_name {x : Str} {p : Pos} {env : Env} (nm : Str) : attributeBase (.Name x p) nm env (eval (.Name x p) env) = eval (.Name x p) env := rfl
theorem base_sub {a b : Expr} {p : Pos} {env : Env} (nm : Str) : attributeBase (.Subscript a b p) nm env (eval (.Subscript a b p) env) = eval (.Subscript a b p) env := rfl
theorem ckQ_sub {S : Sc} {i : Nat} {p : Qo} {o : Expr} (h : ckQ S (.ix (.v i) p) o = true) : ∃ x y q, o = .Subscript x y q := by
  unfold ckQ at h
  split at h
  · exact ⟨_, _, _, rfl⟩
  · cases h
mutual
theorem ckS_ok : ∀ (c : CS) {kp : Nat → Bool} {X : Cx} {S : Sc} {n : Nat} {s : Stmt}, ckS S kp c s = true → XOk X S n Fn G → PS X s (tS X.K kp (iS Fn G c))
  | .asg t e, kp, X, S, n, s, h, ok => by
    unfold ckS at h
    split at h
    · obtain ⟨h, h3⟩ := strip_and h
      obtain ⟨h1, h2⟩ := strip_and h
      exact (asg_ps ok h1 h2 h3).imp fun D σ H q => asg_sem h1 q
    · cases h
  | .par i j as, kp, X, S, n, s, h, ok => by
    unfold ckS at h
    split at h
    · rename_i x px y py k1 p1 a b k2 p2 pos
      obtain ⟨h, h14⟩ := strip_and h
      obtain ⟨h, h13⟩ := strip_and h
      obtain ⟨h, h12⟩ := strip_and h
      obtain ⟨h, h11⟩ := strip_and h
      obtain ⟨h, h10⟩ := strip_and h
      obtain ⟨h, h9⟩ := strip_and h
      obtain ⟨h, h8⟩ := strip_and h
      obtain ⟨h, h7⟩ := strip_and h
      obtain ⟨h, h6⟩ := strip_and h
      obtain ⟨h, h5⟩ := strip_and h
      obtain ⟨h, h4⟩ := strip_and h
      obtain ⟨h, h3⟩ := strip_and h
      obtain ⟨h1, h2⟩ := strip_and h
      simp only [decide_eq_true_eq, Bool.not_eq_true'] at h1 h2 h3 h4 h5 h6 h7 h8 h9 h12 h13
      have hx : X.env.scope.names.lookup x = some .local := by rw [ok.sc]; exact h4
      have hy : X.env.scope.names.lookup y = some .local := by rw [ok.sc]; exact h5
      refine ⟨fun pins s σ H D I hq => ?_⟩
      exact (ps_par ok.calm ok.nd (by rw [ok.N]; exact h1) (by rw [ok.N]; exact h2) h3 hx hy (ckL_ok as h14 ok).pa (par_sw I.ok.kind hx hy h8 h9 h10 h11 h12 h13)).run pins s σ H D I (par_sem h6 h7 hq)
    · cases h
  | .setI i k e, kp, X, S, n, s, h, ok => by
    unfold ckS at h
    split at h
    · rename_i x p1 ke p2 v pos
      obtain ⟨h, h4⟩ := strip_and h
      obtain ⟨h, h3⟩ := strip_and h
      obtain ⟨h1, h2⟩ := strip_and h
      refine (ps_asg (pos := pos) (ckE_ok e h4 ok).pe (pg_sub (ok.var h1) (ckE_ok k h3 ok).pe (pset ok.units) ?_) (sw_sub (l := pos.line) (env := X.env) (o := .Name x p1) (i := ke) (p := p2)) (sst_none (.inl rfl)) rfl).imp fun D σ H q => setI_sem q
      intro w
      cases ke <;> first | rfl | cases h2
    · cases h
  | .setI2 i p k e, kp, X, S, n, s, h, ok => by
    unfold ckS at h
    split at h
    · rename_i o ke p2 v pos
      obtain ⟨h, h4⟩ := strip_and h
      obtain ⟨h, h3⟩ := strip_and h
      obtain ⟨h1, h2⟩ := strip_and h
      refine (ps_asg (pos := pos) (ckE_ok e h4 ok).pe (pg_sub (ckQ_ok ok _ _ h2) (ckQ_ok ok _ _ h3) (pset ok.units) ?_) (sw_sub (l := pos.line) (env := X.env) (o := o) (i := ke) (p := p2)) (sst_none (.inl rfl)) rfl).imp fun D σ H q => setI2_sem q
      intro w
      cases ke <;> first | rfl | cases h1
    · cases h
  | .mut m i as, kp, X, S, n, s, h, ok => by
    unfold ckS at h
    split at h
    · rename_i x p1 nm apos es cpos pos
      obtain ⟨h, h5⟩ := strip_and h
      obtain ⟨h, h4⟩ := strip_and h
      obtain ⟨h, h3⟩ := strip_and h
      obtain ⟨h1, h2⟩ := strip_and h
      rw [decide_eq_true_eq] at h2 h4
      exact (ps_expr (mu_pe (ok.var h1) (ckL_ok as h5 ok) h2 h3 h4 base_name) (sw_none rfl)).imp fun D σ H q => mut_sem q
    · cases h
  | .mut2 m i p as, kp, X, S, n, s, h, ok => by
    unfold ckS at h
    split at h
    · rename_i o nm apos es cpos pos
      obtain ⟨h, h5⟩ := strip_and h
      obtain ⟨h, h4⟩ := strip_and h
      obtain ⟨h, h3⟩ := strip_and h
      obtain ⟨h1, h2⟩ := strip_and h
      rw [decide_eq_true_eq] at h2 h4
      have po := ckQ_ok ok _ _ h1
      obtain ⟨x, y, q, rfl⟩ := ckQ_sub h1
      exact (ps_expr (mu_pe po (ckL_ok as h5 ok) h2 h3 h4 base_sub) (sw_none rfl)).imp fun D σ H q => mut2_sem q
    · cases h
  | .expr e, kp, X, S, n, s, h, ok => by
    unfold ckS at h
    split at h
    · obtain ⟨h1, h2⟩ := strip_and h
      exact (ps_expr (ckE_ok e h2 ok).pe (sw_none h1)).imp fun D σ H q => expr_sem q
    · cases h
  | .ite c a b, kp, X, S, n, s, h, ok => by
    unfold ckS at h
    split at h
    · obtain ⟨h, h3⟩ := strip_and h
      obtain ⟨h1, h2⟩ := strip_and h
      exact (ps_if (ckE_ok c h1 ok).pt (ckSs_ok a h2 ok) (ckSs_ok b h3 ok)).imp fun D σ H q => ite_sem q
    · cases h
  | .for t it body, kp, X, S, n, s, h, ok => by
    unfold ckS at h
    split at h
    · obtain ⟨h, h3⟩ := strip_and h
      obtain ⟨h1, h2⟩ := strip_and h
      obtain ⟨pi, hs⟩ := ckI_ok it h2 ok
      refine (ps_for (by rw [ok.xe0]; exact PassesOwn.never) ok.calm pi (ckT_ok ok t _ h1).1 (ckSs_ok body h3 ok) hs).imp fun D σ H q => for_sem h1 (fun i hi => by simp [hi]) (fun i hi => by subst hi; simp [itIs]) q
    · cases h
  | .while n c body, kp, X, S, m, s, h, ok => by
    unfold ckS at h
    split at h
    · obtain ⟨h1, h2⟩ := strip_and h
      exact (ps_while (by rw [ok.xe0]; exact PassesOwn.never) (ckE_ok c h1 ok).pt (ckSs_ok body h2 ok)).imp fun D σ H q => while_sem q
    · cases h
  | .ret e, kp, X, S, n, s, h, ok => by
    unfold ckS at h
    split at h
    · exact (ps_ret (ckE_ok e h ok).pe).imp fun D σ H q => ret_sem q
    · cases h
  | .retN, kp, X, S, n, s, h, ok => by
    unfold ckS at h
    split at h
    · exact ps_retN.imp fun D σ H q => retN_sem q
    · cases h
  | .pass, kp, X, S, n, s, h, ok => by
    unfold ckS at h
    split at h
    · exact ps_pass.imp fun D σ H q => pass_sem q
    · cases h
  | .never, kp, X, S, n, s, h, ok => ps_never.imp fun D σ H q => never_sem q
theorem ckSs_ok : ∀ (c : List CS) {kp : Nat → Bool} {X : Cx} {S : Sc} {n : Nat} {s : List Stmt}, ckSs S kp c s = true → XOk X S n Fn G → PSs X s (tS X.K kp (iSs Fn G c))
  | [], kp, X, S, n, s, h, ok => by
    cases s with
    | nil => exact pss_nil.imp fun D σ H q => nil_sem q
    | cons _ _ => unfold ckSs at h; cases h
  | c :: r, kp, X, S, n, s, h, ok => by
    cases s with
    | nil => unfold ckSs at h; cases h
    | cons s ss =>
      unfold ckSs at h
      obtain ⟨h1, h2⟩ := strip_and h
      exact (pss_cons (ckS_ok c h1 ok) (ckSs_ok r h2 ok)).imp fun D σ H q => cons_sem q
end
end
end DL
set_option Elab.async false
set_option linter.all false
set_option maxRecDepth 100000
/-! DL14: defs and the whole program. -/
namespace DL
open PySem PySem.Spec PyProof.Rows L2

def ckF (fd : FD) (N ps : List Str) (st : Stmt) : Bool :=
  decide (fd.np = ps.length) && decide (fd.ns = N.length) && decide (fd.keep.length ≤ ps.length) && ckSs ⟨N, defScope st, fun _ => true⟩ (fun i => fd.keep.getD i false) fd.body (defBody st)
def scB (N P : List Str) (sc : Scope) : Bool :=
  decide (sc.kind = .function) && !sc.isCoroutine && !sc.isGenerator && decide N.Nodup && decide (N.take P.length = P) && P.all (fun x => decide (sc.names.lookup x = some .local) || decide (sc.names.lookup x = some .cell)) && sc.names.all (fun y => !decide (y.2 = .free))
theorem scope_by {N P : List Str} {sc : Scope} (h : scB N P sc = true) : FnScope N P sc := by
  unfold scB at h
  simp only [Bool.and_eq_true, Bool.not_eq_true', decide_eq_true_eq, List.all_eq_true, Bool.or_eq_true, decide_eq_false_iff_not] at h
  obtain ⟨⟨⟨⟨⟨⟨h1, h2⟩, h3⟩, h4⟩, h5⟩, h6⟩, h7⟩ := h
  exact ⟨h1, h2, h3, h4, h5, h6, h7⟩
section
variable {K : PySem.W.Frag} {F B H : Hp}
theorem reps_len : ∀ {ds : List D} {vs : List V} {O : Cnt}, Reps K F B H ds vs O → vs.length = ds.length
  | [], _, _, h => by unfold Reps at h; obtain ⟨rfl, _⟩ := h; rfl
  | _ :: _, _, _, h => by
    unfold Reps at h
    obtain ⟨v, vs', O1, O2, rfl, _, h, _⟩ := h
    simp [reps_len h]
theorem srep_nones : ∀ (k : Nat), SRep K F B H (List.replicate k none) (List.replicate k none) (fun _ => 0)
  | 0 => by unfold List.replicate SRep; exact ⟨rfl, fun _ => rfl⟩
  | k + 1 => by rw [List.replicate_succ, List.replicate_succ]; unfold SRep; exact ⟨none, _, rfl, srep_nones k⟩
theorem srep_zero_le {s : DSt} {σ : L2.St} {O O' : Cnt} (h : SRep K F B H s σ O) (e : ∀ a, O a = O' a) : SRep K F B H s σ O' := by
  have : O = O' := funext e
  rw [← this]; exact h
theorem srep_start (k : Nat) : ∀ {ds : List D} {vs : List V} {O : Cnt}, Reps K F B H ds vs O → SRep K F B H (ds.map some ++ List.replicate k none) (vs.map some ++ List.replicate k none) O
  | [], _, _, h => by
    unfold Reps at h
    obtain ⟨rfl, h⟩ := h
    exact srep_zero_le (srep_nones k) fun a => (h a).symm
  | d :: ds, _, _, h => by
    unfold Reps at h
    obtain ⟨v, vs', O1, O2, rfl, r, h, ho⟩ := h
    show SRep K F B H (some d :: (ds.map some ++ List.replicate k none)) (some v :: (vs'.map some ++ List.replicate k none)) _
    unfold SRep
    exact ⟨v, _, O1, O2, rfl, r, srep_start k h, ho⟩
theorem outs_ok : ∀ (keep : List Bool) {s : DSt} {σ : L2.St} {O : Cnt} {vs : List V}, SRep K F B H s σ O → keep.length ≤ vs.length → (∀ i, keep.getD i false = true → σ[i]? = vs[i]?.map some) →
    ∃ Oo, (∀ B2, ORep K F B2 H (outsOf keep s) vs Oo) ∧ ∀ a, Oo a ≤ O a
  | [], s, σ, O, vs, h, l, q => ⟨fun _ => 0, fun B2 => by unfold outsOf ORep; exact fun _ => rfl, fun _ => Nat.zero_le _⟩
  | k :: ks, [], σ, O, vs, h, l, q => by
    cases vs with
    | nil => simp at l
    | cons v vs =>
      unfold SRep at h
      obtain ⟨rfl, h⟩ := h
      obtain ⟨Oo, r, le⟩ := outs_ok ks (s := []) (σ := []) (O := O) (vs := vs) (by unfold SRep; exact ⟨rfl, h⟩) (by simpa using l) fun i hi => by
        have := q (i + 1) (by simpa using hi)
        simpa using this
      exact ⟨Oo, fun B2 => by unfold outsOf ORep; exact ⟨v, vs, rfl, r B2⟩, le⟩
  | k :: ks, o :: s, σ, O, vs, h, l, q => by
    cases vs with
    | nil => simp at l
    | cons v vs =>
      cases o with
      | none =>
        unfold SRep at h
        obtain ⟨x, σ', rfl, h⟩ := h
        obtain ⟨Oo, r, le⟩ := outs_ok ks (vs := vs) h (by simpa using l) fun i hi => by
          have := q (i + 1) (by simpa using hi)
          simpa using this
        refine ⟨Oo, fun B2 => ?_, le⟩
        unfold outsOf
        have e : (if k = true then (none : Option D).bind (fun d => if d.nobor = true then some d else none) else none) = none := by split <;> rfl
        rw [e]
        unfold ORep
        exact ⟨v, vs, rfl, r B2⟩
      | some d =>
        unfold SRep at h
        obtain ⟨w, σ', O1, O2, rfl, rd, h, ho⟩ := h
        obtain ⟨Oo, r, le⟩ := outs_ok ks (vs := vs) h (by simpa using l) fun i hi => by
          have := q (i + 1) (by simpa using hi)
          simpa using this
        unfold outsOf
        by_cases hk : k = true ∧ d.nobor = true
        · have e : (if k = true then (some d : Option D).bind (fun d => if d.nobor = true then some d else none) else none) = some d := by
            rw [if_pos hk.1]; show (if _ then _ else _) = _; rw [if_pos hk.2]
          have q0 := q 0 (by simp [hk.1])
          have : w = v := by simpa using q0
          subst this
          rw [e]
          refine ⟨fun a => O1 a + Oo a, fun B2 => ?_, fun a => by have := le a; have := ho a; (try dsimp only); omega⟩
          unfold ORep
          exact ⟨w, vs, O1, Oo, rfl, Rep.nobor (fun _ _ z => z) _ _ _ rd hk.2, r B2, fun _ => rfl⟩
        · have e : (if k = true then (some d : Option D).bind (fun d => if d.nobor = true then some d else none) else none) = none := by
            by_cases k1 : k = true
            · rw [if_pos k1]; show (if _ then _ else _) = _; rw [if_neg fun z => hk ⟨k1, z⟩]
            · rw [if_neg k1]
          rw [e]
          refine ⟨Oo, fun B2 => ?_, fun a => by have := le a; have := ho a; omega⟩
          unfold ORep
          exact ⟨v, vs, rfl, r B2⟩
end
section
variable {P : Program} {w : World} {K : PySem.W.Frag} {mg : Str → Option Value} {base : Heap}
/-- what a def's callees promise -/
def FnsOk (P : Program) (w : World) (K : PySem.W.Frag) (mg : Str → Option Value) (base : Heap) (n : Nat) (Fn : FT) : Prop :=
  ∀ x ds r, Fn x ds = some r → ∃ f fd ps, mg x = some (.ref f) ∧ PySem.W.keepIn K (.ref f) = true ∧ Binds K fd ps [] ∧ ps.length = ds.length ∧ FnOk P w K mg base CX0 n f fd ps (spOf K (Fn x) ps.length)
def GlOk (mg : Str → Option Value) (G : Str → Option D) : Prop := ∀ x d, G x = some d → (∃ i t, d = .int i ∧ mg x = some (.int i t)) ∨ ∃ s t, d = .str s ∧ mg x = some (.str s t)
theorem fn_ok {x : Str} {st : Stmt} {f : Addr} {fdata : FuncData} {N ps : List Str} {n : Nat} {fd : FD} {Fn : FT} {G : Str → Option D} (F : L2.Fun K x x st f fdata) (hs : scB N ps (defScope st) = true) (hk : ckF fd N ps st = true)
    (fns : FnsOk P w K mg base n Fn) (blt : ∀ x ∈ bltNames, mg x = none) (glb : GlOk mg G) : FnOk P w K mg base CX0 (n + 1) f fdata ps (spOf K (iF Fn G fd) ps.length) := by
  unfold ckF at hk
  obtain ⟨hk, hk4⟩ := strip_and hk
  obtain ⟨hk, hk3⟩ := strip_and hk
  obtain ⟨hk1, hk2⟩ := strip_and hk
  rw [decide_eq_true_eq] at hk1 hk2 hk3
  have S := scope_by hs
  refine L2.Fun.ok F S (fun vs H Q E h => ?_) (fun cdv A outer s H vs Q E hr hsp => ?_)
  · obtain ⟨F, B, O, ds, d, outs, r, g, e, l, q⟩ := h
    rw [reps_len r, l]
  · obtain ⟨Fz, B, O, ds, d, outs, r, g, e, l, q⟩ := hsp
    have ok : XOk (cxOf CX0 P w K mg base N x (defScope st) f cdv A outer s H E).nox ⟨N, defScope st, fun _ => true⟩ n Fn G := ⟨rfl, rfl, rfl, S.nd, rfl, hr, rfl, fns, blt, glb⟩
    refine ⟨tS K (fun i => fd.keep.getD i false) (iSs Fn G fd.body), ckSs_ok fd.body hk4 ok, ?_⟩
    have hv := reps_len r
    unfold iF at e
    rw [if_pos (by rw [l, hk1])] at e
    obtain ⟨fl, st', e1, e2⟩ := bnd_some e
    refine ⟨Fz, B, O, _, fl, st', ?_, g, e1, ?_⟩
    · unfold L2.start
      have z := srep_start (N.length - vs.length) r
      rw [hk2, hk1, ← l, ← hv]
      exact z
    · have hkeep : ∀ {σ' : L2.St}, Keep (fun i => fd.keep.getD i false) (L2.start N vs) σ' → ∀ i, fd.keep.getD i false = true → σ'[i]? = vs[i]?.map some := fun {σ'} kk i hi => by
        rw [kk i hi]
        unfold L2.start
        have hi' : i < vs.length := by
          have : i < fd.keep.length := by
            rcases Nat.lt_or_ge i fd.keep.length with q | q
            · exact q
            · rw [List.getD_eq_getElem?_getD, List.getElem?_eq_none q] at hi
              cases hi
          omega
        rw [List.getElem?_append_left (by simpa using hi'), List.getElem?_map]
      cases fl with
      | nx =>
        cases e2
        intro σ' F' H' O' h' g' p' kk
        obtain ⟨Oo, ro, le⟩ := outs_ok fd.keep (vs := vs) h' (by omega) (hkeep kk)
        exact q .non F' H' (fun _ => 0) Oo (fun B2 => rep_non) ro (g'.le fun a => by have := le a; (try dsimp only); omega) (p'.le fun a => by have := le a; (try dsimp only); omega)
      | rt d' =>
        dsimp only at e2
        split at e2
        · rename_i hn
          cases e2
          intro v σ' F' H' O' Od h' rd g' p' kk
          obtain ⟨Oo, ro, le⟩ := outs_ok fd.keep (vs := vs) h' (by omega) (hkeep kk)
          exact q v F' H' Od Oo (fun B2 => Rep.nobor (fun _ _ z => z) _ _ _ rd hn) ro (g'.le fun a => by have := le a; (try dsimp only); omega) (p'.le fun a => by have := le a; (try dsimp only); omega)
        · cases e2
/-- a def of the text under its name, with its mirror -/
structure DefOk (K : PySem.W.Frag) (mg : Str → Option Value) (x : Str) (fd : FD) : Prop where
  ex : ∃ st f fdata N ps, mg x = some (.ref f) ∧ L2.Fun K x x st f fdata ∧ Binds K fdata ps [] ∧ scB N ps (defScope st) = true ∧ ckF fd N ps st = true
theorem fnok_void {n : Nat} {f : Addr} {fdata : FuncData} {ps : List Str} {mf : List D → Option (D × List (Option D))} (h : ∀ ds, mf ds = none) : FnOk P w K mg base CX0 n f fdata ps (spOf K mf ps.length) :=
  have z : ∀ vs H Q E, spOf K mf ps.length vs H Q E → False := fun vs H Q E q => by
    obtain ⟨_, _, _, ds, _, _, _, _, e, _⟩ := q
    rw [h ds] at e
    cases e
  ⟨fun vs H Q E q => (z vs H Q E q).elim, fun A outer s H args us vs Q E _ _ _ _ q => (z vs H Q E q).elim⟩
theorem fe_succ {prog : Str → Option FD} {G : Str → Option D} {n : Nat} {x : Str} {fd : FD} (h : prog x = some fd) : fe prog G (n + 1) x = iF (fe prog G n) G fd := by
  funext as
  show (match prog x with | some fd => iF (fe prog G n) G fd as | none => none) = _
  rw [h]
theorem all_ok {prog : Str → Option FD} {G : Str → Option D} (hd : ∀ x fd, prog x = some fd → DefOk K mg x fd) (blt : ∀ x ∈ bltNames, mg x = none) (glb : GlOk mg G) : ∀ (n : Nat) (x : Str) (fd : FD), prog x = some fd →
    ∀ (st : Stmt) (f : Addr) (fdata : FuncData) (N ps : List Str), L2.Fun K x x st f fdata → scB N ps (defScope st) = true → ckF fd N ps st = true → FnOk P w K mg base CX0 n f fdata ps (spOf K (fe prog G n x) ps.length)
  | 0, x, fd, h, st, f, fdata, N, ps, F, hs, hk => fnok_void fun _ => rfl
  | n + 1, x, fd, h, st, f, fdata, N, ps, F, hs, hk => by
    rw [fe_succ h]
    refine fn_ok F hs hk (fun y ds r e => ?_) blt glb
    cases hy : prog y with
    | none =>
      exfalso
      cases n with
      | zero => cases e
      | succ n =>
        have e : (match prog y with | some fd => iF (fe prog G n) G fd ds | none => none) = some r := e
        rw [hy] at e
        cases e
    | some fy =>
      obtain ⟨st', f', fdata', N', ps', hm, F', hb, hs', hk'⟩ := (hd y fy hy).ex
      refine ⟨f', fdata', ps', hm, F'.kp, hb, ?_, all_ok hd blt glb n y fy hy st' f' fdata' N' ps' F' hs' hk'⟩
      have hp : fy.np = ps'.length := by
        unfold ckF at hk'
        obtain ⟨q, _⟩ := strip_and hk'
        obtain ⟨q, _⟩ := strip_and q
        obtain ⟨q, _⟩ := strip_and q
        exact of_decide_eq_true q
      cases n with
      | zero => cases e
      | succ n =>
        rw [fe_succ hy] at e
        unfold iF at e
        split at e
        · rename_i q
          rw [← hp, q]
        · cases e
/-- the law's own promise -/
theorem law_sp {mf : List D → Option (D × List (Option D))} {K : PySem.W.Frag} {H : Hp} {a : Addr} {ns : List Int} {outs : List (Option D)} (hS : SqL K H a (ns.map V.int)) (e : mf [.lst .scr (ns.map D.int)] = some (.bl true, outs)) :
    spOf K mf 1 [.ref a] H (fun v _ => v = .bl true) fun _ _ _ => False := by
  have hi : ∀ ns : List Int, Reps K H (fun _ => none) H (ns.map D.int) (ns.map V.int) fun _ => 0 := fun ns => by
    induction ns with
    | nil => unfold List.map Reps; exact ⟨rfl, fun _ => rfl⟩
    | cons i r ih =>
      show Reps K H (fun _ => none) H (D.int i :: r.map D.int) (V.int i :: r.map V.int) _
      unfold Reps
      exact ⟨.int i, _, fun _ => 0, fun _ => 0, rfl, by unfold Rep; exact ⟨rfl, fun _ => rfl⟩, ih, fun _ => rfl⟩
  refine ⟨H, fun _ => none, fun _ => 0, _, .bl true, outs, ?_, ⟨fun _ => Nat.zero_le _, fun a h => by simp at h, fun a h => by simp at h, fun _ _ h => h, fun a u h => by cases h⟩, e, rfl, fun v F' H' Od Oo rd _ _ _ => ?_⟩
  · unfold Reps
    refine ⟨.ref a, [], fun _ => 0, fun _ => 0, rfl, ?_, by unfold Reps; exact ⟨rfl, fun _ => rfl⟩, fun _ => rfl⟩
    unfold Rep
    exact ⟨a, ns.map V.int, fun _ => 0, rfl, hi ns, .inr ⟨rfl, hS, fun _ => rfl⟩⟩
  · have z := rd fun _ => none
    unfold Rep at z
    exact z.1
end
end DL
set_option Elab.async false
set_option linter.all false
set_option maxRecDepth 100000
/-! DL15: a program's head and end. -/
namespace DL
open PySem PySem.Spec PyProof.Rows L2

def AllP (P : Str → FD → Prop) : List (Str × FD) → Prop
  | [] => True
  | (x, fd) :: r => P x fd ∧ AllP P r
theorem AllP.get {P : Str → FD → Prop} : ∀ {t : List (Str × FD)} {x : Str} {fd : FD}, AllP P t → t.lookup x = some fd → P x fd
  | [], _, _, _, e => by cases e
  | (y, g) :: r, x, fd, h, e => by
    rw [List.lookup_cons] at e
    split at e
    · rename_i q
      cases e
      have : x = y := by simpa using q
      subst this
      exact h.1
    · exact AllP.get h.2 e
structure HeadOk (tab : List (Str × FD)) (Gl : Str → Option D) (K : PySem.W.Frag) (mg : Str → Option Value) (x : Str) (ps : List Str) (f : Addr) : Prop where
  defs : AllP (DefOk K mg) tab
  blt : ∀ y ∈ bltNames, mg y = none
  glb : GlOk mg Gl
  ent : ∃ st fdata N, mg x = some (.ref f) ∧ L2.Fun K x x st f fdata ∧ scB N ps (defScope st) = true ∧ (∃ fd, tab.lookup x = some fd ∧ ckF fd N ps st = true) ∧ ∀ (s : Shared) (u : Value), BindsTo s fdata ⟨[u], []⟩ (ps.zip [u])
theorem walk {l : PySem.W.OpenLaw} {n k : Nat} {prog : List (Str × FD)} {Gl : Str → Option D} {q : Program} {loose : List Str} {XP : (Str → Option Value) → Heap → Prop} {YP : World → Heap → Prop} {d : DefRec} {K : Params → PySem.W.Frag}
    (hn : l.most = some n) (hn2 : n ≤ sizeLine) (hdf : d.params.defaults = []) (hr : 1 + claimMargin + 3 * k + 5 < recursionLimit ∧ 4 + 16 * k + 200 < cLine)
    (hY : ∀ (w : World) (h : Heap), YP w h → (K w.params).In h)
    (F : ∀ (w : World) (mg : Str → Option Value) (fa : Addr) (h : Heap), (K w.params).In h → h.Ns mainGlobals mg → mg d.name = some (.ref fa) → HeadOk prog Gl (K w.params) mg "law" ["_law_script"] fa)
    (L : ∀ ns : List Int, ns.length ≤ n → ∃ outs, fe (fun x => prog.lookup x) Gl k "law" [.lst .scr (ns.map D.int)] = some (.bl true, outs)) :
    PySem.W.WalkO q loose XP YP l.row.toRowW d [] (fun f vs => PySem.call f vs) := by
  refine L2.walk_of (n := n) (k := k) (x := "_law_script") (CX := fun _ => CX0) (sp := fun w => spOf (K w.params) (fe (fun x => prog.lookup x) Gl k "law") 1) hn hn2 hdf ⟨rfl, hr.1, hr.2⟩ hY (fun w mg fa h KX G hmg => ?_) (fun w H a ns hl _ hS => ?_) fun _ _ _ _ _ z => z
  · obtain ⟨hd, hb, hg, st, fdata, N, hm, hf, hs, ⟨fd, hl, hk⟩, hbd⟩ := F w mg fa h KX G hmg
    refine ⟨fdata, hbd, fun base _ _ => ?_⟩
    exact all_ok (prog := fun x => prog.lookup x) (fun x fd e => hd.get e) hb hg k "law" fd hl st fa fdata N ["_law_script"] hf hs hk
  · obtain ⟨outs, e⟩ := L ns hl
    exact law_sp hS e
theorem head_fa {tab : List (Str × FD)} {Gl : Str → Option D} {K : PySem.W.Frag} {mg : Str → Option Value} {x : Str} {ps : List Str} {f fa : Addr} (hm : mg x = some (.ref fa)) (h : HeadOk tab Gl K mg x ps f) : HeadOk tab Gl K mg x ps fa := by
  obtain ⟨st, fdata, N, e, _⟩ := h.ent
  rw [hm] at e
  cases e
  exact h
theorem blt_by {mg : Str → Option Value} (h : mg "len" = none ∧ mg "list" = none ∧ mg "tuple" = none ∧ mg "sorted" = none ∧ mg "sum" = none ∧ mg "min" = none ∧ mg "max" = none ∧ mg "int" = none ∧ mg "all" = none ∧ mg "range" = none ∧ mg "zip" = none ∧ mg "enumerate" = none ∧ mg "isinstance" = none ∧ mg "bool" = none ∧ mg "str" = none)
    {x : Str} (hx : x ∈ bltNames) : mg x = none := by
  obtain ⟨h0, h1, h2, h3, h4, h5, h6, h7, h8, h9, h10, h11, h12, h13, h14⟩ := h
  unfold bltNames at hx
  simp only [List.mem_cons, List.not_mem_nil, or_false] at hx
  rcases hx with rfl | rfl | rfl | rfl | rfl | rfl | rfl | rfl | rfl | rfl | rfl | rfl | rfl | rfl | rfl <;> assumption
/-- the constants of the text, numbers -/
def GlAll (mg : Str → Option Value) : List (Str × D) → Prop
  | [] => True
  | (x, .int i) :: r => (∃ t, mg x = some (.int i t)) ∧ GlAll mg r
  | (x, .str s) :: r => (∃ t, mg x = some (.str s t)) ∧ GlAll mg r
  | _ :: _ => False
theorem gl_by {mg : Str → Option Value} : ∀ {t : List (Str × D)}, GlAll mg t → GlOk mg fun x => t.lookup x
  | [], _ => fun x d e => by cases e
  | (y, .int i) :: r, h => fun x d e => by
    have e : ((y, D.int i) :: r).lookup x = some d := e
    rw [List.lookup_cons] at e
    split at e
    · rename_i q
      cases e
      have : x = y := by simpa using q
      subst this
      obtain ⟨⟨t, ht⟩, _⟩ := h
      exact .inl ⟨i, t, rfl, ht⟩
    · exact gl_by h.2 x d e
  | (y, .str i) :: r, h => fun x d e => by
    have e : ((y, D.str i) :: r).lookup x = some d := e
    rw [List.lookup_cons] at e
    split at e
    · rename_i q
      cases e
      have : x = y := by simpa using q
      subst this
      obtain ⟨⟨t, ht⟩, _⟩ := h
      exact .inr ⟨i, t, rfl, ht⟩
    · exact gl_by h.2 x d e
  | (_, .non) :: _, h => h.elim
  | (_, .bl _) :: _, h => h.elim
  | (_, .lst _ _) :: _, h => h.elim
  | (_, .tup _) :: _, h => h.elim
  | (_, .dK _ _ _) :: _, h => h.elim
  | (_, .dT _ _ _) :: _, h => h.elim
end DL
set_option Elab.async false
set_option linter.all false
set_option maxRecDepth 100000
set_option exponentiation.threshold 2000
/-! Q0: plain lemmas on the core, shared by all laws -/
namespace DL
open PySem L2
def mixZ (x k : Int) : Int :=
  let a := (x % 2147483647 + 7 * k + 1) * 48271 % 2147483629
  let b := (a * a + 69621 * k) % 2147483587
  b * (b % 65521 + 3) % 2147483563
theorem pmul {i j : Int} (hi : i.natAbs < 2 ^ 64) (hj : j.natAbs < 2 ^ 64) : p_mul [.int i, .int j] = some (.int (i * j)) := by
  have h1 : i.natAbs < 2 ^ 512 := Nat.lt_trans hi (by decide)
  have h2 : j.natAbs < 2 ^ 512 := Nat.lt_trans hj (by decide)
  show (if okMul i j then _ else _) = _
  unfold okMul
  rw [decide_eq_true h1, decide_eq_true h2]
  rfl
theorem pmul2 {i j : Int} (hi : i.natAbs < 2 ^ 512) (hj : j.natAbs < 2 ^ 512) : p_mul [.int i, .int j] = some (.int (i * j)) := by
  show (if okMul i j then _ else _) = _
  unfold okMul
  rw [decide_eq_true hi, decide_eq_true hj]
  rfl
theorem atI_in {α : Type} {xs : List α} {k : Int} (h0 : 0 ≤ k) (h1 : k < xs.length) : atI xs k = some (xs[k.toNat]'(by omega)) := by
  unfold atI ixN
  rw [if_pos h0, if_pos h1]
  show xs[k.toNat]? = _
  rw [List.getElem?_eq_getElem]
theorem atI_ints {ns : List Int} {k : Int} (h0 : 0 ≤ k) (h1 : k < ns.length) : atI (ns.map D.int) k = some (.int (ns.getD k.toNat 0)) := by
  rw [atI_in h0 (by simpa using h1)]
  simp [List.getD_eq_getElem?_getD, List.getElem?_eq_getElem (show k.toNat < ns.length by omega)]
theorem ppow : p_pow [.int 10, .int 30] = some (.int 1000000000000000000000000000000) := by simp [p_pow]
def cellZ (ns : List Int) (k : Int) : Int :=
  if k < ns.length then ns.getD k.toNat 0
  else if 0 < ns.length then mixZ (97 + k + ns.getD (k % ns.length).toNat 0 % 1000000000000000000000000000000 * (k / ns.length + 2)) k else mixZ (97 + k) k
theorem eq_int (a b : Int) : p_eq [.int a, .int b] = some (.bl (decide (a = b))) := by
  have h : ∀ i : Int, (D.int i).shp = true := fun i => rfl
  have e : PyData.eqv (D.int a).py (D.int b).py = decide (a = b) := by simp only [D.py, PyData.eqv]; rfl
  show (if (D.int a).shp && (D.int b).shp then some (D.bl (PyData.eqv (D.int a).py (D.int b).py)) else none) = _
  rw [h, h, e]
  rfl
theorem ne_int (a b : Int) : p_ne [.int a, .int b] = some (.bl (!decide (a = b))) := by
  have h : ∀ i : Int, (D.int i).shp = true := fun i => rfl
  have e : PyData.eqv (D.int a).py (D.int b).py = decide (a = b) := by simp only [D.py, PyData.eqv]; rfl
  show (if (D.int a).shp && (D.int b).shp then some (D.bl (!PyData.eqv (D.int a).py (D.int b).py)) else none) = _
  rw [h, h, e]
  rfl
/-- the pen: how many more draws are allowed -/
def Pen (ns : List Int) (n : Nat) (d : D) : Prop := ∃ k x r m : Int, d = .lst .own [.lst .scr (ns.map D.int), .int k, .int x, .int r, .int m] ∧ 0 ≤ k ∧ k + n < 4294967296 ∧ 0 ≤ r ∧ (m = 0 ∨ m = 1)
theorem Pen.le {ns : List Int} {n n' : Nat} {d : D} (h : Pen ns n d) (l : n' ≤ n) : Pen ns n' d := by
  obtain ⟨k, x, r, m, e, h0, h1, h2, h3⟩ := h
  exact ⟨k, x, r, m, e, h0, by omega, h2, h3⟩
theorem nownL_ints (ns : List Int) : D.nownL (ns.map D.int) = true := by
  induction ns with
  | nil => rfl
  | cons i r ih => simp [D.nownL, D.nown, ih]
theorem noborL_ints (ns : List Int) : D.noborL (ns.map D.int) = true := by
  induction ns with
  | nil => rfl
  | cons i r ih => simp [D.noborL, D.nobor, ih]
theorem toL_ints (k : Mk) (ns : List Int) : D.toL k (ns.map D.int) = ns.map D.int := by
  induction ns with
  | nil => rfl
  | cons i r ih => simp [D.toL, D.to] at ih ⊢; exact ih
theorem at0 {α : Type} {a : α} {r : List α} : atI (a :: r) 0 = some a := by simp [atI, ixN]
theorem at1 {α : Type} {a b : α} {r : List α} : atI (a :: b :: r) 1 = some b := by rw [atI_in (k := 1) (by decide) (by simp only [List.length_cons]; omega)]; rfl
theorem at2 {α : Type} {a b c : α} {r : List α} : atI (a :: b :: c :: r) 2 = some c := by rw [atI_in (k := 2) (by decide) (by simp only [List.length_cons]; omega)]; rfl
theorem at3 {α : Type} {a b c d : α} {r : List α} : atI (a :: b :: c :: d :: r) 3 = some d := by rw [atI_in (k := 3) (by decide) (by simp only [List.length_cons]; omega)]; rfl
theorem at4 {α : Type} {a b c d e : α} {r : List α} : atI (a :: b :: c :: d :: e :: r) 4 = some e := by rw [atI_in (k := 4) (by decide) (by simp only [List.length_cons]; omega)]; rfl
theorem ixN_5 : ixN 5 1 = some 1 ∧ ixN 5 2 = some 2 ∧ ixN 5 3 = some 3 := by decide
theorem loop_ok {t : Tg} {body : DSt → Option (Fl × DSt)} : ∀ (xs : List D) (Jn : Nat → DSt → Prop) (step : ∀ i x s, xs[i]? = some x → Jn i s → ∃ s1 s2, asgT t x s = some s1 ∧ body s1 = some (.nx, s2) ∧ Jn (i + 1) s2) (s : DSt), Jn 0 s →
    ∃ s', loopF t body xs s = some (.nx, s') ∧ Jn xs.length s'
  | [], Jn, step, s, h => ⟨s, rfl, h⟩
  | x :: xs, Jn, step, s, h => by
    obtain ⟨s1, s2, e1, e2, h2⟩ := step 0 x s rfl h
    obtain ⟨s', e, h'⟩ := loop_ok xs (fun i => Jn (i + 1)) (fun i y s hy hs => step (i + 1) y s (by simpa using hy) hs) s2 h2
    refine ⟨s', ?_, h'⟩
    unfold loopF
    rw [e1]
    show bnd (body s1) _ = _
    rw [e2]
    exact e
theorem comp_ok {w : List Nat} {t : Tg} {c e : DSt → Option (D × DSt)} : ∀ (xs : List D) (Jn : Nat → List D → DSt → Prop)
    (step : ∀ i x acc s, xs[i]? = some x → Jn i acc s → ∃ s1 b s2, asgT t x (wipeD s w) = some s1 ∧ c s1 = some (.bl b, s2) ∧ (b = false → Jn (i + 1) acc s2) ∧ (b = true → ∃ y s3, e s2 = some (y, s3) ∧ Jn (i + 1) (acc ++ [y]) s3)) (acc : List D) (s : DSt), Jn 0 acc s →
    ∃ acc' s', loopC w t c e xs acc s = some (acc', s') ∧ Jn xs.length acc' s'
  | [], Jn, step, acc, s, h => ⟨acc, s, rfl, h⟩
  | x :: xs, Jn, step, acc, s, h => by
    obtain ⟨s1, b, s2, e1, e2, hf, ht⟩ := step 0 x acc s rfl h
    cases b with
    | false =>
      obtain ⟨acc', s', e, h'⟩ := comp_ok xs (fun i => Jn (i + 1)) (fun i y acc s hy hs => step (i + 1) y acc s (by simpa using hy) hs) acc s2 (hf rfl)
      refine ⟨acc', s', ?_, h'⟩
      unfold loopC
      rw [e1]
      show bnd (c s1) _ = _
      rw [e2]
      exact e
    | true =>
      obtain ⟨y, s3, e3, h3⟩ := ht rfl
      obtain ⟨acc', s', ee, h'⟩ := comp_ok xs (fun i => Jn (i + 1)) (fun i y acc s hy hs => step (i + 1) y acc s (by simpa using hy) hs) (acc ++ [y]) s3 h3
      refine ⟨acc', s', ?_, h'⟩
      unfold loopC
      rw [e1]
      show bnd (c s1) _ = _
      rw [e2]
      show bnd (e s2) _ = _
      rw [e3]
      exact ee
theorem rngL : ∀ (n : Nat) (lo : Int), (rng lo n).length = n
  | 0, _ => rfl
  | n + 1, lo => by show (rng (lo + 1) n).length + 1 = _; rw [rngL]
theorem rngI : ∀ (n : Nat) (lo : Int) (i : Nat) (x : D), (rng lo n)[i]? = some x → x = .int (lo + i) ∧ i < n
  | 0, _, i, _, h => by cases i <;> cases h
  | n + 1, lo, 0, x, h => by
    cases (show some (D.int lo) = some x from h)
    exact ⟨by simp, by omega⟩
  | n + 1, lo, i + 1, x, h => by
    obtain ⟨e, l⟩ := rngI n (lo + 1) i x (show (rng (lo + 1) n)[i]? = some x from h)
    refine ⟨?_, by omega⟩
    rw [e]
    congr 1
    push_cast
    omega
theorem rngI0 {n i : Nat} {x : D} (h : (rng 0 n)[i]? = some x) : x = .int i ∧ i < n := by
  obtain ⟨e, l⟩ := rngI n 0 i x h
  rw [Int.zero_add] at e
  exact ⟨e, l⟩
theorem iT_r1 {F : FT} {G : Str → Option D} {a : CE} {s s1 : DSt} {j : Int} (h : iE F G a s = some (.int j, s1)) (h0 : 0 ≤ j) (h1 : j < 1000000) : iT F G (.r1 a) s = some (rng 0 j.toNat, s1) := by
  unfold iT
  rw [h]
  exact if_pos ⟨by omega, by omega⟩
theorem iT_r1n {F : FT} {G : Str → Option D} {a : CE} {s s1 : DSt} {j : Nat} (h : iE F G a s = some (.int j, s1)) (h1 : j < 1000000) : iT F G (.r1 a) s = some (rng 0 j, s1) := by
  rw [iT_r1 h (by omega) (by omega), Int.toNat_natCast]
theorem for_ok {F : FT} {G : Str → Option D} {t : Tg} {it : It} {body : List CS} {s s1 s2 : DSt} {xs : List D} (hT : iT F G it s = some (xs, s1)) (hL : loopF t (iSs F G body) xs s1 = some (.nx, s2)) : iS F G (.for t it body) s = some (.nx, endT it s s2) := by
  unfold iS
  rw [hT]
  show bnd (loopF _ _ _ _) _ = _
  rw [hL]
  rfl
theorem one_nx {F : FT} {G : Str → Option D} {c : CS} {s s1 : DSt} (h : iS F G c s = some (.nx, s1)) : iSs F G [c] s = some (.nx, s1) := by
  unfold iSs
  rw [h]
  rfl
theorem cons_nx {F : FT} {G : Str → Option D} {c : CS} {r : List CS} {s s1 : DSt} (h : iS F G c s = some (.nx, s1)) : iSs F G (c :: r) s = iSs F G r s1 := by
  rw [iSs, h]
  rfl
theorem cons_rt {F : FT} {G : Str → Option D} {c : CS} {r : List CS} {s s1 : DSt} {d : D} (h : iS F G c s = some (.rt d, s1)) : iSs F G (c :: r) s = some (.rt d, s1) := by
  rw [iSs, h]
  rfl
theorem ret_ok {F : FT} {G : Str → Option D} {e : CE} {s s1 : DSt} {d : D} (h : iE F G e s = some (d, s1)) : iSs F G [.ret e] s = some (.rt d, s1) := by
  refine cons_rt ?_
  rw [iS, h]
  rfl
/-- a def that hands back -/
theorem iF_rt {F : FT} {G : Str → Option D} {fd : FD} {as : List D} {s : DSt} {d : D} (s0 : DSt) (hl : as.length = fd.np) (hs : as.map some ++ List.replicate (fd.ns - fd.np) none = s0) (h : iSs F G fd.body s0 = some (.rt d, s)) (hn : d.nobor = true) : iF F G fd as = some (d, outsOf fd.keep s) := by
  unfold iF
  rw [if_pos hl, hs, h]
  exact if_pos hn
theorem iF_nx {F : FT} {G : Str → Option D} {fd : FD} {as : List D} {s : DSt} (s0 : DSt) (hl : as.length = fd.np) (hs : as.map some ++ List.replicate (fd.ns - fd.np) none = s0) (h : iSs F G fd.body s0 = some (.nx, s)) : iF F G fd as = some (.non, outsOf fd.keep s) := by
  unfold iF
  rw [if_pos hl, hs, h]
  rfl
theorem rng_map : ∀ (n : Nat) (lo : Int), rng lo n = (List.range n).map fun (i : Nat) => D.int (lo + (i : Int))
  | 0, _ => rfl
  | n + 1, lo => by
    rw [List.range_succ_eq_map, List.map_cons, List.map_map]
    show D.int lo :: rng (lo + 1) n = _
    rw [rng_map n (lo + 1)]
    congr 1
    · simp
    · refine List.map_congr_left fun i _ => ?_
      show D.int (lo + 1 + i) = D.int (lo + ((i + 1 : Nat) : Int))
      congr 1
      omega
theorem rng0 (n : Nat) : rng 0 n = (List.range n).map fun (i : Nat) => D.int (i : Int) := by
  rw [rng_map]
  refine List.map_congr_left fun i _ => ?_
  rw [Int.zero_add]
/-- a comprehension over images: the state keeps J -/
theorem comp_fm {w : List Nat} {t : Tg} {c e : DSt → Option (D × DSt)} {α : Type} {J : DSt → Prop} {dx out : α → D} {keep : α → Bool} : ∀ (ys : List α)
    (step : ∀ y ∈ ys, ∀ s, J s → ∃ s1 s2, asgT t (dx y) (wipeD s w) = some s1 ∧ c s1 = some (.bl (keep y), s2) ∧ (keep y = false → J s2) ∧ (keep y = true → ∃ s3, e s2 = some (out y, s3) ∧ J s3)) (acc : List D) (s : DSt), J s →
    ∃ s', loopC w t c e (ys.map dx) acc s = some (acc ++ (ys.filter keep).map out, s') ∧ J s'
  | [], step, acc, s, h => ⟨s, by simp [loopC], h⟩
  | y :: ys, step, acc, s, h => by
    obtain ⟨s1, s2, e1, e2, hf, ht⟩ := step y List.mem_cons_self s h
    have st' := fun z hz => step z (List.mem_cons_of_mem _ hz)
    cases hk : keep y with
    | false =>
      obtain ⟨s', ee, h'⟩ := comp_fm ys st' acc s2 (hf hk)
      refine ⟨s', ?_, h'⟩
      rw [List.filter_cons, if_neg (by rw [hk]; exact Bool.false_ne_true), List.map_cons]
      unfold loopC
      rw [e1]
      show bnd (c s1) _ = _
      rw [e2, hk]
      exact ee
    | true =>
      obtain ⟨s3, e3, h3⟩ := ht hk
      obtain ⟨s', ee, h'⟩ := comp_fm ys st' (acc ++ [out y]) s3 h3
      refine ⟨s', ?_, h'⟩
      rw [List.filter_cons, if_pos hk, List.map_cons, List.map_cons]
      unfold loopC
      rw [e1]
      show bnd (c s1) _ = _
      rw [e2, hk]
      show bnd (e s2) _ = _
      rw [e3]
      refine Eq.trans ee ?_
      rw [List.append_assoc]
      rfl
theorem comp_eval {F : FT} {G : Str → Option D} {w : List Nat} {t : Tg} {it : It} {c e : CE} {s s1 s2 : DSt} {xs ys : List D} (hT : iT F G it s = some (xs, s1)) (hl : xs.length ≤ sizeLine) (hL : loopC w t (iE F G c) (iE F G e) xs [] s1 = some (ys, s2)) :
    iE F G (.comp w t it c e) s = some (.lst .own ys, endT it s (backD s1 s2 w)) := by
  unfold iE
  rw [hT]
  show (if _ then _ else _) = _
  rw [if_pos hl]
  show bnd (loopC _ _ _ _ _ _ _) _ = _
  rw [hL]
  rfl
theorem iF_ret {F : FT} {G : Str → Option D} {fd : FD} {as : List D} {s : DSt} {d : D} {outs : List (Option D)} (s0 : DSt) (h : iSs F G fd.body s0 = some (.rt d, s)) (hl : as.length = fd.np) (hs : as.map some ++ List.replicate (fd.ns - fd.np) none = s0) (hn : d.nobor = true) (ho : outsOf fd.keep s = outs) : iF F G fd as = some (d, outs) := by
  rw [iF_rt s0 hl hs h hn, ho]
theorem small_size {n : Nat} (h : n ≤ 1000000) : n ≤ sizeLine := Nat.le_trans h (by decide)
theorem nownL_map {α : Type} (f : α → D) (h : ∀ a, (f a).nown = true) : ∀ xs : List α, D.nownL (xs.map f) = true
  | [] => rfl
  | x :: xs => by simp [D.nownL, h x, nownL_map f h xs]
theorem noborL_map {α : Type} (f : α → D) (h : ∀ a, (f a).nobor = true) : ∀ xs : List α, D.noborL (xs.map f) = true
  | [] => rfl
  | x :: xs => by simp [D.noborL, h x, noborL_map f h xs]
theorem toL_map {α : Type} (k : Mk) (f : α → D) (h : ∀ a, (f a).to k = f a) : ∀ xs : List α, D.toL k (xs.map f) = xs.map f
  | [] => rfl
  | x :: xs => by simp [D.toL, h x, toL_map k f h xs]
/-- pairs of numbers -/
abbrev pD (p : Int × Int) : D := .tup [.int p.1, .int p.2]
abbrev psD (ps : List (Int × Int)) : List D := ps.map pD
theorem psD_nown (ps : List (Int × Int)) : D.nownL (psD ps) = true := nownL_map _ (fun _ => rfl) ps
theorem psD_nobor (ps : List (Int × Int)) : D.noborL (psD ps) = true := noborL_map _ (fun _ => rfl) ps
theorem psD_to (k : Mk) (ps : List (Int × Int)) : D.toL k (psD ps) = psD ps := toL_map k _ (fun _ => rfl) ps
def nrm (p : Int × Int) : Int × Int := (min p.1 p.2, max p.1 p.2)
theorem nodup_ins {α β : Type} (g : α → β) {xs : List α} {k : Nat} {p : α} (h : (xs.map g).Nodup) (hp : g p ∉ xs.map g) : ((xs.take k ++ [p] ++ xs.drop k).map g).Nodup := by
  have e : ((xs.take k ++ [p] ++ xs.drop k).map g).Perm (g p :: xs.map g) := by
    rw [List.append_assoc, List.map_append]
    refine (List.perm_middle (l₁ := (xs.take k).map g) (a := g p) (l₂ := (xs.drop k).map g)).trans ?_
    rw [← List.map_append, List.take_append_drop]
  exact e.nodup_iff.mpr (List.nodup_cons.mpr ⟨hp, h⟩)
/-- what the drawn ties are -/
structure TiesOk (many : Int) (ts : List (Int × Int)) : Prop where
  inn : ∀ p ∈ ts, 0 ≤ p.1 ∧ p.1 < many ∧ 0 ≤ p.2 ∧ p.2 < many ∧ p.1 ≠ p.2
  nd : (ts.map nrm).Nodup
/-- while drawing: all ties lie below -/
def Below (a b : Int) (ts : List (Int × Int)) : Prop := (∀ p ∈ ts, 0 ≤ (nrm p).1 ∧ (nrm p).1 < (nrm p).2 ∧ ((nrm p).2 < a ∨ (nrm p).2 = a ∧ (nrm p).1 < b)) ∧ (ts.map nrm).Nodup
theorem Below.add {a b : Int} {ts : List (Int × Int)} {k : Nat} {p : Int × Int} (h : Below a b ts) (hb : 0 ≤ b) (ha : b < a) (hp : p = (a, b) ∨ p = (b, a)) : Below a (b + 1) (ts.take k ++ [p] ++ ts.drop k) := by
  have hn : nrm p = (b, a) := by
    rcases hp with rfl | rfl <;> simp only [nrm] <;> congr 1 <;> omega
  refine ⟨fun q hq => ?_, nodup_ins nrm h.2 fun hm => ?_⟩
  · rw [List.append_assoc, List.mem_append, List.mem_append, List.mem_singleton] at hq
    have : q ∈ ts ∨ q = p := by
      rcases hq with z | z | z
      · exact .inl (List.mem_of_mem_take z)
      · exact .inr z
      · exact .inl (List.mem_of_mem_drop z)
    rcases this with z | rfl
    · have := h.1 q z; omega
    · rw [hn]; dsimp only; omega
  · rw [List.mem_map] at hm
    obtain ⟨q, hq, e⟩ := hm
    have := h.1 q hq
    rw [e, hn] at this
    dsimp only at this
    omega
theorem Below.next {a b : Int} {ts : List (Int × Int)} (h : Below a b ts) : Below a (b + 1) ts := ⟨fun q hq => by have := h.1 q hq; omega, h.2⟩
theorem Below.turn {a : Int} {ts : List (Int × Int)} (h : Below a a ts) : Below (a + 1) 0 ts := ⟨fun q hq => by have := h.1 q hq; omega, h.2⟩
theorem Pen.nobor {ns : List Int} {n : Nat} {d : D} (h : Pen ns n d) : d.nobor = true := by
  obtain ⟨k, x, r, m, rfl, _⟩ := h
  simp [D.nobor, D.noborL, noborL_ints]
/-- who is tied to place i, as drawn -/
def adjL (ts : List (Int × Int)) (i : Nat) : List Int := ts.flatMap fun (p : Int × Int) => (if p.1 = (i : Int) then [p.2] else []) ++ (if p.2 = (i : Int) then [p.1] else [])
def rowsL (many : Nat) (ts : List (Int × Int)) : List (List Int) := (List.range many).map (adjL ts)
theorem rowsL_def (many : Nat) (ts : List (Int × Int)) : rowsL many ts = (List.range many).map (adjL ts) := rfl
theorem rowsL_len (many : Nat) (ts : List (Int × Int)) : (rowsL many ts).length = many := by rw [rowsL_def, List.length_map, List.length_range]
def webL (many : Nat) (ts : List (Int × Int)) : List (List Int) := (List.range many).map fun i => isort (adjL ts i)
abbrev rD (r : List Int) : D := .lst .own (r.map D.int)
abbrev tD (r : List Int) : D := .tup (r.map D.int)
theorem adjL_snoc (ts : List (Int × Int)) (p : Int × Int) (i : Nat) : adjL (ts ++ [p]) i = adjL ts i ++ ((if p.1 = (i : Int) then [p.2] else []) ++ (if p.2 = (i : Int) then [p.1] else [])) := by
  simp [adjL, List.flatMap_append]
theorem rowsL_snoc {many : Nat} {ts : List (Int × Int)} {a b : Nat} (ha : a < many) (hb : b < many) (hab : a ≠ b) :
    rowsL many (ts ++ [((a : Int), (b : Int))]) = ((rowsL many ts).set a (adjL ts a ++ [(b : Int)])).set b (adjL ts b ++ [(a : Int)]) := by
  refine List.ext_getElem (by rw [List.length_set, List.length_set, rowsL_len, rowsL_len]) fun i h1 h2 => ?_
  have hi : i < many := by rw [rowsL_len] at h1; exact h1
  rw [List.getElem_set, List.getElem_set]
  simp only [rowsL_def, List.getElem_map, List.getElem_range, adjL_snoc]
  by_cases q : b = i
  · subst q
    rw [if_pos rfl, if_neg (by omega), if_pos rfl]
    rfl
  · rw [if_neg q]
    by_cases q2 : a = i
    · subst q2
      rw [if_pos rfl, if_pos rfl, if_neg (by omega)]
      rfl
    · rw [if_neg q2, if_neg (by omega), if_neg (by omega)]
      simp
theorem psI {ts : List (Int × Int)} {i : Nat} {x : D} (h : (psD ts)[i]? = some x) : ∃ p, ts[i]? = some p ∧ x = pD p := by
  rw [List.getElem?_map, Option.map_eq_some_iff] at h
  obtain ⟨p, e, rfl⟩ := h
  exact ⟨p, e, rfl⟩
theorem take_snoc {α : Type} {xs : List α} {i : Nat} {p : α} (h : xs[i]? = some p) : xs.take (i + 1) = xs.take i ++ [p] := by
  rw [List.take_add_one, h]; rfl
theorem ixN_in {n : Nat} {k : Nat} (h : k < n) : ixN n (k : Int) = some k := by
  unfold ixN
  rw [if_pos (by omega), if_pos (by omega), Int.toNat_natCast]
theorem rows_set (rs : List (List Int)) (a : Nat) (r : List Int) : (rs.map rD).set a (rD r) = (rs.set a r).map rD := by rw [List.map_set]
/-- the walk over the ties, shared by tied and _law_near -/
theorem int_nat {a : Int} (h : 0 ≤ a) : ∃ k : Nat, a = k := ⟨a.toNat, by omega⟩
theorem intsOf_map : ∀ r : List Int, intsOf (r.map D.int) = some r
  | [] => rfl
  | i :: r => by
    show (intsOf (r.map D.int)).map (i :: ·) = _
    rw [intsOf_map r]
    rfl
theorem sorted_ints (m : Mk) (r : List Int) : p_sorted [.lst m (r.map D.int)] = some (rD (isort r)) := by
  show (match intsOf (r.map D.int) with | some is => _ | none => _) = _
  rw [intsOf_map]
theorem rD_nown : ∀ rs : List (List Int), D.toL .shr (rs.map rD) = rs.map fun r => .lst .shr (r.map D.int)
  | [] => rfl
  | r :: rs => by
    show D.to .shr (rD r) :: D.toL .shr (rs.map rD) = _
    rw [rD_nown rs]
    show D.lst .shr (D.toL .shr (r.map D.int)) :: _ = _
    rw [toL_ints]
    rfl
theorem sD_to (k : Mk) (rs : List (List Int)) : D.toL k (rs.map fun r => D.lst .shr (r.map D.int)) = rs.map fun r => D.lst .shr (r.map D.int) := toL_map k _ (fun r => by simp [D.to, toL_ints, Mk.to]) rs
theorem sD_nown (rs : List (List Int)) : D.nownL (rs.map fun r => D.lst .shr (r.map D.int)) = true := nownL_map _ (fun r => by simp [D.nown, nownL_ints]) rs
/-- a web, as the program holds it -/
abbrev wD (g : List (List Int)) : D := .tup (g.map tD)
theorem tD_nown (rs : List (List Int)) : D.nownL (rs.map tD) = true := nownL_map _ (fun r => by simp [D.nown, nownL_ints]) rs
theorem tD_nobor (rs : List (List Int)) : D.noborL (rs.map tD) = true := noborL_map _ (fun r => by simp [D.nobor, noborL_ints]) rs
theorem tD_to (k : Mk) (rs : List (List Int)) : D.toL k (rs.map tD) = rs.map tD := toL_map k _ (fun r => by simp [D.to, toL_ints]) rs
theorem rows_empty (many : Nat) : (List.range many).map (fun _ => rD []) = (rowsL many []).map rD := by
  rw [rowsL_def, List.map_map]
  rfl
theorem filter_true {α : Type} (xs : List α) : xs.filter (fun _ => true) = xs := by simp
theorem rD_nobor (rs : List (List Int)) : D.noborL (rs.map rD) = true := noborL_map _ (fun r => by simp [D.nobor, noborL_ints]) rs
/-- the ties' keys in the order in which they were known -/
abbrev kD (p : Int × Int) : List Key := [.inl (nrm p).1, .inl (nrm p).2]
theorem kD_inj {p q : Int × Int} (h : kD p = kD q) : nrm p = nrm q := by
  simp only [kD, List.cons.injEq, Sum.inl.injEq, and_true] at h
  exact Prod.ext h.1 h.2
theorem min1_pair (a b : Int) : p_min1 [.tup [.int a, .int b]] = some (.int (min a b)) := by
  simp only [p_min1, intsOf, Option.map_some, Option.bind_some, minI, List.foldl_cons, List.foldl_nil]
  congr 2
  split <;> omega
theorem max1_pair (a b : Int) : p_max1 [.tup [.int a, .int b]] = some (.int (max a b)) := by
  simp only [p_max1, intsOf, Option.map_some, Option.bind_some, maxI, List.foldl_cons, List.foldl_nil]
  congr 2
  split <;> omega
theorem min2_is (a b : Int) : p_min2 [.int a, .int b] = some (.int (min a b)) := by
  simp only [p_min2]
  congr 2
  split <;> omega
theorem max2_is (a b : Int) : p_max2 [.int a, .int b] = some (.int (max a b)) := by
  simp only [p_max2]
  congr 2
  split <;> omega
theorem nown_bls (k : Nat) : D.nownL (List.replicate k (D.bl true)) = true := by
  induction k with
  | zero => rfl
  | succ k ih => rw [List.replicate_succ]; simp [D.nownL, D.nown, ih]
theorem webL_def (many : Nat) (ts : List (Int × Int)) : webL many ts = (List.range many).map fun i => isort (adjL ts i) := rfl
theorem webL_len (many : Nat) (ts : List (Int × Int)) : (webL many ts).length = many := by rw [webL_def, List.length_map, List.length_range]
/-- the ties that a web tells, from place i on -/
def tiesAt (g : List (List Int)) (i : Nat) : List (Int × Int) := ((g.getD i []).filter fun o => decide ((i : Int) < o)).map fun o => ((i : Int), o)
def tiesOf (g : List (List Int)) : List (Int × Int) := (List.range g.length).flatMap (tiesAt g)
theorem tiesAt_len {g : List (List Int)} {i : Nat} (h : ∀ r ∈ g, r.length ≤ 10000) : (tiesAt g i).length ≤ 10000 := by
  unfold tiesAt
  rw [List.length_map]
  refine Nat.le_trans (List.length_filter_le _ _) ?_
  rw [List.getD_eq_getElem?_getD]
  cases e : g[i]? with
  | none => simp
  | some r => exact h r (List.mem_of_getElem? e)
/-- two ways to hold the same things, told apart by == as they are -/
def EqE {α : Type} [DecidableEq α] (f g : α → D) : Prop := ∀ a b, PyData.eqv (f a).py (g b).py = decide (a = b)
def ShpE {α : Type} (k : Nat) (f : α → D) : Prop := ∀ a, (f a).py.canLay0 = true ∧ (f a).py.depth ≤ k
theorem pyL_map {α : Type} (f : α → D) : ∀ xs : List α, D.pyL (xs.map f) = xs.map fun a => (f a).py
  | [] => rfl
  | x :: xs => by show (f x).py :: D.pyL (xs.map f) = _; rw [pyL_map f xs]; rfl
theorem eqvAll_map {α : Type} [DecidableEq α] {f g : α → D} (h : EqE f g) : ∀ xs ys : List α, PyData.eqvAll (xs.map fun a => (f a).py) (ys.map fun a => (g a).py) = decide (xs = ys)
  | [], [] => by simp [PyData.eqvAll]
  | [], _ :: _ => by simp [PyData.eqvAll]
  | _ :: _, [] => by simp [PyData.eqvAll]
  | x :: xs, y :: ys => by
    rw [List.map_cons, List.map_cons, PyData.eqvAll, h x y, eqvAll_map h xs ys]
    by_cases h1 : x = y <;> by_cases h2 : xs = ys <;> simp [h1, h2]
theorem EqE.lst {α : Type} [DecidableEq α] {f g : α → D} (h : EqE f g) (m m' : Mk) : EqE (fun xs : List α => D.lst m (xs.map f)) (fun xs => .lst m' (xs.map g)) := fun xs ys => by
  show PyData.eqv (.list (D.pyL (xs.map f))) (.list (D.pyL (ys.map g))) = _
  rw [pyL_map, pyL_map, PyData.eqv, eqvAll_map h]
theorem EqE.tup {α : Type} [DecidableEq α] {f g : α → D} (h : EqE f g) : EqE (fun xs : List α => D.tup (xs.map f)) (fun xs => .tup (xs.map g)) := fun xs ys => by
  show PyData.eqv (.tuple (D.pyL (xs.map f))) (.tuple (D.pyL (ys.map g))) = _
  rw [pyL_map, pyL_map, PyData.eqv, eqvAll_map h]
theorem lay_map {α : Type} {k : Nat} {f : α → D} (h : ShpE k f) : ∀ xs : List α, PyData.canLayAll0 (xs.map fun a => (f a).py) = true ∧ PyData.depthAll (xs.map fun a => (f a).py) ≤ k
  | [] => ⟨rfl, Nat.zero_le _⟩
  | x :: xs => by
    obtain ⟨h1, h2⟩ := lay_map h xs
    obtain ⟨h3, h4⟩ := h x
    refine ⟨?_, ?_⟩
    · rw [List.map_cons, PyData.canLayAll0, h3, h1]; rfl
    · rw [List.map_cons, PyData.depthAll]; omega
theorem ShpE.lst {α : Type} {k : Nat} {f : α → D} (h : ShpE k f) (m : Mk) : ShpE (k + 1) (fun xs : List α => D.lst m (xs.map f)) := fun xs => by
  obtain ⟨h1, h2⟩ := lay_map h xs
  show (PyData.list (D.pyL (xs.map f))).canLay0 = true ∧ (PyData.list (D.pyL (xs.map f))).depth ≤ _
  rw [pyL_map, PyData.canLay0, PyData.depth]
  exact ⟨h1, by omega⟩
theorem ShpE.tup {α : Type} {k : Nat} {f : α → D} (h : ShpE k f) : ShpE (k + 1) (fun xs : List α => D.tup (xs.map f)) := fun xs => by
  obtain ⟨h1, h2⟩ := lay_map h xs
  show (PyData.tuple (D.pyL (xs.map f))).canLay0 = true ∧ (PyData.tuple (D.pyL (xs.map f))).depth ≤ _
  rw [pyL_map, PyData.canLay0, PyData.depth]
  exact ⟨h1, by omega⟩
theorem eqE_int : EqE D.int D.int := fun a b => by show PyData.eqv (.int a) (.int b) = _; rw [PyData.eqv]; rfl
theorem shpE_int : ShpE 0 D.int := fun a => ⟨rfl, Nat.le_refl _⟩
theorem eqE_pair : EqE pD pD := fun a b => by
  show PyData.eqv (.tuple [.int a.1, .int a.2]) (.tuple [.int b.1, .int b.2]) = _
  rw [PyData.eqv, PyData.eqvAll, PyData.eqvAll, PyData.eqvAll, PyData.eqv, PyData.eqv, Bool.and_true]
  obtain ⟨a1, a2⟩ := a
  obtain ⟨b1, b2⟩ := b
  by_cases h1 : a1 = b1 <;> by_cases h2 : a2 = b2 <;> simp [h1, h2]
theorem shpE_pair : ShpE 1 pD := fun a => ⟨rfl, by show PyData.depth (.tuple [.int a.1, .int a.2]) ≤ 1; simp [PyData.depth, PyData.depthAll]⟩
theorem shp_of {α : Type} {k : Nat} {f : α → D} (h : ShpE k f) (hk : k ≤ 64) (a : α) : (f a).shp = true := by
  obtain ⟨h1, h2⟩ := h a
  show ((f a).py.canLay0 && decide ((f a).py.depth ≤ 64)) = true
  rw [h1, decide_eq_true (by omega)]
  rfl
theorem eq_of {α : Type} [DecidableEq α] {k k' : Nat} {f g : α → D} (h : EqE f g) (hf : ShpE k f) (hg : ShpE k' g) (hk : k ≤ 64) (hk' : k' ≤ 64) (a b : α) : p_eq [f a, g b] = some (.bl (decide (a = b))) := by
  show (if (f a).shp && (g b).shp then some (D.bl (PyData.eqv (f a).py (g b).py)) else none) = _
  rw [shp_of hf hk, shp_of hg hk', h a b]
  rfl
theorem ne_of {α : Type} [DecidableEq α] {k k' : Nat} {f g : α → D} (h : EqE f g) (hf : ShpE k f) (hg : ShpE k' g) (hk : k ≤ 64) (hk' : k' ≤ 64) (a b : α) : p_ne [f a, g b] = some (.bl (!decide (a = b))) := by
  show (if (f a).shp && (g b).shp then some (D.bl (!PyData.eqv (f a).py (g b).py)) else none) = _
  rw [shp_of hf hk, shp_of hg hk', h a b]
  rfl
theorem ne_ints (m m' : Mk) (a b : List Int) : p_ne [.lst m (a.map D.int), .lst m' (b.map D.int)] = some (.bl (!decide (a = b))) := ne_of (eqE_int.lst m m') (shpE_int.lst m) (shpE_int.lst m') (by decide) (by decide) a b
theorem eq_ints (m m' : Mk) (a b : List Int) : p_eq [.lst m (a.map D.int), .lst m' (b.map D.int)] = some (.bl (decide (a = b))) := eq_of (eqE_int.lst m m') (shpE_int.lst m) (shpE_int.lst m') (by decide) (by decide) a b
theorem ne_pairs (m m' : Mk) (a b : List (Int × Int)) : p_ne [.lst m (a.map pD), .lst m' (b.map pD)] = some (.bl (!decide (a = b))) := ne_of (eqE_pair.lst m m') (shpE_pair.lst m) (shpE_pair.lst m') (by decide) (by decide) a b
theorem eq_pairs (m m' : Mk) (a b : List (Int × Int)) : p_eq [.lst m (a.map pD), .lst m' (b.map pD)] = some (.bl (decide (a = b))) := eq_of (eqE_pair.lst m m') (shpE_pair.lst m) (shpE_pair.lst m') (by decide) (by decide) a b
theorem ne_webs (a b : List (List Int)) : p_ne [.tup (a.map tD), .tup (b.map tD)] = some (.bl (!decide (a = b))) := ne_of eqE_int.tup.tup shpE_int.tup.tup shpE_int.tup.tup (by decide) (by decide) a b
theorem eq_webs (a b : List (List Int)) : p_eq [.tup (a.map tD), .tup (b.map tD)] = some (.bl (decide (a = b))) := eq_of eqE_int.tup.tup shpE_int.tup.tup shpE_int.tup.tup (by decide) (by decide) a b
/-- lists kept as they are, their marks turned -/
theorem toL_lst (k m : Mk) (rs : List (List Int)) (hn : ∀ (r : List Int), D.toL k (r.map D.int) = r.map D.int) : D.toL k (rs.map fun r => D.lst m (r.map D.int)) = rs.map fun r => D.lst (k.to m) (r.map D.int) := by
  induction rs with
  | nil => rfl
  | cons r rs ih =>
    show D.lst (k.to m) (D.toL k (r.map D.int)) :: D.toL k (rs.map fun r => D.lst m (r.map D.int)) = _
    rw [ih, hn]
    rfl
theorem flatMap_append_perm {α β : Type} (f g : α → List β) : ∀ l : List α, (l.flatMap fun x => f x ++ g x).Perm (l.flatMap f ++ l.flatMap g)
  | [] => List.Perm.refl _
  | x :: l => by
    rw [List.flatMap_cons, List.flatMap_cons, List.flatMap_cons]
    refine ((flatMap_append_perm f g l).append_left (f x ++ g x)).trans ?_
    rw [List.append_assoc, List.append_assoc]
    refine List.Perm.append_left (f x) ?_
    rw [← List.append_assoc, ← List.append_assoc]
    exact List.Perm.append_right _ List.perm_append_comm
theorem flatMap_one {β : Type} (x : β) (k : Nat) : ∀ many, ((List.range many).flatMap fun i => if i = k then [x] else []) = if k < many then [x] else []
  | 0 => rfl
  | m + 1 => by
    rw [List.range_succ, List.flatMap_append, flatMap_one x k m]
    simp only [List.flatMap_cons, List.flatMap_nil, List.append_nil]
    by_cases h1 : k < m
    · rw [if_pos h1, if_neg (by omega), if_pos (by omega)]; rfl
    · by_cases h2 : m = k
      · rw [if_neg h1, if_pos h2, if_pos (by omega)]; rfl
      · rw [if_neg h1, if_neg h2, if_neg (by omega)]; rfl
theorem perm_flatMap {α β : Type} {f g : α → List β} : ∀ {l : List α}, (∀ x ∈ l, (f x).Perm (g x)) → (l.flatMap f).Perm (l.flatMap g)
  | [], _ => List.Perm.refl _
  | x :: l, h => by
    rw [List.flatMap_cons, List.flatMap_cons]
    exact (h x List.mem_cons_self).append (perm_flatMap fun y hy => h y (List.mem_cons_of_mem _ hy))
/-- the higher neighbours of place i -/
def upAt (ts : List (Int × Int)) (i : Nat) : List (Int × Int) := ((adjL ts i).filter fun o => decide ((i : Int) < o)).map fun o => ((i : Int), o)
theorem adjL_cons (p : Int × Int) (ts : List (Int × Int)) (i : Nat) : adjL (p :: ts) i = ((if p.1 = (i : Int) then [p.2] else []) ++ (if p.2 = (i : Int) then [p.1] else [])) ++ adjL ts i := by
  unfold adjL; rw [List.flatMap_cons]
theorem up_one {p : Int × Int} {many : Nat} (h : 0 ≤ p.1 ∧ p.1 < (many : Int) ∧ 0 ≤ p.2 ∧ p.2 < (many : Int) ∧ p.1 ≠ p.2) :
    ((List.range many).flatMap fun (i : Nat) => (((if p.1 = (i : Int) then [p.2] else []) ++ (if p.2 = (i : Int) then [p.1] else [])).filter fun o => decide ((i : Int) < o)).map fun o => ((i : Int), o)) = [nrm p] := by
  obtain ⟨a, b⟩ := p
  obtain ⟨h1, h2, h3, h4, h5⟩ := h
  dsimp only at h1 h2 h3 h4 h5
  obtain ⟨a, rfl⟩ := int_nat h1
  obtain ⟨b, rfl⟩ := int_nat h3
  rcases Nat.lt_or_ge a b with hab | hab
  · have e : nrm ((a : Int), (b : Int)) = ((a : Int), (b : Int)) := by simp only [nrm]; congr 1 <;> omega
    rw [e, show [((a : Int), (b : Int))] = if a < many then [((a : Int), (b : Int))] else [] by rw [if_pos (by omega)], ← flatMap_one ((a : Int), (b : Int)) a many]
    congr 1
    funext i
    dsimp only
    by_cases q1 : a = i
    · subst q1
      have n1 : ¬ ((b : Int) = (a : Int)) := by omega
      simp [n1, hab]
    · have n1 : ¬ ((a : Int) = (i : Int)) := by omega
      have n2 : ¬ i = a := by omega
      by_cases q2 : b = i
      · subst q2
        simp [n1, n2]; omega
      · have n3 : ¬ ((b : Int) = (i : Int)) := by omega
        simp [n1, n2, n3]
  · have e : nrm ((a : Int), (b : Int)) = ((b : Int), (a : Int)) := by simp only [nrm]; congr 1 <;> omega
    rw [e, show [((b : Int), (a : Int))] = if b < many then [((b : Int), (a : Int))] else [] by rw [if_pos (by omega)], ← flatMap_one ((b : Int), (a : Int)) b many]
    congr 1
    funext i
    dsimp only
    by_cases q1 : b = i
    · subst q1
      have n1 : ¬ ((a : Int) = (b : Int)) := by omega
      simp [n1]; omega
    · have n1 : ¬ ((b : Int) = (i : Int)) := by omega
      have n2 : ¬ i = b := by omega
      by_cases q2 : a = i
      · subst q2
        simp [n1, n2]; omega
      · have n3 : ¬ ((a : Int) = (i : Int)) := by omega
        simp [n1, n2, n3]
theorem up_perm {many : Nat} : ∀ {ts : List (Int × Int)}, (∀ p ∈ ts, 0 ≤ p.1 ∧ p.1 < (many : Int) ∧ 0 ≤ p.2 ∧ p.2 < (many : Int) ∧ p.1 ≠ p.2) → ((List.range many).flatMap (upAt ts)).Perm (ts.map nrm)
  | [], _ => by
    have : ∀ l : List Nat, l.flatMap (upAt []) = [] := fun l => by
      induction l with
      | nil => rfl
      | cons x l ih => rw [List.flatMap_cons, ih]; rfl
    rw [this]
    exact List.Perm.refl _
  | p :: ts, h => by
    have e : upAt (p :: ts) = fun (i : Nat) => ((((if p.1 = (i : Int) then [p.2] else []) ++ (if p.2 = (i : Int) then [p.1] else [])).filter fun o => decide ((i : Int) < o)).map fun o => ((i : Int), o)) ++ upAt ts i := by
      funext i
      unfold upAt
      rw [adjL_cons, List.filter_append, List.map_append]
    rw [e]
    refine (flatMap_append_perm _ _ _).trans ?_
    rw [up_one (h p List.mem_cons_self)]
    exact (up_perm fun q hq => h q (List.mem_cons_of_mem _ hq)).cons (nrm p)
theorem web_get {many : Nat} {ts : List (Int × Int)} {i : Nat} (h : i < many) : (webL many ts).getD i [] = isort (adjL ts i) := by
  rw [List.getD_eq_getElem?_getD, webL_def, List.getElem?_map, List.getElem?_range h]
  rfl
theorem tiesOf_perm {many : Nat} {ts : List (Int × Int)} (h : ∀ p ∈ ts, 0 ≤ p.1 ∧ p.1 < (many : Int) ∧ 0 ≤ p.2 ∧ p.2 < (many : Int) ∧ p.1 ≠ p.2) : (tiesOf (webL many ts)).Perm (ts.map nrm) := by
  refine List.Perm.trans ?_ (up_perm h)
  unfold tiesOf
  rw [webL_len]
  refine perm_flatMap fun i hi => ?_
  have hi := List.mem_range.mp hi
  unfold tiesAt upAt
  rw [web_get hi]
  exact ((isort_perm _).filter _).map _
theorem tiesOf_sorted (many : Nat) (ts : List (Int × Int)) : (tiesOf (webL many ts)).Pairwise (fun a b => leP a b = true) := by
  unfold tiesOf
  rw [webL_len]
  have pre : ∀ k, k ≤ many → ((List.range k).flatMap (tiesAt (webL many ts))).Pairwise (fun a b => leP a b = true) ∧ ∀ p ∈ (List.range k).flatMap (tiesAt (webL many ts)), p.1 < (k : Int) := fun k hk => by
    induction k with
    | zero => exact ⟨List.Pairwise.nil, fun p hp => by simp at hp⟩
    | succ k ih =>
      obtain ⟨i1, i2⟩ := ih (by omega)
      have e : tiesAt (webL many ts) k = ((isort (adjL ts k)).filter fun o => decide ((k : Int) < o)).map fun o => ((k : Int), o) := by
        unfold tiesAt; rw [web_get (by omega)]
      have own : ∀ p ∈ tiesAt (webL many ts) k, p.1 = (k : Int) := fun p hp => by
        rw [e] at hp
        obtain ⟨o, _, rfl⟩ := List.mem_map.mp hp
        rfl
      rw [List.range_succ, List.flatMap_append, List.flatMap_cons, List.flatMap_nil, List.append_nil]
      refine ⟨List.pairwise_append.mpr ⟨i1, ?_, fun a ha b hb => ?_⟩, fun p hp => ?_⟩
      · rw [e, List.pairwise_map]
        refine ((isort_sorted (adjL ts k)).filter _).imp fun {a b} hab => ?_
        rw [leP_iff]
        exact .inr ⟨rfl, hab⟩
      · rw [leP_iff]
        have := i2 a ha
        have := own b hb
        exact .inl (by omega)
      · rcases List.mem_append.mp hp with q | q
        · have := i2 p q; omega
        · have := own p q; omega
  exact (pre many (Nat.le_refl _)).1
theorem tiesOf_is {many : Nat} {ts : List (Int × Int)} (h : ∀ p ∈ ts, 0 ≤ p.1 ∧ p.1 < (many : Int) ∧ 0 ≤ p.2 ∧ p.2 < (many : Int) ∧ p.1 ≠ p.2) : tiesOf (webL many ts) = psort (ts.map nrm) :=
  psort_uniq (tiesOf_perm h) (tiesOf_sorted many ts)
theorem nrm_nrm (p : Int × Int) : nrm (nrm p) = nrm p := by simp only [nrm]; congr 1 <;> omega
theorem due_ok {many : Int} {ts : List (Int × Int)} (h : TiesOk many ts) : TiesOk many (psort (ts.map nrm)) := by
  have hp := psort_perm (ts.map nrm)
  refine ⟨fun p hm => ?_, ?_⟩
  · obtain ⟨q, hq, rfl⟩ := List.mem_map.mp (hp.mem_iff.mp hm)
    have := h.inn q hq
    simp only [nrm]; omega
  · refine (hp.map nrm).nodup_iff.mpr ?_
    rw [List.map_map]
    have : (nrm ∘ nrm) = nrm := funext nrm_nrm
    rw [this]
    exact h.nd
theorem adj_perm {ts us : List (Int × Int)} (i : Nat) (h : ts.Perm us) : (adjL ts i).Perm (adjL us i) := h.flatMap_right _
theorem adj_nrm {ts : List (Int × Int)} (h : ∀ p ∈ ts, p.1 ≠ p.2) (i : Nat) : adjL (ts.map nrm) i = adjL ts i := by
  induction ts with
  | nil => rfl
  | cons p r ih =>
    rw [List.map_cons, adjL_cons, adjL_cons, ih fun q hq => h q (List.mem_cons_of_mem _ hq)]
    congr 1
    have hp := h p List.mem_cons_self
    obtain ⟨a, b⟩ := p
    dsimp only at hp
    rcases Int.lt_or_le a b with q | q
    · have e : nrm (a, b) = (a, b) := by simp only [nrm]; congr 1 <;> omega
      rw [e]
    · have e : nrm (a, b) = (b, a) := by simp only [nrm]; congr 1 <;> omega
      rw [e]
      dsimp only
      by_cases q1 : a = (i : Int)
      · have n1 : ¬ b = (i : Int) := by omega
        simp [q1, n1]
      · by_cases q2 : b = (i : Int)
        · simp [q1, q2]
        · simp [q1, q2]
theorem web_due {many : Nat} {ts : List (Int × Int)} (h : ∀ p ∈ ts, p.1 ≠ p.2) : webL many (psort (ts.map nrm)) = webL many ts := by
  rw [webL_def, webL_def]
  refine List.map_congr_left fun i _ => ?_
  refine isort_uniq ?_ (isort_sorted _)
  rw [← adj_nrm h i]
  exact (isort_perm _).trans (adj_perm i (psort_perm _))
theorem pairsOf_map : ∀ ps : List (Int × Int), pairsOf (psD ps) = some ps
  | [] => rfl
  | (a, b) :: r => by
    show (pairsOf (psD r)).map ((a, b) :: ·) = _
    rw [pairsOf_map r]
    rfl
theorem sorted_pairs (m : Mk) (ps : List (Int × Int)) : p_sorted [.lst m (psD ps)] = some (.lst .own (psD (psort ps))) := by
  cases ps with
  | nil => rfl
  | cons p r =>
    show (pairsOf (psD (p :: r))).map (fun ps => D.lst Mk.own ((psort ps).map fun p => D.tup [.int p.1, .int p.2])) = _
    rw [pairsOf_map]
    rfl
theorem adjL_len (ts : List (Int × Int)) (i : Nat) : (adjL ts i).length ≤ 2 * ts.length := by
  induction ts with
  | nil => exact Nat.le_refl _
  | cons p r ih =>
    rw [adjL_cons, List.length_append, List.length_append, List.length_cons]
    have h1 : (if p.1 = (i : Int) then [p.2] else []).length ≤ 1 := by split <;> simp
    have h2 : (if p.2 = (i : Int) then [p.1] else []).length ≤ 1 := by split <;> simp
    omega
end DL
set_option Elab.async false
set_option linter.all false
set_option maxRecDepth 100000
namespace K03
open DL PySem
def fd_is_below : FD := ⟨2, 2, [false, false], [
  .ret (.and (.p (.isinst "int") (.v 0 .nil)) (.and (.not (.p (.isinst "bool") (.v 0 .nil))) (.chain .le .lt (.n 0) (.v 0) (.v 1))))]⟩
def fd_ask_number : FD := ⟨3, 3, [false, false, false], [
  .ite (.or (.not (.call "is_below" (.v 0 (.e (.p .add (.v 2 (.e (.n 1) .nil))) .nil)))) (.p .lt (.v 0 (.v 1 .nil)))) [.never] []]⟩
def e0_tied : CE := (.lst .nil)
def b1_tied : List CS := [.mut2 .append 2 (.v 4) (.q (.v 5) .nil), .mut2 .append 2 (.v 5) (.q (.v 4) .nil)]
def e2_tied : CE := (.p .tuple (.e (.p .sorted (.v 6 .nil)) .nil))
def fd_tied : FD := ⟨2, 7, [false, false], [
  .asg (.n 2) (.comp [3] (.n 3) (.r1 (.v 0)) (.b true) e0_tied),
  .for (.t [(.n 4), (.n 5)]) (.s 1) b1_tied,
  .ret (.p .tuple (.e (.comp [6] (.n 6) (.e (.vf 2)) (.b true) e2_tied) .nil))]⟩
def e0_line_web : CE := (.tup (.e (.v 1) (.e (.p .add (.v 1 (.e (.n 1) .nil))) .nil)))
def fd_line_web : FD := ⟨1, 2, [false], [
  .expr (.call "ask_number" (.v 0 (.e (.n 1) (.e (.g "MOST_PLACES") .nil)))),
  .ret (.call "tied" (.v 0 (.e (.comp [1] (.n 1) (.r1 (.p .sub (.v 0 (.e (.n 1) .nil)))) (.b true) e0_line_web) .nil)))]⟩
def b0_grid_web : List CS := [.ite (.p .lt (.e (.p .mod (.v 3 (.v 0 .nil))) (.e (.p .sub (.v 0 (.e (.n 1) .nil))) .nil))) [.mut .append 2 (.e (.tup (.e (.v 3) (.e (.p .add (.v 3 (.e (.n 1) .nil))) .nil))) .nil)] [], .ite (.p .lt (.e (.p .add (.v 3 (.v 0 .nil))) (.e (.p .mul (.v 0 (.v 1 .nil))) .nil))) [.mut .append 2 (.e (.tup (.e (.v 3) (.e (.p .add (.v 3 (.v 0 .nil))) .nil))) .nil)] []]
def fd_grid_web : FD := ⟨2, 4, [false, false], [
  .expr (.call "ask_number" (.v 0 (.e (.n 1) (.e (.g "MOST_PLACES") .nil)))),
  .expr (.call "ask_number" (.v 1 (.e (.n 1) (.e (.g "MOST_PLACES") .nil)))),
  .expr (.call "ask_number" (.e (.p .mul (.v 0 (.v 1 .nil))) (.e (.n 1) (.e (.g "MOST_PLACES") .nil)))),
  .asg (.n 2) (.lst .nil),
  .for (.n 3) (.r1 (.p .mul (.v 0 (.v 1 .nil)))) b0_grid_web,
  .ret (.call "tied" (.e (.p .mul (.v 0 (.v 1 .nil))) (.v 2 .nil)))]⟩
def b0_cube_web : List CS := [.ite (.p .eq (.e (.p .band (.e (.p .shr (.v 2 (.v 3 .nil))) (.e (.n 1) .nil))) (.e (.n 0) .nil))) [.mut .append 1 (.e (.tup (.e (.v 2) (.e (.p .add (.v 2 (.e (.p .shl (.e (.n 1) (.v 3 .nil))) .nil))) .nil))) .nil)] []]
def b1_cube_web : List CS := [.for (.n 3) (.r1 (.v 0)) b0_cube_web]
def fd_cube_web : FD := ⟨1, 4, [false], [
  .expr (.call "ask_number" (.v 0 (.e (.n 0) (.e (.n 4) .nil)))),
  .asg (.n 1) (.lst .nil),
  .for (.n 2) (.r1 (.p .shl (.e (.n 1) (.v 0 .nil)))) b1_cube_web,
  .ret (.call "tied" (.e (.p .shl (.e (.n 1) (.v 0 .nil))) (.v 1 .nil)))]⟩
def b0_tree_web : List CS := [.expr (.call "ask_number" (.e (.p .idx (.v 0 (.v 1 .nil))) (.e (.n 0) (.v 1 .nil))))]
def e1_tree_web : CE := (.tup (.e (.p .idx (.v 0 (.v 1 .nil))) (.e (.p .add (.v 1 (.e (.n 1) .nil))) .nil)))
def fd_tree_web : FD := ⟨1, 2, [false], [
  .ite (.or (.not (.p (.isinst "list") (.v 0 .nil))) (.p .ge (.e (.p .len (.v 0 .nil)) (.e (.g "MOST_PLACES") .nil)))) [.never] [],
  .for (.n 1) (.r1 (.p .len (.v 0 .nil))) b0_tree_web,
  .ret (.call "tied" (.e (.p .add (.e (.p .len (.v 0 .nil)) (.e (.n 1) .nil))) (.e (.comp [1] (.n 1) (.r1 (.p .len (.v 0 .nil))) (.b true) e1_tree_web) .nil)))]⟩
def fd__law_mixed : FD := ⟨2, 2, [false, false], [
  .asg (.n 0) (.p .mod (.e (.p .mul (.e (.p .add (.e (.p .add (.e (.p .mod (.v 0 (.e (.n 2147483647) .nil))) (.e (.p .mul (.e (.n 7) (.v 1 .nil))) .nil))) (.e (.n 1) .nil))) (.e (.n 48271) .nil))) (.e (.n 2147483629) .nil))),
  .asg (.n 0) (.p .mod (.e (.p .add (.e (.p .mul (.v 0 (.v 0 .nil))) (.e (.p .mul (.e (.n 69621) (.v 1 .nil))) .nil))) (.e (.n 2147483587) .nil))),
  .ret (.p .mod (.e (.p .mul (.v 0 (.e (.p .add (.e (.p .mod (.v 0 (.e (.n 65521) .nil))) (.e (.n 3) .nil))) .nil))) (.e (.n 2147483563) .nil)))]⟩
def fd__law_cell : FD := ⟨2, 3, [false, false], [
  .ite (.p .lt (.v 1 (.e (.p .len (.v 0 .nil)) .nil))) [.ret (.p .idx (.v 0 (.v 1 .nil)))] [],
  .asg (.n 2) (.p .add (.e (.n 97) (.v 1 .nil))),
  .ite (.p .gt (.e (.p .len (.v 0 .nil)) (.e (.n 0) .nil))) [.asg (.n 2) (.p .add (.v 2 (.e (.p .mul (.e (.p .mod (.e (.p .idx (.v 0 (.e (.p .mod (.v 1 (.e (.p .len (.v 0 .nil)) .nil))) .nil))) (.e (.p .pow (.e (.n 10) (.e (.n 30) .nil))) .nil))) (.e (.p .add (.e (.p .fdiv (.v 1 (.e (.p .len (.v 0 .nil)) .nil))) (.e (.n 2) .nil))) .nil))) .nil)))] [],
  .ret (.call "_law_mixed" (.v 2 (.v 1 .nil)))]⟩
def fd__law_pen : FD := ⟨1, 1, [false], [
  .ret (.lst (.e (.v 0) (.e (.n 1) (.e (.n 0) (.e (.n 0) (.e (.p .mod (.e (.call "_law_cell" (.v 0 (.e (.n 0) .nil))) (.e (.n 2) .nil))) .nil))))))]⟩
def fd__law_take : FD := ⟨2, 3, [true, false], [
  .ite (.p .eq (.q (.ix (.v 0) (.n 3)) (.e (.n 0) .nil))) [.setI 0 (.n 2) (.call "_law_cell" (.e (.p .idx (.v 0 (.e (.n 0) .nil))) (.e (.p .idx (.v 0 (.e (.n 1) .nil))) .nil))), .ite (.p .eq (.q (.ix (.v 0) (.n 4)) (.e (.n 1) .nil))) [.setI 0 (.n 2) (.call "_law_mixed" (.e (.p .idx (.v 0 (.e (.n 2) .nil))) (.e (.p .idx (.v 0 (.e (.n 1) .nil))) .nil)))] [], .setI 0 (.n 3) (.p .idx (.e (.lst (.e (.n 40) (.e (.n 1) .nil))) (.q (.ix (.v 0) (.n 4)) .nil))), .setI 0 (.n 1) (.p .add (.q (.ix (.v 0) (.n 1)) (.e (.n 1) .nil)))] [],
  .setI 0 (.n 3) (.p .sub (.q (.ix (.v 0) (.n 3)) (.e (.n 1) .nil))),
  .asg (.n 2) (.p .mod (.q (.ix (.v 0) (.n 2)) (.v 1 .nil))),
  .setI 0 (.n 2) (.p .fdiv (.q (.ix (.v 0) (.n 2)) (.v 1 .nil))),
  .ret (.vt 2)]⟩
def fd__law_whole : FD := ⟨1, 1, [false], [
  .ret (.and (.p (.isinst "int") (.v 0 .nil)) (.not (.p (.isinst "bool") (.v 0 .nil))))]⟩
def c0__law_right : CE := (.not (.call "_law_whole" (.v 3 .nil)))
def e1__law_right : CE := (.v 3)
def b2__law_right : List CS := [.ite (.or (.not (.p (.isinst "tuple") (.q (.ix (.v 0) (.v 2)) .nil))) (.p .ne (.e (.p .list (.q (.ix (.v 0) (.v 2)) .nil)) (.q (.ix (.v 1) (.v 2)) .nil)))) [.ret (.b false)] [], .ite (.p .ne (.e (.comp [3] (.n 3) (.e (.p .idx (.v 0 (.v 2 .nil)))) c0__law_right e1__law_right) (.e (.lst .nil) .nil))) [.ret (.b false)] []]
def fd__law_right : FD := ⟨2, 4, [false, false], [
  .ite (.or (.not (.p (.isinst "tuple") (.v 0 .nil))) (.p .ne (.e (.p .len (.v 0 .nil)) (.e (.p .len (.v 1 .nil)) .nil)))) [.ret (.b false)] [],
  .for (.n 2) (.r1 (.p .len (.v 1 .nil))) b2__law_right,
  .ret (.b true)]⟩
def c0__law_grid_near : CE := (.and (.chain .le .lt (.n 0) (.v 6) (.v 0)) (.chain .le .lt (.n 0) (.v 7) (.v 1)))
def e1__law_grid_near : CE := (.p .add (.e (.p .mul (.v 7 (.v 0 .nil))) (.v 6 .nil)))
def b2__law_grid_near : List CS := [.asg (.n 5) (.lst (.e (.tup (.e (.v 4) (.e (.p .sub (.v 3 (.e (.n 1) .nil))) .nil))) (.e (.tup (.e (.p .sub (.v 4 (.e (.n 1) .nil))) (.e (.v 3) .nil))) (.e (.tup (.e (.p .add (.v 4 (.e (.n 1) .nil))) (.e (.v 3) .nil))) (.e (.tup (.e (.v 4) (.e (.p .add (.v 3 (.e (.n 1) .nil))) .nil))) .nil))))), .mut .append 2 (.e (.comp [6, 7] (.t [(.n 6), (.n 7)]) (.s 5) c0__law_grid_near e1__law_grid_near) .nil)]
def b3__law_grid_near : List CS := [.for (.n 4) (.r1 (.v 0)) b2__law_grid_near]
def fd__law_grid_near : FD := ⟨2, 8, [false, false], [
  .asg (.n 2) (.lst .nil),
  .for (.n 3) (.r1 (.v 1)) b3__law_grid_near,
  .ret (.vt 2)]⟩
def e0__law_cube_near : CE := (.p .bxor (.v 2 (.e (.p .shl (.e (.n 1) (.v 3 .nil))) .nil)))
def b1__law_cube_near : List CS := [.mut .append 1 (.e (.p .sorted (.e (.comp [3] (.n 3) (.r1 (.v 0)) (.b true) e0__law_cube_near) .nil)) .nil)]
def fd__law_cube_near : FD := ⟨1, 4, [false], [
  .asg (.n 1) (.lst .nil),
  .for (.n 2) (.r1 (.p .idx (.e (.lst (.e (.n 1) (.e (.n 2) (.e (.n 4) (.e (.n 8) (.e (.n 16) .nil)))))) (.v 0 .nil)))) b1__law_cube_near,
  .ret (.vt 1)]⟩
def c0__law_tree_near : CE := (.p .eq (.q (.ix (.v 0) (.v 4)) (.v 2 .nil)))
def e1__law_tree_near : CE := (.p .add (.v 4 (.e (.n 1) .nil)))
def b2__law_tree_near : List CS := [.asg (.n 3) (.comp [4] (.n 4) (.r1 (.p .len (.v 0 .nil))) c0__law_tree_near e1__law_tree_near), .ite (.p .gt (.v 2 (.e (.n 0) .nil))) [.asg (.n 3) (.p .add (.e (.lst (.e (.p .idx (.v 0 (.e (.p .sub (.v 2 (.e (.n 1) .nil))) .nil))) .nil)) (.v 3 .nil)))] [], .mut .append 1 (.e (.vt 3) .nil)]
def fd__law_tree_near : FD := ⟨1, 5, [false], [
  .asg (.n 1) (.lst .nil),
  .for (.n 2) (.r1 (.p .add (.e (.p .len (.v 0 .nil)) (.e (.n 1) .nil)))) b2__law_tree_near,
  .ret (.vt 1)]⟩
def c0_law : CE := (.chain .le .lt (.n 0) (.v 4) (.v 2))
def e1_law : CE := (.v 4)
def e2_law : CE := (.comp [4] (.n 4) (.e (.tup (.e (.p .sub (.v 5 (.e (.n 1) .nil))) (.e (.p .add (.v 5 (.e (.n 1) .nil))) .nil)))) c0_law e1_law)
def e3_law : CE := (.call "_law_take" (.l 1 (.e (.p .add (.v 10 (.e (.n 1) .nil))) .nil)))
def fd_law : FD := ⟨1, 12, [false], [
  .asg (.n 1) (.call "_law_pen" (.v 0 .nil)),
  .asg (.n 2) (.p .add (.e (.n 1) (.e (.call "_law_take" (.l 1 (.e (.n 24) .nil))) .nil))),
  .asg (.n 3) (.comp [5] (.n 5) (.r1 (.v 2)) (.b true) e2_law),
  .ite (.not (.call "_law_right" (.e (.call "line_web" (.v 2 .nil)) (.v 3 .nil)))) [.ret (.b false)] [],
  .asg (.n 6) (.p .add (.e (.n 1) (.e (.call "_law_take" (.l 1 (.e (.n 24) .nil))) .nil))),
  .asg (.n 7) (.p .add (.e (.n 1) (.e (.call "_law_take" (.l 1 (.e (.p .fdiv (.e (.n 24) (.v 6 .nil))) .nil))) .nil))),
  .ite (.p .eq (.e (.call "_law_take" (.l 1 (.e (.n 2) .nil))) (.e (.n 1) .nil))) [.par 6 7 (.e (.v 7) (.e (.v 6) .nil))] [],
  .ite (.not (.call "_law_right" (.e (.call "grid_web" (.v 6 (.v 7 .nil))) (.e (.call "_law_grid_near" (.v 6 (.v 7 .nil))) .nil)))) [.ret (.b false)] [],
  .asg (.n 8) (.call "_law_take" (.l 1 (.e (.n 5) .nil))),
  .ite (.not (.call "_law_right" (.e (.call "cube_web" (.v 8 .nil)) (.e (.call "_law_cube_near" (.v 8 .nil)) .nil)))) [.ret (.b false)] [],
  .asg (.n 9) (.comp [10] (.n 10) (.r1 (.call "_law_take" (.l 1 (.e (.n 24) .nil)))) (.b true) e3_law),
  .asg (.n 11) (.p .list (.v 9 .nil)),
  .ret (.and (.call "_law_right" (.e (.call "tree_web" (.v 11 .nil)) (.e (.call "_law_tree_near" (.v 9 .nil)) .nil))) (.p .eq (.v 11 (.v 9 .nil))))]⟩
def tab : List (Str × FD) := [("is_below", fd_is_below), ("ask_number", fd_ask_number), ("tied", fd_tied), ("line_web", fd_line_web), ("grid_web", fd_grid_web), ("cube_web", fd_cube_web), ("tree_web", fd_tree_web), ("_law_mixed", fd__law_mixed), ("_law_cell", fd__law_cell), ("_law_pen", fd__law_pen), ("_law_take", fd__law_take), ("_law_whole", fd__law_whole), ("_law_right", fd__law_right), ("_law_grid_near", fd__law_grid_near), ("_law_cube_near", fd__law_cube_near), ("_law_tree_near", fd__law_tree_near), ("law", fd_law)]
def prog (x : Str) : Option FD := tab.lookup x
def Gl (x : Str) : Option D := ([("MOST_PLACES", D.int 24)] : List (Str × D)).lookup x
abbrev E (n : Nat) : FT := fe prog Gl n
theorem e_is_below (n : Nat) (as : List D) : E (n + 1) "is_below" as = iF (E n) Gl fd_is_below as := by rw [E, fe_succ (fd := fd_is_below) rfl]
theorem e_ask_number (n : Nat) (as : List D) : E (n + 1) "ask_number" as = iF (E n) Gl fd_ask_number as := by rw [E, fe_succ (fd := fd_ask_number) rfl]
theorem e_tied (n : Nat) (as : List D) : E (n + 1) "tied" as = iF (E n) Gl fd_tied as := by rw [E, fe_succ (fd := fd_tied) rfl]
theorem e_line_web (n : Nat) (as : List D) : E (n + 1) "line_web" as = iF (E n) Gl fd_line_web as := by rw [E, fe_succ (fd := fd_line_web) rfl]
theorem e_grid_web (n : Nat) (as : List D) : E (n + 1) "grid_web" as = iF (E n) Gl fd_grid_web as := by rw [E, fe_succ (fd := fd_grid_web) rfl]
theorem e_cube_web (n : Nat) (as : List D) : E (n + 1) "cube_web" as = iF (E n) Gl fd_cube_web as := by rw [E, fe_succ (fd := fd_cube_web) rfl]
theorem e_tree_web (n : Nat) (as : List D) : E (n + 1) "tree_web" as = iF (E n) Gl fd_tree_web as := by rw [E, fe_succ (fd := fd_tree_web) rfl]
theorem e__law_mixed (n : Nat) (as : List D) : E (n + 1) "_law_mixed" as = iF (E n) Gl fd__law_mixed as := by rw [E, fe_succ (fd := fd__law_mixed) rfl]
theorem e__law_cell (n : Nat) (as : List D) : E (n + 1) "_law_cell" as = iF (E n) Gl fd__law_cell as := by rw [E, fe_succ (fd := fd__law_cell) rfl]
theorem e__law_pen (n : Nat) (as : List D) : E (n + 1) "_law_pen" as = iF (E n) Gl fd__law_pen as := by rw [E, fe_succ (fd := fd__law_pen) rfl]
theorem e__law_take (n : Nat) (as : List D) : E (n + 1) "_law_take" as = iF (E n) Gl fd__law_take as := by rw [E, fe_succ (fd := fd__law_take) rfl]
theorem e__law_whole (n : Nat) (as : List D) : E (n + 1) "_law_whole" as = iF (E n) Gl fd__law_whole as := by rw [E, fe_succ (fd := fd__law_whole) rfl]
theorem e__law_right (n : Nat) (as : List D) : E (n + 1) "_law_right" as = iF (E n) Gl fd__law_right as := by rw [E, fe_succ (fd := fd__law_right) rfl]
theorem e__law_grid_near (n : Nat) (as : List D) : E (n + 1) "_law_grid_near" as = iF (E n) Gl fd__law_grid_near as := by rw [E, fe_succ (fd := fd__law_grid_near) rfl]
theorem e__law_cube_near (n : Nat) (as : List D) : E (n + 1) "_law_cube_near" as = iF (E n) Gl fd__law_cube_near as := by rw [E, fe_succ (fd := fd__law_cube_near) rfl]
theorem e__law_tree_near (n : Nat) (as : List D) : E (n + 1) "_law_tree_near" as = iF (E n) Gl fd__law_tree_near as := by rw [E, fe_succ (fd := fd__law_tree_near) rfl]
theorem e_law (n : Nat) (as : List D) : E (n + 1) "law" as = iF (E n) Gl fd_law as := by rw [E, fe_succ (fd := fd_law) rfl]
theorem g_MOST_PLACES : Gl "MOST_PLACES" = some (.int 24) := rfl
end K03
set_option Elab.async false
set_option linter.all false
set_option maxRecDepth 100000
namespace K03
open DL PySem L2
theorem mixed_eq (n : Nat) (x k : Int) (h0 : 0 ≤ k) (h1 : k < 4294967296) : E (n + 1) "_law_mixed" [.int x, .int k] = some (.int (mixZ x k), [none, none]) := by
  rw [e__law_mixed]
  have q1 : p_mul [.int 7, .int k] = some (.int (7 * k)) := pmul (by decide) (by omega)
  have q2 : p_mul [.int (x % 2147483647 + 7 * k + 1), .int 48271] = some (.int ((x % 2147483647 + 7 * k + 1) * 48271)) := pmul (by omega) (by decide)
  have q3 : ∀ y : Int, p_mul [.int (y % 2147483629), .int (y % 2147483629)] = some (.int ((y % 2147483629) * (y % 2147483629))) := fun y => pmul (by omega) (by omega)
  have q4 : p_mul [.int 69621, .int k] = some (.int (69621 * k)) := pmul (by decide) (by omega)
  have q5 : ∀ y : Int, p_mul [.int (y % 2147483587), .int (y % 2147483587 % 65521 + 3)] = some (.int ((y % 2147483587) * (y % 2147483587 % 65521 + 3))) := fun y => pmul (by omega) (by omega)
  simp [fd__law_mixed, iF, iSs, iS, iE, iO, bnd, getS, pr, p_add, p_mod, D.frz, D.to, asgT, outsOf, D.nobor, D.nown, q1, q2, q3, q4, q5, mixZ]

theorem cell_eq (n : Nat) (m : Mk) (ns : List Int) (k : Int) (h0 : 0 ≤ k) (h1 : k < 4294967296) (hl : ns.length ≤ 63) : E (n + 2) "_law_cell" [.lst m (ns.map D.int), .int k] = some (.int (cellZ ns k), [none, none]) := by
  rw [e__law_cell]
  unfold cellZ
  by_cases hk : k < ns.length
  · rw [if_pos hk]
    have a1 := atI_ints h0 hk
    simp [fd__law_cell, iF, iSs, iS, iE, iO, bnd, onB, getS, pr, p_lt, p_len, p_idx, D.frz, D.to, asgT, outsOf, D.nobor, D.nown, hk, a1, cpy]
  · rw [if_neg hk]
    by_cases hz : 0 < ns.length
    · rw [if_pos hz]
      have hp : (0 : Int) < ns.length := by omega
      have r0 : 0 ≤ k % (ns.length : Int) := Int.emod_nonneg _ (by omega)
      have r1 : k % (ns.length : Int) < ns.length := Int.emod_lt_of_pos _ hp
      have a1 := atI_ints r0 r1
      have d0 : 0 ≤ k / (ns.length : Int) := Int.ediv_nonneg h0 (by omega)
      have d1 : k / (ns.length : Int) ≤ k := Int.ediv_le_self _ h0
      have hlt : (ns.length : Int) < 1073741824 := by omega
      have q1 : ∀ y : Int, p_mul [.int (y % 1000000000000000000000000000000), .int (k / (ns.length : Int) + 2)] = some (.int (y % 1000000000000000000000000000000 * (k / (ns.length : Int) + 2))) := fun y => pmul2 (Nat.lt_trans (show _ < 2 ^ 128 by omega) (by decide)) (Nat.lt_trans (show _ < 2 ^ 64 by omega) (by decide))
      have c1 := mixed_eq n (97 + k + ns.getD (k % (ns.length : Int)).toNat 0 % 1000000000000000000000000000000 * (k / (ns.length : Int) + 2)) k h0 h1
      simp only [List.getD_eq_getElem?_getD] at *
      simp [fd__law_cell, iF, iSs, iS, iE, iO, iA, bnd, onB, getS, pr, p_lt, p_gt, p_len, p_idx, p_mod, p_fdiv, p_add, ppow, D.frz, D.to, asgT, outsOf, D.nobor, D.nown, hk, hz, hp, hlt, a1, cpy, q1, lendA, fillA, restA, c1]
    · rw [if_neg hz]
      have c1 := mixed_eq n (97 + k) k h0 h1
      have hz' : ns = [] := by cases ns with
        | nil => rfl
        | cons _ _ => simp at hz
      subst hz'
      simp [fd__law_cell, iF, iSs, iS, iE, iO, iA, bnd, onB, getS, pr, p_lt, p_gt, p_len, p_idx, p_mod, p_fdiv, p_add, ppow, D.frz, D.to, asgT, outsOf, D.nobor, D.nown, show ¬ k < 0 by omega, cpy, lendA, fillA, restA, c1]

theorem pen_eq (n : Nat) (ns : List Int) (hl : ns.length ≤ 63) : ∃ d, E (n + 3) "_law_pen" [.lst .scr (ns.map D.int)] = some (d, [none]) ∧ Pen ns 4294967000 d := by
  rw [e__law_pen]
  have c1 := cell_eq n .scr ns 0 (by decide) (by decide) hl
  refine ⟨.lst .own [.lst .scr (ns.map D.int), .int 1, .int 0, .int 0, .int (cellZ ns 0 % 2)], ?_, 1, 0, 0, cellZ ns 0 % 2, rfl, by decide, by decide, by decide, by omega⟩
  have hs : (5 : Nat) ≤ sizeLine := by decide
  simp [fd__law_pen, iF, iSs, iS, iE, iX, iO, iA, bnd, getS, pr, p_mod, D.frz, D.to, lendA, fillA, restA, c1, outsOf, D.nobor, D.noborL, D.nown, D.nownL, nownL_ints, noborL_ints, toL_ints, hs, D.view, Mk.to]
theorem take_ok (f : Nat) {ns : List Int} {n : Nat} {d : D} {many : Int} (hp : Pen ns (n + 1) d) (h1 : 1 ≤ many) (h2 : many < 1073741824) (hl : ns.length ≤ 63) :
    ∃ v d', E (f + 3) "_law_take" [d, .int many] = some (.int v, [some d', none]) ∧ 0 ≤ v ∧ v < many ∧ Pen ns n d' := by
  obtain ⟨k, x, r, m, rfl, k0, k1, r0, hm⟩ := hp
  have hpos : 0 < many := by omega
  have i1 := ixN_5.1
  have i2 := ixN_5.2.1
  have i3 := ixN_5.2.2
  have hs : (2 : Nat) ≤ sizeLine := by decide
  have c1 := cell_eq f .scr ns k k0 (by omega) hl
  have v0 : ∀ y : Int, 0 ≤ y % many := fun y => Int.emod_nonneg _ (by omega)
  have v1 : ∀ y : Int, y % many < many := fun y => Int.emod_lt_of_pos _ hpos
  rw [e__law_take]
  by_cases hr : r = 0
  · subst hr
    rcases hm with rfl | rfl
    · refine ⟨cellZ ns k % many, .lst .own [.lst .scr (ns.map D.int), .int (k + 1), .int (cellZ ns k / many), .int 39, .int 0], ?_, v0 _, v1 _, k + 1, _, 39, 0, rfl, by omega, by omega, by decide, .inl rfl⟩
      simp [fd__law_take, iF, iSs, iS, iE, iX, iO, iA, iQ, itemAt, bnd, onB, getS, pr, eq_int, p_mod, p_fdiv, p_add, p_sub, p_idx, D.frz, D.to, D.toL, lendA, fillA, restA, c1, outsOf, D.nobor, D.noborL, D.nown, D.nownL, nownL_ints, noborL_ints, toL_ints, hs, D.view, Mk.to, at0, at1, at2, at3, at4, cpy, DL.setItem, asgT, i1, i2, i3, quietO, hpos, h2]
    · have c2 := mixed_eq (f + 1) (cellZ ns k) k k0 (by omega)
      refine ⟨mixZ (cellZ ns k) k % many, .lst .own [.lst .scr (ns.map D.int), .int (k + 1), .int (mixZ (cellZ ns k) k / many), .int 0, .int 1], ?_, v0 _, v1 _, k + 1, _, 0, 1, rfl, by omega, by omega, by decide, .inr rfl⟩
      simp [fd__law_take, iF, iSs, iS, iE, iX, iO, iA, iQ, itemAt, bnd, onB, getS, pr, eq_int, p_mod, p_fdiv, p_add, p_sub, p_idx, D.frz, D.to, D.toL, lendA, fillA, restA, c1, c2, outsOf, D.nobor, D.noborL, D.nown, D.nownL, nownL_ints, noborL_ints, toL_ints, hs, D.view, Mk.to, at0, at1, at2, at3, at4, cpy, DL.setItem, asgT, i1, i2, i3, quietO, hpos, h2]
  · refine ⟨x % many, .lst .own [.lst .scr (ns.map D.int), .int k, .int (x / many), .int (r - 1), .int m], ?_, v0 _, v1 _, k, _, r - 1, m, rfl, k0, by omega, by omega, hm⟩
    simp [fd__law_take, iF, iSs, iS, iE, iX, iO, iA, iQ, itemAt, bnd, onB, getS, pr, eq_int, p_mod, p_fdiv, p_add, p_sub, p_idx, D.frz, D.to, D.toL, lendA, fillA, restA, c1, outsOf, D.nobor, D.noborL, D.nown, D.nownL, nownL_ints, noborL_ints, toL_ints, hs, D.view, Mk.to, at0, at1, at2, at3, at4, cpy, DL.setItem, asgT, i1, i2, i3, quietO, hpos, h2, hr]
end K03
set_option Elab.async false
set_option linter.all false
set_option maxRecDepth 100000
namespace K03
open DL PySem L2
theorem is_below_eq (n : Nat) (x b : Int) : E (n + 1) "is_below" [.int x, .int b] = some (.bl (decide (0 ≤ x ∧ x < b)), [none, none]) := by
  rw [e_is_below]
  by_cases h : 0 ≤ x <;> simp [fd_is_below, iF, iF, iSs, iS, iE, iO, iX, iA, iT, iQ, itemAt, bnd, onB, getS, pr, eq_int, ne_int, p_lt, p_le, p_gt, p_ge, p_add, p_sub, p_mod, p_fdiv, p_idx, p_len, p_inn, p_notIn, p_min2, p_max2, p_list, p_tuple, p_isinst, tyIs, D.frz, D.to, D.toL, D.view, Mk.to, D.nown, D.nownL, D.nobor, D.noborL, lendA, fillA, restA, endT, asgT, asgTs, DL.setItem, mutL, item2, outsOf, cpy, quietO, itemsOf, DL.listOf, partI, isNonC, at0, at1, at2, at3, at4, h]
theorem ask_ok (n : Nat) {x lo hi : Int} (h1 : lo ≤ x) (h2 : x ≤ hi) (h0 : 0 ≤ x) : E (n + 2) "ask_number" [.int x, .int lo, .int hi] = some (.non, [none, none, none]) := by
  rw [e_ask_number]
  have e1 := is_below_eq n x (hi + 1)
  simp [fd_ask_number, iF, iF, iSs, iS, iE, iO, iX, iA, iT, iQ, itemAt, bnd, onB, getS, pr, eq_int, ne_int, p_lt, p_le, p_gt, p_ge, p_add, p_sub, p_mod, p_fdiv, p_idx, p_len, p_inn, p_notIn, p_min2, p_max2, p_list, p_tuple, p_isinst, tyIs, D.frz, D.to, D.toL, D.view, Mk.to, D.nown, D.nownL, D.nobor, D.noborL, lendA, fillA, restA, endT, asgT, asgTs, DL.setItem, mutL, item2, outsOf, cpy, quietO, itemsOf, DL.listOf, partI, isNonC, at0, at1, at2, at3, at4, e1, h0, show x < hi + 1 by omega, show ¬ x < lo by omega]
theorem tied_turn (F : FT) {many : Nat} {ts : List (Int × Int)} {a b : Nat} {o1 o6 : Option D} (ha : a < many) (hb : b < many) (hab : a ≠ b) (hl : ts.length < 10000) :
    iSs F Gl b1_tied [some (.int many), o1, some (.lst .own ((rowsL many ts).map rD)), none, some (.int a), some (.int b), o6] =
      some (.nx, [some (.int many), o1, some (.lst .own ((rowsL many (ts ++ [((a : Int), (b : Int))])).map rD)), none, some (.int a), some (.int b), o6]) := by
  have la : ∀ i, i < many → (rowsL many ts)[i]? = some (adjL ts i) := fun i hi => by rw [rowsL_def, List.getElem?_map, List.getElem?_range hi]; rfl
  have xa := ixN_in (n := many) ha
  have xb := ixN_in (n := many) hb
  have ll : ∀ i, (adjL ts i).length < sizeLine := fun i => by
    refine Nat.lt_of_le_of_lt (m := 2 * ts.length) ?_ (Nat.lt_trans (show 2 * ts.length < 20000 by omega) (by decide))
    unfold adjL
    rw [List.length_flatMap]
    have : ∀ us : List (Int × Int), (us.map fun p => ((if p.1 = (i : Int) then [p.2] else []) ++ (if p.2 = (i : Int) then [p.1] else [])).length).sum ≤ 2 * us.length := fun us => by
      induction us with
      | nil => exact Nat.le_refl _
      | cons p r ih =>
        rw [List.map_cons, List.sum_cons, List.length_cons, List.length_append]
        have h1 : (if p.1 = (i : Int) then [p.2] else []).length ≤ 1 := by split <;> simp
        have h2 : (if p.2 = (i : Int) then [p.1] else []).length ≤ 1 := by split <;> simp
        omega
    exact this ts
  have e1 : (D.lst Mk.own (List.map D.int (adjL ts a) ++ [D.int (b : Int)])) = rD (adjL ts a ++ [(b : Int)]) := by simp
  have e2 : (D.lst Mk.own (List.map D.int (adjL ts b) ++ [D.int (a : Int)])) = rD (adjL ts b ++ [(a : Int)]) := by simp
  have l2 : ((rowsL many ts).set a (adjL ts a ++ [(b : Int)]))[b]? = some (adjL ts b) := by rw [List.getElem?_set_ne hab, la b hb]
  rw [rowsL_snoc ha hb hab]
  simp only [b1_tied]
  refine (cons_nx (s1 := [some (.int many), o1, some (.lst .own (((rowsL many ts).set a (adjL ts a ++ [(b : Int)])).map rD)), none, some (.int a), some (.int b), o6]) ?_).trans (one_nx ?_)
  · simp [iF, iSs, iS, iE, iO, iX, iA, iT, iQ, itemAt, bnd, onB, getS, pr, eq_int, ne_int, p_lt, p_le, p_gt, p_ge, p_add, p_sub, p_mod, p_fdiv, p_idx, p_len, p_inn, p_notIn, p_min2, p_max2, p_list, p_tuple, p_isinst, tyIs, D.frz, D.to, D.toL, D.view, Mk.to, D.nown, D.nownL, D.nobor, D.noborL, lendA, fillA, restA, endT, asgT, asgTs, DL.setItem, mutL, item2, outsOf, cpy, quietO, itemsOf, DL.listOf, partI, isNonC, at0, at1, at2, at3, at4, List.getElem?_map, rowsL_len, xa, la a ha, ll]
    rw [e1]
  · simp [iF, iSs, iS, iE, iO, iX, iA, iT, iQ, itemAt, bnd, onB, getS, pr, eq_int, ne_int, p_lt, p_le, p_gt, p_ge, p_add, p_sub, p_mod, p_fdiv, p_idx, p_len, p_inn, p_notIn, p_min2, p_max2, p_list, p_tuple, p_isinst, tyIs, D.frz, D.to, D.toL, D.view, Mk.to, D.nown, D.nownL, D.nobor, D.noborL, lendA, fillA, restA, endT, asgT, asgTs, DL.setItem, mutL, item2, outsOf, cpy, quietO, itemsOf, DL.listOf, partI, isNonC, at0, at1, at2, at3, at4, List.getElem?_map, rowsL_len, xb, l2, ll, hab, la b hb, List.getElem?_set_ne hab]
    rw [e2]
theorem tied_loop (F : FT) {many : Nat} {ts : List (Int × Int)} (h : ∀ p ∈ ts, 0 ≤ p.1 ∧ p.1 < (many : Int) ∧ 0 ≤ p.2 ∧ p.2 < (many : Int) ∧ p.1 ≠ p.2) (hl : ts.length < 10000) :
    ∃ o4 o5, loopF (.t [.n 4, .n 5]) (iSs F Gl b1_tied) (psD ts) [some (.int many), none, some (.lst .own ((rowsL many []).map rD)), none, none, none, none] =
      some (.nx, [some (.int many), none, some (.lst .own ((rowsL many ts).map rD)), none, o4, o5, none]) := by
  obtain ⟨s', L, o4, o5, rfl⟩ := loop_ok (t := .t [.n 4, .n 5]) (body := iSs F Gl b1_tied) (psD ts)
    (fun i s => ∃ o4 o5, s = [some (.int many), none, some (.lst .own ((rowsL many (ts.take i)).map rD)), none, o4, o5, none])
    (fun i x s hx ⟨o4, o5, es⟩ => by
      subst es
      obtain ⟨p, hp, rfl⟩ := psI hx
      obtain ⟨p1, p2⟩ := p
      obtain ⟨h1, h2, h3, h4, h5⟩ := h _ (List.mem_of_getElem? hp)
      dsimp only at h1 h2 h3 h4 h5
      obtain ⟨a, rfl⟩ := int_nat h1
      obtain ⟨b, rfl⟩ := int_nat h3
      have e := tied_turn F (ts := ts.take i) (o1 := none) (o6 := none) (a := a) (b := b) (many := many) (by omega) (by omega) (by omega) (by rw [List.length_take]; omega)
      rw [← take_snoc hp] at e
      exact ⟨_, _, rfl, e, _, _, rfl⟩)
    _ ⟨none, none, rfl⟩
  rw [List.length_map, List.take_length] at L
  exact ⟨o4, o5, L⟩
theorem tied_eq (n : Nat) (m : Mk) {many : Nat} {ts : List (Int × Int)} (h : ∀ p ∈ ts, 0 ≤ p.1 ∧ p.1 < (many : Int) ∧ 0 ≤ p.2 ∧ p.2 < (many : Int) ∧ p.1 ≠ p.2) (hl : ts.length < 10000) (hm : many < 1000) :
    E (n + 1) "tied" [.int many, .lst m (psD ts)] = some (wD (webL many ts), [none, none]) := by
  rw [e_tied]
  have hs : many ≤ sizeLine := small_size (by omega)
  -- the empty rows
  have hT : iT (E n) Gl (.r1 (.v 0)) [some (.int many), some (.lst m (psD ts)), none, none, none, none, none] = some (rng 0 many, _) := iT_r1n (by simp [iF, iSs, iS, iE, iO, iX, iA, iT, iQ, itemAt, bnd, onB, getS, pr, eq_int, ne_int, p_lt, p_le, p_gt, p_ge, p_add, p_sub, p_mod, p_fdiv, p_idx, p_len, p_inn, p_notIn, p_min2, p_max2, p_list, p_tuple, p_isinst, tyIs, D.frz, D.to, D.toL, D.view, Mk.to, D.nown, D.nownL, D.nobor, D.noborL, lendA, fillA, restA, endT, asgT, asgTs, DL.setItem, mutL, item2, outsOf, cpy, quietO, itemsOf, DL.listOf, partI, isNonC, at0, at1, at2, at3, at4]; rfl) (by omega)
  obtain ⟨s2, L, o3, rfl⟩ := comp_fm (w := [3]) (t := .n 3) (c := iE (E n) Gl (.b true)) (e := iE (E n) Gl e0_tied) (dx := fun (i : Nat) => D.int (i : Int)) (keep := fun _ => true) (out := fun _ => rD [])
    (J := fun s => ∃ o3, s = [some (.int many), some (.lst m (psD ts)), none, o3, none, none, none]) (List.range many)
    (fun i _ s ⟨o3, es⟩ => by
      subst es
      exact ⟨[some (.int many), some (.lst m (psD ts)), none, some (.int i), none, none, none], _, rfl, rfl, nofun, fun _ => ⟨[some (.int many), some (.lst m (psD ts)), none, some (.int i), none, none, none], by simp [e0_tied, iF, iSs, iS, iE, iO, iX, iA, iT, iQ, itemAt, bnd, onB, getS, pr, eq_int, ne_int, p_lt, p_le, p_gt, p_ge, p_add, p_sub, p_mod, p_fdiv, p_idx, p_len, p_inn, p_notIn, p_min2, p_max2, p_list, p_tuple, p_isinst, tyIs, D.frz, D.to, D.toL, D.view, Mk.to, D.nown, D.nownL, D.nobor, D.noborL, lendA, fillA, restA, endT, asgT, asgTs, DL.setItem, mutL, item2, outsOf, cpy, quietO, itemsOf, DL.listOf, partI, isNonC, at0, at1, at2, at3, at4], _, rfl⟩⟩)
    [] _ ⟨none, rfl⟩
  rw [← rng0, filter_true, List.nil_append, rows_empty] at L
  have hC := comp_eval hT (by rw [rngL]; exact hs) L
  -- the walk
  obtain ⟨o4, o5, L2⟩ := tied_loop (E n) h hl
  have hT2 : iT (E n) Gl (.s 1) [some (.int many), some (.lst m (psD ts)), some (.lst .own ((rowsL many []).map rD)), none, none, none, none] = some (psD ts, [some (.int many), none, some (.lst .own ((rowsL many []).map rD)), none, none, none, none]) := by
    simp [iF, iSs, iS, iE, iO, iX, iA, iT, iQ, itemAt, bnd, onB, getS, pr, eq_int, ne_int, p_lt, p_le, p_gt, p_ge, p_add, p_sub, p_mod, p_fdiv, p_idx, p_len, p_inn, p_notIn, p_min2, p_max2, p_list, p_tuple, p_isinst, tyIs, D.frz, D.to, D.toL, D.view, Mk.to, D.nown, D.nownL, D.nobor, D.noborL, lendA, fillA, restA, endT, asgT, asgTs, DL.setItem, mutL, item2, outsOf, cpy, quietO, itemsOf, DL.listOf, partI, isNonC, at0, at1, at2, at3, at4, psD_nown]
  -- the rows sorted
  have hT3 : iT (E n) Gl (.e (.vf 2)) [some (.int many), some (.lst m (psD ts)), some (.lst .own ((rowsL many ts).map rD)), none, o4, o5, none] = some ((rowsL many ts).map fun r => .lst .shr (r.map D.int), [some (.int many), some (.lst m (psD ts)), some (.lst .shr ((rowsL many ts).map fun r => .lst .shr (r.map D.int))), none, o4, o5, none]) := by
    simp [iF, iSs, iS, iE, iO, iX, iA, iT, iQ, itemAt, bnd, onB, getS, pr, eq_int, ne_int, p_lt, p_le, p_gt, p_ge, p_add, p_sub, p_mod, p_fdiv, p_idx, p_len, p_inn, p_notIn, p_min2, p_max2, p_list, p_tuple, p_isinst, tyIs, D.frz, D.to, D.toL, D.view, Mk.to, D.nown, D.nownL, D.nobor, D.noborL, lendA, fillA, restA, endT, asgT, asgTs, DL.setItem, mutL, item2, outsOf, cpy, quietO, itemsOf, DL.listOf, partI, isNonC, at0, at1, at2, at3, at4, rD_nown, sD_nown, sD_to]
  obtain ⟨s4, L3, o6, rfl⟩ := comp_fm (w := [6]) (t := .n 6) (c := iE (E n) Gl (.b true)) (e := iE (E n) Gl e2_tied) (dx := fun r : List Int => D.lst .shr (r.map D.int)) (keep := fun _ => true) (out := fun r => tD (isort r))
    (J := fun s => ∃ o6, s = [some (.int many), some (.lst m (psD ts)), some (.lst .shr ((rowsL many ts).map fun r => .lst .shr (r.map D.int))), none, o4, o5, o6]) (rowsL many ts)
    (fun r _ s ⟨o6, es⟩ => by
      subst es
      exact ⟨[some (.int many), some (.lst m (psD ts)), some (.lst .shr ((rowsL many ts).map fun r => .lst .shr (r.map D.int))), none, o4, o5, some (.lst .shr (r.map D.int))], _, rfl, rfl, nofun, fun _ => ⟨[some (.int many), some (.lst m (psD ts)), some (.lst .shr ((rowsL many ts).map fun r => .lst .shr (r.map D.int))), none, o4, o5, some (.lst .shr (r.map D.int))], by simp [e2_tied, iF, iSs, iS, iE, iO, iX, iA, iT, iQ, itemAt, bnd, onB, getS, pr, eq_int, ne_int, p_lt, p_le, p_gt, p_ge, p_add, p_sub, p_mod, p_fdiv, p_idx, p_len, p_inn, p_notIn, p_min2, p_max2, p_list, p_tuple, p_isinst, tyIs, D.frz, D.to, D.toL, D.view, Mk.to, D.nown, D.nownL, D.nobor, D.noborL, lendA, fillA, restA, endT, asgT, asgTs, DL.setItem, mutL, item2, outsOf, cpy, quietO, itemsOf, DL.listOf, partI, isNonC, at0, at1, at2, at3, at4, sorted_ints, nownL_ints, toL_ints], _, rfl⟩⟩)
    [] _ ⟨none, rfl⟩
  rw [filter_true, List.nil_append] at L3
  have hC3 := comp_eval hT3 (by rw [List.length_map, rowsL_len]; exact hs) L3
  have eW : (rowsL many ts).map (fun r => tD (isort r)) = (webL many ts).map tD := by
    rw [rowsL_def, List.map_map]
    show _ = ((List.range many).map fun i => isort (adjL ts i)).map tD
    rw [List.map_map]
    rfl
  rw [eW] at hC3
  refine iF_ret (fd := fd_tied) (s := [some (.int many), some (.lst m (psD ts)), some (.lst .shr ((rowsL many ts).map fun r => .lst .shr (r.map D.int))), none, o4, o5, none]) [some (.int many), some (.lst m (psD ts)), none, none, none, none, none] ?_ rfl rfl (by simp [D.nobor, tD_nobor]) (by rfl)
  refine (cons_nx (s1 := [some (.int many), some (.lst m (psD ts)), some (.lst .own ((rowsL many []).map rD)), none, none, none, none]) ?_).trans ?_
  · rw [iS, hC]; simp [bnd, asgT, backD, backL, wipeD, endT, getS]
  refine (cons_nx (s1 := [some (.int many), some (.lst m (psD ts)), some (.lst .own ((rowsL many ts).map rD)), none, o4, o5, none]) (for_ok hT2 L2)).trans (ret_ok ?_)
  rw [iE, iO, hC3]
  simp [iF, iSs, iS, iE, iO, iX, iA, iT, iQ, itemAt, bnd, onB, getS, pr, eq_int, ne_int, p_lt, p_le, p_gt, p_ge, p_add, p_sub, p_mod, p_fdiv, p_idx, p_len, p_inn, p_notIn, p_min2, p_max2, p_list, p_tuple, p_isinst, tyIs, D.frz, D.to, D.toL, D.view, Mk.to, D.nown, D.nownL, D.nobor, D.noborL, lendA, fillA, restA, endT, asgT, asgTs, DL.setItem, mutL, item2, outsOf, cpy, quietO, itemsOf, DL.listOf, partI, isNonC, at0, at1, at2, at3, at4, tD_to, tD_nown, backD, backL, wipeD]
end K03
set_option Elab.async false
set_option linter.all false
set_option maxRecDepth 100000
namespace K03
open DL PySem L2
/-- a row of numbers read off a tree -/
def intsD : D → Option (List Int)
  | .tup xs => intsOf xs
  | .lst .own xs => intsOf xs
  | _ => none
def tupG : List D → Option (List (List Int))
  | [] => some []
  | .tup xs :: r => match intsOf xs, tupG r with
    | some a, some b => some (a :: b)
    | _, _ => none
  | _ :: _ => none
def rowG : List D → Option (List (List Int))
  | [] => some []
  | .lst .own xs :: r => match intsOf xs, rowG r with
    | some a, some b => some (a :: b)
    | _, _ => none
  | _ :: _ => none
theorem intsOf_inv : ∀ {xs : List D} {a : List Int}, intsOf xs = some a → xs = a.map D.int
  | [], a, h => by cases (show some [] = some a from h); rfl
  | .int i :: r, a, h => by
    obtain ⟨b, e, rfl⟩ := Option.map_eq_some_iff.mp (show (intsOf r).map (i :: ·) = some a from h)
    rw [intsOf_inv e]
    rfl
  | .non :: _, _, h => by cases (show none = some _ from h)
  | .bl _ :: _, _, h => by cases (show none = some _ from h)
  | .str _ :: _, _, h => by cases (show none = some _ from h)
  | .lst _ _ :: _, _, h => by cases (show none = some _ from h)
  | .tup _ :: _, _, h => by cases (show none = some _ from h)
  | .dK _ _ _ :: _, _, h => by cases (show none = some _ from h)
  | .dT _ _ _ :: _, _, h => by cases (show none = some _ from h)
theorem tupG_inv : ∀ {xs : List D} {a : List (List Int)}, tupG xs = some a → xs = a.map tD
  | [], a, h => by cases (show some [] = some a from h); rfl
  | .tup ys :: r, a, h => by
    unfold tupG at h
    split at h
    · rename_i p q e1 e2
      cases h
      rw [intsOf_inv e1, tupG_inv e2]
      rfl
    · cases h
  | .int _ :: _, _, h => by cases (show none = some _ from h)
  | .non :: _, _, h => by cases (show none = some _ from h)
  | .bl _ :: _, _, h => by cases (show none = some _ from h)
  | .str _ :: _, _, h => by cases (show none = some _ from h)
  | .lst _ _ :: _, _, h => by cases (show none = some _ from h)
  | .dK _ _ _ :: _, _, h => by cases (show none = some _ from h)
  | .dT _ _ _ :: _, _, h => by cases (show none = some _ from h)
theorem rowG_inv : ∀ {xs : List D} {a : List (List Int)}, rowG xs = some a → xs = a.map rD
  | [], a, h => by cases (show some [] = some a from h); rfl
  | .lst .own ys :: r, a, h => by
    unfold rowG at h
    split at h
    · rename_i p q e1 e2
      cases h
      rw [intsOf_inv e1, rowG_inv e2]
      rfl
    · cases h
  | .lst .shr _ :: _, _, h => by cases (show none = some _ from h)
  | .lst .bor _ :: _, _, h => by cases (show none = some _ from h)
  | .lst .scr _ :: _, _, h => by cases (show none = some _ from h)
  | .int _ :: _, _, h => by cases (show none = some _ from h)
  | .non :: _, _, h => by cases (show none = some _ from h)
  | .bl _ :: _, _, h => by cases (show none = some _ from h)
  | .str _ :: _, _, h => by cases (show none = some _ from h)
  | .tup _ :: _, _, h => by cases (show none = some _ from h)
  | .dK _ _ _ :: _, _, h => by cases (show none = some _ from h)
  | .dT _ _ _ :: _, _, h => by cases (show none = some _ from h)
/-- a web and its rows told alike -/
def both (x y : Option (D × List (Option D))) (os ps : List (Option D)) (lim : Nat) : Bool := match x, y with
  | some (.tup xs, o1), some (.lst .own ys, o2) => (match tupG xs, rowG ys with
    | some a, some b => decide (a = b) && (o1.length == os.length) && o1.all (fun o => o.isNone) && (o2.length == ps.length) && o2.all (fun o => o.isNone) && Nat.ble a.length lim && a.all fun r => Nat.ble r.length lim
    | _, _ => false)
  | _, _ => false
theorem nones {os : List (Option D)} {k : Nat} (h1 : os.length = k) (h2 : os.all (fun o => o.isNone) = true) : os = List.replicate k none := by
  refine List.eq_replicate_of_mem ?_ |>.trans (by rw [h1])
  intro o ho
  have := List.all_eq_true.mp h2 o ho
  cases o with
  | none => rfl
  | some _ => cases this
theorem both_ok {x y : Option (D × List (Option D))} {i j lim : Nat} (h : both x y (List.replicate i none) (List.replicate j none) lim = true) :
    ∃ g, x = some (wD g, List.replicate i none) ∧ y = some (.lst .own (g.map rD), List.replicate j none) ∧ g.length ≤ lim ∧ ∀ r ∈ g, r.length ≤ lim := by
  unfold both at h
  split at h
  · rename_i xs o1 ys o2
    split at h
    · rename_i a b e1 e2
      simp only [Bool.and_eq_true, decide_eq_true_eq, beq_iff_eq, List.length_replicate] at h
      obtain ⟨⟨⟨⟨⟨⟨h1, h2⟩, h3⟩, h4⟩, h5⟩, h6⟩, h7⟩ := h
      subst h1
      refine ⟨a, ?_, ?_, Nat.le_of_ble_eq_true h6, fun r hr => Nat.le_of_ble_eq_true (List.all_eq_true.mp h7 r hr)⟩
      · rw [tupG_inv e1, nones h2 h3]
      · rw [rowG_inv e2, nones h4 h5]
    · cases h
  · cases h
def gridOk (w h : Int) : Bool := both (E 11 "grid_web" [.int w, .int h]) (E 11 "_law_grid_near" [.int w, .int h]) [none, none] [none, none] 30
def cubeOk (w : Int) : Bool := both (E 11 "cube_web" [.int w]) (E 11 "_law_cube_near" [.int w]) [none] [none] 30
def lineRow (m p : Int) : List Int := [p - 1, p + 1].filter fun o => decide (0 ≤ o) && decide (o < m)
def lineRows (m : Nat) : List D := (List.range m).map fun (p : Nat) => D.lst .own ((lineRow m p).map D.int)
def lineOk (w : Nat) : Bool := both (E 11 "line_web" [.int w]) (some (.lst .own (lineRows w), [])) [none] [] 30
theorem grid_piece {w : Nat} {hs : List Nat} (h : (hs.all fun h => gridOk w (h : Nat)) = true) {x : Nat} (hx : x ∈ hs) : gridOk w (x : Nat) = true := List.all_eq_true.mp h x hx
theorem g0 : (([1, 2, 3, 4, 5, 6, 7, 8] : List Nat).all fun h => gridOk ((1 : Nat) : Int) (h : Nat)) = true := by decide +kernel
theorem g1 : (([9, 10, 11, 12, 13, 14, 15, 16] : List Nat).all fun h => gridOk ((1 : Nat) : Int) (h : Nat)) = true := by decide +kernel
theorem g2 : (([17, 18, 19, 20, 21, 22, 23, 24] : List Nat).all fun h => gridOk ((1 : Nat) : Int) (h : Nat)) = true := by decide +kernel
theorem g3 : (([1, 2, 3, 4, 5, 6, 7, 8] : List Nat).all fun h => gridOk ((2 : Nat) : Int) (h : Nat)) = true := by decide +kernel
theorem g4 : (([9, 10, 11, 12] : List Nat).all fun h => gridOk ((2 : Nat) : Int) (h : Nat)) = true := by decide +kernel
theorem g5 : (([1, 2, 3, 4, 5, 6, 7, 8] : List Nat).all fun h => gridOk ((3 : Nat) : Int) (h : Nat)) = true := by decide +kernel
theorem g6 : (([1, 2, 3, 4, 5, 6] : List Nat).all fun h => gridOk ((4 : Nat) : Int) (h : Nat)) = true := by decide +kernel
theorem g7 : (([1, 2, 3, 4] : List Nat).all fun h => gridOk ((5 : Nat) : Int) (h : Nat)) = true := by decide +kernel
theorem g8 : (([1, 2, 3, 4] : List Nat).all fun h => gridOk ((6 : Nat) : Int) (h : Nat)) = true := by decide +kernel
theorem g9 : (([1, 2, 3] : List Nat).all fun h => gridOk ((7 : Nat) : Int) (h : Nat)) = true := by decide +kernel
theorem g10 : (([1, 2, 3] : List Nat).all fun h => gridOk ((8 : Nat) : Int) (h : Nat)) = true := by decide +kernel
theorem g11 : (([1, 2] : List Nat).all fun h => gridOk ((9 : Nat) : Int) (h : Nat)) = true := by decide +kernel
theorem g12 : (([1, 2] : List Nat).all fun h => gridOk ((10 : Nat) : Int) (h : Nat)) = true := by decide +kernel
theorem g13 : (([1, 2] : List Nat).all fun h => gridOk ((11 : Nat) : Int) (h : Nat)) = true := by decide +kernel
theorem g14 : (([1, 2] : List Nat).all fun h => gridOk ((12 : Nat) : Int) (h : Nat)) = true := by decide +kernel
theorem g15 : (([1] : List Nat).all fun h => gridOk ((13 : Nat) : Int) (h : Nat)) = true := by decide +kernel
theorem g16 : (([1] : List Nat).all fun h => gridOk ((14 : Nat) : Int) (h : Nat)) = true := by decide +kernel
theorem g17 : (([1] : List Nat).all fun h => gridOk ((15 : Nat) : Int) (h : Nat)) = true := by decide +kernel
theorem g18 : (([1] : List Nat).all fun h => gridOk ((16 : Nat) : Int) (h : Nat)) = true := by decide +kernel
theorem g19 : (([1] : List Nat).all fun h => gridOk ((17 : Nat) : Int) (h : Nat)) = true := by decide +kernel
theorem g20 : (([1] : List Nat).all fun h => gridOk ((18 : Nat) : Int) (h : Nat)) = true := by decide +kernel
theorem g21 : (([1] : List Nat).all fun h => gridOk ((19 : Nat) : Int) (h : Nat)) = true := by decide +kernel
theorem g22 : (([1] : List Nat).all fun h => gridOk ((20 : Nat) : Int) (h : Nat)) = true := by decide +kernel
theorem g23 : (([1] : List Nat).all fun h => gridOk ((21 : Nat) : Int) (h : Nat)) = true := by decide +kernel
theorem g24 : (([1] : List Nat).all fun h => gridOk ((22 : Nat) : Int) (h : Nat)) = true := by decide +kernel
theorem g25 : (([1] : List Nat).all fun h => gridOk ((23 : Nat) : Int) (h : Nat)) = true := by decide +kernel
theorem g26 : (([1] : List Nat).all fun h => gridOk ((24 : Nat) : Int) (h : Nat)) = true := by decide +kernel
theorem grid_ok {w h : Nat} (h1 : 1 ≤ w) (h2 : 1 ≤ h) (h3 : w * h ≤ 24) : gridOk w h = true := by
  have hw : w < 25 := by have := Nat.le_mul_of_pos_right w (show 0 < h by omega); omega
  have : w = 1 ∨ w = 2 ∨ w = 3 ∨ w = 4 ∨ w = 5 ∨ w = 6 ∨ w = 7 ∨ w = 8 ∨ w = 9 ∨ w = 10 ∨ w = 11 ∨ w = 12 ∨ w = 13 ∨ w = 14 ∨ w = 15 ∨ w = 16 ∨ w = 17 ∨ w = 18 ∨ w = 19 ∨ w = 20 ∨ w = 21 ∨ w = 22 ∨ w = 23 ∨ w = 24 := by omega
  rcases this with rfl | rfl | rfl | rfl | rfl | rfl | rfl | rfl | rfl | rfl | rfl | rfl | rfl | rfl | rfl | rfl | rfl | rfl | rfl | rfl | rfl | rfl | rfl | rfl
  · have : h = 1 ∨ h = 2 ∨ h = 3 ∨ h = 4 ∨ h = 5 ∨ h = 6 ∨ h = 7 ∨ h = 8 ∨ h = 9 ∨ h = 10 ∨ h = 11 ∨ h = 12 ∨ h = 13 ∨ h = 14 ∨ h = 15 ∨ h = 16 ∨ h = 17 ∨ h = 18 ∨ h = 19 ∨ h = 20 ∨ h = 21 ∨ h = 22 ∨ h = 23 ∨ h = 24 := by omega
    rcases this with rfl | rfl | rfl | rfl | rfl | rfl | rfl | rfl | rfl | rfl | rfl | rfl | rfl | rfl | rfl | rfl | rfl | rfl | rfl | rfl | rfl | rfl | rfl | rfl
    · exact grid_piece g0 (by decide)
    · exact grid_piece g0 (by decide)
    · exact grid_piece g0 (by decide)
    · exact grid_piece g0 (by decide)
    · exact grid_piece g0 (by decide)
    · exact grid_piece g0 (by decide)
    · exact grid_piece g0 (by decide)
    · exact grid_piece g0 (by decide)
    · exact grid_piece g1 (by decide)
    · exact grid_piece g1 (by decide)
    · exact grid_piece g1 (by decide)
    · exact grid_piece g1 (by decide)
    · exact grid_piece g1 (by decide)
    · exact grid_piece g1 (by decide)
    · exact grid_piece g1 (by decide)
    · exact grid_piece g1 (by decide)
    · exact grid_piece g2 (by decide)
    · exact grid_piece g2 (by decide)
    · exact grid_piece g2 (by decide)
    · exact grid_piece g2 (by decide)
    · exact grid_piece g2 (by decide)
    · exact grid_piece g2 (by decide)
    · exact grid_piece g2 (by decide)
    · exact grid_piece g2 (by decide)
  · have : h = 1 ∨ h = 2 ∨ h = 3 ∨ h = 4 ∨ h = 5 ∨ h = 6 ∨ h = 7 ∨ h = 8 ∨ h = 9 ∨ h = 10 ∨ h = 11 ∨ h = 12 := by omega
    rcases this with rfl | rfl | rfl | rfl | rfl | rfl | rfl | rfl | rfl | rfl | rfl | rfl
    · exact grid_piece g3 (by decide)
    · exact grid_piece g3 (by decide)
    · exact grid_piece g3 (by decide)
    · exact grid_piece g3 (by decide)
    · exact grid_piece g3 (by decide)
    · exact grid_piece g3 (by decide)
    · exact grid_piece g3 (by decide)
    · exact grid_piece g3 (by decide)
    · exact grid_piece g4 (by decide)
    · exact grid_piece g4 (by decide)
    · exact grid_piece g4 (by decide)
    · exact grid_piece g4 (by decide)
  · have : h = 1 ∨ h = 2 ∨ h = 3 ∨ h = 4 ∨ h = 5 ∨ h = 6 ∨ h = 7 ∨ h = 8 := by omega
    rcases this with rfl | rfl | rfl | rfl | rfl | rfl | rfl | rfl
    · exact grid_piece g5 (by decide)
    · exact grid_piece g5 (by decide)
    · exact grid_piece g5 (by decide)
    · exact grid_piece g5 (by decide)
    · exact grid_piece g5 (by decide)
    · exact grid_piece g5 (by decide)
    · exact grid_piece g5 (by decide)
    · exact grid_piece g5 (by decide)
  · have : h = 1 ∨ h = 2 ∨ h = 3 ∨ h = 4 ∨ h = 5 ∨ h = 6 := by omega
    rcases this with rfl | rfl | rfl | rfl | rfl | rfl
    · exact grid_piece g6 (by decide)
    · exact grid_piece g6 (by decide)
    · exact grid_piece g6 (by decide)
    · exact grid_piece g6 (by decide)
    · exact grid_piece g6 (by decide)
    · exact grid_piece g6 (by decide)
  · have : h = 1 ∨ h = 2 ∨ h = 3 ∨ h = 4 := by omega
    rcases this with rfl | rfl | rfl | rfl
    · exact grid_piece g7 (by decide)
    · exact grid_piece g7 (by decide)
    · exact grid_piece g7 (by decide)
    · exact grid_piece g7 (by decide)
  · have : h = 1 ∨ h = 2 ∨ h = 3 ∨ h = 4 := by omega
    rcases this with rfl | rfl | rfl | rfl
    · exact grid_piece g8 (by decide)
    · exact grid_piece g8 (by decide)
    · exact grid_piece g8 (by decide)
    · exact grid_piece g8 (by decide)
  · have : h = 1 ∨ h = 2 ∨ h = 3 := by omega
    rcases this with rfl | rfl | rfl
    · exact grid_piece g9 (by decide)
    · exact grid_piece g9 (by decide)
    · exact grid_piece g9 (by decide)
  · have : h = 1 ∨ h = 2 ∨ h = 3 := by omega
    rcases this with rfl | rfl | rfl
    · exact grid_piece g10 (by decide)
    · exact grid_piece g10 (by decide)
    · exact grid_piece g10 (by decide)
  · have : h = 1 ∨ h = 2 := by omega
    rcases this with rfl | rfl
    · exact grid_piece g11 (by decide)
    · exact grid_piece g11 (by decide)
  · have : h = 1 ∨ h = 2 := by omega
    rcases this with rfl | rfl
    · exact grid_piece g12 (by decide)
    · exact grid_piece g12 (by decide)
  · have : h = 1 ∨ h = 2 := by omega
    rcases this with rfl | rfl
    · exact grid_piece g13 (by decide)
    · exact grid_piece g13 (by decide)
  · have : h = 1 ∨ h = 2 := by omega
    rcases this with rfl | rfl
    · exact grid_piece g14 (by decide)
    · exact grid_piece g14 (by decide)
  · have : h = 1 := by omega
    rcases this with rfl
    · exact grid_piece g15 (by decide)
  · have : h = 1 := by omega
    rcases this with rfl
    · exact grid_piece g16 (by decide)
  · have : h = 1 := by omega
    rcases this with rfl
    · exact grid_piece g17 (by decide)
  · have : h = 1 := by omega
    rcases this with rfl
    · exact grid_piece g18 (by decide)
  · have : h = 1 := by omega
    rcases this with rfl
    · exact grid_piece g19 (by decide)
  · have : h = 1 := by omega
    rcases this with rfl
    · exact grid_piece g20 (by decide)
  · have : h = 1 := by omega
    rcases this with rfl
    · exact grid_piece g21 (by decide)
  · have : h = 1 := by omega
    rcases this with rfl
    · exact grid_piece g22 (by decide)
  · have : h = 1 := by omega
    rcases this with rfl
    · exact grid_piece g23 (by decide)
  · have : h = 1 := by omega
    rcases this with rfl
    · exact grid_piece g24 (by decide)
  · have : h = 1 := by omega
    rcases this with rfl
    · exact grid_piece g25 (by decide)
  · have : h = 1 := by omega
    rcases this with rfl
    · exact grid_piece g26 (by decide)
theorem cubes : (([0, 1, 2, 3, 4] : List Nat).all fun w => cubeOk (w : Nat)) = true := by decide +kernel
theorem cube_ok {w : Nat} (h : w < 5) : cubeOk w = true := by
  refine List.all_eq_true.mp cubes w ?_
  simp only [List.mem_cons, List.not_mem_nil, or_false]
  omega
theorem lines1 : ((List.range 13).all fun (w : Nat) => w == 0 || lineOk w) = true := by decide +kernel
theorem lines2 : (((List.range 25).drop 13).all fun (w : Nat) => lineOk w) = true := by decide +kernel
theorem line_ok {w : Nat} (h : w < 25) (h1 : 1 ≤ w) : lineOk w = true := by
  rcases Nat.lt_or_ge w 13 with q | q
  · have b := List.all_eq_true.mp lines1 w (List.mem_range.mpr q)
    have e1 : (w == 0) = false := by simp; omega
    rw [e1] at b
    exact b
  · refine List.all_eq_true.mp lines2 w ?_
    have : (List.range 25).drop 13 = [13, 14, 15, 16, 17, 18, 19, 20, 21, 22, 23, 24] := by decide
    rw [this]
    simp only [List.mem_cons, List.not_mem_nil, or_false]
    omega
abbrev st (S pd : D) (m : Int) (o4 o5 : Option D) : DSt := [some S, some pd, some (.int m), none, o4, o5, none, none, none, none, none, none]
theorem line_in (F : FT) (S pd : D) (m p : Int) : iE F Gl e2_law (st S pd m none (some (.int p))) = some (.lst .own ((lineRow m p).map D.int), st S pd m none (some (.int p))) := by
  have hs2 : (2 : Nat) ≤ sizeLine := by decide
  have hT : iT F Gl (.e (.tup (.e (.p .sub (.v 5 (.e (.n 1) .nil))) (.e (.p .add (.v 5 (.e (.n 1) .nil))) .nil)))) (st S pd m none (some (.int p))) = some (([p - 1, p + 1] : List Int).map D.int, st S pd m none (some (.int p))) := by
    simp [iF, iSs, iS, iE, iO, iX, iA, iT, iQ, itemAt, bnd, onB, getS, pr, eq_int, ne_int, p_lt, p_le, p_gt, p_ge, p_add, p_sub, p_mod, p_fdiv, p_idx, p_len, p_inn, p_notIn, p_min2, p_max2, p_list, p_tuple, p_isinst, tyIs, D.frz, D.to, D.toL, D.view, Mk.to, D.nown, D.nownL, D.nobor, D.noborL, lendA, fillA, restA, endT, asgT, asgTs, DL.setItem, mutL, item2, outsOf, cpy, quietO, itemsOf, DL.listOf, partI, isNonC, at0, at1, at2, at3, at4, hs2]
  obtain ⟨s2, L, o3, rfl⟩ := comp_fm (w := [4]) (t := .n 4) (c := iE F Gl c0_law) (e := iE F Gl e1_law) (dx := D.int) (keep := fun o => decide (0 ≤ o) && decide (o < m)) (out := D.int)
    (J := fun s => ∃ o4, s = st S pd m o4 (some (.int p))) [p - 1, p + 1]
    (fun i _ s ⟨o4, es⟩ => by
      subst es
      exact ⟨st S pd m (some (.int i)) (some (.int p)), st S pd m (some (.int i)) (some (.int p)), rfl, by by_cases h : 0 ≤ i <;> simp [c0_law, iF, iSs, iS, iE, iO, iX, iA, iT, iQ, itemAt, bnd, onB, getS, pr, eq_int, ne_int, p_lt, p_le, p_gt, p_ge, p_add, p_sub, p_mod, p_fdiv, p_idx, p_len, p_inn, p_notIn, p_min2, p_max2, p_list, p_tuple, p_isinst, tyIs, D.frz, D.to, D.toL, D.view, Mk.to, D.nown, D.nownL, D.nobor, D.noborL, lendA, fillA, restA, endT, asgT, asgTs, DL.setItem, mutL, item2, outsOf, cpy, quietO, itemsOf, DL.listOf, partI, isNonC, at0, at1, at2, at3, at4, h], fun _ => ⟨_, rfl⟩, fun _ => ⟨st S pd m (some (.int i)) (some (.int p)), by simp [e1_law, iF, iSs, iS, iE, iO, iX, iA, iT, iQ, itemAt, bnd, onB, getS, pr, eq_int, ne_int, p_lt, p_le, p_gt, p_ge, p_add, p_sub, p_mod, p_fdiv, p_idx, p_len, p_inn, p_notIn, p_min2, p_max2, p_list, p_tuple, p_isinst, tyIs, D.frz, D.to, D.toL, D.view, Mk.to, D.nown, D.nownL, D.nobor, D.noborL, lendA, fillA, restA, endT, asgT, asgTs, DL.setItem, mutL, item2, outsOf, cpy, quietO, itemsOf, DL.listOf, partI, isNonC, at0, at1, at2, at3, at4], _, rfl⟩⟩)
    [] _ ⟨none, rfl⟩
  exact comp_eval hT (show 2 ≤ sizeLine by decide) L
theorem line_ev (F : FT) (S pd : D) {m : Nat} (h : m < 25) : iE F Gl (.comp [5] (.n 5) (.r1 (.v 2)) (.b true) e2_law) (st S pd m none none) = some (.lst .own (lineRows m), st S pd m none none) := by
  have hT : iT F Gl (.r1 (.v 2)) (st S pd m none none) = some (rng 0 m, st S pd m none none) := iT_r1n (by simp [iF, iSs, iS, iE, iO, iX, iA, iT, iQ, itemAt, bnd, onB, getS, pr, eq_int, ne_int, p_lt, p_le, p_gt, p_ge, p_add, p_sub, p_mod, p_fdiv, p_idx, p_len, p_inn, p_notIn, p_min2, p_max2, p_list, p_tuple, p_isinst, tyIs, D.frz, D.to, D.toL, D.view, Mk.to, D.nown, D.nownL, D.nobor, D.noborL, lendA, fillA, restA, endT, asgT, asgTs, DL.setItem, mutL, item2, outsOf, cpy, quietO, itemsOf, DL.listOf, partI, isNonC, at0, at1, at2, at3, at4]) (by omega)
  obtain ⟨s2, L, o3, rfl⟩ := comp_fm (w := [5]) (t := .n 5) (c := iE F Gl (.b true)) (e := iE F Gl e2_law) (dx := fun (i : Nat) => D.int (i : Int)) (keep := fun _ => true) (out := fun (p : Nat) => D.lst .own ((lineRow m p).map D.int))
    (J := fun s => ∃ o5, s = st S pd m none o5) (List.range m)
    (fun i _ s ⟨o5, es⟩ => by
      subst es
      exact ⟨st S pd m none (some (.int i)), _, rfl, rfl, nofun, fun _ => ⟨st S pd m none (some (.int i)), line_in F S pd m i, _, rfl⟩⟩)
    [] _ ⟨none, rfl⟩
  rw [← rng0, filter_true] at L
  exact comp_eval hT (by rw [rngL]; exact small_size (by omega)) L
end K03
set_option Elab.async false
set_option linter.all false
set_option maxRecDepth 100000
namespace K03
open DL PySem L2
theorem whole_eq (n : Nat) (x : Int) : E (n + 1) "_law_whole" [.int x] = some (.bl true, [none]) := by
  rw [e__law_whole]
  simp [fd__law_whole, iF, iF, iSs, iS, iE, iO, iX, iA, iT, iQ, itemAt, bnd, onB, getS, pr, eq_int, ne_int, p_lt, p_le, p_gt, p_ge, p_add, p_sub, p_mod, p_fdiv, p_idx, p_len, p_inn, p_notIn, p_min2, p_max2, p_list, p_tuple, p_isinst, tyIs, D.frz, D.to, D.toL, D.view, Mk.to, D.nown, D.nownL, D.nobor, D.noborL, lendA, fillA, restA, endT, asgT, asgTs, DL.setItem, mutL, item2, outsOf, cpy, quietO, itemsOf, DL.listOf, partI, isNonC, at0, at1, at2, at3, at4]
theorem right_turn (F : FT) (hF : ∀ x, F "_law_whole" [.int x] = some (.bl true, [none])) {g : List (List Int)} {m m2 : Mk} {i : Nat} (hi : i < g.length) (hr : (g.getD i []).length ≤ 1000000) (hm : m2 ≠ .scr) :
    iSs F Gl b2__law_right [some (wD g), some (.lst m (g.map fun r => .lst m2 (r.map D.int))), some (.int i), none] = some (.nx, [some (wD g), some (.lst m (g.map fun r => .lst m2 (r.map D.int))), some (.int i), none]) := by
  have hg : g[i]? = some (g.getD i []) := by rw [List.getD_eq_getElem?_getD, List.getElem?_eq_getElem hi]; rfl
  have hat : atI (g.map tD) (i : Int) = some (tD (g.getD i [])) := by
    rw [atI_in (by omega) (by rw [List.length_map]; omega)]
    simp [List.getElem?_eq_getElem hi]
  have hat2 : atI (g.map fun r => D.lst m2 (r.map D.int)) (i : Int) = some (.lst m2 ((g.getD i []).map D.int)) := by
    rw [atI_in (by omega) (by rw [List.length_map]; omega)]
    simp [List.getElem?_eq_getElem hi]
  generalize g.getD i [] = r at *
  have hT : iT F Gl (.e (.p .idx (.v 0 (.v 2 .nil)))) [some (wD g), some (.lst m (g.map fun r => .lst m2 (r.map D.int))), some (.int i), none] = some (r.map D.int, [some (wD g), some (.lst m (g.map fun r => .lst m2 (r.map D.int))), some (.int i), none]) := by
    simp [iF, iSs, iS, iE, iO, iX, iA, iT, iQ, itemAt, bnd, onB, getS, pr, eq_int, ne_int, p_lt, p_le, p_gt, p_ge, p_add, p_sub, p_mod, p_fdiv, p_idx, p_len, p_inn, p_notIn, p_min2, p_max2, p_list, p_tuple, p_isinst, tyIs, D.frz, D.to, D.toL, D.view, Mk.to, D.nown, D.nownL, D.nobor, D.noborL, lendA, fillA, restA, endT, asgT, asgTs, DL.setItem, mutL, item2, outsOf, cpy, quietO, itemsOf, DL.listOf, partI, isNonC, at0, at1, at2, at3, at4, hat, nownL_ints, toL_ints]
  obtain ⟨s', L, o4, rfl⟩ := comp_fm (w := [3]) (t := .n 3) (c := iE F Gl c0__law_right) (e := iE F Gl e1__law_right) (dx := D.int) (keep := fun _ => false) (out := fun o => D.int o)
    (J := fun s => ∃ o3, s = [some (wD g), some (.lst m (g.map fun r => .lst m2 (r.map D.int))), some (.int i), o3]) r
    (fun o _ s ⟨o3, es⟩ => by
      subst es
      exact ⟨[some (wD g), some (.lst m (g.map fun r => .lst m2 (r.map D.int))), some (.int i), some (.int o)], [some (wD g), some (.lst m (g.map fun r => .lst m2 (r.map D.int))), some (.int i), some (.int o)], rfl, by simp [c0__law_right, iF, iSs, iS, iE, iO, iX, iA, iT, iQ, itemAt, bnd, onB, getS, pr, eq_int, ne_int, p_lt, p_le, p_gt, p_ge, p_add, p_sub, p_mod, p_fdiv, p_idx, p_len, p_inn, p_notIn, p_min2, p_max2, p_list, p_tuple, p_isinst, tyIs, D.frz, D.to, D.toL, D.view, Mk.to, D.nown, D.nownL, D.nobor, D.noborL, lendA, fillA, restA, endT, asgT, asgTs, DL.setItem, mutL, item2, outsOf, cpy, quietO, itemsOf, DL.listOf, partI, isNonC, at0, at1, at2, at3, at4, hF], fun _ => ⟨_, rfl⟩, nofun⟩)
    [] _ ⟨none, rfl⟩
  have hC := comp_eval hT (by rw [List.length_map]; exact small_size hr) L
  have hnil : ([] : List Int).map D.int = [] := rfl
  have hne := ne_ints .shr m2 r r
  have hne2 := ne_ints .shr .shr [] []
  have z0 : (0 : Nat) ≤ sizeLine := by decide
  rw [hnil] at hne2
  simp only [b2__law_right]
  refine (cons_nx (s1 := [some (wD g), some (.lst m (g.map fun r => .lst m2 (r.map D.int))), some (.int i), none]) ?_).trans (one_nx ?_)
  · simp [iF, iSs, iS, iE, iO, iX, iA, iT, iQ, itemAt, bnd, onB, getS, pr, eq_int, ne_int, p_lt, p_le, p_gt, p_ge, p_add, p_sub, p_mod, p_fdiv, p_idx, p_len, p_inn, p_notIn, p_min2, p_max2, p_list, p_tuple, p_isinst, tyIs, D.frz, D.to, D.toL, D.view, Mk.to, D.nown, D.nownL, D.nobor, D.noborL, lendA, fillA, restA, endT, asgT, asgTs, DL.setItem, mutL, item2, outsOf, cpy, quietO, itemsOf, DL.listOf, partI, isNonC, at0, at1, at2, at3, at4, hat, hat2, nownL_ints, toL_ints, hne]
  · have hf : (r.filter fun _ => false).map D.int = [] := by simp
    rw [hf] at hC
    rw [iS, iE, iO, hC]
    simp [bnd, iF, iSs, iS, iE, iO, iX, iA, iT, iQ, itemAt, bnd, onB, getS, pr, eq_int, ne_int, p_lt, p_le, p_gt, p_ge, p_add, p_sub, p_mod, p_fdiv, p_idx, p_len, p_inn, p_notIn, p_min2, p_max2, p_list, p_tuple, p_isinst, tyIs, D.frz, D.to, D.toL, D.view, Mk.to, D.nown, D.nownL, D.nobor, D.noborL, lendA, fillA, restA, endT, asgT, asgTs, DL.setItem, mutL, item2, outsOf, cpy, quietO, itemsOf, DL.listOf, partI, isNonC, at0, at1, at2, at3, at4, backD, backL, wipeD, hne2, z0]
theorem right_ok (n : Nat) {g : List (List Int)} {m m2 : Mk} (hg : g.length ≤ 1000) (hr : ∀ r ∈ g, r.length ≤ 10000) (hm : m2 ≠ .scr) :
    E (n + 2) "_law_right" [wD g, .lst m (g.map fun r => .lst m2 (r.map D.int))] = some (.bl true, [none, none]) := by
  rw [e__law_right]
  have hF : ∀ x, E (n + 1) "_law_whole" [.int x] = some (.bl true, [none]) := fun x => whole_eq n x
  generalize E (n + 1) = F at hF ⊢
  obtain ⟨s', L, o3, rfl⟩ := loop_ok (t := .n 2) (body := iSs F Gl b2__law_right) (rng 0 g.length)
    (fun i s => ∃ o3, s = [some (wD g), some (.lst m (g.map fun r => .lst m2 (r.map D.int))), o3, none])
    (fun i x s hx ⟨o3, es⟩ => by
      subst es
      obtain ⟨rfl, hi⟩ := rngI0 hx
      have hr' : (g.getD i []).length ≤ 1000000 := by
        rw [List.getD_eq_getElem?_getD, List.getElem?_eq_getElem hi]
        exact Nat.le_trans (hr _ (List.getElem_mem hi)) (by decide)
      exact ⟨_, _, rfl, right_turn F hF (m := m) (m2 := m2) hi hr' hm, _, rfl⟩)
    [some (wD g), some (.lst m (g.map fun r => .lst m2 (r.map D.int))), none, none] ⟨none, rfl⟩
  have hT : iT F Gl (.r1 (.p .len (.v 1 .nil))) [some (wD g), some (.lst m (g.map fun r => .lst m2 (r.map D.int))), none, none] = some (rng 0 g.length, _) := iT_r1n (by simp [iF, iSs, iS, iE, iO, iX, iA, iT, iQ, itemAt, bnd, onB, getS, pr, eq_int, ne_int, p_lt, p_le, p_gt, p_ge, p_add, p_sub, p_mod, p_fdiv, p_idx, p_len, p_inn, p_notIn, p_min2, p_max2, p_list, p_tuple, p_isinst, tyIs, D.frz, D.to, D.toL, D.view, Mk.to, D.nown, D.nownL, D.nobor, D.noborL, lendA, fillA, restA, endT, asgT, asgTs, DL.setItem, mutL, item2, outsOf, cpy, quietO, itemsOf, DL.listOf, partI, isNonC, at0, at1, at2, at3, at4]; rfl) (by omega)
  refine iF_ret (fd := fd__law_right) (s := [some (wD g), some (.lst m (g.map fun r => .lst m2 (r.map D.int))), o3, none]) [some (wD g), some (.lst m (g.map fun r => .lst m2 (r.map D.int))), none, none] ?_ rfl rfl rfl (by rfl)
  refine (cons_nx (s1 := [some (wD g), some (.lst m (g.map fun r => .lst m2 (r.map D.int))), none, none]) ?_).trans ?_
  · simp [iF, iSs, iS, iE, iO, iX, iA, iT, iQ, itemAt, bnd, onB, getS, pr, eq_int, ne_int, p_lt, p_le, p_gt, p_ge, p_add, p_sub, p_mod, p_fdiv, p_idx, p_len, p_inn, p_notIn, p_min2, p_max2, p_list, p_tuple, p_isinst, tyIs, D.frz, D.to, D.toL, D.view, Mk.to, D.nown, D.nownL, D.nobor, D.noborL, lendA, fillA, restA, endT, asgT, asgTs, DL.setItem, mutL, item2, outsOf, cpy, quietO, itemsOf, DL.listOf, partI, isNonC, at0, at1, at2, at3, at4]
  exact (cons_nx (for_ok hT L)).trans (ret_ok rfl)
/-- a tree's ties -/
def treeTs (ps : List Int) : List (Int × Int) := (List.range ps.length).map fun (k : Nat) => (ps.getD k 0, (k : Int) + 1)
def treeRow (ps : List Int) (i : Nat) : List Int := (if 0 < i then [ps.getD (i - 1) 0] else []) ++ ((List.range ps.length).filter fun (k : Nat) => decide (ps.getD k 0 = (i : Int))).map fun (k : Nat) => (k : Int) + 1
theorem t_ret (F : FT) (C : CE) (m : Mk) (xs P : List D) (W : D) (o : Option D) (s2 : DSt) (hC : iE F Gl C [some (.lst m xs), o] = some (.lst .own P, s2)) (f : F "tied" [.int ((xs.length : Int) + 1), .lst .own P] = some (W, [none, none])) :
    iE F Gl (.call "tied" (.e (.p .add (.e (.p .len (.v 0 .nil)) (.e (.n 1) .nil))) (.e C .nil))) [some (.lst m xs), o] = some (W, s2) := by
  rw [iE, iA]
  have e1 : iE F Gl (.p .add (.e (.p .len (.v 0 .nil)) (.e (.n 1) .nil))) [some (.lst m xs), o] = some (.int ((xs.length : Int) + 1), [some (.lst m xs), o]) := by simp [iF, iSs, iS, iE, iO, iX, iA, iT, iQ, itemAt, bnd, onB, getS, pr, eq_int, ne_int, p_lt, p_le, p_gt, p_ge, p_add, p_sub, p_mod, p_fdiv, p_idx, p_len, p_inn, p_notIn, p_min2, p_max2, p_list, p_tuple, p_isinst, tyIs, D.frz, D.to, D.toL, D.view, Mk.to, D.nown, D.nownL, D.nobor, D.noborL, lendA, fillA, restA, endT, asgT, asgTs, DL.setItem, mutL, item2, outsOf, cpy, quietO, itemsOf, DL.listOf, partI, isNonC, at0, at1, at2, at3, at4]
  rw [e1]
  simp only [bnd]
  rw [iA, hC]
  simp only [bnd, iA, lendA, fillA, Option.map_some, f, restA]
theorem tree_web_ok (n : Nat) {ps : List Int} {m : Mk} (hm : m ≠ .scr) (hl : ps.length < 24) (hp : ∀ k, k < ps.length → 0 ≤ ps.getD k 0 ∧ ps.getD k 0 ≤ k) :
    E (n + 3) "tree_web" [.lst m (ps.map D.int)] = some (wD (webL (ps.length + 1) (treeTs ps)), [none]) := by
  rw [e_tree_web]
  have f1 : ∀ k, k < ps.length → E (n + 2) "ask_number" [.int (ps.getD k 0), .int 0, .int k] = some (.non, [none, none, none]) := fun k hk => ask_ok n (hp k hk).1 (hp k hk).2 (hp k hk).1
  have f2 := tied_eq (n + 1) .own (many := ps.length + 1) (ts := treeTs ps) (fun p hq => by
    obtain ⟨k, hk, rfl⟩ := List.mem_map.mp hq
    have := hp k (List.mem_range.mp hk)
    have := List.mem_range.mp hk
    dsimp only
    omega) (by rw [treeTs, List.length_map, List.length_range]; omega) (by omega)
  generalize E (n + 2) = F at f1 f2 ⊢
  have hg := g_MOST_PLACES
  have hat : ∀ k, k < ps.length → atI (ps.map D.int) (k : Int) = some (.int (ps.getD k 0)) := fun k hk => by rw [atI_ints (by omega) (by omega), Int.toNat_natCast]
  obtain ⟨s', L, o1, rfl⟩ := loop_ok (t := .n 1) (body := iSs F Gl b0_tree_web) (rng 0 ps.length)
    (fun i s => ∃ o1, s = [some (.lst m (ps.map D.int)), o1])
    (fun i x s hx ⟨o1, es⟩ => by
      subst es
      obtain ⟨rfl, hi⟩ := rngI0 hx
      refine ⟨_, [some (.lst m (ps.map D.int)), some (.int i)], rfl, ?_, _, rfl⟩
      have e1 := f1 i hi
      have e2 := hat i hi
      generalize ps.map D.int = xs at *
      generalize ps.getD i 0 = y at *
      simp [b0_tree_web, iF, iSs, iS, iE, iO, iX, iA, iT, iQ, itemAt, bnd, onB, getS, pr, eq_int, ne_int, p_lt, p_le, p_gt, p_ge, p_add, p_sub, p_mod, p_fdiv, p_idx, p_len, p_inn, p_notIn, p_min2, p_max2, p_list, p_tuple, p_isinst, tyIs, D.frz, D.to, D.toL, D.view, Mk.to, D.nown, D.nownL, D.nobor, D.noborL, lendA, fillA, restA, endT, asgT, asgTs, DL.setItem, mutL, item2, outsOf, cpy, quietO, itemsOf, DL.listOf, partI, isNonC, at0, at1, at2, at3, at4, e1, e2])
    [some (.lst m (ps.map D.int)), none] ⟨none, rfl⟩
  have hT : iT F Gl (.r1 (.p .len (.v 0 .nil))) [some (.lst m (ps.map D.int)), none] = some (rng 0 ps.length, _) := iT_r1n (by simp [iF, iSs, iS, iE, iO, iX, iA, iT, iQ, itemAt, bnd, onB, getS, pr, eq_int, ne_int, p_lt, p_le, p_gt, p_ge, p_add, p_sub, p_mod, p_fdiv, p_idx, p_len, p_inn, p_notIn, p_min2, p_max2, p_list, p_tuple, p_isinst, tyIs, D.frz, D.to, D.toL, D.view, Mk.to, D.nown, D.nownL, D.nobor, D.noborL, lendA, fillA, restA, endT, asgT, asgTs, DL.setItem, mutL, item2, outsOf, cpy, quietO, itemsOf, DL.listOf, partI, isNonC, at0, at1, at2, at3, at4]; rfl) (by omega)
  have hT2 : iT F Gl (.r1 (.p .len (.v 0 .nil))) [some (.lst m (ps.map D.int)), o1] = some (rng 0 ps.length, _) := iT_r1n (by simp [iF, iSs, iS, iE, iO, iX, iA, iT, iQ, itemAt, bnd, onB, getS, pr, eq_int, ne_int, p_lt, p_le, p_gt, p_ge, p_add, p_sub, p_mod, p_fdiv, p_idx, p_len, p_inn, p_notIn, p_min2, p_max2, p_list, p_tuple, p_isinst, tyIs, D.frz, D.to, D.toL, D.view, Mk.to, D.nown, D.nownL, D.nobor, D.noborL, lendA, fillA, restA, endT, asgT, asgTs, DL.setItem, mutL, item2, outsOf, cpy, quietO, itemsOf, DL.listOf, partI, isNonC, at0, at1, at2, at3, at4]; rfl) (by omega)
  have hs2 : (2 : Nat) ≤ sizeLine := by decide
  obtain ⟨s2, L2, o2, rfl⟩ := comp_fm (w := [1]) (t := .n 1) (c := iE F Gl (.b true)) (e := iE F Gl e1_tree_web) (dx := fun (i : Nat) => D.int (i : Int)) (keep := fun _ => true) (out := fun (k : Nat) => pD (ps.getD k 0, (k : Int) + 1))
    (J := fun s => ∃ o1, s = [some (.lst m (ps.map D.int)), o1]) (List.range ps.length)
    (fun i hi s ⟨o3, es⟩ => by
      subst es
      have e2 := hat i (List.mem_range.mp hi)
      generalize ps.map D.int = xs at *
      generalize ps.getD i 0 = y at *
      exact ⟨[some (.lst m xs), some (.int i)], _, rfl, rfl, nofun, fun _ => ⟨[some (.lst m xs), some (.int i)], by simp [e1_tree_web, iF, iSs, iS, iE, iO, iX, iA, iT, iQ, itemAt, bnd, onB, getS, pr, eq_int, ne_int, p_lt, p_le, p_gt, p_ge, p_add, p_sub, p_mod, p_fdiv, p_idx, p_len, p_inn, p_notIn, p_min2, p_max2, p_list, p_tuple, p_isinst, tyIs, D.frz, D.to, D.toL, D.view, Mk.to, D.nown, D.nownL, D.nobor, D.noborL, lendA, fillA, restA, endT, asgT, asgTs, DL.setItem, mutL, item2, outsOf, cpy, quietO, itemsOf, DL.listOf, partI, isNonC, at0, at1, at2, at3, at4, e2, hs2], _, rfl⟩⟩)
    [] _ ⟨o1, rfl⟩
  rw [← rng0, filter_true, List.nil_append] at L2
  have hC := comp_eval hT2 (by rw [rngL]; exact small_size (by omega)) L2
  have ec : ((List.range ps.length).map fun (k : Nat) => pD (ps.getD k 0, (k : Int) + 1)) = psD (treeTs ps) := by
    rw [treeTs, psD, List.map_map]; rfl
  rw [ec] at hC
  have hxl : (ps.map D.int).length = ps.length := List.length_map _
  have f3 : F "tied" [.int (((ps.map D.int).length : Int) + 1), .lst .own (psD (treeTs ps))] = some (wD (webL (ps.length + 1) (treeTs ps)), [none, none]) := by
    rw [hxl]
    exact f2
  have hR := t_ret F _ m (ps.map D.int) _ _ o1 _ hC f3
  have h0 : iS F Gl (.ite (.or (.not (.p (.isinst "list") (.v 0 .nil))) (.p .ge (.e (.p .len (.v 0 .nil)) (.e (.g "MOST_PLACES") .nil)))) [.never] []) [some (.lst m (ps.map D.int)), none] = some (.nx, [some (.lst m (ps.map D.int)), none]) := by
    have h1 : p_isinst "list" [.lst m (ps.map D.int)] = some (.bl true) := by cases m <;> first | exact absurd rfl hm | rfl
    have h2 : ¬ (24 : Int) ≤ (ps.length : Int) := by omega
    simp [iS, iSs, iE, iO, bnd, onB, getS, pr, h1, p_len, p_ge, hg, h2, D.frz, D.to]
  exact iF_ret (fd := fd_tree_web) [some (.lst m (ps.map D.int)), none] ((cons_nx h0).trans ((cons_nx (s1 := [some (.lst m (ps.map D.int)), o1]) (for_ok hT L)).trans (ret_ok hR))) rfl rfl (by simp [D.nobor, tD_nobor]) (by rfl)
theorem near_turn (F : FT) {ps : List Int} {m : Mk} {i : Nat} {acc : List D} {o3 o4 : Option D} (hl : ps.length < 24) (hi : i ≤ ps.length) (ha : acc.length < 1000) :
    iSs F Gl b2__law_tree_near [some (.lst m (ps.map D.int)), some (.lst .own acc), some (.int i), o3, none] = some (.nx, [some (.lst m (ps.map D.int)), some (.lst .own (acc ++ [rD (treeRow ps i)])), some (.int i), none, none]) := by
  have hT : iT F Gl (.r1 (.p .len (.v 0 .nil))) [some (.lst m (ps.map D.int)), some (.lst .own acc), some (.int i), o3, none] = some (rng 0 ps.length, _) := iT_r1n (by simp [iF, iSs, iS, iE, iO, iX, iA, iT, iQ, itemAt, bnd, onB, getS, pr, eq_int, ne_int, p_lt, p_le, p_gt, p_ge, p_add, p_sub, p_mod, p_fdiv, p_idx, p_len, p_inn, p_notIn, p_min2, p_max2, p_list, p_tuple, p_isinst, tyIs, D.frz, D.to, D.toL, D.view, Mk.to, D.nown, D.nownL, D.nobor, D.noborL, lendA, fillA, restA, endT, asgT, asgTs, DL.setItem, mutL, item2, outsOf, cpy, quietO, itemsOf, DL.listOf, partI, isNonC, at0, at1, at2, at3, at4]; rfl) (by omega)
  have hat : ∀ k, k < ps.length → atI (ps.map D.int) (k : Int) = some (.int (ps.getD k 0)) := fun k hk => by rw [atI_ints (by omega) (by omega), Int.toNat_natCast]
  obtain ⟨s2, L2, o4', rfl⟩ := comp_fm (w := [4]) (t := .n 4) (c := iE F Gl c0__law_tree_near) (e := iE F Gl e1__law_tree_near) (dx := fun (i : Nat) => D.int (i : Int)) (keep := fun (k : Nat) => decide (ps.getD k 0 = (i : Int))) (out := fun (k : Nat) => D.int ((k : Int) + 1))
    (J := fun s => ∃ o4, s = [some (.lst m (ps.map D.int)), some (.lst .own acc), some (.int i), o3, o4]) (List.range ps.length)
    (fun k hk s ⟨o4, es⟩ => by
      subst es
      have e2 := hat k (List.mem_range.mp hk)
      generalize ps.map D.int = xs at *
      generalize ps.getD k 0 = y at *
      exact ⟨[some (.lst m xs), some (.lst .own acc), some (.int i), o3, some (.int k)], [some (.lst m xs), some (.lst .own acc), some (.int i), o3, some (.int k)], rfl, by simp [c0__law_tree_near, iF, iSs, iS, iE, iO, iX, iA, iT, iQ, itemAt, bnd, onB, getS, pr, eq_int, ne_int, p_lt, p_le, p_gt, p_ge, p_add, p_sub, p_mod, p_fdiv, p_idx, p_len, p_inn, p_notIn, p_min2, p_max2, p_list, p_tuple, p_isinst, tyIs, D.frz, D.to, D.toL, D.view, Mk.to, D.nown, D.nownL, D.nobor, D.noborL, lendA, fillA, restA, endT, asgT, asgTs, DL.setItem, mutL, item2, outsOf, cpy, quietO, itemsOf, DL.listOf, partI, isNonC, at0, at1, at2, at3, at4, e2], fun _ => ⟨_, rfl⟩, fun _ => ⟨[some (.lst m xs), some (.lst .own acc), some (.int i), o3, some (.int k)], by simp [e1__law_tree_near, iF, iSs, iS, iE, iO, iX, iA, iT, iQ, itemAt, bnd, onB, getS, pr, eq_int, ne_int, p_lt, p_le, p_gt, p_ge, p_add, p_sub, p_mod, p_fdiv, p_idx, p_len, p_inn, p_notIn, p_min2, p_max2, p_list, p_tuple, p_isinst, tyIs, D.frz, D.to, D.toL, D.view, Mk.to, D.nown, D.nownL, D.nobor, D.noborL, lendA, fillA, restA, endT, asgT, asgTs, DL.setItem, mutL, item2, outsOf, cpy, quietO, itemsOf, DL.listOf, partI, isNonC, at0, at1, at2, at3, at4], _, rfl⟩⟩)
    [] _ ⟨none, rfl⟩
  rw [← rng0, List.nil_append] at L2
  have hC := comp_eval hT (by rw [rngL]; exact small_size (by omega)) L2
  have ec : ((List.range ps.length).filter fun (k : Nat) => decide (ps.getD k 0 = (i : Int))).map (fun (k : Nat) => D.int ((k : Int) + 1)) = (((List.range ps.length).filter fun (k : Nat) => decide (ps.getD k 0 = (i : Int))).map fun (k : Nat) => (k : Int) + 1).map D.int := by rw [List.map_map]; rfl
  rw [ec] at hC
  have hcl : (((List.range ps.length).filter fun (k : Nat) => decide (ps.getD k 0 = (i : Int))).map fun (k : Nat) => (k : Int) + 1).length ≤ 24 := by
    rw [List.length_map]
    have := List.length_filter_le (fun (k : Nat) => decide (ps.getD k 0 = (i : Int))) (List.range ps.length)
    rw [List.length_range] at this
    omega
  unfold treeRow
  generalize ((List.range ps.length).filter fun (k : Nat) => decide (ps.getD k 0 = (i : Int))).map (fun (k : Nat) => (k : Int) + 1) = row at *
  have hz : acc.length < sizeLine := Nat.lt_trans ha (by decide)
  simp only [b2__law_tree_near]
  refine (cons_nx (s1 := [some (.lst m (ps.map D.int)), some (.lst .own acc), some (.int i), some (.lst .own (row.map D.int)), none]) ?_).trans ?_
  · rw [iS, hC]; simp [bnd, asgT, backD, backL, wipeD, endT, getS]
  have hs1 : (1 : Nat) ≤ sizeLine := by decide
  have hrl : 1 + row.length ≤ sizeLine := small_size (by omega)
  by_cases h0 : 0 < i
  · rw [if_pos h0]
    have e2 := hat (i - 1) (by omega)
    have ei : ((i - 1 : Nat) : Int) = (i : Int) - 1 := by omega
    rw [ei] at e2
    have hi0 : (0 : Int) < (i : Int) := by omega
    refine (cons_nx (s1 := [some (.lst m (ps.map D.int)), some (.lst .own acc), some (.int i), some (.lst .own (D.int (ps.getD (i - 1) 0) :: row.map D.int)), none]) ?_).trans (one_nx ?_)
    · generalize ps.map D.int = xs at *
      generalize ps.getD (i - 1) 0 = y at *
      simp [iF, iSs, iS, iE, iO, iX, iA, iT, iQ, itemAt, bnd, onB, getS, pr, eq_int, ne_int, p_lt, p_le, p_gt, p_ge, p_add, p_sub, p_mod, p_fdiv, p_idx, p_len, p_inn, p_notIn, p_min2, p_max2, p_list, p_tuple, p_isinst, tyIs, D.frz, D.to, D.toL, D.view, Mk.to, D.nown, D.nownL, D.nobor, D.noborL, lendA, fillA, restA, endT, asgT, asgTs, DL.setItem, mutL, item2, outsOf, cpy, quietO, itemsOf, DL.listOf, partI, isNonC, at0, at1, at2, at3, at4, hi0, e2, hs1, nownL_ints, hrl, h0, show ¬ i = 0 by omega]
    · simp [iF, iSs, iS, iE, iO, iX, iA, iT, iQ, itemAt, bnd, onB, getS, pr, eq_int, ne_int, p_lt, p_le, p_gt, p_ge, p_add, p_sub, p_mod, p_fdiv, p_idx, p_len, p_inn, p_notIn, p_min2, p_max2, p_list, p_tuple, p_isinst, tyIs, D.frz, D.to, D.toL, D.view, Mk.to, D.nown, D.nownL, D.nobor, D.noborL, lendA, fillA, restA, endT, asgT, asgTs, DL.setItem, mutL, item2, outsOf, cpy, quietO, itemsOf, DL.listOf, partI, isNonC, at0, at1, at2, at3, at4, hz]
  · rw [if_neg h0]
    have hi0 : ¬ (0 : Int) < (i : Int) := by omega
    refine (cons_nx (s1 := [some (.lst m (ps.map D.int)), some (.lst .own acc), some (.int i), some (.lst .own (row.map D.int)), none]) ?_).trans (one_nx ?_)
    · have z : i = 0 := by omega
      subst z
      simp [iF, iSs, iS, iE, iO, iX, iA, iT, iQ, itemAt, bnd, onB, getS, pr, eq_int, ne_int, p_lt, p_le, p_gt, p_ge, p_add, p_sub, p_mod, p_fdiv, p_idx, p_len, p_inn, p_notIn, p_min2, p_max2, p_list, p_tuple, p_isinst, tyIs, D.frz, D.to, D.toL, D.view, Mk.to, D.nown, D.nownL, D.nobor, D.noborL, lendA, fillA, restA, endT, asgT, asgTs, DL.setItem, mutL, item2, outsOf, cpy, quietO, itemsOf, DL.listOf, partI, isNonC, at0, at1, at2, at3, at4]
    · simp [iF, iSs, iS, iE, iO, iX, iA, iT, iQ, itemAt, bnd, onB, getS, pr, eq_int, ne_int, p_lt, p_le, p_gt, p_ge, p_add, p_sub, p_mod, p_fdiv, p_idx, p_len, p_inn, p_notIn, p_min2, p_max2, p_list, p_tuple, p_isinst, tyIs, D.frz, D.to, D.toL, D.view, Mk.to, D.nown, D.nownL, D.nobor, D.noborL, lendA, fillA, restA, endT, asgT, asgTs, DL.setItem, mutL, item2, outsOf, cpy, quietO, itemsOf, DL.listOf, partI, isNonC, at0, at1, at2, at3, at4, hz]
theorem tree_near_ok (n : Nat) {ps : List Int} {m : Mk} (hl : ps.length < 24) :
    E (n + 1) "_law_tree_near" [.lst m (ps.map D.int)] = some (.lst .own (((List.range (ps.length + 1)).map (treeRow ps)).map rD), [none]) := by
  rw [e__law_tree_near]
  generalize E n = F
  obtain ⟨s', L, o2, o3, rfl⟩ := loop_ok (t := .n 2) (body := iSs F Gl b2__law_tree_near) (rng 0 (ps.length + 1))
    (fun i s => ∃ o2 o3, s = [some (.lst m (ps.map D.int)), some (.lst .own (((List.range i).map (treeRow ps)).map rD)), o2, o3, none])
    (fun i x s hx ⟨o2, o3, es⟩ => by
      subst es
      obtain ⟨rfl, hi⟩ := rngI0 hx
      have e := near_turn F (m := m) (i := i) (acc := ((List.range i).map (treeRow ps)).map rD) (o3 := o3) (o4 := none) hl (by omega) (by rw [List.length_map, List.length_map, List.length_range]; omega)
      rw [show ((List.range i).map (treeRow ps)).map rD ++ [rD (treeRow ps i)] = ((List.range (i + 1)).map (treeRow ps)).map rD by rw [List.range_succ, List.map_append, List.map_append]; rfl] at e
      exact ⟨_, _, rfl, e, _, _, rfl⟩)
    [some (.lst m (ps.map D.int)), some (.lst .own []), none, none, none] ⟨none, none, rfl⟩
  rw [rngL] at L
  have hT : iT F Gl (.r1 (.p .add (.e (.p .len (.v 0 .nil)) (.e (.n 1) .nil)))) [some (.lst m (ps.map D.int)), some (.lst .own []), none, none, none] = some (rng 0 (ps.length + 1), _) := iT_r1n (by simp [iF, iSs, iS, iE, iO, iX, iA, iT, iQ, itemAt, bnd, onB, getS, pr, eq_int, ne_int, p_lt, p_le, p_gt, p_ge, p_add, p_sub, p_mod, p_fdiv, p_idx, p_len, p_inn, p_notIn, p_min2, p_max2, p_list, p_tuple, p_isinst, tyIs, D.frz, D.to, D.toL, D.view, Mk.to, D.nown, D.nownL, D.nobor, D.noborL, lendA, fillA, restA, endT, asgT, asgTs, DL.setItem, mutL, item2, outsOf, cpy, quietO, itemsOf, DL.listOf, partI, isNonC, at0, at1, at2, at3, at4]; rfl) (by omega)
  have z0 : (0 : Nat) ≤ sizeLine := by decide
  have h0 : iS F Gl (.asg (.n 1) (.lst .nil)) [some (.lst m (ps.map D.int)), none, none, none, none] = some (.nx, [some (.lst m (ps.map D.int)), some (.lst .own []), none, none, none]) := by simp [iF, iSs, iS, iE, iO, iX, iA, iT, iQ, itemAt, bnd, onB, getS, pr, eq_int, ne_int, p_lt, p_le, p_gt, p_ge, p_add, p_sub, p_mod, p_fdiv, p_idx, p_len, p_inn, p_notIn, p_min2, p_max2, p_list, p_tuple, p_isinst, tyIs, D.frz, D.to, D.toL, D.view, Mk.to, D.nown, D.nownL, D.nobor, D.noborL, lendA, fillA, restA, endT, asgT, asgTs, DL.setItem, mutL, item2, outsOf, cpy, quietO, itemsOf, DL.listOf, partI, isNonC, at0, at1, at2, at3, at4, z0]
  have h1 : iE F Gl (.vt 1) [some (.lst m (ps.map D.int)), some (.lst .own (((List.range (ps.length + 1)).map (treeRow ps)).map rD)), o2, o3, none] = some (.lst .own (((List.range (ps.length + 1)).map (treeRow ps)).map rD), [some (.lst m (ps.map D.int)), none, o2, o3, none]) := by simp [iF, iSs, iS, iE, iO, iX, iA, iT, iQ, itemAt, bnd, onB, getS, pr, eq_int, ne_int, p_lt, p_le, p_gt, p_ge, p_add, p_sub, p_mod, p_fdiv, p_idx, p_len, p_inn, p_notIn, p_min2, p_max2, p_list, p_tuple, p_isinst, tyIs, D.frz, D.to, D.toL, D.view, Mk.to, D.nown, D.nownL, D.nobor, D.noborL, lendA, fillA, restA, endT, asgT, asgTs, DL.setItem, mutL, item2, outsOf, cpy, quietO, itemsOf, DL.listOf, partI, isNonC, at0, at1, at2, at3, at4]
  exact iF_ret (fd := fd__law_tree_near) [some (.lst m (ps.map D.int)), none, none, none, none] ((cons_nx h0).trans ((cons_nx (for_ok hT L)).trans (ret_ok h1))) rfl rfl (rD_nobor _) (by rfl)
/-- the two tell the same -/
theorem tree_alike {ps : List Int} (hp : ∀ k, k < ps.length → 0 ≤ ps.getD k 0 ∧ ps.getD k 0 ≤ k) : webL (ps.length + 1) (treeTs ps) = (List.range (ps.length + 1)).map (treeRow ps) := by
  rw [webL_def]
  refine List.map_congr_left fun i hi => ?_
  have hi := List.mem_range.mp hi
  refine (isort_uniq ?_ ?_).symm
  · unfold treeRow adjL treeTs
    rw [List.flatMap_map]
    refine List.Perm.trans ?_ (flatMap_append_perm _ _ _).symm
    refine (List.perm_append_comm).trans (List.Perm.append (List.Perm.of_eq ?_) (List.Perm.of_eq ?_))
    · generalize List.range ps.length = l
      induction l with
      | nil => rfl
      | cons k l ih =>
        rw [List.flatMap_cons, List.filter_cons]
        by_cases q : ps.getD k 0 = (i : Int)
        · rw [if_pos (by simpa using q), List.map_cons, ih]
          dsimp only
          rw [if_pos q]
          rfl
        · rw [if_neg (by simpa using q), ih]
          dsimp only
          rw [if_neg q]
          rfl
    · by_cases h0 : 0 < i
      · rw [if_pos h0]
        have := flatMap_one (ps.getD (i - 1) 0) (i - 1) ps.length
        rw [if_pos (by omega)] at this
        rw [← this]
        congr 1
        funext k
        dsimp only
        by_cases q : k = i - 1
        · subst q
          rw [if_pos rfl, if_pos (by omega)]
        · rw [if_neg q, if_neg (by omega)]
      · rw [if_neg h0]
        symm
        rw [List.flatMap_eq_nil_iff]
        intro k _
        dsimp only
        rw [if_neg (by omega)]
  · unfold treeRow
    have hmap : (((List.range ps.length).filter fun (k : Nat) => decide (ps.getD k 0 = (i : Int))).map fun (k : Nat) => (k : Int) + 1).Pairwise (· ≤ ·) := by
      rw [List.pairwise_map]
      exact (List.pairwise_lt_range.filter _).imp fun {a b} h => by omega
    refine List.pairwise_append.mpr ⟨by split <;> simp, hmap, fun a ha b hb => ?_⟩
    split at ha
    · rename_i h0
      rw [List.mem_singleton] at ha
      subst ha
      obtain ⟨k, hk, rfl⟩ := List.mem_map.mp hb
      obtain ⟨hk1, hk2⟩ := List.mem_filter.mp hk
      have hk1 := List.mem_range.mp hk1
      have hk2 : ps.getD k 0 = (i : Int) := by simpa using hk2
      have := hp (i - 1) (by omega)
      have := hp k hk1
      omega
    · simp at ha
end K03
set_option Elab.async false
set_option linter.all false
set_option maxRecDepth 100000
namespace K03
open DL PySem L2
section
variable (F : FT) (S pd pd' ln G N : D) (many wide high size v : Int)
theorem s1 (hS : S.view = S) (f1 : F "_law_pen" [S] = some (pd, [none])) :
    iS F Gl (.asg (.n 1) (.call "_law_pen" (.v 0 .nil))) [some S, none, none, none, none, none, none, none, none, none, none, none] = some (.nx, [some S, some pd, none, none, none, none, none, none, none, none, none, none]) := by
  simp [iS, iE, iA, bnd, getS, lendA, fillA, restA, hS, f1, asgT]
theorem s2 (f : F "_law_take" [pd, .int 24] = some (.int v, [some pd', none])) :
    iS F Gl (.asg (.n 2) (.p .add (.e (.n 1) (.e (.call "_law_take" (.l 1 (.e (.n 24) .nil))) .nil)))) [some S, some pd, none, none, none, none, none, none, none, none, none, none] = some (.nx, [some S, some pd', some (.int (1 + v)), none, none, none, none, none, none, none, none, none]) := by
  simp [iF, iSs, iS, iE, iO, iX, iA, iT, iQ, itemAt, bnd, onB, getS, pr, eq_int, ne_int, p_lt, p_le, p_gt, p_ge, p_add, p_sub, p_mod, p_fdiv, p_idx, p_len, p_inn, p_notIn, p_min2, p_max2, p_list, p_tuple, p_isinst, tyIs, D.frz, D.to, D.toL, D.view, Mk.to, D.nown, D.nownL, D.nobor, D.noborL, lendA, fillA, restA, endT, asgT, asgTs, DL.setItem, mutL, item2, outsOf, cpy, quietO, itemsOf, DL.listOf, partI, isNonC, at0, at1, at2, at3, at4, f]
theorem s4 (f : F "line_web" [.int many] = some (G, [none])) (f2 : F "_law_right" [G, N] = some (.bl true, [none, none])) (hN : ln.view = N) :
    iS F Gl (.ite (.not (.call "_law_right" (.e (.call "line_web" (.v 2 .nil)) (.v 3 .nil)))) [.ret (.b false)] []) [some S, some pd, some (.int many), some ln, none, none, none, none, none, none, none, none] = some (.nx, [some S, some pd, some (.int many), some ln, none, none, none, none, none, none, none, none]) := by
  simp [iS, iSs, iE, iA, bnd, onB, getS, lendA, fillA, restA, D.to, f, f2, hN]
theorem s5 (f : F "_law_take" [pd, .int 24] = some (.int v, [some pd', none])) :
    iS F Gl (.asg (.n 6) (.p .add (.e (.n 1) (.e (.call "_law_take" (.l 1 (.e (.n 24) .nil))) .nil)))) [some S, some pd, some (.int many), some ln, none, none, none, none, none, none, none, none] = some (.nx, [some S, some pd', some (.int many), some ln, none, none, some (.int (1 + v)), none, none, none, none, none]) := by
  simp [iF, iSs, iS, iE, iO, iX, iA, iT, iQ, itemAt, bnd, onB, getS, pr, eq_int, ne_int, p_lt, p_le, p_gt, p_ge, p_add, p_sub, p_mod, p_fdiv, p_idx, p_len, p_inn, p_notIn, p_min2, p_max2, p_list, p_tuple, p_isinst, tyIs, D.frz, D.to, D.toL, D.view, Mk.to, D.nown, D.nownL, D.nobor, D.noborL, lendA, fillA, restA, endT, asgT, asgTs, DL.setItem, mutL, item2, outsOf, cpy, quietO, itemsOf, DL.listOf, partI, isNonC, at0, at1, at2, at3, at4, f]
theorem s6 (h1 : 0 < wide) (h2 : wide < 1073741824) (f : F "_law_take" [pd, .int (24 / wide)] = some (.int v, [some pd', none])) :
    iS F Gl (.asg (.n 7) (.p .add (.e (.n 1) (.e (.call "_law_take" (.l 1 (.e (.p .fdiv (.e (.n 24) (.v 6 .nil))) .nil))) .nil)))) [some S, some pd, some (.int many), some ln, none, none, some (.int wide), none, none, none, none, none] = some (.nx, [some S, some pd', some (.int many), some ln, none, none, some (.int wide), some (.int (1 + v)), none, none, none, none]) := by
  simp [iF, iSs, iS, iE, iO, iX, iA, iT, iQ, itemAt, bnd, onB, getS, pr, eq_int, ne_int, p_lt, p_le, p_gt, p_ge, p_add, p_sub, p_mod, p_fdiv, p_idx, p_len, p_inn, p_notIn, p_min2, p_max2, p_list, p_tuple, p_isinst, tyIs, D.frz, D.to, D.toL, D.view, Mk.to, D.nown, D.nownL, D.nobor, D.noborL, lendA, fillA, restA, endT, asgT, asgTs, DL.setItem, mutL, item2, outsOf, cpy, quietO, itemsOf, DL.listOf, partI, isNonC, at0, at1, at2, at3, at4, f, h1, h2]
theorem s7 (f : F "_law_take" [pd, .int 2] = some (.int v, [some pd', none])) :
    iS F Gl (.ite (.p .eq (.e (.call "_law_take" (.l 1 (.e (.n 2) .nil))) (.e (.n 1) .nil))) [.par 6 7 (.e (.v 7) (.e (.v 6) .nil))] []) [some S, some pd, some (.int many), some ln, none, none, some (.int wide), some (.int high), none, none, none, none] =
      some (.nx, [some S, some pd', some (.int many), some ln, none, none, some (.int (if v = 1 then high else wide)), some (.int (if v = 1 then wide else high)), none, none, none, none]) := by
  by_cases h : v = 1
  · subst h; simp [iF, iSs, iS, iE, iO, iX, iA, iT, iQ, itemAt, bnd, onB, getS, pr, eq_int, ne_int, p_lt, p_le, p_gt, p_ge, p_add, p_sub, p_mod, p_fdiv, p_idx, p_len, p_inn, p_notIn, p_min2, p_max2, p_list, p_tuple, p_isinst, tyIs, D.frz, D.to, D.toL, D.view, Mk.to, D.nown, D.nownL, D.nobor, D.noborL, lendA, fillA, restA, endT, asgT, asgTs, DL.setItem, mutL, item2, outsOf, cpy, quietO, itemsOf, DL.listOf, partI, isNonC, at0, at1, at2, at3, at4, f]
  · simp [iF, iSs, iS, iE, iO, iX, iA, iT, iQ, itemAt, bnd, onB, getS, pr, eq_int, ne_int, p_lt, p_le, p_gt, p_ge, p_add, p_sub, p_mod, p_fdiv, p_idx, p_len, p_inn, p_notIn, p_min2, p_max2, p_list, p_tuple, p_isinst, tyIs, D.frz, D.to, D.toL, D.view, Mk.to, D.nown, D.nownL, D.nobor, D.noborL, lendA, fillA, restA, endT, asgT, asgTs, DL.setItem, mutL, item2, outsOf, cpy, quietO, itemsOf, DL.listOf, partI, isNonC, at0, at1, at2, at3, at4, f, h]
theorem s8 (f : F "grid_web" [.int wide, .int high] = some (G, [none, none])) (f1 : F "_law_grid_near" [.int wide, .int high] = some (N, [none, none])) (f2 : F "_law_right" [G, N] = some (.bl true, [none, none])) :
    iS F Gl (.ite (.not (.call "_law_right" (.e (.call "grid_web" (.v 6 (.v 7 .nil))) (.e (.call "_law_grid_near" (.v 6 (.v 7 .nil))) .nil)))) [.ret (.b false)] []) [some S, some pd, some (.int many), some ln, none, none, some (.int wide), some (.int high), none, none, none, none] =
      some (.nx, [some S, some pd, some (.int many), some ln, none, none, some (.int wide), some (.int high), none, none, none, none]) := by
  simp [iS, iSs, iE, iA, bnd, onB, getS, lendA, fillA, restA, D.view, D.to, f, f1, f2]
theorem s9 (f : F "_law_take" [pd, .int 5] = some (.int v, [some pd', none])) :
    iS F Gl (.asg (.n 8) (.call "_law_take" (.l 1 (.e (.n 5) .nil)))) [some S, some pd, some (.int many), some ln, none, none, some (.int wide), some (.int high), none, none, none, none] =
      some (.nx, [some S, some pd', some (.int many), some ln, none, none, some (.int wide), some (.int high), some (.int v), none, none, none]) := by
  simp [iF, iSs, iS, iE, iO, iX, iA, iT, iQ, itemAt, bnd, onB, getS, pr, eq_int, ne_int, p_lt, p_le, p_gt, p_ge, p_add, p_sub, p_mod, p_fdiv, p_idx, p_len, p_inn, p_notIn, p_min2, p_max2, p_list, p_tuple, p_isinst, tyIs, D.frz, D.to, D.toL, D.view, Mk.to, D.nown, D.nownL, D.nobor, D.noborL, lendA, fillA, restA, endT, asgT, asgTs, DL.setItem, mutL, item2, outsOf, cpy, quietO, itemsOf, DL.listOf, partI, isNonC, at0, at1, at2, at3, at4, f]
theorem s10 (f : F "cube_web" [.int size] = some (G, [none])) (f1 : F "_law_cube_near" [.int size] = some (N, [none])) (f2 : F "_law_right" [G, N] = some (.bl true, [none, none])) :
    iS F Gl (.ite (.not (.call "_law_right" (.e (.call "cube_web" (.v 8 .nil)) (.e (.call "_law_cube_near" (.v 8 .nil)) .nil)))) [.ret (.b false)] []) [some S, some pd, some (.int many), some ln, none, none, some (.int wide), some (.int high), some (.int size), none, none, none] =
      some (.nx, [some S, some pd, some (.int many), some ln, none, none, some (.int wide), some (.int high), some (.int size), none, none, none]) := by
  simp [iS, iSs, iE, iA, bnd, onB, getS, lendA, fillA, restA, D.view, D.to, f, f1, f2]
variable (P : List D)
theorem s12 (hP : D.nownL P = true) : iS F Gl (.asg (.n 11) (.p .list (.v 9 .nil))) [some S, some pd, some (.int many), some ln, none, none, some (.int wide), some (.int high), some (.int size), some (.lst .own P), none, none] =
      some (.nx, [some S, some pd, some (.int many), some ln, none, none, some (.int wide), some (.int high), some (.int size), some (.lst .own P), none, some (.lst .own P)]) := by
  simp [iS, iE, iO, bnd, getS, pr, p_list, hP, asgT]
theorem s13 (hP : D.toL .bor P = P) (f : F "tree_web" [.lst .bor P] = some (G, [none])) (f1 : F "_law_tree_near" [.lst .bor P] = some (N, [none])) (f2 : F "_law_right" [G, N] = some (.bl true, [none, none])) (he : p_eq [.lst .own P, .lst .own P] = some (.bl true)) :
    iE F Gl (.and (.call "_law_right" (.e (.call "tree_web" (.v 11 .nil)) (.e (.call "_law_tree_near" (.v 9 .nil)) .nil))) (.p .eq (.v 11 (.v 9 .nil)))) [some S, some pd, some (.int many), some ln, none, none, some (.int wide), some (.int high), some (.int size), some (.lst .own P), none, some (.lst .own P)] =
      some (.bl true, [some S, some pd, some (.int many), some ln, none, none, some (.int wide), some (.int high), some (.int size), some (.lst .own P), none, some (.lst .own P)]) := by
  simp [iE, iO, iA, bnd, onB, getS, lendA, fillA, restA, hP, f, f1, f2, pr, he, D.view, D.to, Mk.to]
theorem turn (k : Int) (f : F "_law_take" [pd, .int (k + 1)] = some (.int v, [some pd', none])) : iE F Gl e3_law [some S, some pd, some (.int many), some ln, none, none, some (.int wide), some (.int high), some (.int size), none, some (.int k), none] =
    some (.int v, [some S, some pd', some (.int many), some ln, none, none, some (.int wide), some (.int high), some (.int size), none, some (.int k), none]) := by
  simp [e3_law, iF, iSs, iS, iE, iO, iX, iA, iT, iQ, itemAt, bnd, onB, getS, pr, eq_int, ne_int, p_lt, p_le, p_gt, p_ge, p_add, p_sub, p_mod, p_fdiv, p_idx, p_len, p_inn, p_notIn, p_min2, p_max2, p_list, p_tuple, p_isinst, tyIs, D.frz, D.to, D.toL, D.view, Mk.to, D.nown, D.nownL, D.nobor, D.noborL, lendA, fillA, restA, endT, asgT, asgTs, DL.setItem, mutL, item2, outsOf, cpy, quietO, itemsOf, DL.listOf, partI, isNonC, at0, at1, at2, at3, at4, f]
theorem rngT (f : F "_law_take" [pd, .int 24] = some (.int v, [some pd', none])) : iE F Gl (.call "_law_take" (.l 1 (.e (.n 24) .nil))) [some S, some pd, some (.int many), some ln, none, none, some (.int wide), some (.int high), some (.int size), none, none, none] =
    some (.int v, [some S, some pd', some (.int many), some ln, none, none, some (.int wide), some (.int high), some (.int size), none, none, none]) := by
  simp [iF, iSs, iS, iE, iO, iX, iA, iT, iQ, itemAt, bnd, onB, getS, pr, eq_int, ne_int, p_lt, p_le, p_gt, p_ge, p_add, p_sub, p_mod, p_fdiv, p_idx, p_len, p_inn, p_notIn, p_min2, p_max2, p_list, p_tuple, p_isinst, tyIs, D.frz, D.to, D.toL, D.view, Mk.to, D.nown, D.nownL, D.nobor, D.noborL, lendA, fillA, restA, endT, asgT, asgTs, DL.setItem, mutL, item2, outsOf, cpy, quietO, itemsOf, DL.listOf, partI, isNonC, at0, at1, at2, at3, at4, f]
end
/-- the drawn numbers of a tree -/
theorem drawn (F : FT) {ns : List Int} {n : Nat} (S pd ln : D) (many wide high size : Int) (hp : Pen ns (n + 24) pd)
    (tk : ∀ {n : Nat} {d : D} {many : Int}, Pen ns (n + 1) d → 1 ≤ many → many < 1073741824 → ∃ v d', F "_law_take" [d, .int many] = some (.int v, [some d', none]) ∧ 0 ≤ v ∧ v < many ∧ Pen ns n d') :
    ∃ (ps : List Int) (pd' : D), iE F Gl (.comp [10] (.n 10) (.r1 (.call "_law_take" (.l 1 (.e (.n 24) .nil)))) (.b true) e3_law) [some S, some pd, some (.int many), some ln, none, none, some (.int wide), some (.int high), some (.int size), none, none, none] =
      some (.lst .own (ps.map D.int), [some S, some pd', some (.int many), some ln, none, none, some (.int wide), some (.int high), some (.int size), none, none, none]) ∧ ps.length < 24 ∧ ∀ k, k < ps.length → 0 ≤ ps.getD k 0 ∧ ps.getD k 0 ≤ k := by
  obtain ⟨v, p1, t1, v0, v1, hp1⟩ := tk (n := n + 23) hp (show (1 : Int) ≤ 24 by decide) (by decide)
  obtain ⟨c, rfl⟩ := int_nat v0
  have hT : iT F Gl (.r1 (.call "_law_take" (.l 1 (.e (.n 24) .nil)))) [some S, some pd, some (.int many), some ln, none, none, some (.int wide), some (.int high), some (.int size), none, none, none] = some (rng 0 c, [some S, some p1, some (.int many), some ln, none, none, some (.int wide), some (.int high), some (.int size), none, none, none]) := iT_r1n (rngT F S pd p1 ln many wide high size c t1) (by omega)
  obtain ⟨acc, s', L, ps, pd', o10, rfl, rfl, q1, q2, q3⟩ := comp_ok (w := [10]) (t := .n 10) (c := iE F Gl (.b true)) (e := iE F Gl e3_law) (rng 0 c)
    (fun i acc s => ∃ (ps : List Int) (pd' : D) (o10 : Option D), acc = ps.map D.int ∧ s = [some S, some pd', some (.int many), some ln, none, none, some (.int wide), some (.int high), some (.int size), none, o10, none] ∧ Pen ns (n + (23 - i)) pd' ∧ ps.length = i ∧ ∀ k, k < ps.length → 0 ≤ ps.getD k 0 ∧ ps.getD k 0 ≤ k)
    (fun i x acc s hx ⟨ps, pd', o10, ea, es, h1, h2, h3⟩ => by
      subst ea; subst es
      obtain ⟨rfl, hi⟩ := rngI0 hx
      obtain ⟨w, p2, t2, w0, w1, hp2⟩ := tk (n := n + (23 - (i + 1))) (many := (i : Int) + 1) (h1.le (by omega)) (by omega) (by omega)
      refine ⟨[some S, some pd', some (.int many), some ln, none, none, some (.int wide), some (.int high), some (.int size), none, some (.int i), none], true, _, rfl, rfl, nofun, fun _ => ⟨.int w, _, turn F S pd' p2 ln many wide high size w i t2, ps ++ [w], p2, some (.int i), by rw [List.map_append]; rfl, rfl, hp2, by simp [h2], fun k hk => ?_⟩⟩
      rw [List.length_append, List.length_singleton] at hk
      rcases Nat.lt_or_ge k ps.length with q | q
      · have e : (ps ++ [w]).getD k 0 = ps.getD k 0 := by rw [List.getD_eq_getElem?_getD, List.getD_eq_getElem?_getD, List.getElem?_append_left q]
        rw [e]
        exact h3 k q
      · have : k = ps.length := by omega
        subst this
        have e : (ps ++ [w]).getD ps.length 0 = w := by rw [List.getD_eq_getElem?_getD, List.getElem?_append_right (Nat.le_refl _), Nat.sub_self]; rfl
        rw [e]
        omega)
    [] [some S, some p1, some (.int many), some ln, none, none, some (.int wide), some (.int high), some (.int size), none, none, none] ⟨[], p1, none, rfl, rfl, hp1.le (by omega), rfl, fun k hk => by simp at hk⟩
  have hC := comp_eval hT (by rw [rngL]; exact small_size (by omega)) L
  rw [rngL] at q2
  exact ⟨ps, pd', hC, by omega, q3⟩
theorem law_holds (ns : List Int) (h : ns.length ≤ 63) : ∃ outs, fe (fun x => tab.lookup x) Gl 12 "law" [.lst .scr (ns.map D.int)] = some (.bl true, outs) := by
  obtain ⟨d0, f1, p0⟩ := pen_eq 8 ns h
  have tk : ∀ {n : Nat} {d : D} {many : Int}, Pen ns (n + 1) d → 1 ≤ many → many < 1073741824 → ∃ v d', E 11 "_law_take" [d, .int many] = some (.int v, [some d', none]) ∧ 0 ≤ v ∧ v < many ∧ Pen ns n d' := fun hp h1 h2 => take_ok 8 hp h1 h2 h
  obtain ⟨v1, d1, t1, a1, b1, p1⟩ := tk (n := 100) (p0.le (by omega)) (show (1 : Int) ≤ 24 by decide) (by decide)
  obtain ⟨c1, rfl⟩ := int_nat a1
  obtain ⟨v2, d2, t2, a2, b2, p2⟩ := tk (n := 99) p1 (show (1 : Int) ≤ 24 by decide) (by decide)
  obtain ⟨c2, rfl⟩ := int_nat a2
  have hd : (24 : Int) / (1 + c2) = ((24 / (1 + c2) : Nat) : Int) := by
    rw [show (1 : Int) + c2 = ((1 + c2 : Nat) : Int) by omega]
    exact (Int.natCast_ediv 24 (1 + c2)).symm
  have hd1 : 1 ≤ 24 / (1 + c2) := (Nat.le_div_iff_mul_le (by omega)).mpr (by omega)
  have hd2 : 24 / (1 + c2) ≤ 24 := Nat.div_le_self _ _
  obtain ⟨v3, d3, t3, a3, b3, p3⟩ := tk (n := 98) (many := 24 / (1 + c2)) p2 (by omega) (by omega)
  obtain ⟨c3, rfl⟩ := int_nat a3
  obtain ⟨v4, d4, t4, a4, b4, p4⟩ := tk (n := 97) (many := 2) p3 (by decide) (by decide)
  obtain ⟨v5, d5, t5, a5, b5, p5⟩ := tk (n := 96) (many := 5) p4 (by decide) (by decide)
  obtain ⟨c5, rfl⟩ := int_nat a5
  have hS : (D.lst .scr (ns.map D.int)).view = .lst .scr (ns.map D.int) := by simp [D.view, D.to, Mk.to, toL_ints]
  -- the line
  obtain ⟨gl, l1, l2, l3, l4⟩ := both_ok (i := 1) (j := 0) (line_ok (w := 1 + c1) (by omega) (by omega))
  have l2' : lineRows (1 + c1) = gl.map rD := (D.lst.inj (Prod.mk.inj (Option.some.inj l2)).1).2
  have lr := right_ok 9 (g := gl) (m := .bor) (m2 := .bor) (by omega) (fun r hr => Nat.le_trans (l4 r hr) (by decide)) (by decide)
  have lv : (D.lst .own (lineRows (1 + c1))).view = .lst .bor (gl.map fun r => .lst .bor (r.map D.int)) := by
    rw [l2']
    show D.lst _ (D.toL .bor (gl.map rD)) = _
    rw [toL_lst .bor .own gl fun r => toL_ints _ r]
    rfl
  -- the grid
  have hmul : (1 + c2) * (1 + c3) ≤ 24 := by
    have : 1 + c3 ≤ 24 / (1 + c2) := by omega
    exact Nat.le_trans (Nat.mul_le_mul_left _ this) (Nat.mul_div_le _ _)
  obtain ⟨wd, hg, eg1, eg2, ew1, eh1, emul⟩ : ∃ wd hg : Nat, (if v4 = 1 then 1 + (c3 : Int) else 1 + (c2 : Int)) = (wd : Int) ∧ (if v4 = 1 then 1 + (c2 : Int) else 1 + (c3 : Int)) = (hg : Int) ∧ 1 ≤ wd ∧ 1 ≤ hg ∧ wd * hg ≤ 24 := by
    by_cases q : v4 = 1
    · refine ⟨1 + c3, 1 + c2, ?_, ?_, by omega, by omega, by rw [Nat.mul_comm]; exact hmul⟩
      · rw [if_pos q]; omega
      · rw [if_pos q]; omega
    · refine ⟨1 + c2, 1 + c3, ?_, ?_, by omega, by omega, hmul⟩
      · rw [if_neg q]; omega
      · rw [if_neg q]; omega
  obtain ⟨gg, g1, g2, g3, g4⟩ := both_ok (i := 2) (j := 2) (grid_ok ew1 eh1 emul)
  have gr := right_ok 9 (g := gg) (m := .own) (m2 := .own) (by omega) (fun r hr => Nat.le_trans (g4 r hr) (by decide)) (by decide)
  -- the cube
  obtain ⟨gc, k1, k2, k3, k4⟩ := both_ok (i := 1) (j := 1) (cube_ok (w := c5) (by omega))
  have kr := right_ok 9 (g := gc) (m := .own) (m2 := .own) (by omega) (fun r hr => Nat.le_trans (k4 r hr) (by decide)) (by decide)
  -- the tree
  obtain ⟨ps, d6, hC, hpl, hps⟩ := drawn (E 11) (n := 0) (.lst .scr (ns.map D.int)) d5 (.lst .own (lineRows (1 + c1))) ((1 + c1 : Nat) : Int) wd hg c5 (p5.le (by omega)) tk
  have f3 := tree_web_ok 8 (m := .bor) (by decide) hpl hps
  have f4 := tree_near_ok 10 (m := .bor) hpl
  rw [tree_alike hps] at f3
  have tr := right_ok 9 (g := (List.range (ps.length + 1)).map (treeRow ps)) (m := .own) (m2 := .own) (by rw [List.length_map, List.length_range]; omega) (fun r hr => by
    obtain ⟨i, _, rfl⟩ := List.mem_map.mp hr
    unfold treeRow
    rw [List.length_append, List.length_map]
    have := List.length_filter_le (fun (k : Nat) => decide (ps.getD k 0 = (i : Int))) (List.range ps.length)
    rw [List.length_range] at this
    have : (if 0 < i then [ps.getD (i - 1) 0] else []).length ≤ 1 := by split <;> simp
    omega) (by decide)
  have e1 : (1 : Int) + (c1 : Int) = ((1 + c1 : Nat) : Int) := by omega
  have q1 := s1 (E 11) _ d0 hS f1
  have q2 := s2 (E 11) (.lst .scr (ns.map D.int)) d0 d1 c1 t1
  rw [e1] at q2
  have q3 : iS (E 11) Gl (.asg (.n 3) (.comp [5] (.n 5) (.r1 (.v 2)) (.b true) e2_law)) (st (.lst .scr (ns.map D.int)) d1 ((1 + c1 : Nat) : Int) none none) = some (.nx, [some (.lst .scr (ns.map D.int)), some d1, some (.int ((1 + c1 : Nat) : Int)), some (.lst .own (lineRows (1 + c1))), none, none, none, none, none, none, none, none]) := by
    have z := line_ev (E 11) (.lst .scr (ns.map D.int)) d1 (m := 1 + c1) (by omega)
    generalize E 11 = F at z ⊢
    generalize lineRows (1 + c1) = R at z ⊢
    rw [iS, z]
    simp [bnd, asgT]
  have q4 := s4 (E 11) (.lst .scr (ns.map D.int)) d1 (.lst .own (lineRows (1 + c1))) _ _ ((1 + c1 : Nat) : Int) l1 lr lv
  have q5 := s5 (E 11) (.lst .scr (ns.map D.int)) d1 d2 (.lst .own (lineRows (1 + c1))) ((1 + c1 : Nat) : Int) c2 t2
  have q6 := s6 (E 11) (.lst .scr (ns.map D.int)) d2 d3 (.lst .own (lineRows (1 + c1))) ((1 + c1 : Nat) : Int) (1 + c2) c3 (by omega) (by omega) t3
  have q7 := s7 (E 11) (.lst .scr (ns.map D.int)) d3 d4 (.lst .own (lineRows (1 + c1))) ((1 + c1 : Nat) : Int) (1 + c2) (1 + c3) v4 t4
  rw [eg1, eg2] at q7
  have q8 := s8 (E 11) (.lst .scr (ns.map D.int)) d4 (.lst .own (lineRows (1 + c1))) _ _ ((1 + c1 : Nat) : Int) wd hg g1 g2 gr
  have q9 := s9 (E 11) (.lst .scr (ns.map D.int)) d4 d5 (.lst .own (lineRows (1 + c1))) ((1 + c1 : Nat) : Int) wd hg c5 t5
  have q10 := s10 (E 11) (.lst .scr (ns.map D.int)) d5 (.lst .own (lineRows (1 + c1))) _ _ ((1 + c1 : Nat) : Int) wd hg c5 k1 k2 kr
  have q11 : iS (E 11) Gl (.asg (.n 9) (.comp [10] (.n 10) (.r1 (.call "_law_take" (.l 1 (.e (.n 24) .nil)))) (.b true) e3_law)) [some (.lst .scr (ns.map D.int)), some d5, some (.int ((1 + c1 : Nat) : Int)), some (.lst .own (lineRows (1 + c1))), none, none, some (.int wd), some (.int hg), some (.int c5), none, none, none] =
      some (.nx, [some (.lst .scr (ns.map D.int)), some d6, some (.int ((1 + c1 : Nat) : Int)), some (.lst .own (lineRows (1 + c1))), none, none, some (.int wd), some (.int hg), some (.int c5), some (.lst .own (ps.map D.int)), none, none]) := by
    generalize E 11 = F at hC ⊢
    generalize lineRows (1 + c1) = R at hC ⊢
    rw [iS, hC]
    simp [bnd, asgT]
  have q12 := s12 (E 11) (.lst .scr (ns.map D.int)) d6 (.lst .own (lineRows (1 + c1))) ((1 + c1 : Nat) : Int) wd hg c5 (ps.map D.int) (nownL_ints ps)
  have q13 := s13 (E 11) (.lst .scr (ns.map D.int)) d6 (.lst .own (lineRows (1 + c1))) _ _ ((1 + c1 : Nat) : Int) wd hg c5 (ps.map D.int) (toL_ints _ ps) f3 f4 tr (by rw [eq_ints]; simp)
  have hrun : iSs (E 11) Gl fd_law.body [some (.lst .scr (ns.map D.int)), none, none, none, none, none, none, none, none, none, none, none] = some (.rt (.bl true), _) := (cons_nx q1).trans ((cons_nx q2).trans ((cons_nx q3).trans ((cons_nx q4).trans ((cons_nx q5).trans ((cons_nx q6).trans ((cons_nx q7).trans ((cons_nx q8).trans ((cons_nx q9).trans ((cons_nx q10).trans ((cons_nx q11).trans ((cons_nx q12).trans (ret_ok q13))))))))))))
  exact ⟨_, (e_law 11 _).trans (iF_rt (fd := fd_law) _ rfl rfl hrun rfl)⟩
end K03
set_option Elab.async false
set_option linter.all false
set_option maxRecDepth 100000
namespace K03
open PySem PySem.Spec PyProof.Rows L2 DL
def top (i : Nat) : Stmt := PySem.Challenge.pw_middleweb_k03_lines_grids_cubes_trees.main.body.getD i (.Pass ⟨0, 0, 0, 0⟩)
abbrev s_is_below : Stmt := top 5
abbrev s_ask_number : Stmt := top 6
abbrev s_tied : Stmt := top 7
abbrev s_line_web : Stmt := top 8
abbrev s_grid_web : Stmt := top 9
abbrev s_cube_web : Stmt := top 10
abbrev s_tree_web : Stmt := top 11
abbrev s__law_mixed : Stmt := top 13
abbrev s__law_cell : Stmt := top 14
abbrev s__law_pen : Stmt := top 15
abbrev s__law_take : Stmt := top 16
abbrev s__law_whole : Stmt := top 17
abbrev s__law_right : Stmt := top 18
abbrev s__law_grid_near : Stmt := top 19
abbrev s__law_cube_near : Stmt := top 20
abbrev s__law_tree_near : Stmt := top 21
abbrev s_law : Stmt := top 22
theorem sc_is_below : scB ["thing", "bound"] ["thing", "bound"] (defScope s_is_below) = true := by decide +kernel
theorem ck_is_below : ckF fd_is_below ["thing", "bound"] ["thing", "bound"] s_is_below = true := by decide +kernel
theorem sc_ask_number : scB ["thing", "low", "most"] ["thing", "low", "most"] (defScope s_ask_number) = true := by decide +kernel
theorem ck_ask_number : ckF fd_ask_number ["thing", "low", "most"] ["thing", "low", "most"] s_ask_number = true := by decide +kernel
theorem sc_tied : scB ["many", "ties", "found", "place", "one", "other", "some"] ["many", "ties"] (defScope s_tied) = true := by decide +kernel
theorem ck_tied : ckF fd_tied ["many", "ties", "found", "place", "one", "other", "some"] ["many", "ties"] s_tied = true := by decide +kernel
theorem sc_line_web : scB ["many", "place"] ["many"] (defScope s_line_web) = true := by decide +kernel
theorem ck_line_web : ckF fd_line_web ["many", "place"] ["many"] s_line_web = true := by decide +kernel
theorem sc_grid_web : scB ["wide", "high", "ties", "place"] ["wide", "high"] (defScope s_grid_web) = true := by decide +kernel
theorem ck_grid_web : ckF fd_grid_web ["wide", "high", "ties", "place"] ["wide", "high"] s_grid_web = true := by decide +kernel
theorem sc_cube_web : scB ["size", "ties", "place", "k"] ["size"] (defScope s_cube_web) = true := by decide +kernel
theorem ck_cube_web : ckF fd_cube_web ["size", "ties", "place", "k"] ["size"] s_cube_web = true := by decide +kernel
theorem sc_tree_web : scB ["parents", "k"] ["parents"] (defScope s_tree_web) = true := by decide +kernel
theorem ck_tree_web : ckF fd_tree_web ["parents", "k"] ["parents"] s_tree_web = true := by decide +kernel
theorem sc__law_mixed : scB ["_law_number", "_law_k"] ["_law_number", "_law_k"] (defScope s__law_mixed) = true := by decide +kernel
theorem ck__law_mixed : ckF fd__law_mixed ["_law_number", "_law_k"] ["_law_number", "_law_k"] s__law_mixed = true := by decide +kernel
theorem sc__law_cell : scB ["_law_script", "_law_k", "_law_seed"] ["_law_script", "_law_k"] (defScope s__law_cell) = true := by decide +kernel
theorem ck__law_cell : ckF fd__law_cell ["_law_script", "_law_k", "_law_seed"] ["_law_script", "_law_k"] s__law_cell = true := by decide +kernel
theorem sc__law_pen : scB ["_law_script"] ["_law_script"] (defScope s__law_pen) = true := by decide +kernel
theorem ck__law_pen : ckF fd__law_pen ["_law_script"] ["_law_script"] s__law_pen = true := by decide +kernel
theorem sc__law_take : scB ["_law_pen_here", "_law_many", "_law_found"] ["_law_pen_here", "_law_many"] (defScope s__law_take) = true := by decide +kernel
theorem ck__law_take : ckF fd__law_take ["_law_pen_here", "_law_many", "_law_found"] ["_law_pen_here", "_law_many"] s__law_take = true := by decide +kernel
theorem sc__law_whole : scB ["_law_thing"] ["_law_thing"] (defScope s__law_whole) = true := by decide +kernel
theorem ck__law_whole : ckF fd__law_whole ["_law_thing"] ["_law_thing"] s__law_whole = true := by decide +kernel
theorem sc__law_right : scB ["_law_web", "_law_near", "_law_place", "_law_other"] ["_law_web", "_law_near"] (defScope s__law_right) = true := by decide +kernel
theorem ck__law_right : ckF fd__law_right ["_law_web", "_law_near", "_law_place", "_law_other"] ["_law_web", "_law_near"] s__law_right = true := by decide +kernel
theorem sc__law_grid_near : scB ["_law_wide", "_law_high", "_law_found", "_law_y", "_law_x", "_law_some", "_law_a", "_law_b"] ["_law_wide", "_law_high"] (defScope s__law_grid_near) = true := by decide +kernel
theorem ck__law_grid_near : ckF fd__law_grid_near ["_law_wide", "_law_high", "_law_found", "_law_y", "_law_x", "_law_some", "_law_a", "_law_b"] ["_law_wide", "_law_high"] s__law_grid_near = true := by decide +kernel
theorem sc__law_cube_near : scB ["_law_size", "_law_found", "_law_place", "_law_k"] ["_law_size"] (defScope s__law_cube_near) = true := by decide +kernel
theorem ck__law_cube_near : ckF fd__law_cube_near ["_law_size", "_law_found", "_law_place", "_law_k"] ["_law_size"] s__law_cube_near = true := by decide +kernel
theorem sc__law_tree_near : scB ["_law_parents", "_law_found", "_law_place", "_law_some", "_law_k"] ["_law_parents"] (defScope s__law_tree_near) = true := by decide +kernel
theorem ck__law_tree_near : ckF fd__law_tree_near ["_law_parents", "_law_found", "_law_place", "_law_some", "_law_k"] ["_law_parents"] s__law_tree_near = true := by decide +kernel
theorem sc_law : scB ["_law_script", "_law_pen_here", "_law_many", "_law_line", "_law_other", "_law_place", "_law_wide", "_law_high", "_law_size", "_law_parents", "_law_k", "_law_handed"] ["_law_script"] (defScope s_law) = true := by decide +kernel
theorem ck_law : ckF fd_law ["_law_script", "_law_pen_here", "_law_many", "_law_line", "_law_other", "_law_place", "_law_wide", "_law_high", "_law_size", "_law_parents", "_law_k", "_law_handed"] ["_law_script"] s_law = true := by decide +kernel
theorem heads {K : PySem.W.Frag} {h : Heap} {mg : Str → Option Value} (X : K.In h) (G : h.Ns mainGlobals mg)
    {f0 : Addr} {od0 an0 : Option Addr} {sl0 : Array (Option Value)} {oc0 kV0 dc0 pm0 cd0 ct0 : Value}
    (a0 : PySem.W.nsIn K mainGlobals "is_below" = some (some (.ref f0))) (l0 : K.lookup f0 = some ⟨oc0, od0, .func (PySem.W.fnOf "is_below" "is_below" (defArgs s_is_below) (defBody s_is_below) (defScope s_is_below) .none kV0 dc0 pm0 an0 cd0 ct0), sl0⟩) (c0 : PySem.W.codeIn K cd0 "is_below" = true) (k0 : PySem.W.keepIn K (.ref f0) = true)
    {f1 : Addr} {od1 an1 : Option Addr} {sl1 : Array (Option Value)} {oc1 kV1 dc1 pm1 cd1 ct1 : Value}
    (a1 : PySem.W.nsIn K mainGlobals "ask_number" = some (some (.ref f1))) (l1 : K.lookup f1 = some ⟨oc1, od1, .func (PySem.W.fnOf "ask_number" "ask_number" (defArgs s_ask_number) (defBody s_ask_number) (defScope s_ask_number) .none kV1 dc1 pm1 an1 cd1 ct1), sl1⟩) (c1 : PySem.W.codeIn K cd1 "ask_number" = true) (k1 : PySem.W.keepIn K (.ref f1) = true)
    {f2 : Addr} {od2 an2 : Option Addr} {sl2 : Array (Option Value)} {oc2 kV2 dc2 pm2 cd2 ct2 : Value}
    (a2 : PySem.W.nsIn K mainGlobals "tied" = some (some (.ref f2))) (l2 : K.lookup f2 = some ⟨oc2, od2, .func (PySem.W.fnOf "tied" "tied" (defArgs s_tied) (defBody s_tied) (defScope s_tied) .none kV2 dc2 pm2 an2 cd2 ct2), sl2⟩) (c2 : PySem.W.codeIn K cd2 "tied" = true) (k2 : PySem.W.keepIn K (.ref f2) = true)
    {f3 : Addr} {od3 an3 : Option Addr} {sl3 : Array (Option Value)} {oc3 kV3 dc3 pm3 cd3 ct3 : Value}
    (a3 : PySem.W.nsIn K mainGlobals "line_web" = some (some (.ref f3))) (l3 : K.lookup f3 = some ⟨oc3, od3, .func (PySem.W.fnOf "line_web" "line_web" (defArgs s_line_web) (defBody s_line_web) (defScope s_line_web) .none kV3 dc3 pm3 an3 cd3 ct3), sl3⟩) (c3 : PySem.W.codeIn K cd3 "line_web" = true) (k3 : PySem.W.keepIn K (.ref f3) = true)
    {f4 : Addr} {od4 an4 : Option Addr} {sl4 : Array (Option Value)} {oc4 kV4 dc4 pm4 cd4 ct4 : Value}
    (a4 : PySem.W.nsIn K mainGlobals "grid_web" = some (some (.ref f4))) (l4 : K.lookup f4 = some ⟨oc4, od4, .func (PySem.W.fnOf "grid_web" "grid_web" (defArgs s_grid_web) (defBody s_grid_web) (defScope s_grid_web) .none kV4 dc4 pm4 an4 cd4 ct4), sl4⟩) (c4 : PySem.W.codeIn K cd4 "grid_web" = true) (k4 : PySem.W.keepIn K (.ref f4) = true)
    {f5 : Addr} {od5 an5 : Option Addr} {sl5 : Array (Option Value)} {oc5 kV5 dc5 pm5 cd5 ct5 : Value}
    (a5 : PySem.W.nsIn K mainGlobals "cube_web" = some (some (.ref f5))) (l5 : K.lookup f5 = some ⟨oc5, od5, .func (PySem.W.fnOf "cube_web" "cube_web" (defArgs s_cube_web) (defBody s_cube_web) (defScope s_cube_web) .none kV5 dc5 pm5 an5 cd5 ct5), sl5⟩) (c5 : PySem.W.codeIn K cd5 "cube_web" = true) (k5 : PySem.W.keepIn K (.ref f5) = true)
    {f6 : Addr} {od6 an6 : Option Addr} {sl6 : Array (Option Value)} {oc6 kV6 dc6 pm6 cd6 ct6 : Value}
    (a6 : PySem.W.nsIn K mainGlobals "tree_web" = some (some (.ref f6))) (l6 : K.lookup f6 = some ⟨oc6, od6, .func (PySem.W.fnOf "tree_web" "tree_web" (defArgs s_tree_web) (defBody s_tree_web) (defScope s_tree_web) .none kV6 dc6 pm6 an6 cd6 ct6), sl6⟩) (c6 : PySem.W.codeIn K cd6 "tree_web" = true) (k6 : PySem.W.keepIn K (.ref f6) = true)
    {f7 : Addr} {od7 an7 : Option Addr} {sl7 : Array (Option Value)} {oc7 kV7 dc7 pm7 cd7 ct7 : Value}
    (a7 : PySem.W.nsIn K mainGlobals "_law_mixed" = some (some (.ref f7))) (l7 : K.lookup f7 = some ⟨oc7, od7, .func (PySem.W.fnOf "_law_mixed" "_law_mixed" (defArgs s__law_mixed) (defBody s__law_mixed) (defScope s__law_mixed) .none kV7 dc7 pm7 an7 cd7 ct7), sl7⟩) (c7 : PySem.W.codeIn K cd7 "_law_mixed" = true) (k7 : PySem.W.keepIn K (.ref f7) = true)
    {f8 : Addr} {od8 an8 : Option Addr} {sl8 : Array (Option Value)} {oc8 kV8 dc8 pm8 cd8 ct8 : Value}
    (a8 : PySem.W.nsIn K mainGlobals "_law_cell" = some (some (.ref f8))) (l8 : K.lookup f8 = some ⟨oc8, od8, .func (PySem.W.fnOf "_law_cell" "_law_cell" (defArgs s__law_cell) (defBody s__law_cell) (defScope s__law_cell) .none kV8 dc8 pm8 an8 cd8 ct8), sl8⟩) (c8 : PySem.W.codeIn K cd8 "_law_cell" = true) (k8 : PySem.W.keepIn K (.ref f8) = true)
    {f9 : Addr} {od9 an9 : Option Addr} {sl9 : Array (Option Value)} {oc9 kV9 dc9 pm9 cd9 ct9 : Value}
    (a9 : PySem.W.nsIn K mainGlobals "_law_pen" = some (some (.ref f9))) (l9 : K.lookup f9 = some ⟨oc9, od9, .func (PySem.W.fnOf "_law_pen" "_law_pen" (defArgs s__law_pen) (defBody s__law_pen) (defScope s__law_pen) .none kV9 dc9 pm9 an9 cd9 ct9), sl9⟩) (c9 : PySem.W.codeIn K cd9 "_law_pen" = true) (k9 : PySem.W.keepIn K (.ref f9) = true)
    {f10 : Addr} {od10 an10 : Option Addr} {sl10 : Array (Option Value)} {oc10 kV10 dc10 pm10 cd10 ct10 : Value}
    (a10 : PySem.W.nsIn K mainGlobals "_law_take" = some (some (.ref f10))) (l10 : K.lookup f10 = some ⟨oc10, od10, .func (PySem.W.fnOf "_law_take" "_law_take" (defArgs s__law_take) (defBody s__law_take) (defScope s__law_take) .none kV10 dc10 pm10 an10 cd10 ct10), sl10⟩) (c10 : PySem.W.codeIn K cd10 "_law_take" = true) (k10 : PySem.W.keepIn K (.ref f10) = true)
    {f11 : Addr} {od11 an11 : Option Addr} {sl11 : Array (Option Value)} {oc11 kV11 dc11 pm11 cd11 ct11 : Value}
    (a11 : PySem.W.nsIn K mainGlobals "_law_whole" = some (some (.ref f11))) (l11 : K.lookup f11 = some ⟨oc11, od11, .func (PySem.W.fnOf "_law_whole" "_law_whole" (defArgs s__law_whole) (defBody s__law_whole) (defScope s__law_whole) .none kV11 dc11 pm11 an11 cd11 ct11), sl11⟩) (c11 : PySem.W.codeIn K cd11 "_law_whole" = true) (k11 : PySem.W.keepIn K (.ref f11) = true)
    {f12 : Addr} {od12 an12 : Option Addr} {sl12 : Array (Option Value)} {oc12 kV12 dc12 pm12 cd12 ct12 : Value}
    (a12 : PySem.W.nsIn K mainGlobals "_law_right" = some (some (.ref f12))) (l12 : K.lookup f12 = some ⟨oc12, od12, .func (PySem.W.fnOf "_law_right" "_law_right" (defArgs s__law_right) (defBody s__law_right) (defScope s__law_right) .none kV12 dc12 pm12 an12 cd12 ct12), sl12⟩) (c12 : PySem.W.codeIn K cd12 "_law_right" = true) (k12 : PySem.W.keepIn K (.ref f12) = true)
    {f13 : Addr} {od13 an13 : Option Addr} {sl13 : Array (Option Value)} {oc13 kV13 dc13 pm13 cd13 ct13 : Value}
    (a13 : PySem.W.nsIn K mainGlobals "_law_grid_near" = some (some (.ref f13))) (l13 : K.lookup f13 = some ⟨oc13, od13, .func (PySem.W.fnOf "_law_grid_near" "_law_grid_near" (defArgs s__law_grid_near) (defBody s__law_grid_near) (defScope s__law_grid_near) .none kV13 dc13 pm13 an13 cd13 ct13), sl13⟩) (c13 : PySem.W.codeIn K cd13 "_law_grid_near" = true) (k13 : PySem.W.keepIn K (.ref f13) = true)
    {f14 : Addr} {od14 an14 : Option Addr} {sl14 : Array (Option Value)} {oc14 kV14 dc14 pm14 cd14 ct14 : Value}
    (a14 : PySem.W.nsIn K mainGlobals "_law_cube_near" = some (some (.ref f14))) (l14 : K.lookup f14 = some ⟨oc14, od14, .func (PySem.W.fnOf "_law_cube_near" "_law_cube_near" (defArgs s__law_cube_near) (defBody s__law_cube_near) (defScope s__law_cube_near) .none kV14 dc14 pm14 an14 cd14 ct14), sl14⟩) (c14 : PySem.W.codeIn K cd14 "_law_cube_near" = true) (k14 : PySem.W.keepIn K (.ref f14) = true)
    {f15 : Addr} {od15 an15 : Option Addr} {sl15 : Array (Option Value)} {oc15 kV15 dc15 pm15 cd15 ct15 : Value}
    (a15 : PySem.W.nsIn K mainGlobals "_law_tree_near" = some (some (.ref f15))) (l15 : K.lookup f15 = some ⟨oc15, od15, .func (PySem.W.fnOf "_law_tree_near" "_law_tree_near" (defArgs s__law_tree_near) (defBody s__law_tree_near) (defScope s__law_tree_near) .none kV15 dc15 pm15 an15 cd15 ct15), sl15⟩) (c15 : PySem.W.codeIn K cd15 "_law_tree_near" = true) (k15 : PySem.W.keepIn K (.ref f15) = true)
    {f16 : Addr} {od16 an16 : Option Addr} {sl16 : Array (Option Value)} {oc16 kV16 dc16 pm16 cd16 ct16 : Value}
    (a16 : PySem.W.nsIn K mainGlobals "law" = some (some (.ref f16))) (l16 : K.lookup f16 = some ⟨oc16, od16, .func (PySem.W.fnOf "law" "law" (defArgs s_law) (defBody s_law) (defScope s_law) .none kV16 dc16 pm16 an16 cd16 ct16), sl16⟩) (c16 : PySem.W.codeIn K cd16 "law" = true) (k16 : PySem.W.keepIn K (.ref f16) = true)
    (z0 : PySem.W.nsIn K mainGlobals "len" = some none)
    (z1 : PySem.W.nsIn K mainGlobals "list" = some none)
    (z2 : PySem.W.nsIn K mainGlobals "tuple" = some none)
    (z3 : PySem.W.nsIn K mainGlobals "sorted" = some none)
    (z4 : PySem.W.nsIn K mainGlobals "sum" = some none)
    (z5 : PySem.W.nsIn K mainGlobals "min" = some none)
    (z6 : PySem.W.nsIn K mainGlobals "max" = some none)
    (z7 : PySem.W.nsIn K mainGlobals "int" = some none)
    (z8 : PySem.W.nsIn K mainGlobals "all" = some none)
    (z9 : PySem.W.nsIn K mainGlobals "range" = some none)
    (z10 : PySem.W.nsIn K mainGlobals "zip" = some none)
    (z11 : PySem.W.nsIn K mainGlobals "enumerate" = some none)
    (z12 : PySem.W.nsIn K mainGlobals "isinstance" = some none)
    (z13 : PySem.W.nsIn K mainGlobals "bool" = some none)
    (z14 : PySem.W.nsIn K mainGlobals "str" = some none)
    {t0 : _} (g0 : PySem.W.nsIn K mainGlobals "MOST_PLACES" = some (some (.int 24 t0)))
    : HeadOk tab Gl K mg "law" ["_law_script"] f16 := by
  refine ⟨⟨?d0, ?d1, ?d2, ?d3, ?d4, ?d5, ?d6, ?d7, ?d8, ?d9, ?d10, ?d11, ?d12, ?d13, ?d14, ?d15, ?d16, trivial⟩, ?b, ?g, ?e⟩
  case d0 => exact ⟨s_is_below, f0, _, ["thing", "bound"], ["thing", "bound"], PySem.W.mg_of X G a0, fun_mk (st := s_is_below) l0 c0 k0, (fun_mk (st := s_is_below) l0 c0 k0).binds (ps := ["thing", "bound"]) (fun _ _ _ _ _ _ us hl => match us, hl with | [_, _], _ => rfl), sc_is_below, ck_is_below⟩
  case d1 => exact ⟨s_ask_number, f1, _, ["thing", "low", "most"], ["thing", "low", "most"], PySem.W.mg_of X G a1, fun_mk (st := s_ask_number) l1 c1 k1, (fun_mk (st := s_ask_number) l1 c1 k1).binds (ps := ["thing", "low", "most"]) (fun _ _ _ _ _ _ us hl => match us, hl with | [_, _, _], _ => rfl), sc_ask_number, ck_ask_number⟩
  case d2 => exact ⟨s_tied, f2, _, ["many", "ties", "found", "place", "one", "other", "some"], ["many", "ties"], PySem.W.mg_of X G a2, fun_mk (st := s_tied) l2 c2 k2, (fun_mk (st := s_tied) l2 c2 k2).binds (ps := ["many", "ties"]) (fun _ _ _ _ _ _ us hl => match us, hl with | [_, _], _ => rfl), sc_tied, ck_tied⟩
  case d3 => exact ⟨s_line_web, f3, _, ["many", "place"], ["many"], PySem.W.mg_of X G a3, fun_mk (st := s_line_web) l3 c3 k3, (fun_mk (st := s_line_web) l3 c3 k3).binds (ps := ["many"]) (fun _ _ _ _ _ _ us hl => match us, hl with | [_], _ => rfl), sc_line_web, ck_line_web⟩
  case d4 => exact ⟨s_grid_web, f4, _, ["wide", "high", "ties", "place"], ["wide", "high"], PySem.W.mg_of X G a4, fun_mk (st := s_grid_web) l4 c4 k4, (fun_mk (st := s_grid_web) l4 c4 k4).binds (ps := ["wide", "high"]) (fun _ _ _ _ _ _ us hl => match us, hl with | [_, _], _ => rfl), sc_grid_web, ck_grid_web⟩
  case d5 => exact ⟨s_cube_web, f5, _, ["size", "ties", "place", "k"], ["size"], PySem.W.mg_of X G a5, fun_mk (st := s_cube_web) l5 c5 k5, (fun_mk (st := s_cube_web) l5 c5 k5).binds (ps := ["size"]) (fun _ _ _ _ _ _ us hl => match us, hl with | [_], _ => rfl), sc_cube_web, ck_cube_web⟩
  case d6 => exact ⟨s_tree_web, f6, _, ["parents", "k"], ["parents"], PySem.W.mg_of X G a6, fun_mk (st := s_tree_web) l6 c6 k6, (fun_mk (st := s_tree_web) l6 c6 k6).binds (ps := ["parents"]) (fun _ _ _ _ _ _ us hl => match us, hl with | [_], _ => rfl), sc_tree_web, ck_tree_web⟩
  case d7 => exact ⟨s__law_mixed, f7, _, ["_law_number", "_law_k"], ["_law_number", "_law_k"], PySem.W.mg_of X G a7, fun_mk (st := s__law_mixed) l7 c7 k7, (fun_mk (st := s__law_mixed) l7 c7 k7).binds (ps := ["_law_number", "_law_k"]) (fun _ _ _ _ _ _ us hl => match us, hl with | [_, _], _ => rfl), sc__law_mixed, ck__law_mixed⟩
  case d8 => exact ⟨s__law_cell, f8, _, ["_law_script", "_law_k", "_law_seed"], ["_law_script", "_law_k"], PySem.W.mg_of X G a8, fun_mk (st := s__law_cell) l8 c8 k8, (fun_mk (st := s__law_cell) l8 c8 k8).binds (ps := ["_law_script", "_law_k"]) (fun _ _ _ _ _ _ us hl => match us, hl with | [_, _], _ => rfl), sc__law_cell, ck__law_cell⟩
  case d9 => exact ⟨s__law_pen, f9, _, ["_law_script"], ["_law_script"], PySem.W.mg_of X G a9, fun_mk (st := s__law_pen) l9 c9 k9, (fun_mk (st := s__law_pen) l9 c9 k9).binds (ps := ["_law_script"]) (fun _ _ _ _ _ _ us hl => match us, hl with | [_], _ => rfl), sc__law_pen, ck__law_pen⟩
  case d10 => exact ⟨s__law_take, f10, _, ["_law_pen_here", "_law_many", "_law_found"], ["_law_pen_here", "_law_many"], PySem.W.mg_of X G a10, fun_mk (st := s__law_take) l10 c10 k10, (fun_mk (st := s__law_take) l10 c10 k10).binds (ps := ["_law_pen_here", "_law_many"]) (fun _ _ _ _ _ _ us hl => match us, hl with | [_, _], _ => rfl), sc__law_take, ck__law_take⟩
  case d11 => exact ⟨s__law_whole, f11, _, ["_law_thing"], ["_law_thing"], PySem.W.mg_of X G a11, fun_mk (st := s__law_whole) l11 c11 k11, (fun_mk (st := s__law_whole) l11 c11 k11).binds (ps := ["_law_thing"]) (fun _ _ _ _ _ _ us hl => match us, hl with | [_], _ => rfl), sc__law_whole, ck__law_whole⟩
  case d12 => exact ⟨s__law_right, f12, _, ["_law_web", "_law_near", "_law_place", "_law_other"], ["_law_web", "_law_near"], PySem.W.mg_of X G a12, fun_mk (st := s__law_right) l12 c12 k12, (fun_mk (st := s__law_right) l12 c12 k12).binds (ps := ["_law_web", "_law_near"]) (fun _ _ _ _ _ _ us hl => match us, hl with | [_, _], _ => rfl), sc__law_right, ck__law_right⟩
  case d13 => exact ⟨s__law_grid_near, f13, _, ["_law_wide", "_law_high", "_law_found", "_law_y", "_law_x", "_law_some", "_law_a", "_law_b"], ["_law_wide", "_law_high"], PySem.W.mg_of X G a13, fun_mk (st := s__law_grid_near) l13 c13 k13, (fun_mk (st := s__law_grid_near) l13 c13 k13).binds (ps := ["_law_wide", "_law_high"]) (fun _ _ _ _ _ _ us hl => match us, hl with | [_, _], _ => rfl), sc__law_grid_near, ck__law_grid_near⟩
  case d14 => exact ⟨s__law_cube_near, f14, _, ["_law_size", "_law_found", "_law_place", "_law_k"], ["_law_size"], PySem.W.mg_of X G a14, fun_mk (st := s__law_cube_near) l14 c14 k14, (fun_mk (st := s__law_cube_near) l14 c14 k14).binds (ps := ["_law_size"]) (fun _ _ _ _ _ _ us hl => match us, hl with | [_], _ => rfl), sc__law_cube_near, ck__law_cube_near⟩
  case d15 => exact ⟨s__law_tree_near, f15, _, ["_law_parents", "_law_found", "_law_place", "_law_some", "_law_k"], ["_law_parents"], PySem.W.mg_of X G a15, fun_mk (st := s__law_tree_near) l15 c15 k15, (fun_mk (st := s__law_tree_near) l15 c15 k15).binds (ps := ["_law_parents"]) (fun _ _ _ _ _ _ us hl => match us, hl with | [_], _ => rfl), sc__law_tree_near, ck__law_tree_near⟩
  case d16 => exact ⟨s_law, f16, _, ["_law_script", "_law_pen_here", "_law_many", "_law_line", "_law_other", "_law_place", "_law_wide", "_law_high", "_law_size", "_law_parents", "_law_k", "_law_handed"], ["_law_script"], PySem.W.mg_of X G a16, fun_mk (st := s_law) l16 c16 k16, (fun_mk (st := s_law) l16 c16 k16).binds (ps := ["_law_script"]) (fun _ _ _ _ _ _ us hl => match us, hl with | [_], _ => rfl), sc_law, ck_law⟩
  case b => exact fun x hx => blt_by ⟨PySem.W.mg_none_of X G z0, PySem.W.mg_none_of X G z1, PySem.W.mg_none_of X G z2, PySem.W.mg_none_of X G z3, PySem.W.mg_none_of X G z4, PySem.W.mg_none_of X G z5, PySem.W.mg_none_of X G z6, PySem.W.mg_none_of X G z7, PySem.W.mg_none_of X G z8, PySem.W.mg_none_of X G z9, PySem.W.mg_none_of X G z10, PySem.W.mg_none_of X G z11, PySem.W.mg_none_of X G z12, PySem.W.mg_none_of X G z13, PySem.W.mg_none_of X G z14⟩ hx
  case g => exact gl_by ⟨⟨_, PySem.W.mg_of X G g0⟩, trivial⟩
  case e => exact ⟨s_law, _, ["_law_script", "_law_pen_here", "_law_many", "_law_line", "_law_other", "_law_place", "_law_wide", "_law_high", "_law_size", "_law_parents", "_law_k", "_law_handed"], PySem.W.mg_of X G a16, fun_mk (st := s_law) l16 c16 k16, sc_law, ⟨fd_law, rfl, ck_law⟩, fun s v => .of_eq rfl⟩
end K03
set_option Elab.async false
set_option linter.all false
set_option maxRecDepth 100000
open PySem PySem.W PyProof.Rows
set_option maxRecDepth 100000 in
set_option maxHeartbeats 0 in
theorem PySem.Challenge.cw_middleweb_k03_lines_grids_cubes_trees_holds : PySem.Challenge.rw_middleweb_k03_lines_grids_cubes_trees.Holds := by
  w_on; o_law; k_head; (case hw => w_witness2)
  k_fill
  refine DL.walk (l := PySem.Challenge.rw_middleweb_k03_lines_grids_cubes_trees) (n := 63) (k := 12) (prog := K03.tab) (Gl := K03.Gl) rfl (by decide) rfl (by decide) (fun w h Y => PySem.W.kIn_of Y) ?F K03.law_holds
  case F =>
    intro w mg fa h KX G hmg
    refine' DL.head_fa hmg (K03.heads KX G ?xa0 ?xl0 ?xc0 ?xk0 ?xa1 ?xl1 ?xc1 ?xk1 ?xa2 ?xl2 ?xc2 ?xk2 ?xa3 ?xl3 ?xc3 ?xk3 ?xa4 ?xl4 ?xc4 ?xk4 ?xa5 ?xl5 ?xc5 ?xk5 ?xa6 ?xl6 ?xc6 ?xk6 ?xa7 ?xl7 ?xc7 ?xk7 ?xa8 ?xl8 ?xc8 ?xk8 ?xa9 ?xl9 ?xc9 ?xk9 ?xa10 ?xl10 ?xc10 ?xk10 ?xa11 ?xl11 ?xc11 ?xk11 ?xa12 ?xl12 ?xc12 ?xk12 ?xa13 ?xl13 ?xc13 ?xk13 ?xa14 ?xl14 ?xc14 ?xk14 ?xa15 ?xl15 ?xc15 ?xk15 ?xa16 ?xl16 ?xc16 ?xk16 ?xz0 ?xz1 ?xz2 ?xz3 ?xz4 ?xz5 ?xz6 ?xz7 ?xz8 ?xz9 ?xz10 ?xz11 ?xz12 ?xz13 ?xz14 ?xg0)
    (case xa0 => k_is); (case xl0 => k_is); (case xc0 => k_is); (case xk0 => k_is)
    (case xa1 => k_is); (case xl1 => k_is); (case xc1 => k_is); (case xk1 => k_is)
    (case xa2 => k_is); (case xl2 => k_is); (case xc2 => k_is); (case xk2 => k_is)
    (case xa3 => k_is); (case xl3 => k_is); (case xc3 => k_is); (case xk3 => k_is)
    (case xa4 => k_is); (case xl4 => k_is); (case xc4 => k_is); (case xk4 => k_is)
    (case xa5 => k_is); (case xl5 => k_is); (case xc5 => k_is); (case xk5 => k_is)
    (case xa6 => k_is); (case xl6 => k_is); (case xc6 => k_is); (case xk6 => k_is)
    (case xa7 => k_is); (case xl7 => k_is); (case xc7 => k_is); (case xk7 => k_is)
    (case xa8 => k_is); (case xl8 => k_is); (case xc8 => k_is); (case xk8 => k_is)
    (case xa9 => k_is); (case xl9 => k_is); (case xc9 => k_is); (case xk9 => k_is)
    (case xa10 => k_is); (case xl10 => k_is); (case xc10 => k_is); (case xk10 => k_is)
    (case xa11 => k_is); (case xl11 => k_is); (case xc11 => k_is); (case xk11 => k_is)
    (case xa12 => k_is); (case xl12 => k_is); (case xc12 => k_is); (case xk12 => k_is)
    (case xa13 => k_is); (case xl13 => k_is); (case xc13 => k_is); (case xk13 => k_is)
    (case xa14 => k_is); (case xl14 => k_is); (case xc14 => k_is); (case xk14 => k_is)
    (case xa15 => k_is); (case xl15 => k_is); (case xc15 => k_is); (case xk15 => k_is)
    (case xa16 => k_is); (case xl16 => k_is); (case xc16 => k_is); (case xk16 => k_is)
    (case xz0 => k_is); (case xz1 => k_is); (case xz2 => k_is); (case xz3 => k_is); (case xz4 => k_is); (case xz5 => k_is); (case xz6 => k_is); (case xz7 => k_is); (case xz8 => k_is); (case xz9 => k_is); (case xz10 => k_is); (case xz11 => k_is); (case xz12 => k_is); (case xz13 => k_is); (case xz14 => k_is)
    (case xg0 => k_is)
