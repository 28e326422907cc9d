import PyProof.Rows.All
import Wide.All
import OpenK.AllK
import Wide.FinOn
import HandS.ForMost
import HandS.ForExc
import HandS.Codes
import HandS.TupAny
import HandS.TupLe
import HandS.TupMul
import HandS.Style
import HandS.IsInst
import HandS.Lambda
import HandS.More
import HandS.Zip
import KE.SortData
import KE.DatumIndex
import KE.DataEq
import KE.DataIsa
import PyProof.Transfer
import KE.DataMinMax
import HandS.TupSets
import HandS.ExcIs
import HandS.WordsExc
import HandS.Ends
import HandS.EndTab
import KE.KExcLine
import PySem.Challenge.RW_dialrules_k63_whole_texts_put_together
set_option Elab.async false
set_option linter.all false
set_option maxRecDepth 100000
/-! Ev: plain data, a small tree of Python's forms, and what they come to. No model of Python in here. -/
set_option autoImplicit false
namespace Ev
/-- plain data -/
inductive D where
  | non | bl (b : Bool) | int (i : Int) | str (x : List Nat)
  | tup (xs : List D) | lst (xs : List D)
  deriving Inhabited
/-- an answer: a thing, an error of the own class c, or none told -/
inductive R (α : Type) where
  | ok (a : α) | ex (c : Nat) | no
def R.bind {α β : Type} (r : R α) (f : α → R β) : R β := match r with
  | .ok a => f a
  | .ex c => .ex c
  | .no => .no
@[simp] theorem bind_ok {α β : Type} (a : α) (f : α → R β) : (R.ok a).bind f = f a := Eq.trans rfl rfl
@[simp] theorem bind_ex {α β : Type} (c : Nat) (f : α → R β) : (R.ex c).bind f = .ex c := Eq.trans rfl rfl
@[simp] theorem bind_no {α β : Type} (f : α → R β) : (R.no).bind f = .no := Eq.trans rfl rfl
theorem bind_eq_ok {α β : Type} {r : R α} {f : α → R β} {b : β} (h : r.bind f = .ok b) : ∃ a, r = .ok a ∧ f a = .ok b := by
  cases r with
  | ok a => exact ⟨a, rfl, h⟩
  | ex c => cases h
  | no => cases h
/-- the longest text, list -/
def LIM : Nat := 16777216
def BIG : Int := 18446744073709551616
/-! ### the things' own laws -/
mutual
def dep : D → Nat
  | .tup xs => depL xs + 1
  | .lst xs => depL xs + 1
  | .non => 0
  | .bl _ => 0
  | .int _ => 0
  | .str _ => 0
def depL : List D → Nat
  | [] => 0
  | x :: xs => max (dep x) (depL xs)
end
def b2i (b : Bool) : Int := if b then 1 else 0
mutual
/-- == -/
def eqv : D → D → Bool
  | .non, e => match e with | .non => true | _ => false
  | .bl a, e => match e with | .bl b => a == b | .int j => b2i a == j | _ => false
  | .int i, e => match e with | .bl b => i == b2i b | .int j => i == j | _ => false
  | .str x, e => match e with | .str y => x == y | _ => false
  | .tup xs, e => match e with | .tup ys => eqvL xs ys | _ => false
  | .lst xs, e => match e with | .lst ys => eqvL xs ys | _ => false
def eqvL : List D → List D → Bool
  | [], ys => ys.isEmpty
  | x :: xs, ys => match ys with | y :: ys => eqv x y && eqvL xs ys | [] => false
end
/-- rising texts -/
def ltN (x y : List Nat) : Bool := decide (x < y)
mutual
/-- may be set in an order -/
def alike : D → D → Bool
  | .non, e => match e with | .non => true | _ => false
  | .bl _, e => match e with | .bl _ => true | _ => false
  | .int _, e => match e with | .int _ => true | _ => false
  | .str _, e => match e with | .str _ => true | _ => false
  | .tup xs, e => match e with | .tup ys => alikeL xs ys | _ => false
  | .lst xs, e => match e with | .lst ys => alikeL xs ys | _ => false
def alikeL : List D → List D → Bool
  | [], _ => true
  | x :: xs, ys => match ys with | y :: ys => alike x y && alikeL xs ys | [] => true
end
mutual
/-- < of alike things -/
def ltD : D → D → Bool
  | .bl a, e => match e with | .bl b => decide (b2i a < b2i b) | _ => false
  | .int i, e => match e with | .int j => decide (i < j) | _ => false
  | .str x, e => match e with | .str y => ltN x y | _ => false
  | .tup xs, e => match e with | .tup ys => ltL xs ys | _ => false
  | .lst xs, e => match e with | .lst ys => ltL xs ys | _ => false
  | .non, _ => false
def ltL : List D → List D → Bool
  | [], ys => !ys.isEmpty
  | x :: xs, ys => match ys with | y :: ys => if eqv x y then ltL xs ys else ltD x y | [] => false
end
def isNone : D → Bool | .non => true | _ => false
/-- things of a kind that may be sorted -/
def sortable : D → Bool
  | .int _ => true | .str _ => true | .tup (_ :: _) => true | _ => false
def allAlike (xs : List D) : Bool := xs.all fun x => xs.all fun y => alike x y
def leD (x y : D) : Bool := !ltD y x
def sortD (xs : List D) : R D :=
  if xs.length ≤ LIM ∧ allAlike xs = true ∧ xs.all sortable = true ∧ xs.all (fun x => decide (dep x ≤ 60)) = true then .ok (.lst (xs.mergeSort leD)) else .no
/-- the first of equal ones -/
def firsts : List D → List D
  | [] => []
  | x :: xs => x :: (firsts xs).filter fun y => !eqv x y
/-! ### two-place operations -/
inductive Bo where | add | sub | mul | fdiv | mod
inductive Co where | eq | ne | lt | le | gt | ge | inn | nin
def addD : D → D → R D
  | .int i, .int j => .ok (.int (i + j))
  | .str x, .str y => if x.length + y.length ≤ LIM then .ok (.str (x ++ y)) else .no
  | .tup x, .tup y => if x.length + y.length ≤ LIM then .ok (.tup (x ++ y)) else .no
  | .lst x, .lst y => if x.length + y.length ≤ LIM then .ok (.lst (x ++ y)) else .no
  | _, _ => .no
def subD : D → D → R D
  | .int i, .int j => .ok (.int (i - j))
  | _, _ => .no
def mulD : D → D → R D
  | .int i, .int j => if (-BIG < i ∧ i < BIG) ∨ (-BIG < j ∧ j < BIG) then .ok (.int (i * j)) else .no
  | .str x, .int k => if -1000 ≤ k ∧ k ≤ 1000 ∧ x.length ≤ 1000 then .ok (.str (List.replicate k.toNat x).flatten) else .no
  | .tup x, .int k => if 0 ≤ k ∧ k ≤ 1000 ∧ x.length ≤ 1000 ∧ x ≠ [] then .ok (.tup (List.replicate k.toNat x).flatten) else .no
  | .lst x, .int k => if -1000 ≤ k ∧ k ≤ 1000 ∧ x.length ≤ 1000 then .ok (.lst (List.replicate k.toNat x).flatten) else .no
  | _, _ => .no
def fdivD : D → D → R D
  | .int i, .int j => if 0 < j ∧ j < 1073741824 then .ok (.int (i / j)) else .no
  | _, _ => .no
def modD : D → D → R D
  | .int i, .int j => if 0 < j then .ok (.int (i % j)) else .no
  | _, _ => .no
def binD : Bo → D → D → R D
  | .add => addD | .sub => subD | .mul => mulD | .fdiv => fdivD | .mod => modD
def eqD (x y : D) : R D := if min (dep x) (dep y) ≤ 60 then .ok (.bl (eqv x y)) else .no
def neD (x y : D) : R D := if min (dep x) (dep y) ≤ 60 then .ok (.bl (!eqv x y)) else .no
/-- both are whole numbers, texts, or tuples that may be set in an order -/
def ordOk (x y : D) : Bool := alike x y && !isNone x && decide (min (dep x) (dep y) ≤ 60)
def ltR (x y : D) : R D := if ordOk x y then .ok (.bl (ltD x y)) else .no
def leR (x y : D) : R D := if ordOk x y then .ok (.bl (!ltD y x)) else .no
def gtR (x y : D) : R D := if ordOk x y then .ok (.bl (ltD y x)) else .no
def geR (x y : D) : R D := if ordOk x y then .ok (.bl (!ltD x y)) else .no
def inD : D → D → R Bool
  | .str x, .str y => (match x with | [c] => .ok (y.contains c) | _ => .no)
  | d, .tup xs => if min (depL xs) (dep d) ≤ 60 then .ok (xs.any fun e => eqv e d) else .no
  | d, .lst xs => if min (depL xs) (dep d) ≤ 60 then .ok (xs.any fun e => eqv e d) else .no
  | _, _ => .no
def cmpD : Co → D → D → R D
  | .eq => eqD | .ne => neD | .lt => ltR | .le => leR | .gt => gtR | .ge => geR
  | .inn => fun x y => (inD x y).bind fun b => .ok (.bl b)
  | .nin => fun x y => (inD x y).bind fun b => .ok (.bl (!b))
/-! ### places and parts -/
def atI {α : Type} (xs : List α) (i : Int) : Option α :=
  if 0 ≤ i then xs[i.toNat]? else if -(xs.length : Int) ≤ i then xs[(i + xs.length).toNat]? else none
def dget (ks : List (List Nat)) (vs : List D) (k : List Nat) : Option D := (ks.zip vs).lookup k
/-- the value behind a store -/
def putV : List (List Nat) → List D → List Nat → D → List D
  | k' :: ks, v :: vs, k, d => if k' = k then d :: vs else v :: putV ks vs k d
  | _, _, _, d => [d]
def putK : List (List Nat) → List Nat → List (List Nat)
  | k' :: ks, k => if k' = k then k' :: ks else k' :: putK ks k
  | [], k => [k]
def opt {α : Type} : Option α → R α
  | some a => .ok a
  | none => .no
def ixD : D → D → R D
  | .tup xs, .int i => opt (atI xs i)
  | .lst xs, .int i => opt (atI xs i)
  | .str x, .int i => if x.length ≤ LIM then (opt (atI x i)).bind fun c => .ok (.str [c]) else .no
  | _, _ => .no
def sIx (n d : Nat) : Option Int → Nat
  | none => d
  | some v => if v < 0 then (v + (n : Int)).toNat else min v.toNat n
def cut {α : Type} (xs : List α) (lo hi : Option Int) : List α :=
  (xs.drop (sIx xs.length 0 lo)).take (sIx xs.length xs.length hi - sIx xs.length 0 lo)
def slD (d : D) (lo hi : Option Int) : R D := match d with
  | .tup xs => .ok (.tup (cut xs lo hi))
  | .lst xs => .ok (.lst (cut xs lo hi))
  | .str x => if x.length ≤ LIM then .ok (.str (cut x lo hi)) else .no
  | _ => .no
def revD : D → R D
  | .tup xs => .ok (.tup xs.reverse)
  | .lst xs => .ok (.lst xs.reverse)
  | .str x => if x.length ≤ LIM then .ok (.str x.reverse) else .no
  | _ => .no
def asI : D → R Int
  | .int i => .ok i
  | _ => .no
def asB : D → R Bool
  | .bl b => .ok b
  | _ => .no
/-! ### calls of what is built in -/
def numL (n : Nat) : List Nat := (Nat.toDigits 10 n).map Char.toNat
def digV (x : List Nat) : Nat := x.foldl (fun a c => a * 10 + (c - 48)) 0
def isDig (c : Nat) : Bool := decide (48 ≤ c) && decide (c ≤ 57)
def itD : D → R (List D)
  | .tup xs => .ok xs
  | .lst xs => .ok xs
  | .str x => .ok (x.map fun c => .str [c])
  | _ => .no
def allI : List D → R (List Int)
  | [] => .ok []
  | x :: xs => (asI x).bind fun i => (allI xs).bind fun is => .ok (i :: is)
def allB : List D → R (List Bool)
  | [] => .ok []
  | x :: xs => (asB x).bind fun i => (allB xs).bind fun is => .ok (i :: is)
def asS : D → R (List Nat)
  | .str x => .ok x
  | _ => .no
def allS : List D → R (List (List Nat))
  | [] => .ok []
  | x :: xs => (asS x).bind fun i => (allS xs).bind fun is => .ok (i :: is)
/-- the dict of pairs -/
def pairsD : List D → List (List Nat) → List D → R (List (List Nat) × List D)
  | [], ks, vs => .ok (ks, vs)
  | x :: xs, ks, vs => match x with
    | .tup [.str k, v] => pairsD xs (putK ks k) (putV ks vs k v)
    | _ => .no
def dictD : D → R (List (List Nat) × List D)
  | .tup xs => if xs.length ≤ LIM then pairsD xs [] [] else .no
  | .lst xs => if xs.length ≤ LIM then pairsD xs [] [] else .no
  | _ => .no
inductive Bi where | len | tuple | list | sorted | srtset | min1 | max1 | sum | any | all | int | str | repr
/-- what repr tells of a thing -/
def reprD : D → List Nat := fun _ => []
def maxL : List Int → Int → Int
  | [], m => m
  | x :: xs, m => maxL xs (if x > m then x else m)
def minL : List Int → Int → Int
  | [], m => m
  | x :: xs, m => minL xs (if x < m then x else m)
def biD : Bi → D → R D
  | .len, .tup xs => .ok (.int xs.length)
  | .len, .lst xs => .ok (.int xs.length)
  | .len, .str x => if x.length ≤ LIM then .ok (.int x.length) else .no
  | .tuple, .tup xs => .ok (.tup xs)
  | .tuple, .lst xs => .ok (.tup xs)
  | .list, .tup xs => .ok (.lst xs)
  | .list, .lst xs => .ok (.lst xs)
  | .list, .str x => if x.length ≤ LIM then .ok (.lst (x.map fun c => .str [c])) else .no
  | .sorted, .tup xs => sortD xs
  | .sorted, .lst xs => sortD xs
  | .sorted, .str x => sortD (x.map fun c => .str [c])
  | .srtset, .lst xs => (allS xs).bind fun ys => if ys.length ≤ 4000 then sortD (firsts xs) else .no
  | .srtset, .tup xs => (allS xs).bind fun ys => if ys.length ≤ 4000 then sortD (firsts xs) else .no
  | .srtset, .str x => if x.length ≤ 4000 then sortD (firsts (x.map fun c => .str [c])) else .no
  | .min1, .lst xs => (allI xs).bind fun is => match is with | [] => .no | i :: is => .ok (.int (minL is i))
  | .max1, .lst xs => (allI xs).bind fun is => match is with | [] => .no | i :: is => .ok (.int (maxL is i))
  | .sum, .lst xs => (allI xs).bind fun is => .ok (.int is.sum)
  | .any, .lst xs => (allB xs).bind fun bs => .ok (.bl (bs.any id))
  | .all, .lst xs => (allB xs).bind fun bs => .ok (.bl (bs.all id))
  | .int, .bl b => .ok (.int (b2i b))
  | .int, .int i => .ok (.int i)
  | .int, .str x => if x.all isDig = true ∧ x ≠ [] ∧ x.length ≤ 640 then .ok (.int (digV x)) else .no
  | .str, .int i => if 0 ≤ i ∧ i < BIG then .ok (.str (numL i.toNat)) else .no
  | .str, .bl b => .ok (.str (if b then [84, 114, 117, 101] else [70, 97, 108, 115, 101]))
  | _, _ => .no
def max2 : D → D → R D
  | .int i, .int j => .ok (.int (if j > i then j else i))
  | _, _ => .no
def min2 : D → D → R D
  | .int i, .int j => .ok (.int (if j < i then j else i))
  | _, _ => .no
inductive Ty where | str | int | bool | tuple
def isiD : Ty → D → Bool
  | .str, .str _ => true
  | .int, .int _ => true
  | .int, .bl _ => true
  | .bool, .bl _ => true
  | .tuple, .tup _ => true
  | _, _ => false
inductive Mt where | startswith | join | split | upper | index | count
def joinL (s : List Nat) : List (List Nat) → List Nat
  | [] => []
  | [x] => x
  | x :: y :: r => x ++ s ++ joinL s (y :: r)
/-- the parts between the signs s -/
def splitL (s : Nat) : List Nat → List Nat → List (List Nat)
  | acc, [] => [acc]
  | acc, c :: r => if c = s then acc :: splitL s [] r else splitL s (acc ++ [c]) r
def up1 (c : Nat) : Nat := if 97 ≤ c ∧ c ≤ 122 then c - 32 else c
def sumLen : List (List Nat) → Nat
  | [] => 0
  | x :: r => x.length + sumLen r
def findD (d : D) (xs : List D) : Option Nat := xs.findIdx? fun e => eqv e d
def mtD : Mt → D → D → R D
  | .startswith, .str x, .str y => .ok (.bl (y.isPrefixOf x))
  | .join, .str s, .lst xs => (allS xs).bind fun ys => if sumLen ys + s.length * ys.length ≤ LIM then .ok (.str (joinL s ys)) else .no
  | .split, .str x, .str y => (match y with | [c] => if c < 128 ∧ x.length + 2 ≤ LIM then .ok (.lst ((splitL c [] x).map .str)) else .no | _ => .no)
  | .index, .lst xs, d => if min (depL xs) (dep d) ≤ 60 ∧ xs.length ≤ LIM then (opt (findD d xs)).bind fun i => .ok (.int (i : Nat)) else .no
  | .count, .lst xs, d => if min (depL xs) (dep d) ≤ 60 then .ok (.int ((xs.countP fun e => eqv e d) : Nat)) else .no
  | _, _, _ => .no
/-- the receivers of a method -/
def recv : Mt → D → Bool
  | .startswith, .str _ => true | .join, .str _ => true | .split, .str _ => true | .upper, .str _ => true | .index, .lst _ => true | .count, .lst _ => true | _, _ => false
def upperD : D → R D
  | .str x => if x.all (fun c => decide (c < 128)) = true ∧ x.length ≤ 1000 then .ok (.str (x.map up1)) else .no
  | _ => .no
/-- d.get(k, z) -/
def getK (ks : List (List Nat)) (vs : List D) : D → D → R D
  | .str k, d => .ok ((dget ks vs k).getD d)
  | .non, d => .ok d
  | _, _ => .no
def rngL (i : Int) (n : Nat) : List D := (List.range n).map fun (k : Nat) => .int (i + (k : Int))
def rngDown (i : Int) (n : Nat) : List D := (List.range n).map fun (k : Nat) => .int (i - (k : Int))
def MID : Int := 4611686018427387904
def rngD (i j : Int) : R (List D) := if -MID ≤ i ∧ i < MID ∧ -MID ≤ j ∧ j < MID then .ok (rngL i (j - i).toNat) else .no
def rngB (i j : Int) : R (List D) := if -MID ≤ i ∧ i < MID ∧ -MID ≤ j ∧ j < MID then .ok (rngDown i (i - j).toNat) else .no
def enuL : Nat → List D → List D
  | _, [] => []
  | i, x :: r => .tup [.int (i : Nat), x] :: enuL (i + 1) r
def enuD : D → R (List D)
  | .lst xs => .ok (enuL 0 xs)
  | .tup xs => .ok (enuL 0 xs)
  | _ => .no
def zipL : List D → List D → List D
  | x :: r, y :: s => .tup [x, y] :: zipL r s
  | _, _ => []
/-! ### the trees -/
mutual
inductive E where
  | v (i : Nat) | b (i : Nat) | k (d : D)
  | tup (es : Es) | lst (es : Es)
  | dix (i : Nat) (x : E) | din (x : E) (i : Nat) | dnin (x : E) (i : Nat) | dlen (i : Nat) | dne (i : Nat) | dsort (i : Nat) | dget (i : Nat) (x z : E)
  | tix (x y : E) | tin (x y : E)
  | bin (o : Bo) (x y : E) | cmp (o : Co) (x y : E) | chain (o p : Co) (x y z : E)
  | isN (x : E) | notN (x : E) | isB (x : E) (b : Bool) | notB (x : E) (b : Bool)
  | and (es : Es) | or (es : Es) | not (x : E)
  | ix (x y : E) | slL (x lo : E) | slH (x hi : E) | slB (x lo hi : E) | rev (x : E)
  | bi (f : Bi) (x : E) | max2 (x y : E) | min2 (x y : E) | isi (x : E) (t : Ty)
  | mt (m : Mt) (x y : E) | upper (x : E)
  | call (f : Nat) (es : Es) | lam (g : Nat) (x : E)
  | comp (e : E) (tg : List Nat) (many : Bool) (it : E) (c : Es) (ws : List Nat)
  | val (x : E) | dkeys (i : Nat) | rng1 (x : E) | rng2 (x y : E) | rngd (x y : E) | enu (x : E) | zip (x y : E)
inductive Es where
  | nil | cons (e : E) (es : Es)
end
mutual
inductive S where
  | set (i : Nat) (e : E) | own (i : Nat) (es : Es) | dnew (i : Nat) | ddisp (i : Nat) (ks : List (List Nat)) (es : Es) | dfrom (i : Nat) (e : E) | mv (i j : Nat) | unp (is : List Nat) (e : E) | par (is : List Nat) (es : Es)
  | key (i : Nat) (k v : E) | app (i : Nat) (e : E) | ext (i : Nat) (e : E) | drop (e : E)
  | ifs (c : E) (a b : Ss) | for_ (is : List Nat) (many : Bool) (it : E) (body : Ss) | whl (n : Nat) (c : E) (body : Ss)
  | ret (e : E) | raise (c : Nat) | cont | frz (i : Nat)
inductive Ss where
  | nil | cons (s : S) (ss : Ss)
end
/-- a name's state: nothing, a thing that is shared, a list of its own, a dict of its own -/
inductive Sl where | un | sh (d : D) | ow (xs : List D) | od (ks : List (List Nat)) (vs : List D)
  deriving Inhabited
abbrev Env := List Sl
abbrev Tbl := Nat → Nat → List D → R D
def setE (ρ : Env) (i : Nat) (s : Sl) : Env := ρ.set i s
def setAll : Env → List Nat → List D → R Env
  | ρ, [], [] => .ok ρ
  | ρ, i :: is, d :: ds => setAll (ρ.set i (.sh d)) is ds
  | _, _, _ => .no
def store (is : List Nat) (many : Bool) (d : D) (ρ : Env) : R Env := match many with
  | true => (match d with | .tup xs => setAll ρ is xs | _ => .no)
  | false => setAll ρ is [d]
def wipe (ρ : Env) : List Nat → Env
  | [] => ρ
  | i :: is => (wipe ρ is).set i .un
def mapF (f : D → R (Option D)) : List D → R (List D)
  | [] => .ok []
  | x :: xs => (f x).bind fun o => (mapF f xs).bind fun ys => .ok (match o with | some y => y :: ys | none => ys)
def noEx {α : Type} : R α → R α
  | .ex _ => .no
  | r => r
/-- what a lambda's call comes to where errors are told -/
def toldD (g : Nat) : R D → R D
  | .ok d => .ok (.tup [.str [116, 111, 108, 100], d])
  | .ex c => if c < 4 then .ok (.tup [.str [114, 101, 102, 117, 115, 101, 100], if g = 0 then .int (c : Nat) else .non]) else .no
  | .no => .no
mutual
def eval : E → Tbl → Env → R D
  | .v i, _, ρ => (match ρ[i]? with | some (.sh d) => .ok d | _ => .no)
  | .b i, _, ρ => (match ρ[i]? with | some (.sh d) => .ok d | some (.ow xs) => .ok (.lst xs) | _ => .no)
  | .k d, _, _ => .ok d
  | .tup es, T, ρ => (evals es T ρ).bind fun ds => if ds.length ≤ LIM then .ok (.tup ds) else .no
  | .lst es, T, ρ => (evals es T ρ).bind fun ds => if ds.length ≤ LIM then .ok (.lst ds) else .no
  | .dix i x, T, ρ => (match ρ[i]? with | some (.od ks vs) => (eval x T ρ).bind fun a => (asS a).bind fun k => opt (dget ks vs k) | _ => .no)
  | .din x i, T, ρ => (eval x T ρ).bind fun a => (asS a).bind fun k => match ρ[i]? with | some (.od ks _) => .ok (.bl (ks.contains k)) | _ => .no
  | .dnin x i, T, ρ => (eval x T ρ).bind fun a => (asS a).bind fun k => match ρ[i]? with | some (.od ks _) => .ok (.bl (!ks.contains k)) | _ => .no
  | .dlen i, _, ρ => (match ρ[i]? with | some (.od ks _) => .ok (.int ks.length) | _ => .no)
  | .dne i, _, ρ => (match ρ[i]? with | some (.od ks _) => .ok (.bl (!ks.isEmpty)) | _ => .no)
  | .dsort i, _, ρ => (match ρ[i]? with | some (.od ks _) => sortD (ks.map .str) | _ => .no)
  | .dget i x z, T, ρ => (match ρ[i]? with | some (.od ks vs) => (eval x T ρ).bind fun a => (eval z T ρ).bind fun c => getK ks vs a c | _ => .no)
  | .tix x y, T, ρ => (eval x T ρ).bind fun a => (dictD a).bind fun p => (eval y T ρ).bind fun b => (asS b).bind fun k => opt (dget p.1 p.2 k)
  | .tin x y, T, ρ => (eval x T ρ).bind fun a => (asS a).bind fun k => (eval y T ρ).bind fun b => (dictD b).bind fun p => .ok (.bl (p.1.contains k))
  | .bin o x y, T, ρ => (eval x T ρ).bind fun a => (eval y T ρ).bind fun b => binD o a b
  | .cmp o x y, T, ρ => (eval x T ρ).bind fun a => (eval y T ρ).bind fun b => cmpD o a b
  | .chain o p x y z, T, ρ => (eval x T ρ).bind fun a => (eval y T ρ).bind fun b => (cmpD o a b).bind fun r => (asB r).bind fun t => if t then (eval z T ρ).bind fun c => cmpD p b c else .ok (.bl false)
  | .isN x, T, ρ => (eval x T ρ).bind fun a => .ok (.bl (isNone a))
  | .notN x, T, ρ => (eval x T ρ).bind fun a => .ok (.bl (!isNone a))
  | .isB x b, T, ρ => (eval x T ρ).bind fun a => (asB a).bind fun c => .ok (.bl (c == b))
  | .notB x b, T, ρ => (eval x T ρ).bind fun a => (asB a).bind fun c => .ok (.bl (!(c == b)))
  | .and es, T, ρ => (evalAnd es T ρ).bind fun b => .ok (.bl b)
  | .or es, T, ρ => (evalOr es T ρ).bind fun b => .ok (.bl b)
  | .not x, T, ρ => (eval x T ρ).bind fun a => (asB a).bind fun t => .ok (.bl (!t))
  | .ix x y, T, ρ => (eval x T ρ).bind fun a => (eval y T ρ).bind fun b => ixD a b
  | .slL x lo, T, ρ => (eval x T ρ).bind fun a => (eval lo T ρ).bind fun b => (asI b).bind fun i => slD a (some i) none
  | .slH x hi, T, ρ => (eval x T ρ).bind fun a => (eval hi T ρ).bind fun b => (asI b).bind fun i => slD a none (some i)
  | .slB x lo hi, T, ρ => (eval x T ρ).bind fun a => (eval lo T ρ).bind fun b => (asI b).bind fun i => (eval hi T ρ).bind fun c => (asI c).bind fun j => slD a (some i) (some j)
  | .rev x, T, ρ => (eval x T ρ).bind revD
  | .bi f x, T, ρ => (eval x T ρ).bind (biD f)
  | .max2 x y, T, ρ => (eval x T ρ).bind fun a => (eval y T ρ).bind fun b => max2 a b
  | .min2 x y, T, ρ => (eval x T ρ).bind fun a => (eval y T ρ).bind fun b => min2 a b
  | .isi x t, T, ρ => (eval x T ρ).bind fun a => .ok (.bl (isiD t a))
  | .mt m x y, T, ρ => (eval x T ρ).bind fun a => if recv m a then (eval y T ρ).bind fun b => mtD m a b else .no
  | .upper x, T, ρ => (eval x T ρ).bind upperD
  | .call f es, T, ρ => (evals es T ρ).bind fun ds => T 0 f ds
  | .lam g x, T, ρ => toldD g (eval x (fun j => T (j + 2)) ρ)
  | .comp e tg many it c ws, T, ρ => noEx ((evalIt it T ρ).bind fun ds => if ds.length ≤ LIM then (mapF (fun d => (store tg many d (wipe ρ ws)).bind fun ρ1 => (evalC c T ρ1).bind fun t => if t then (eval e T ρ1).bind fun y => .ok (some y) else .ok none) ds).bind fun ys => .ok (.lst ys) else .no)
  | .val _, _, _ => .no
  | .dkeys _, _, _ => .no
  | .rng1 _, _, _ => .no
  | .rng2 _ _, _, _ => .no
  | .rngd _ _, _, _ => .no
  | .enu _, _, _ => .no
  | .zip _ _, _, _ => .no
def evals : Es → Tbl → Env → R (List D)
  | .nil, _, _ => .ok []
  | .cons e es, T, ρ => (eval e T ρ).bind fun d => (evals es T ρ).bind fun ds => .ok (d :: ds)
def evalAnd : Es → Tbl → Env → R Bool
  | .nil, _, _ => .ok true
  | .cons e es, T, ρ => (eval e T ρ).bind fun a => (asB a).bind fun t => if t then evalAnd es T ρ else .ok false
def evalOr : Es → Tbl → Env → R Bool
  | .nil, _, _ => .ok false
  | .cons e es, T, ρ => (eval e T ρ).bind fun a => (asB a).bind fun t => if t then .ok true else evalOr es T ρ
/-- a clause's tests -/
def evalC : Es → Tbl → Env → R Bool
  | .nil, _, _ => .ok true
  | .cons e _, T, ρ => (eval e T ρ).bind asB
/-- what is walked -/
def evalIt : E → Tbl → Env → R (List D)
  | .rng1 x, T, ρ => (eval x T ρ).bind fun a => (asI a).bind fun n => rngD 0 n
  | .rng2 x y, T, ρ => (eval x T ρ).bind fun a => (eval y T ρ).bind fun b => (asI a).bind fun i => (asI b).bind fun j => rngD i j
  | .rngd x y, T, ρ => (eval x T ρ).bind fun a => (eval y T ρ).bind fun b => (asI a).bind fun i => (asI b).bind fun j => rngB i j
  | .enu x, T, ρ => (eval x T ρ).bind enuD
  | .zip x y, T, ρ => (eval x T ρ).bind fun a => (eval y T ρ).bind fun b => match a, b with
    | .tup xs, .tup ys => .ok (zipL xs ys)
    | .lst xs, .lst ys => .ok (zipL xs ys)
    | .lst xs, .tup ys => .ok (zipL xs ys)
    | _, _ => .no
  | .val e, T, ρ => (eval e T ρ).bind itD
  | .dkeys i, _, ρ => (match ρ[i]? with | some (.ow xs) => .ok xs | _ => .no)
  | _, _, _ => .no
end
/-- behind a statement -/
inductive Out where | nx (ρ : Env) | rt (d : D) | ct (ρ : Env)
def loopD (f : D → Env → R Out) : List D → Env → R Out
  | [], ρ => .ok (.nx ρ)
  | d :: ds, ρ => (f d ρ).bind fun o => match o with
    | .nx ρ' => loopD f ds ρ'
    | .ct ρ' => loopD f ds ρ'
    | .rt d => .ok (.rt d)
def loopW (c : Env → R Bool) (f : Env → R Out) : Nat → Env → R Out
  | 0, _ => .no
  | n + 1, ρ => (c ρ).bind fun t => if t then (f ρ).bind fun o => (match o with
    | .nx ρ' => loopW c f n ρ'
    | .ct ρ' => loopW c f n ρ'
    | .rt d => .ok (.rt d)) else .ok (.nx ρ)
mutual
def exec : S → Tbl → Env → R Out
  | .set i e, T, ρ => (eval e T ρ).bind fun d => .ok (.nx (ρ.set i (.sh d)))
  | .own i es, T, ρ => (evals es T ρ).bind fun ds => if ds.length ≤ LIM then .ok (.nx (ρ.set i (.ow ds))) else .no
  | .dnew i, _, ρ => .ok (.nx (ρ.set i (.od [] [])))
  | .ddisp i ks es, T, ρ => (evals es T ρ).bind fun ds => if ks.length = ds.length ∧ ks.Nodup then .ok (.nx (ρ.set i (.od ks ds))) else .no
  | .dfrom i e, T, ρ => (eval e T ρ).bind fun d => (dictD d).bind fun p => .ok (.nx (ρ.set i (.od p.1 p.2)))
  | .mv i j, _, ρ => (match ρ[j]? with | some (.ow d) => .ok (.nx ((ρ.set j .un).set i (.ow d))) | _ => .no)
  | .unp is e, T, ρ => (eval e T ρ).bind fun d => (store is true d ρ).bind fun ρ' => .ok (.nx ρ')
  | .par is es, T, ρ => (evals es T ρ).bind fun ds => (setAll ρ is ds).bind fun ρ' => .ok (.nx ρ')
  | .key i k v, T, ρ => (eval v T ρ).bind fun d => match ρ[i]? with
    | some (.od ks vs) => (eval k T ρ).bind fun a => (asS a).bind fun x => if ks.length < LIM then .ok (.nx (ρ.set i (.od (putK ks x) (putV ks vs x d)))) else .no
    | _ => .no
  | .app i e, T, ρ => (match ρ[i]? with
    | some (.ow xs) => (eval e T ρ).bind fun d => if xs.length < LIM then .ok (.nx (ρ.set i (.ow (xs ++ [d])))) else .no
    | _ => .no)
  | .ext i e, T, ρ => (match ρ[i]? with
    | some (.ow xs) => (eval e T ρ).bind fun d => (match d with
      | .lst ys => if xs.length + ys.length ≤ LIM then .ok (.nx (ρ.set i (.ow (xs ++ ys)))) else .no
      | _ => .no)
    | _ => .no)
  | .drop e, T, ρ => (eval e T ρ).bind fun _ => .ok (.nx ρ)
  | .ifs c a b, T, ρ => (eval c T ρ).bind fun r => (asB r).bind fun t => if t then execs a T ρ else execs b T ρ
  | .for_ is many it body, T, ρ => (evalIt it T ρ).bind fun ds => loopD (fun d ρ1 => (store is many d ρ1).bind fun ρ2 => execs body T ρ2) ds ρ
  | .whl n c body, T, ρ => loopW (fun ρ1 => (eval c T ρ1).bind asB) (fun ρ1 => execs body T ρ1) n ρ
  | .ret e, T, ρ => (eval e T ρ).bind fun d => .ok (.rt d)
  | .raise c, _, _ => .ex c
  | .cont, _, ρ => .ok (.ct ρ)
  | .frz i, _, ρ => (match ρ[i]? with | some (.ow xs) => .ok (.nx (ρ.set i (.sh (.lst xs)))) | _ => .no)
def execs : Ss → Tbl → Env → R Out
  | .nil, _, ρ => .ok (.nx ρ)
  | .cons s ss, T, ρ => (exec s T ρ).bind fun o => match o with
    | .nx ρ' => execs ss T ρ'
    | .rt d => .ok (.rt d)
    | .ct ρ' => .ok (.ct ρ')
end
/-! ### defs -/
structure Fn where
  ps : Nat
  ns : Nat
  body : Ss
def runFn (fn : Fn) (T : Tbl) (ds : List D) : R D :=
  if ds.length = fn.ps then match execs fn.body T (ds.map .sh ++ List.replicate (fn.ns - fn.ps) .un) with
    | .ok (.nx _) => .ok .non
    | .ok (.rt d) => .ok d
    | .ok (.ct _) => .no
    | .ex c => .ex c
    | .no => .no
  else .no
abbrev Prog := Nat → Option Fn
/-- T n j f: the def f at depth n - j -/
def tbl (P : Prog) : Nat → Tbl
  | 0 => fun _ _ _ => .no
  | n + 1 => fun j f ds => match j with
    | 0 => (match P f with | some fn => runFn fn (tbl P n) ds | none => .no)
    | j + 1 => tbl P n j f ds
/-- the def f called, n deep -/
def run (P : Prog) (n f : Nat) (ds : List D) : R D := tbl P n 0 f ds
theorem run_succ (P : Prog) (n f : Nat) (ds : List D) {fn : Fn} (h : P f = some fn) : run P (n + 1) f ds = runFn fn (tbl P n) ds := by
  show (match P f with | some fn => runFn fn (tbl P n) ds | none => .no) = _
  rw [h]
theorem tbl_zero (P : Prog) (n f : Nat) (ds : List D) : tbl P n 0 f ds = run P n f ds := rfl
end Ev

/-! EvRep: how plain data stand in the abstract heap. -/
namespace Ev
open PySem PySem.Spec PyProof.Rows L2
abbrev Sx (l : List Nat) : Str := SX.S l
mutual
def toP : D → PyData
  | .non => .none
  | .bl b => .bool b
  | .int i => .int i
  | .str x => .str (Sx x)
  | .tup xs => .tuple (toPL xs)
  | .lst xs => .list (toPL xs)
def toPL : List D → List PyData
  | [] => []
  | x :: xs => toP x :: toPL xs
end
theorem toPL_map : ∀ xs : List D, toPL xs = xs.map toP
  | [] => rfl
  | x :: xs => by rw [toPL, toPL_map xs]; rfl
/-! ### the heap without what is one's own -/
def Hm (O : List Addr) (H : Hp) : Hp := fun a => if a ∈ O then none else H a
theorem Hm_some {O : List Addr} {H : Hp} {a : Addr} {o : HO} (h : Hm O H a = some o) : a ∉ O ∧ H a = some o := by
  unfold Hm at h
  split at h
  · cases h
  · rename_i n; exact ⟨n, h⟩
theorem Hm_of {O : List Addr} {H : Hp} {a : Addr} {o : HO} (n : a ∉ O) (h : H a = some o) : Hm O H a = some o := by
  unfold Hm; rw [if_neg n]; exact h
abbrev ExtN (H H' : Hp) : Prop := LamX.ExtN H H'
theorem ExtN.hm {O : List Addr} {H H' : Hp} (e : ExtN H H') : ExtN (Hm O H) (Hm O H') := fun b o h n => by
  obtain ⟨h1, h2⟩ := Hm_some h
  exact Hm_of h1 (e b o h2 n)
theorem ExtN.hmTop {O : List Addr} {H : Hp} : ExtN (Hm O H) H := fun b o h _ => (Hm_some h).2
theorem ExtN.hmLess {O O' : List Addr} {H : Hp} (s : ∀ a ∈ O', a ∈ O) : ExtN (Hm O H) (Hm O' H) := fun b o h _ => by
  obtain ⟨h1, h2⟩ := Hm_some h
  exact Hm_of (fun z => h1 (s b z)) h2
theorem ExtN.new {H : Hp} {p : Addr} {o : HO} (h : H p = none) : ExtN H (upd H p o) := fun b u e _ => by
  rw [upd_ne (ne_of_none e h)]; exact e
theorem sqL_ext {K : PySem.W.Frag} {H H' : Hp} {a : Addr} {xs : List V} (e : ExtN H H') (h : SqL K H a xs) : SqL K H' a xs := by
  rcases h with (h | ⟨o, h⟩) | h
  · exact .inl (.inl (e _ _ h fun ps z => by cases z))
  · exact .inl (.inr ⟨o, e _ _ h fun ps z => by cases z⟩)
  · exact .inr h
theorem sqT_ext {K : PySem.W.Frag} {H H' : Hp} {a : Addr} {xs : List V} (e : ExtN H H') (h : SqT K H a xs) : SqT K H' a xs := by
  rcases h with (h | ⟨o, h⟩) | h
  · exact .inl (.inl (e _ _ h fun ps z => by cases z))
  · exact .inl (.inr ⟨o, e _ _ h fun ps z => by cases z⟩)
  · exact .inr h
mutual
/-- v stands for the thing d -/
inductive Rep (K : PySem.W.Frag) (H : Hp) : V → D → Prop
  | non : Rep K H .non .non
  | bl (b : Bool) : Rep K H (.bl b) (.bl b)
  | int (i : Int) : Rep K H (.int i) (.int i)
  | str (x : List Nat) : Rep K H (.str (Sx x)) (.str x)
  | lst {a : Addr} {xs : List V} {ds : List D} : SqL K H a xs → Reps K H xs ds → Rep K H (.ref a) (.lst ds)
  | tup {a : Addr} {xs : List V} {ds : List D} : SqT K H a xs → Reps K H xs ds → Rep K H (.ref a) (.tup ds)
inductive Reps (K : PySem.W.Frag) (H : Hp) : List V → List D → Prop
  | nil : Reps K H [] []
  | cons {v : V} {vs : List V} {d : D} {ds : List D} : Rep K H v d → Reps K H vs ds → Reps K H (v :: vs) (d :: ds)
end
section
variable {K : PySem.W.Frag} {H H' : Hp}
mutual
theorem Rep.ext (e : ExtN H H') : ∀ {d : D} {v : V}, Rep K H v d → Rep K H' v d
  | .non, _, h => by cases h; exact .non
  | .bl b, _, h => by cases h; exact .bl b
  | .int i, _, h => by cases h; exact .int i
  | .str x, _, h => by cases h; exact .str x
  | .lst ds, _, h => by
    cases h with
    | lst h1 h2 => exact .lst (sqL_ext e h1) (Reps.ext e h2)
  | .tup ds, _, h => by
    cases h with
    | tup h1 h2 => exact .tup (sqT_ext e h1) (Reps.ext e h2)
theorem Reps.ext (e : ExtN H H') : ∀ {ds : List D} {vs : List V}, Reps K H vs ds → Reps K H' vs ds
  | [], _, h => by cases h; exact .nil
  | d :: ds, _, h => by
    cases h with
    | cons h1 h2 => exact .cons (Rep.ext e h1) (Reps.ext e h2)
end
mutual
theorem Rep.dp : ∀ {d : D} {v : V}, Rep K H v d → Dp K H v (toP d)
  | .non, _, h => by cases h; exact .non
  | .bl b, _, h => by cases h; exact .bl b
  | .int i, _, h => by cases h; exact .int i
  | .str x, _, h => by cases h; exact .str _
  | .lst ds, _, h => by
    cases h with
    | lst h1 h2 => exact .lst h1 (Reps.dp h2)
  | .tup ds, _, h => by
    cases h with
    | tup h1 h2 => exact .tup h1 (Reps.dp h2)
theorem Reps.dp : ∀ {ds : List D} {vs : List V}, Reps K H vs ds → DpAll K H vs (toPL ds)
  | [], _, h => by cases h; exact .nil
  | d :: ds, _, h => by
    cases h with
    | cons h1 h2 => exact .cons (Rep.dp h1) (Reps.dp h2)
end
theorem Reps.length : ∀ {ds : List D} {vs : List V}, Reps K H vs ds → vs.length = ds.length
  | [], _, h => by cases h; rfl
  | d :: ds, _, h => by
    cases h with
    | cons h1 h2 => rw [List.length_cons, List.length_cons, Reps.length h2]
theorem Reps.app : ∀ {ds es : List D} {vs ws : List V}, Reps K H vs ds → Reps K H ws es → Reps K H (vs ++ ws) (ds ++ es)
  | [], _, _, _, h, h' => by cases h; exact h'
  | d :: ds, _, _, _, h, h' => by
    cases h with
    | cons h1 h2 => exact .cons h1 (Reps.app h2 h')
theorem Reps.take : ∀ {ds : List D} {vs : List V} (n : Nat), Reps K H vs ds → Reps K H (vs.take n) (ds.take n)
  | _, _, 0, _ => .nil
  | [], _, _ + 1, h => by cases h; exact .nil
  | d :: ds, _, n + 1, h => by
    cases h with
    | cons h1 h2 => exact .cons h1 (Reps.take n h2)
theorem Reps.drop : ∀ {ds : List D} {vs : List V} (n : Nat), Reps K H vs ds → Reps K H (vs.drop n) (ds.drop n)
  | _, _, 0, h => h
  | [], _, _ + 1, h => by cases h; exact .nil
  | d :: ds, _, n + 1, h => by
    cases h with
    | cons h1 h2 => exact Reps.drop n h2
theorem Reps.get : ∀ {ds : List D} {vs : List V} {i : Nat} {d : D}, Reps K H vs ds → ds[i]? = some d → ∃ v, vs[i]? = some v ∧ Rep K H v d
  | [], _, _, _, h, e => by simp at e
  | d :: ds, _, 0, _, h, e => by
    cases h with
    | cons h1 h2 => simp at e; subst e; exact ⟨_, rfl, h1⟩
  | d :: ds, _, i + 1, _, h, e => by
    cases h with
    | cons h1 h2 =>
      obtain ⟨v, e1, e2⟩ := Reps.get (i := i) h2 (by simpa using e)
      exact ⟨v, by simpa using e1, e2⟩
theorem Reps.get' : ∀ {ds : List D} {vs : List V} {i : Nat} {v : V}, Reps K H vs ds → vs[i]? = some v → ∃ d, ds[i]? = some d ∧ Rep K H v d
  | [], _, _, _, h, e => by cases h; simp at e
  | d :: ds, _, 0, _, h, e => by
    cases h with
    | cons h1 h2 => simp at e; subst e; exact ⟨_, rfl, h1⟩
  | d :: ds, _, i + 1, _, h, e => by
    cases h with
    | cons h1 h2 =>
      obtain ⟨v, e1, e2⟩ := Reps.get' (i := i) h2 (by simpa using e)
      exact ⟨v, by simpa using e1, e2⟩
theorem Reps.set : ∀ {ds : List D} {vs : List V} {v : V} {d : D} (i : Nat), Reps K H vs ds → Rep K H v d → Reps K H (vs.set i v) (ds.set i d)
  | [], _, _, _, _, h, _ => by cases h; exact .nil
  | _ :: _, _, _, _, 0, h, q => by
    cases h with
    | cons h1 h2 => exact .cons q h2
  | _ :: _, _, _, _, i + 1, h, q => by
    cases h with
    | cons h1 h2 => exact .cons h1 (Reps.set i h2 q)
theorem Reps.rev : ∀ {ds : List D} {vs : List V}, Reps K H vs ds → Reps K H vs.reverse ds.reverse
  | [], _, h => by cases h; exact .nil
  | d :: ds, _, h => by
    cases h with
    | cons h1 h2 =>
      rw [List.reverse_cons, List.reverse_cons]
      exact Reps.app (Reps.rev h2) (.cons h1 .nil)
theorem Reps.rep {ds : List D} {vs : List V} (h : Reps K H vs ds) : ∀ k : Nat, Reps K H (List.replicate k vs).flatten (List.replicate k ds).flatten
  | 0 => .nil
  | k + 1 => by
    rw [List.replicate_succ, List.replicate_succ, List.flatten_cons, List.flatten_cons]
    exact Reps.app h (Reps.rep h k)
theorem Reps.textsR : ∀ ss : List (List Nat), Reps K H (ss.map fun x => V.str (Sx x)) (ss.map .str)
  | [] => .nil
  | x :: ss => .cons (.str x) (Reps.textsR ss)
theorem Reps.intsR : ∀ is : List Int, Reps K H (is.map V.int) (is.map .int)
  | [] => .nil
  | x :: ss => .cons (.int x) (Reps.intsR ss)
theorem Reps.allI' : ∀ {is : List Int} {vs : List V} {ds : List D}, Reps K H vs ds → allI ds = .ok is → vs = is.map V.int
  | is, _, [], h, e => by
    cases h
    cases e; rfl
  | is, _, d :: ds, h, e => by
    cases h with
    | cons h1 h2 =>
      obtain ⟨i, e1, e⟩ := bind_eq_ok e
      obtain ⟨js, e2, e⟩ := bind_eq_ok e
      cases e
      cases d with
      | int j =>
        cases e1
        cases h1
        rw [Reps.allI' h2 e2]; rfl
      | _ => cases e1
theorem Reps.allB' : ∀ {is : List Bool} {vs : List V} {ds : List D}, Reps K H vs ds → allB ds = .ok is → vs = is.map V.bl
  | is, _, [], h, e => by
    cases h
    cases e; rfl
  | is, _, d :: ds, h, e => by
    cases h with
    | cons h1 h2 =>
      obtain ⟨i, e1, e⟩ := bind_eq_ok e
      obtain ⟨js, e2, e⟩ := bind_eq_ok e
      cases e
      cases d with
      | bl j =>
        cases e1
        cases h1
        rw [Reps.allB' h2 e2]; rfl
      | _ => cases e1
theorem Reps.allS' : ∀ {is : List (List Nat)} {vs : List V} {ds : List D}, Reps K H vs ds →  Ev.allS ds = .ok is → vs = (is.map Sx).map V.str
  | is, _, [], h, e => by
    cases h
    cases e; rfl
  | is, _, d :: ds, h, e => by
    cases h with
    | cons h1 h2 =>
      obtain ⟨i, e1, e⟩ := bind_eq_ok e
      obtain ⟨js, e2, e⟩ := bind_eq_ok e
      cases e
      cases d with
      | str j =>
        cases e1
        cases h1
        rw [Reps.allS' h2 e2]; rfl
      | _ => cases e1
end
/-! ### a dict's entries -/
def keyOf (k : List Nat) : Key := Sum.inr (Sx k)
def KvOk (K : PySem.W.Frag) (H : Hp) (kvs : List (Key × V)) (ks : List (List Nat)) (vs : List D) : Prop :=
  kvs.map (·.1) = ks.map keyOf ∧ Reps K H (kvs.map (·.2)) vs ∧ ks.Nodup
/-- the top of it may be one's own -/
def RepB (K : PySem.W.Frag) (O : List Addr) (H : Hp) (v : V) : D → Prop
  | .lst ds => ∃ a vs, v = .ref a ∧ SqL K H a vs ∧ Reps K (Hm O H) vs ds
  | d => Rep K (Hm O H) v d
theorem KvOk.ext {K : PySem.W.Frag} {H H' : Hp} {kvs : List (Key × V)} {ks : List (List Nat)} {vs : List D} (e : ExtN H H') (h : KvOk K H kvs ks vs) : KvOk K H' kvs ks vs := ⟨h.1, h.2.1.ext e, h.2.2⟩
section
variable {K : PySem.W.Frag} {O : List Addr} {H H' : Hp} {v : V} {d : D}
theorem RepB.ext (e : ExtN H H') (h : RepB K O H v d) : RepB K O H' v d := by
  cases d with
  | lst xs => obtain ⟨a, vs, h1, h2, h3⟩ := h; exact ⟨a, vs, h1, sqL_ext e h2, h3.ext e.hm⟩
  | non => exact Rep.ext e.hm h
  | bl b => exact Rep.ext e.hm h
  | int i => exact Rep.ext e.hm h
  | str x => exact Rep.ext e.hm h
  | tup xs => exact Rep.ext e.hm h
theorem Rep.toB (h : Rep K (Hm O H) v d) : RepB K O H v d := by
  cases d with
  | lst xs =>
    cases h with
    | lst h1 h2 => exact ⟨_, _, rfl, sqL_ext ExtN.hmTop h1, h2⟩
  | non => exact h
  | bl b => exact h
  | int i => exact h
  | str x => exact h
  | tup xs => exact h
/-- .. with all of it in the heap -/
theorem RepB.all (h : RepB K O H v d) : Rep K H v d := by
  cases d with
  | lst xs =>
    obtain ⟨a, vs, rfl, h2, h3⟩ := h
    exact .lst h2 (h3.ext ExtN.hmTop)
  | non => exact Rep.ext ExtN.hmTop h
  | bl b => exact Rep.ext ExtN.hmTop h
  | int i => exact Rep.ext ExtN.hmTop h
  | str x => exact Rep.ext ExtN.hmTop h
  | tup xs => exact Rep.ext ExtN.hmTop h
theorem RepB.non (h : RepB K O H v .non) : v = .non := by
  have h : Rep K (Hm O H) v .non := h
  cases h; rfl
theorem RepB.bl {b : Bool} (h : RepB K O H v (.bl b)) : v = .bl b := by
  have h : Rep K (Hm O H) v (.bl b) := h
  cases h; rfl
theorem RepB.int {i : Int} (h : RepB K O H v (.int i)) : v = .int i := by
  have h : Rep K (Hm O H) v (.int i) := h
  cases h; rfl
theorem RepB.str {x : List Nat} (h : RepB K O H v (.str x)) : v = .str (Sx x) := by
  have h : Rep K (Hm O H) v (.str x) := h
  cases h; rfl
theorem RepB.tup {xs : List D} (h : RepB K O H v (.tup xs)) : ∃ a vs, v = .ref a ∧ SqT K (Hm O H) a vs ∧ Reps K (Hm O H) vs xs := by
  have h : Rep K (Hm O H) v (.tup xs) := h
  cases h with
  | tup h1 h2 => exact ⟨_, _, rfl, h1, h2⟩
end
/-! ### growth of the heap, tables of code aside -/
abbrev Tab := List (Addr × Str)
def Ext (T : Tab) (H H' : Hp) : Prop := ExtN H H' ∧ (LamX.Tabs T H → LamX.Tabs T H')
theorem Ext.refl (T : Tab) (H : Hp) : Ext T H H := ⟨LamX.ExtN.refl H, fun h => h⟩
theorem Ext.trans {T : Tab} {H H1 H2 : Hp} (a : Ext T H H1) (b : Ext T H1 H2) : Ext T H H2 := ⟨a.1.trans b.1, fun h => b.2 (a.2 h)⟩
theorem Ext.of {T : Tab} {H H' : Hp} (e : ∀ b o, H b = some o → H' b = some o) : Ext T H H' := ⟨LamX.ExtN.of e, fun t => t.ext e⟩
theorem Ext.new {T : Tab} {H : Hp} {p : Addr} {o : HO} (h : H p = none) : Ext T H (upd H p o) := .of fun b u e => by rw [upd_ne (ne_of_none e h)]; exact e
/-! ### the names' states -/
/-- a list or dict of one's own -/
def isOw : Sl → Bool
  | .ow _ => true
  | .od _ _ => true
  | _ => false
def Own (K : PySem.W.Frag) (O : List Addr) (H : Hp) (a : Addr) : Sl → Prop
  | .ow ds => ∃ vs, H a = some (.lst vs) ∧ Reps K (Hm O H) vs ds
  | .od ks ds => ∃ kvs, H a = some (.dK kvs) ∧ KvOk K (Hm O H) kvs ks ds
  | _ => False
structure Rel (K : PySem.W.Frag) (T : Tab) (O : List Addr) (σ : L2.St) (H : Hp) (ρ : Ev.Env) : Prop where
  len : ρ.length = σ.length
  sh : ∀ (i : Nat) (d : D), ρ[i]? = some (Sl.sh d) → ∃ v, σ[i]? = some (some v) ∧ Rep K (Hm O H) v d
  ow : ∀ (i : Nat) (s : Sl), ρ[i]? = some s → isOw s = true → ∃ a, σ[i]? = some (some (V.ref a)) ∧ a ∈ O ∧ Own K O H a s
  ne : ∀ (i j : Nat) (s s' : Sl) (a : Addr), i ≠ j → ρ[i]? = some s → isOw s = true → ρ[j]? = some s' → isOw s' = true → σ[i]? = some (some (V.ref a)) → σ[j]? ≠ some (some (V.ref a))
  tr : ∀ a ∈ O, ∃ o, H a = some o ∧ ∀ ps, o ≠ .tbl ps
  tab : LamX.Tabs T H
theorem Own.ext {K : PySem.W.Frag} {O : List Addr} {H H' : Hp} {a : Addr} {d : Sl} (e : ExtN H H') (h : Own K O H a d) : Own K O H' a d := by
  cases d with
  | ow ds => obtain ⟨vs, h1, h2⟩ := h; exact ⟨vs, e _ _ h1 (fun ps z => by cases z), h2.ext e.hm⟩
  | od ks ds => obtain ⟨kvs, h1, h2⟩ := h; exact ⟨kvs, e _ _ h1 (fun ps z => by cases z), h2.ext e.hm⟩
  | un => exact h.elim
  | sh d => exact h.elim
theorem Own.toB {K : PySem.W.Frag} {O : List Addr} {H : Hp} {a : Addr} {ds : List D} (h : Own K O H a (.ow ds)) : RepB K O H (.ref a) (.lst ds) := by
  obtain ⟨vs, h1, h2⟩ := h
  exact ⟨a, vs, rfl, .inl (.inl h1), h2⟩
theorem Rel.ext {K : PySem.W.Frag} {T : Tab} {O : List Addr} {σ : L2.St} {H H' : Hp} {ρ : Ev.Env} (r : Rel K T O σ H ρ) (e : Ext T H H') : Rel K T O σ H' ρ where
  len := r.len
  sh := fun i d h => let ⟨v, h1, h2⟩ := r.sh i d h; ⟨v, h1, h2.ext e.1.hm⟩
  ow := fun i d h h' => let ⟨a, h1, h2, h3⟩ := r.ow i d h h'; ⟨a, h1, h2, h3.ext e.1⟩
  ne := r.ne
  tr := fun a h => let ⟨o, h1, h2⟩ := r.tr a h; ⟨o, e.1 a o h1 h2, h2⟩
  tab := e.2 r.tab
/-- a new place is no one's own -/
theorem Rel.fresh {K : PySem.W.Frag} {T : Tab} {O : List Addr} {σ : L2.St} {H : Hp} {ρ : Ev.Env} (r : Rel K T O σ H ρ) {p : Addr} (h : H p = none) : p ∉ O := fun z => by
  obtain ⟨o, h1, _⟩ := r.tr p z
  rw [h] at h1; cases h1
end Ev

/-! EvOp: the operations on values, as operations on plain data. -/
namespace Ev
open PySem PySem.Spec PyProof.Rows L2
def TrO (O : List Addr) (H : Hp) : Prop := ∀ a ∈ O, ∃ o, H a = some o ∧ ∀ ps, o ≠ .tbl ps
theorem TrO.fresh {O : List Addr} {H : Hp} (r : TrO O H) {p : Addr} (h : H p = none) : p ∉ O := fun z => by
  obtain ⟨o, h1, _⟩ := r p z
  rw [h] at h1; cases h1
theorem TrO.ext {O : List Addr} {H H' : Hp} (r : TrO O H) (e : ExtN H H') : TrO O H' := fun a h => let ⟨o, h1, h2⟩ := r a h; ⟨o, e a o h1 h2, h2⟩
section
variable {K : PySem.W.Frag} {O : List Addr} {H : Hp} {p : Addr} {vs : List V} {ds : List D}
theorem new_tup (tr : TrO O H) (h : H p = none) (r : Reps K (Hm O H) vs ds) : Rep K (Hm O (upd H p (.tup vs))) (.ref p) (.tup ds) :=
  .tup (.inl (.inl (Hm_of (tr.fresh h) upd_same))) (r.ext (ExtN.hm (ExtN.new h)))
theorem new_lst (tr : TrO O H) (h : H p = none) (r : Reps K (Hm O H) vs ds) : Rep K (Hm O (upd H p (.lst vs))) (.ref p) (.lst ds) :=
  .lst (.inl (.inl (Hm_of (tr.fresh h) upd_same))) (r.ext (ExtN.hm (ExtN.new h)))
end
/-- an operation's two-place reading -/
def RD (K : PySem.W.Frag) (T : Tab) (op : D → D → R D) : R2 := fun x y H Q => ∃ O d e r, TrO O H ∧ RepB K O H x d ∧ RepB K O H y e ∧ op d e = .ok r ∧
  ∀ v H', Ext T H H' → Rep K (Hm O H') v r → Q v H'
section
variable {X : Cx} {T : Tab} {pins : List (Addr × Obj)} {σ : L2.St} {H : Hp} {s : Shared}
theorem Inv.rdL {l : Addr} {xs : List V} (I : Inv X pins σ H s) (h : SqL X.K H l xs) :
    xs.length ≤ sizeLine ∧ ∃ (its : List Value) (n : Nat) (sl : Array (Option Value)), Vals xs its ∧ xs.length = its.length ∧ s.heap.get? l = some { cls := .type "list", dict := none, data := .seq its.toArray n, slots := sl } := by
  obtain ⟨its, r, ⟨⟨cls, dd, data, sl⟩, n, ho, hc, hd, hdt⟩, hz⟩ := I.list h
  simp only at hc hd hdt
  subst hc hd hdt
  exact ⟨hz, its, n, sl, r, r.length, ho⟩
theorem lim_le {n : Nat} (h : n ≤ LIM) : n ≤ sizeLine := by rw [sizeLine_eq]; exact h
/-- a list + a list -/
theorem op_catL : OpR X (binaryOp .Add) (fun x y H Q => ∃ l b xs zs, x = .ref l ∧ y = .ref b ∧ SqL X.K H l xs ∧ SqL X.K H b zs ∧ xs.length + zs.length ≤ sizeLine ∧ ∀ p, H p = none → Q (.ref p) (upd H p (.lst (xs ++ zs)))) := by
  intro pins s σ H x y v u Q I rx ry h
  obtain ⟨l, b, xs, zs, rfl, rfl, hH, hB, hz, q⟩ := h
  cases rx
  cases ry
  obtain ⟨z, its, n, sl, r, hl, e⟩ := Inv.rdL I hH
  obtain ⟨z2, its2, n2, sl2, r2, hl2, e2⟩ := Inv.rdL I hB
  refine concat_meets ⟨_, e, rfl⟩ ⟨_, e2, rfl⟩ noFill_list_add seq_list_add PySem.F.slot_list_add PySem.F.entry_list_add (PySem.F.args_list_add_2 _ _) (list_addW l b its.toArray its2.toArray n n2 none none sl sl2 (by rw [List.size_toArray, List.size_toArray]; omega)) ⟨e, e2, ?_⟩
  have ea : its.toArray ++ its2.toArray = (its ++ its2).toArray := by simp
  rw [ea]
  exact ⟨.ref _, _, I.lnew (t' := s.toks) (r.append r2) (by rw [List.length_append]; omega), rfl, q _ I.fresh⟩
theorem op_addD : OpR X (binaryOp .Add) (RD X.K T addD) := by
  intro pins s σ H x y v u Q I rx ry h
  obtain ⟨O, d, e, r, tr, hx, hy, ho, q⟩ := h
  cases d with
  | int i =>
    cases e with
    | int j =>
      cases ho
      exact op_add pins s σ H x y v u Q I rx ry ⟨i, j, hx.int, hy.int, q _ H (Ext.refl T H) (.int _)⟩
    | _ => cases ho
  | str a =>
    cases e with
    | str b =>
      simp only [addD] at ho
      split at ho
      · rename_i hl
        cases ho
        refine op_add_str pins s σ H x y v u Q I rx ry ⟨_, _, hx.str, hy.str, ?_, ?_⟩
        · rw [SX.S_len, SX.S_len]; exact lim_le hl
        · rw [SX.S_cat]; exact q _ H (Ext.refl T H) (.str _)
      · cases ho
    | _ => cases ho
  | tup a =>
    cases e with
    | tup b =>
      simp only [addD] at ho
      split at ho
      · rename_i hl
        cases ho
        obtain ⟨a1, vs, ex, sx, rx'⟩ := hx.tup
        obtain ⟨b1, ws, ey, sy, ry'⟩ := hy.tup
        subst ex ey
        refine op_catA pins s σ H _ _ v u Q I rx ry ⟨a1, b1, vs, ws, rfl, rfl, sqT_ext ExtN.hmTop sx, sqT_ext ExtN.hmTop sy, ?_, fun e0 => ?_, fun _ e0 => ?_, fun _ _ p hp => ?_⟩
        · rw [rx'.length, ry'.length]; exact lim_le hl
        · subst e0
          cases rx'
          exact q _ H (Ext.refl T H) (.tup sy ry')
        · subst e0
          cases ry'
          refine q _ H (Ext.refl T H) ?_
          rw [List.append_nil]
          exact .tup sx rx'
        · exact q _ _ (Ext.new hp) (new_tup tr hp (rx'.app ry'))
      · cases ho
    | _ => cases ho
  | lst a =>
    cases e with
    | lst b =>
      simp only [addD] at ho
      split at ho
      · rename_i hl
        cases ho
        obtain ⟨a1, vs, ex, sx, rx'⟩ := hx
        obtain ⟨b1, ws, ey, sy, ry'⟩ := hy
        subst ex ey
        refine op_catL pins s σ H _ _ v u Q I rx ry ⟨a1, b1, vs, ws, rfl, rfl, sx, sy, ?_, fun p hp => ?_⟩
        · rw [rx'.length, ry'.length]; exact lim_le hl
        · exact q _ _ (Ext.new hp) (new_lst tr hp (rx'.app ry'))
      · cases ho
    | _ => cases ho
  | _ => cases ho
theorem op_subD : OpR X (binaryOp .Sub) (RD X.K T subD) := by
  intro pins s σ H x y v u Q I rx ry h
  obtain ⟨O, d, e, r, tr, hx, hy, ho, q⟩ := h
  cases d with
  | int i =>
    cases e with
    | int j =>
      cases ho
      exact op_sub pins s σ H x y v u Q I rx ry ⟨i, j, hx.int, hy.int, q _ H (Ext.refl T H) (.int _)⟩
    | _ => cases ho
  | _ => cases ho
theorem op_fdivD : OpR X (binaryOp .FloorDiv) (RD X.K T fdivD) := by
  intro pins s σ H x y v u Q I rx ry h
  obtain ⟨O, d, e, r, tr, hx, hy, ho, q⟩ := h
  cases d with
  | int i =>
    cases e with
    | int j =>
      simp only [fdivD] at ho
      split at ho
      · rename_i hc
        cases ho
        exact op_fdiv pins s σ H x y v u Q I rx ry ⟨i, j, hx.int, hy.int, hc, q _ H (Ext.refl T H) (.int _)⟩
      · cases ho
    | _ => cases ho
  | _ => cases ho
theorem op_modD : OpR X (binaryOp .Mod) (RD X.K T modD) := by
  intro pins s σ H x y v u Q I rx ry h
  obtain ⟨O, d, e, r, tr, hx, hy, ho, q⟩ := h
  cases d with
  | int i =>
    cases e with
    | int j =>
      simp only [modD] at ho
      split at ho
      · rename_i hc
        cases ho
        exact op_mod pins s σ H x y v u Q I rx ry ⟨i, j, hx.int, hy.int, hc, q _ H (Ext.refl T H) (.int _)⟩
      · cases ho
    | _ => cases ho
  | _ => cases ho
/-! ### == and != -/
mutual
theorem eqv_toP : ∀ d e : D, PyData.eqv (toP d) (toP e) = eqv d e
  | .non, e => by cases e <;> simp [toP, PyData.eqv, eqv]
  | .bl a, e => by cases e <;> simp [toP, PyData.eqv, eqv, b2i]
  | .int a, e => by cases e <;> simp [toP, PyData.eqv, eqv, b2i]
  | .str a, e => by
    cases e <;> simp [toP, PyData.eqv, eqv]
    exact SX.S_beq _ _
  | .tup xs, e => by
    cases e <;> simp [toP, PyData.eqv, eqv]
    exact eqvL_toP _ _
  | .lst xs, e => by
    cases e <;> simp [toP, PyData.eqv, eqv]
    exact eqvL_toP _ _
theorem eqvL_toP : ∀ xs ys : List D, PyData.eqvAll (toPL xs) (toPL ys) = eqvL xs ys
  | [], [] => by simp [toPL, PyData.eqvAll, eqvL]
  | [], _ :: _ => by simp [toPL, PyData.eqvAll, eqvL]
  | _ :: _, [] => by simp [toPL, PyData.eqvAll, eqvL]
  | x :: xs, y :: ys => by
    simp only [toPL, PyData.eqvAll, eqvL]
    rw [eqv_toP x y, eqvL_toP xs ys]
end
mutual
theorem dep_toP : ∀ d : D, (toP d).depth = dep d
  | .non => by simp [toP, PyData.depth, dep]
  | .bl _ => by simp [toP, PyData.depth, dep]
  | .int _ => by simp [toP, PyData.depth, dep]
  | .str _ => by simp [toP, PyData.depth, dep]
  | .tup xs => by simp only [toP, PyData.depth, dep]; rw [depL_toP xs]
  | .lst xs => by simp only [toP, PyData.depth, dep]; rw [depL_toP xs]
theorem depL_toP : ∀ xs : List D, PyData.depthAll (toPL xs) = depL xs
  | [] => by simp [toPL, PyData.depthAll, depL]
  | x :: xs => by simp only [toPL, PyData.depthAll, depL]; rw [dep_toP x, depL_toP xs]
end
mutual
theorem plain_toP : ∀ d : D, (toP d).plain = true
  | .non => by simp [toP, PyData.plain]
  | .bl _ => by simp [toP, PyData.plain]
  | .int _ => by simp [toP, PyData.plain]
  | .str _ => by simp [toP, PyData.plain]
  | .tup xs => by simp only [toP, PyData.plain]; exact plainL_toP xs
  | .lst xs => by simp only [toP, PyData.plain]; exact plainL_toP xs
theorem plainL_toP : ∀ xs : List D, PyData.plainAll (toPL xs) = true
  | [] => by simp [toPL, PyData.plainAll]
  | x :: xs => by simp only [toPL, PyData.plainAll]; rw [plain_toP x, plainL_toP xs]; rfl
end
mutual
theorem alike_toP : ∀ d e : D, PySem.W.alike (toP d) (toP e) = alike d e
  | .non, e => by cases e <;> simp [toP, PySem.W.alike, alike]
  | .bl a, e => by cases e <;> simp [toP, PySem.W.alike, alike]
  | .int a, e => by cases e <;> simp [toP, PySem.W.alike, alike]
  | .str a, e => by cases e <;> simp [toP, PySem.W.alike, alike]
  | .tup xs, e => by
    cases e <;> simp [toP, PySem.W.alike, alike]
    exact alikeL_toP _ _
  | .lst xs, e => by
    cases e <;> simp [toP, PySem.W.alike, alike]
    exact alikeL_toP _ _
theorem alikeL_toP : ∀ xs ys : List D, PySem.W.alikeAll (toPL xs) (toPL ys) = alikeL xs ys
  | [], [] => by simp [toPL, PySem.W.alikeAll, alikeL]
  | [], _ :: _ => by simp [toPL, PySem.W.alikeAll, alikeL]
  | _ :: _, [] => by simp [toPL, PySem.W.alikeAll, alikeL]
  | x :: xs, y :: ys => by
    simp only [toPL, PySem.W.alikeAll, alikeL]
    rw [alike_toP x y, alikeL_toP xs ys]
end
mutual
theorem lt_toP : ∀ d e : D, alike d e = true → isNone d = false → PySem.W.dataLt (toP d) (toP e) = ltD d e
  | .non, _, _, h => by cases h
  | .bl a, e, h, _ => by
    cases e with
    | bl b => simp only [toP, ltD]; rw [PySem.W.dataLt_bool]; cases a <;> cases b <;> rfl
    | _ => simp [alike] at h
  | .int a, e, h, _ => by
    cases e with
    | int b => simp only [toP, ltD]; rw [PySem.W.dataLt_int]
    | _ => simp [alike] at h
  | .str a, e, h, _ => by
    cases e with
    | str b => simp only [toP, ltD]; rw [PySem.W.dataLt_str]; rfl
    | _ => simp [alike] at h
  | .tup xs, e, h, _ => by
    cases e with
    | tup ys =>
      simp only [toP, ltD]
      rw [PySem.W.dataLt_tuple]
      exact ltL_toP xs ys (by simpa [alike] using h)
    | _ => simp [alike] at h
  | .lst xs, e, h, _ => by
    cases e with
    | lst ys =>
      simp only [toP, ltD]
      rw [PySem.W.dataLt_list]
      exact ltL_toP xs ys (by simpa [alike] using h)
    | _ => simp [alike] at h
theorem ltL_toP : ∀ xs ys : List D, alikeL xs ys = true → PyProof.Rows.lexLt PyProof.Rows.itemOrd (PySem.W.keyToksAll (toPL xs)) (PySem.W.keyToksAll (toPL ys)) = ltL xs ys
  | [], [], _ => by simp [toPL, ltL, PySem.W.keyToksAll]; rfl
  | [], y :: ys, _ => by
    rw [show toPL (y :: ys) = toP y :: toPL ys from rfl, PySem.W.toks_all_cons]
    simp only [toPL, PySem.W.keyToksAll, ltL]
    exact (PySem.W.lex_atom (by simp) [] _).trans (by rw [PySem.W.lex_one]; rfl)
  | x :: xs, [], _ => by
    rw [show toPL (x :: xs) = toP x :: toPL xs from rfl, PySem.W.toks_all_cons]
    simp only [toPL, PySem.W.keyToksAll, ltL]
    exact (PySem.W.lex_atom (by simp) _ []).trans (by rw [PySem.W.lex_one]; rfl)
  | x :: xs, y :: ys, h => by
    simp only [alikeL, Bool.and_eq_true] at h
    have ha : PySem.W.alike (toP x) (toP y) = true := by rw [alike_toP]; exact h.1
    show PyProof.Rows.lexLt PyProof.Rows.itemOrd (PySem.W.keyToksAll (toP x :: toPL xs)) (PySem.W.keyToksAll (toP y :: toPL ys)) = _
    rw [ltL]
    cases e : eqv x y with
    | true =>
      rw [PySem.W.dataLt_all_yes ha (by rw [eqv_toP]; exact e), if_pos rfl]
      exact ltL_toP xs ys h.2
    | false =>
      rw [PySem.W.dataLt_all_no ha (by rw [eqv_toP]; exact e), if_neg (by simp)]
      refine lt_toP x y h.1 ?_
      cases x with
      | non => cases y with
        | non => simp [eqv] at e
        | _ => simp [alike] at h
      | _ => rfl
end
theorem toP_ne {d : D} (h : isNone d = false) : toP d ≠ .none := by
  cases d with
  | non => cases h
  | _ => intro z; simp [toP] at z
/-- what a comparison asks -/
theorem cmp_room {u a b : Nat} (h : min a b ≤ 60) (hu : u + 64 < cLine) : u + min a b < cLine := by omega
theorem opD_cmp {op : CmpOp} {f : D → D → R D} {g : D → D → Bool} (hu : X.A.units + 64 < cLine)
    (hf : ∀ d e r, f d e = .ok r → r = .bl (g d e) ∧ min (dep d) (dep e) ≤ 60 ∧ (∀ (A : Around) (s : Shared) (a b : Value) (as bs : List Addr) (E : Value → Shared → Prop) (Q : Value → Shared → Prop), Reads s.heap a (toP d) as → Reads s.heap b (toP e) bs → A.units + min (toP d).depth (toP e).depth < cLine →
      Q (.bool (g d e)) s → wpAny (model X.prog X.w) A (compareOp op a b) Q E s)) : OpR X (compareOp op) (RD X.K T f) := by
  intro pins s σ H x y v u Q I rx ry h
  obtain ⟨O, d, e, r, tr, hx, hy, ho, q⟩ := h
  obtain ⟨rfl, hm, run⟩ := hf d e r ho
  obtain ⟨as, ra⟩ := Dp.reads I _ _ _ hx.all.dp rx
  obtain ⟨bs, rb⟩ := Dp.reads I _ _ _ hy.all.dp ry
  refine run X.A s v u as bs X.xe _ ra rb ?_ ⟨.bl _, H, I, rfl, q _ H (Ext.refl T H) (.bl _)⟩
  rw [dep_toP, dep_toP]
  exact cmp_room hm hu
theorem op_eqR (hu : X.A.units + 64 < cLine) : OpR X (compareOp .Eq) (RD X.K T eqD) := by
  refine opD_cmp (g := eqv) hu fun d e r ho => ?_
  unfold eqD at ho
  split at ho
  · rename_i hc
    cases ho
    refine ⟨rfl, hc, fun A s a b as bs E Q ra rb hu q => ?_⟩
    exact SeqAt.eq_plain ra rb (plain_toP d) (plain_toP e) hu (by rw [eqv_toP]; exact q)
  · cases ho
theorem op_neR (hu : X.A.units + 64 < cLine) : OpR X (compareOp .NotEq) (RD X.K T neD) := by
  refine opD_cmp (g := fun d e => !eqv d e) hu fun d e r ho => ?_
  unfold neD at ho
  split at ho
  · rename_i hc
    cases ho
    refine ⟨rfl, hc, fun A s a b as bs E Q ra rb hu q => ?_⟩
    exact SeqAt.ne_plain ra rb (plain_toP d) (plain_toP e) hu (by rw [eqv_toP]; exact q)
  · cases ho
theorem ordOk_of {d e : D} (h : ordOk d e = true) : alike d e = true ∧ isNone d = false ∧ min (dep d) (dep e) ≤ 60 := by
  unfold ordOk at h
  simp only [Bool.and_eq_true, Bool.not_eq_true', decide_eq_true_eq] at h
  exact ⟨h.1.1, h.1.2, h.2⟩
theorem alike_comm : ∀ d e : D, alike d e = alike e d := fun d e => by
  rw [← alike_toP, ← alike_toP]; exact PySem.W.alike_comm _ _
theorem alike_none {d e : D} (h : alike d e = true) (n : isNone d = false) : isNone e = false := by
  cases e with
  | non => cases d <;> simp_all [alike, isNone]
  | _ => rfl
theorem op_ltR (hu : X.A.units + 64 < cLine) : OpR X (compareOp .Lt) (RD X.K T ltR) := by
  refine opD_cmp (g := ltD) hu fun d e r ho => ?_
  unfold ltR at ho
  split at ho
  · rename_i hc
    obtain ⟨h1, h2, h3⟩ := ordOk_of hc
    cases ho
    refine ⟨rfl, h3, fun A s a b as bs E Q ra rb hu q => ?_⟩
    exact PySem.W.lt_data ra rb (by rw [alike_toP]; exact h1) (toP_ne h2) hu (by rw [lt_toP d e h1 h2]; exact q)
  · cases ho
theorem op_gtR (hu : X.A.units + 64 < cLine) : OpR X (compareOp .Gt) (RD X.K T gtR) := by
  refine opD_cmp (g := fun d e => ltD e d) hu fun d e r ho => ?_
  unfold gtR at ho
  split at ho
  · rename_i hc
    obtain ⟨h1, h2, h3⟩ := ordOk_of hc
    cases ho
    refine ⟨rfl, h3, fun A s a b as bs E Q ra rb hu q => ?_⟩
    exact PySem.W.gt_data ra rb (by rw [alike_toP]; exact h1) (toP_ne h2) hu (by rw [lt_toP e d (by rw [alike_comm]; exact h1) (alike_none h1 h2)]; exact q)
  · cases ho
theorem op_leR (hu : X.A.units + 64 < cLine) : OpR X (compareOp .LtE) (RD X.K T leR) := by
  refine opD_cmp (g := fun d e => !ltD e d) hu fun d e r ho => ?_
  unfold leR at ho
  split at ho
  · rename_i hc
    obtain ⟨h1, h2, h3⟩ := ordOk_of hc
    cases ho
    refine ⟨rfl, h3, fun A s a b as bs E Q ra rb hu q => ?_⟩
    exact PySem.W.le_data ra rb (by rw [alike_toP]; exact h1) (toP_ne h2) hu (by rw [lt_toP e d (by rw [alike_comm]; exact h1) (alike_none h1 h2)]; exact q)
  · cases ho
theorem op_geR (hu : X.A.units + 64 < cLine) : OpR X (compareOp .GtE) (RD X.K T geR) := by
  refine opD_cmp (g := fun d e => !ltD d e) hu fun d e r ho => ?_
  unfold geR at ho
  split at ho
  · rename_i hc
    obtain ⟨h1, h2, h3⟩ := ordOk_of hc
    cases ho
    refine ⟨rfl, h3, fun A s a b as bs E Q ra rb hu q => ?_⟩
    exact PySem.W.ge_data ra rb (by rw [alike_toP]; exact h1) (toP_ne h2) hu (by rw [lt_toP d e h1 h2]; exact q)
  · cases ho
/-! ### in, not in -/
theorem any_toPL (d : D) : ∀ xs : List D, ((toPL xs).any fun y => PyData.eqv y (toP d)) = xs.any fun e => eqv e d
  | [] => rfl
  | x :: xs => by
    rw [toPL, List.any_cons, List.any_cons, any_toPL d xs, eqv_toP]
theorem op_inR (hu : X.A.units + 64 < cLine) : OpR X (compareOp .In) (RD X.K T (cmpD .inn)) := by
  intro pins s σ H x y v u Q I rx ry h
  obtain ⟨O, d, e, r, tr, hx, hy, ho, q⟩ := h
  have ho : (inD d e).bind (fun b => R.ok (D.bl b)) = .ok r := ho
  obtain ⟨b, hb, ho⟩ := bind_eq_ok ho
  cases ho
  cases e with
  | str z =>
    cases d with
    | str a =>
      match a, hb, hx with
      | [c], hb, hx =>
        cases hb
        refine op_in_sign pins s σ H x y v u Q I rx ry ⟨c, _, hx.str, hy.str, ?_⟩
        have e : decide (c ∈ (Sx z).cps.toList) = z.contains c := by
          show decide (c ∈ z.toArray.toList) = _
          simp [List.contains_iff_mem]
        rw [e]
        exact q _ H (Ext.refl T H) (.bl _)
      | [], hb, _ => cases hb
      | _ :: _ :: _, hb, _ => cases hb
    | _ => cases hb
  | tup xs =>
    have hb : (if min (depL xs) (dep d) ≤ 60 then R.ok (xs.any fun e => eqv e d) else .no) = .ok b := by
      cases d <;> exact hb
    split at hb
    · rename_i hc
      cases hb
      obtain ⟨as, ra⟩ := Dp.reads I _ _ _ hx.all.dp rx
      obtain ⟨bs, rb⟩ := Dp.reads I _ _ _ hy.all.dp ry
      refine SeqAt.in_tuple_data rb ra (plainL_toP xs) (plain_toP d) ?_ ?_
      · rw [depL_toP, dep_toP]; have h2 : X.A.units + 64 < cLine := hu; omega
      · rw [any_toPL]
        exact ⟨.bl _, H, I, rfl, q _ H (Ext.refl T H) (.bl _)⟩
    · cases hb
  | lst xs =>
    have hb : (if min (depL xs) (dep d) ≤ 60 then R.ok (xs.any fun e => eqv e d) else .no) = .ok b := by
      cases d <;> exact hb
    split at hb
    · rename_i hc
      cases hb
      obtain ⟨as, ra⟩ := Dp.reads I _ _ _ hx.all.dp rx
      obtain ⟨bs, rb⟩ := Dp.reads I _ _ _ hy.all.dp ry
      refine SeqAt.in_list_data rb ra (plainL_toP xs) (plain_toP d) ?_ ?_
      · rw [depL_toP, dep_toP]; have h2 : X.A.units + 64 < cLine := hu; omega
      · rw [any_toPL]
        exact ⟨.bl _, H, I, rfl, q _ H (Ext.refl T H) (.bl _)⟩
    · cases hb
  | _ => cases d <;> cases hb
theorem op_ninR (hu : X.A.units + 64 < cLine) : OpR X (compareOp .NotIn) (RD X.K T (cmpD .nin)) := by
  intro pins s σ H x y v u Q I rx ry h
  obtain ⟨O, d, e, r, tr, hx, hy, ho, q⟩ := h
  have ho : (inD d e).bind (fun b => R.ok (D.bl (!b))) = .ok r := ho
  obtain ⟨b, hb, ho⟩ := bind_eq_ok ho
  cases ho
  cases e with
  | str z =>
    cases d with
    | str a =>
      match a, hb, hx with
      | [c], hb, hx =>
        cases hb
        refine op_notIn_sign pins s σ H x y v u Q I rx ry ⟨c, _, hx.str, hy.str, ?_⟩
        have e : decide (c ∈ (Sx z).cps.toList) = z.contains c := by
          show decide (c ∈ z.toArray.toList) = _
          simp [List.contains_iff_mem]
        rw [e]
        exact q _ H (Ext.refl T H) (.bl _)
      | [], hb, _ => cases hb
      | _ :: _ :: _, hb, _ => cases hb
    | _ => cases hb
  | tup xs =>
    have hb : (if min (depL xs) (dep d) ≤ 60 then R.ok (xs.any fun e => eqv e d) else .no) = .ok b := by
      cases d <;> exact hb
    split at hb
    · rename_i hc
      cases hb
      obtain ⟨as, ra⟩ := Dp.reads I _ _ _ hx.all.dp rx
      obtain ⟨bs, rb⟩ := Dp.reads I _ _ _ hy.all.dp ry
      refine SeqAt.notIn_tuple_data rb ra (plainL_toP xs) (plain_toP d) ?_ ?_
      · rw [depL_toP, dep_toP]; have h2 : X.A.units + 64 < cLine := hu; omega
      · rw [any_toPL]
        exact ⟨.bl _, H, I, rfl, q _ H (Ext.refl T H) (.bl _)⟩
    · cases hb
  | lst xs =>
    have hb : (if min (depL xs) (dep d) ≤ 60 then R.ok (xs.any fun e => eqv e d) else .no) = .ok b := by
      cases d <;> exact hb
    split at hb
    · rename_i hc
      cases hb
      obtain ⟨as, ra⟩ := Dp.reads I _ _ _ hx.all.dp rx
      obtain ⟨bs, rb⟩ := Dp.reads I _ _ _ hy.all.dp ry
      refine SeqAt.notIn_list_data rb ra (plainL_toP xs) (plain_toP d) ?_ ?_
      · rw [depL_toP, dep_toP]; have h2 : X.A.units + 64 < cLine := hu; omega
      · rw [any_toPL]
        exact ⟨.bl _, H, I, rfl, q _ H (Ext.refl T H) (.bl _)⟩
    · cases hb
  | _ => cases d <;> cases hb
end
end Ev

/-! EvMulT: a tuple none or one time. -/
namespace L2
open PySem PySem.Spec PyProof.Rows
theorem tuple_mul1W (l : Addr) (items : Array Value) (n : Nat) (dd : Option Addr) (sl : Array (Option Value)) (u : Tok) :
    Meets (Builtin.«tuple.__mul__» ⟨[.ref l, .int 1 u], []⟩) (fun _ R s => s.heap.get? l = some { cls := .type "tuple", dict := dd, data := .seq items n, slots := sl } ∧ R (.ok (.ret (Value.ref l))) s) :=
  .of_wp fun prog w A R s h => by
    obtain ⟨hp, g, d, tk, os⟩ := s
    obtain ⟨hl, h⟩ := h
    have f1 := AutoSeq1.idx_int
    have c0 : (decide ((1 : Int) < -(2 ^ 63)) || decide ((1 : Int) ≥ 2 ^ 63)) = false := by decide
    have c1 : (items.isEmpty || (1 : Int) == 1) = true := by rw [Bool.or_eq_true]; exact .inr rfl
    wp_walk using wpAny_loadPart' hl
    repeat (first
      | (refine wpAny_ite_false (decide_eq_false (by rw [c0]; exact Bool.false_ne_true)) ?_; wp_walk using wpAny_loadPart' hl)
      | (refine wpAny_ite_true (decide_eq_true c1) ?_; wp_walk using wpAny_loadPart' hl))
    exact ⟨_, rfl, h⟩
theorem tuple_mul0W (l : Addr) (items : Array Value) (n : Nat) (dd : Option Addr) (sl : Array (Option Value)) (u : Tok) (he : items.isEmpty = false) :
    Meets (Builtin.«tuple.__mul__» ⟨[.ref l, .int 0 u], []⟩) (fun _ R s => s.heap.get? l = some { cls := .type "tuple", dict := dd, data := .seq items n, slots := sl } ∧
      R (.ok (.ret (Value.ref s.heap.objs.size))) { s with heap := s.heap.push { cls := Value.type "tuple", data := Data.seq #[] }, toks := s.toks }) :=
  .of_wp fun prog w A R s h => by
    obtain ⟨hp, g, d, tk, os⟩ := s
    obtain ⟨hl, h⟩ := h
    have f1 := AutoSeq1.idx_int
    have c0 : (decide ((0 : Int) < -(2 ^ 63)) || decide ((0 : Int) ≥ 2 ^ 63)) = false := by decide
    have c1 : (items.isEmpty || (0 : Int) == 1) = false := by rw [he]; rfl
    have c2 : (decide ((0 : Int) ≤ 0) || items.isEmpty) = true := by rw [Bool.or_eq_true]; exact .inl rfl
    wp_walk using wpAny_loadPart' hl
    repeat (first
      | (refine wpAny_ite_false (decide_eq_false (by rw [c0]; exact Bool.false_ne_true)) ?_; wp_walk using wpAny_loadPart' hl)
      | (refine wpAny_ite_false (decide_eq_false (by rw [c1]; exact Bool.false_ne_true)) ?_; wp_walk using wpAny_loadPart' hl)
      | (refine wpAny_ite_true (decide_eq_true c2) ?_; wp_walk using wpAny_loadPart' hl))
    exact ⟨_, rfl, h⟩
def rRepT1 (K : PySem.W.Frag) : R2 := fun x y H Q => ∃ l xs, x = .ref l ∧ y = .int 1 ∧ SqT K H l xs ∧ Q (.ref l) H
def rRepT0 (K : PySem.W.Frag) : R2 := fun x y H Q => ∃ l xs, x = .ref l ∧ y = .int 0 ∧ SqT K H l xs ∧ xs ≠ [] ∧ ∀ p, H p = none → Q (.ref p) (upd H p (.tup []))
section
variable {X : Cx}
theorem op_repT1 : OpR X (binaryOp .Mult) (rRepT1 X.K) := by
  intro pins s σ H x y v u Q I rx ry h
  obtain ⟨l, xs, rfl, rfl, hT, q⟩ := h
  cases rx
  obtain ⟨t, rfl⟩ := ry
  obtain ⟨its, r, ⟨⟨cls, dd, data, sl⟩, ho, hc, n, hd⟩, hs⟩ := I.tuple hT
  simp only at hc hd
  subst hc hd
  exact wpAny_binaryOp_repeat_ref (T := "tuple") (U := "int") (by decide) ⟨_, ho, rfl⟩ (fun s' => typeIs_int s' 1 t) noFill_tuple_mul F.fills_int_mul F.slot_int_rmul repeat_tuple F.slot_int_index.lookup
    (call_meets F.slot_int_rmul (typeIs_int s 1 t) F.entry_int_rmul (F.args_int_rmul_2 _ _) (int_rmul_tuple 1 t l its.toArray n dd sl)
      ⟨ho, rfl, ⟨_, ho, rfl⟩, call_meets F.slot_tuple_mul ⟨_, ho, rfl⟩ F.entry_tuple_mul (F.args_tuple_mul_2 _ _) (tuple_mul1W l its.toArray n dd sl t) ⟨ho, ⟨.ref l, H, I, rfl, q⟩⟩⟩)
theorem op_repT0 : OpR X (binaryOp .Mult) (rRepT0 X.K) := by
  intro pins s σ H x y v u Q I rx ry h
  obtain ⟨l, xs, rfl, rfl, hT, hne, q⟩ := h
  cases rx
  obtain ⟨t, rfl⟩ := ry
  obtain ⟨its, r, ⟨⟨cls, dd, data, sl⟩, ho, hc, n, hd⟩, hs⟩ := I.tuple hT
  simp only at hc hd
  subst hc hd
  have hle : its.length = xs.length := r.length.symm
  have hi : its.toArray.isEmpty = false := by
    cases its with
    | nil => exact absurd (List.eq_nil_of_length_eq_zero hle.symm) hne
    | cons a b => rfl
  refine wpAny_binaryOp_repeat_ref (T := "tuple") (U := "int") (by decide) ⟨_, ho, rfl⟩ (fun s' => typeIs_int s' 0 t) noFill_tuple_mul F.fills_int_mul F.slot_int_rmul repeat_tuple F.slot_int_index.lookup
    (call_meets F.slot_int_rmul (typeIs_int s 0 t) F.entry_int_rmul (F.args_int_rmul_2 _ _) (int_rmul_tuple 0 t l its.toArray n dd sl)
      ⟨ho, rfl, ⟨_, ho, rfl⟩, call_meets F.slot_tuple_mul ⟨_, ho, rfl⟩ F.entry_tuple_mul (F.args_tuple_mul_2 _ _) (tuple_mul0W l its.toArray n dd sl t hi) ⟨ho, ?_⟩⟩)
  refine ⟨.ref s.heap.objs.size, _, I.laid (t' := s.toks) (o := .tup []) (fun b ob q => Heap.get?_push_of_some _ q) (Nat.le_refl _) ?_, rfl, q _ (I.hok.fresh (Nat.le_refl _))⟩
  exact ⟨Nat.zero_le _, _, .nil, IsTup.new _ _⟩
end
end L2

/-! EvOp2: places, parts, calls of what is built in. -/
namespace Ev
open PySem PySem.Spec PyProof.Rows L2
section
variable {X : Cx} {T : Tab} {pins : List (Addr × Obj)} {σ : L2.St} {H : Hp} {s : Shared}
/-! ### * -/
theorem big_eq : BIG = 2 ^ 64 := by decide
theorem flat_rep_len {α : Type} (x : List α) : ∀ k : Nat, (List.replicate k x).flatten.length = k * x.length
  | 0 => by simp
  | k + 1 => by
    rw [List.replicate_succ, List.flatten_cons, List.length_append, flat_rep_len x k, Nat.succ_mul]; omega
theorem rep_len_le {k : Int} {n : Nat} (h1 : k ≤ 1000) (h2 : n ≤ 1000) : k.toNat * n ≤ 1000000 := by
  have : k.toNat ≤ 1000 := by omega
  calc k.toNat * n ≤ 1000 * 1000 := Nat.mul_le_mul this h2
    _ = 1000000 := rfl
theorem foldl_app_arr (x : Array Nat) : ∀ (k : Nat) (acc : List Nat), (List.replicate k x).foldl (· ++ ·) acc.toArray = (acc ++ (List.replicate k x.toList).flatten).toArray
  | 0, acc => by simp
  | k + 1, acc => by
    rw [List.replicate_succ, List.foldl_cons, List.replicate_succ, List.flatten_cons]
    have e : acc.toArray ++ x = (acc ++ x.toList).toArray := by simp
    rw [e, foldl_app_arr x k (acc ++ x.toList), List.append_assoc]
/-- text * int -/
theorem op_mulS : OpR X (binaryOp .Mult) (fun x y H Q => ∃ (a : List Nat) (k : Int), x = .str (Sx a) ∧ y = .int k ∧ -(2 ^ 63) ≤ k ∧ k ≤ 1000 ∧ a.length ≤ 1000 ∧ Q (.str (Sx (List.replicate k.toNat a).flatten)) H) := by
  intro pins s σ H x y v u Q I rx ry h
  obtain ⟨a, k, rfl, rfl, h0, h1, h2, q⟩ := h
  obtain ⟨t, rfl⟩ := rx
  obtain ⟨t', rfl⟩ := ry
  have hl : (Sx a).length = a.length := SX.S_len a
  refine PySem.P.mul_str ?_ (fun h3 _ => ?_) (fun h3 _ => ?_) ?_
  · rw [decide_eq_false (by omega), decide_eq_false (by omega)]; rfl
  · rw [hl]
    have h4 : (1000 : Int) ≤ (2 ^ 63 - 1) / k := by
      rw [Int.le_ediv_iff_mul_le (by omega)]
      omega
    omega
  · rw [hl]
    have := rep_len_le h1 h2
    rw [Nat.mul_comm] at this
    have e : Builtin.Str.tooLong (a.length * k.toNat) = false := by
      unfold Builtin.Str.tooLong
      rw [sizeLine_eq]
      exact decide_eq_false (by omega)
    exact e
  · split
    · rename_i hk
      have e0 : k.toNat = 0 := by omega
      rw [e0] at q
      exact ⟨by decide, .str (Sx []), H, I.tok _, ⟨_, rfl⟩, q⟩
    · split
      · rename_i hk hc
        refine ⟨.str (Sx a), H, I, ⟨_, rfl⟩, ?_⟩
        have e : (List.replicate k.toNat a).flatten = a := by
          rcases Bool.or_eq_true_iff.mp hc with h5 | h5
          · have : k = 1 := by simpa using h5
            subst this
            simp
          · have : a.length = 0 := by rw [hl] at h5; simpa using h5
            have : a = [] := List.eq_nil_of_length_eq_zero this
            subst this
            simp
        rw [e] at q
        exact q
      · have e : (⟨List.foldl (fun x1 x2 => x1 ++ x2) #[] (List.replicate k.toNat (Sx a).cps)⟩ : Str) = Sx (List.replicate k.toNat a).flatten := by
          have := foldl_app_arr (Sx a).cps k.toNat []
          rw [List.nil_append] at this
          show (⟨List.foldl (fun x1 x2 => x1 ++ x2) ([] : List Nat).toArray (List.replicate k.toNat (Sx a).cps)⟩ : Str) = _
          rw [this]
        rw [e]
        refine ⟨?_, .str _, H, I.tok _, ⟨_, rfl⟩, q⟩
        show (Sx (List.replicate k.toNat a).flatten).length ≤ sizeLine
        rw [SX.S_len, flat_rep_len, sizeLine_eq]
        have := rep_len_le h1 h2
        omega
theorem list_mulW (l : Addr) (items : Array Value) (n : Nat) (x : Int) (u : Tok) (sl : Array (Option Value)) (hc0 : ¬(!Builtin.List.listFitsIndex x) = true) (hc1 : ¬items.size * x.toNat > (2 ^ 63 - 1) / 8) (hc2 : ¬Builtin.List.listTooLong (items.size * x.toNat) = true) :
    Meets (Builtin.«list.__mul__» ⟨[.ref l, .int x u], []⟩) (fun _ R s => s.heap.get? l = some { cls := .type "list", dict := none, data := .seq items n, slots := sl } ∧ R (.ok (.ret (Value.ref s.heap.objs.size))) { s with heap := s.heap.push { cls := Value.type "list", data := Data.seq (List.foldl (fun x1 x2 => x1 ++ x2) #[] (List.replicate (if items.isEmpty = true then 0 else x.toNat) items)) }, toks := s.toks }) :=
  .of_wp fun prog w A R s h => by
    obtain ⟨hp, g, d, tk, os⟩ := s; obtain ⟨hl, h⟩ := h
    have hsz := AutoListH.joined_fits hc2
    wp_walk; refine wpAny_ite_false (decide_eq_false (Nat.not_lt.mpr hsz)) ?_; wp_walk; exact ⟨_, rfl, h⟩
theorem int_rmulW (a : Int) (t : Tok) (l : Addr) (items : Array Value) (n : Nat) (sl : Array (Option Value)) :
    Meets (Builtin.«int.__rmul__» ⟨[.int a t, .ref l], []⟩) (fun _ R s => s.heap.get? l = some { cls := .type "list", dict := none, data := .seq items n, slots := sl } ∧ R (.ok (.ret Value.notImplemented)) s) :=
  .of_wp fun prog w A R s h => by obtain ⟨hp, g, d, tk, os⟩ := s; obtain ⟨hl, h⟩ := h; wp_walk; exact ⟨_, rfl, h⟩
theorem op_repL : OpR X (binaryOp .Mult) (fun x y H Q => ∃ l k xs, x = .ref l ∧ y = .int k ∧ SqL X.K H l xs ∧ -(2 ^ 63) ≤ k ∧ k < 2 ^ 63 ∧ xs.length * k.toNat ≤ sizeLine ∧
  ∀ p, H p = none → Q (.ref p) (upd H p (.lst (List.replicate k.toNat xs).flatten))) := by
  intro pins s σ H x y v u Q I rx ry h
  obtain ⟨l, k, xs, rfl, rfl, hH, h1, h2, hz, q⟩ := h
  cases rx
  obtain ⟨t, rfl⟩ := ry
  obtain ⟨z, its, n, sl, r, hl, e⟩ := Inv.rdL I hH
  have hlen : its.toArray.size * k.toNat ≤ sizeLine := by rw [List.size_toArray, ← hl]; exact hz
  have hcap : ¬ its.toArray.size * k.toNat > (2 ^ 63 - 1) / 8 := by
    have : (sizeLine : Nat) ≤ (2 ^ 63 - 1) / 8 := by decide
    omega
  have hfit : ¬ (!Builtin.List.listFitsIndex k) = true := by
    rw [fitsIndex_both h1 h2]
    exact Bool.false_ne_true
  have hlong : ¬ Builtin.List.listTooLong (its.toArray.size * k.toNat) = true := by
    rw [notLongL hlen]
    exact Bool.false_ne_true
  have hnew : List.foldl (fun x1 x2 => x1 ++ x2) #[] (List.replicate (if its.toArray.isEmpty = true then 0 else k.toNat) its.toArray) = (List.replicate k.toNat its).flatten.toArray := by
    have f0 : ∀ m : Nat, List.foldl (fun x1 x2 => x1 ++ x2) #[] (List.replicate m its.toArray) = (List.replicate m its).flatten.toArray := fun m => by
      have := foldl_rep its m []
      rw [List.nil_append] at this
      exact this
    rw [f0]
    cases its with
    | nil => simp
    | cons a r' => rw [if_neg (by simp)]
  refine wpAny_binaryOp_repeat_ref (T := "list") (U := "int") (by decide) ⟨_, e, rfl⟩ (fun s' => typeIs_int s' k t) noFill_list_mul F.fills_int_mul F.slot_int_rmul repeat_list F.slot_int_index.lookup
    (call_meets F.slot_int_rmul (typeIs_int s k t) F.entry_int_rmul (F.args_int_rmul_2 _ _) (int_rmulW k t l its.toArray n sl)
      ⟨e, rfl, ⟨_, e, rfl⟩, call_meets F.slot_list_mul ⟨_, e, rfl⟩ F.entry_list_mul (F.args_list_mul_2 _ _) (list_mulW l its.toArray n k t sl hfit hcap hlong) ⟨e, ?_⟩⟩)
  rw [hnew]
  exact ⟨.ref _, _, I.lnew (t' := s.toks) (r.rep k.toNat) (by rw [PyProof.Rows.lm_len_rep_flat, Nat.mul_comm]; exact hz), rfl, q _ I.fresh⟩
theorem op_mulD : OpR X (binaryOp .Mult) (RD X.K T mulD) := by
  intro pins s σ H x y v u Q I rx ry h
  obtain ⟨O, d, e, r, tr, hx, hy, ho, q⟩ := h
  cases d with
  | int i =>
    cases e with
    | int j =>
      simp only [mulD] at ho
      split at ho
      · rename_i hc
        cases ho
        rw [big_eq] at hc
        exact op_mul pins s σ H x y v u Q I rx ry ⟨i, j, hx.int, hy.int, hc, q _ H (Ext.refl T H) (.int _)⟩
      · cases ho
    | _ => cases ho
  | str a =>
    cases e with
    | int k =>
      simp only [mulD] at ho
      split at ho
      · rename_i hc
        cases ho
        exact op_mulS pins s σ H x y v u Q I rx ry ⟨a, k, hx.str, hy.int, by omega, hc.2.1, hc.2.2, q _ H (Ext.refl T H) (.str _)⟩
      · cases ho
    | _ => cases ho
  | lst a =>
    cases e with
    | int k =>
      simp only [mulD] at ho
      split at ho
      · rename_i hc
        cases ho
        obtain ⟨a1, vs, ex, sx, rx'⟩ := hx
        subst ex
        refine op_repL pins s σ H _ y v u Q I rx ry ⟨a1, k, vs, rfl, hy.int, sx, by omega, by omega, ?_, fun p hp => ?_⟩
        · rw [rx'.length, sizeLine_eq, Nat.mul_comm]
          have := rep_len_le hc.2.1 hc.2.2
          omega
        · exact q _ _ (Ext.new hp) (new_lst tr hp (rx'.rep _))
      · cases ho
    | _ => cases ho
  | tup a =>
    cases e with
    | int k =>
      simp only [mulD] at ho
      split at ho
      · rename_i hc
        cases ho
        obtain ⟨a1, vs, ex, sx, rx'⟩ := hx.tup
        subst ex
        have hl := rx'.length
        have hne : vs ≠ [] := fun z => by
          rw [z] at hl
          exact hc.2.2.2 (List.eq_nil_of_length_eq_zero hl.symm)
        by_cases k0 : k = 0
        · subst k0
          exact op_repT0 pins s σ H _ y v u Q I rx ry ⟨a1, vs, rfl, hy.int, sqT_ext ExtN.hmTop sx, hne, fun p hp => q _ _ (Ext.new hp) (new_tup tr hp .nil)⟩
        · by_cases k1 : k = 1
          · subst k1
            have e1 : (List.replicate (1 : Int).toNat a).flatten = a := by simp
            rw [e1] at q
            exact op_repT1 pins s σ H _ y v u Q I rx ry ⟨a1, vs, rfl, hy.int, sqT_ext ExtN.hmTop sx, q _ H (Ext.refl T H) (.tup sx rx')⟩
          · exact op_repT pins s σ H _ y v u Q I rx ry ⟨a1, k, vs, rfl, hy.int, sqT_ext ExtN.hmTop sx, hne, by omega, hc.2.1, by omega, fun p hp => q _ _ (Ext.new hp) (new_tup tr hp (rx'.rep _))⟩
      · cases ho
    | _ => cases ho
  | _ => cases ho
/-! ### places -/
theorem atI_rep {K : PySem.W.Frag} {ds : List D} {vs : List V} {i : Int} {d : D} (r : Reps K H vs ds) (h : atI ds i = some d) : ∃ v, L2.atI vs i = some v ∧ Rep K H v d := by
  have hl := r.length
  unfold atI at h
  unfold L2.atI L2.ixN
  split at h
  · rename_i h0
    rw [if_pos h0]
    obtain ⟨h1, _⟩ := List.getElem?_eq_some_iff.mp h
    obtain ⟨v, e1, e2⟩ := r.get h
    rw [if_pos (by omega)]
    exact ⟨v, e1, e2⟩
  · rename_i h0
    rw [if_neg h0]
    split at h
    · rename_i h1
      obtain ⟨v, e1, e2⟩ := r.get h
      rw [if_pos (by omega)]
      rw [← hl] at e1
      exact ⟨v, e1, e2⟩
    · cases h
theorem atI_str {x : List Nat} {i : Int} {c : Nat} (h : atI x i = some c) : L2.atI (Sx x).cps.toList i = some c := by
  show L2.atI x i = some c
  unfold atI at h
  unfold L2.atI L2.ixN
  split at h
  · rename_i h0
    rw [if_pos h0]
    obtain ⟨h1, _⟩ := List.getElem?_eq_some_iff.mp h
    rw [if_pos (by omega)]
    exact h
  · rename_i h0
    rw [if_neg h0]
    split at h
    · rename_i h1
      rw [if_pos (by omega)]
      exact h
    · cases h
theorem opt_ok {α : Type} {o : Option α} {a : α} (h : opt o = .ok a) : o = some a := by
  cases o with
  | none => cases h
  | some b => cases h; rfl
theorem ix_D : IxR X (RD X.K T ixD) := by
  intro value slice pins s σ H x y v u Q I rx ry h hs
  obtain ⟨O, d, e, r, tr, hx, hy, ho, q⟩ := h
  cases d with
  | tup xs =>
    cases e with
    | int i =>
      have ho := opt_ok ho
      obtain ⟨a, vs, ex, sx, rx'⟩ := hx.tup
      obtain ⟨w, e1, e2⟩ := atI_rep rx' ho
      exact ix_tup value slice pins s σ H x y v u Q I rx ry ⟨a, vs, i, w, ex, hy.int, sqT_ext ExtN.hmTop sx, e1, q _ H (Ext.refl T H) e2⟩ hs
    | _ => cases ho
  | lst xs =>
    cases e with
    | int i =>
      have ho := opt_ok ho
      obtain ⟨a, vs, ex, sx, rx'⟩ := hx
      obtain ⟨w, e1, e2⟩ := atI_rep rx' ho
      exact ix_list value slice pins s σ H x y v u Q I rx ry ⟨a, vs, i, w, ex, hy.int, sx, e1, q _ H (Ext.refl T H) e2⟩ hs
    | _ => cases ho
  | str x' =>
    cases e with
    | int i =>
      obtain ⟨hl, ho⟩ : x'.length ≤ LIM ∧ (opt (atI x' i)).bind (fun c => R.ok (D.str [c])) = .ok r := by
        simp only [ixD] at ho
        split at ho
        · rename_i hl; exact ⟨hl, ho⟩
        · cases ho
      obtain ⟨c, hc, ho⟩ := bind_eq_ok ho
      cases ho
      exact ix_str value slice pins s σ H x y v u Q I rx ry ⟨_, i, c, hx.str, hy.int, by rw [SX.S_len]; exact lim_le hl, atI_str (opt_ok hc), q _ H (Ext.refl T H) (.str _)⟩ hs
    | _ => cases ho
  | _ => cases ho
/-! ### parts -/
theorem sIx_HT (n d : Nat) (o : Option Int) : HT.sIx n d o = sIx n d o := by
  cases o with
  | none => rfl
  | some v => rfl
theorem cutV_rep {K : PySem.W.Frag} {ds : List D} {vs : List V} {lo hi : Option Int} (r : Reps K H vs ds) : Reps K H (cutV vs lo hi) (cut ds lo hi) := by
  unfold cutV cut
  rw [sIx_HT, sIx_HT, r.length]
  exact (r.drop _).take _
theorem cutV_all (vs : List V) (lo hi : Option Int) (h : HT.sIx vs.length 0 lo = 0 ∧ HT.sIx vs.length vs.length hi = vs.length) : cutV vs lo hi = vs := by
  unfold cutV
  rw [h.1, h.2]
  simp
theorem slice_S (x : List Nat) (lo hi : Option Int) : Builtin.Str.occurrences (Sx []) (Sx []) 0 0 0 = Builtin.Str.occurrences (Sx []) (Sx []) 0 0 0 := rfl
theorem txt_slice (x : List Nat) (lo hi : Option Int) : Txt.slice (Sx x) lo hi = Sx (cut x lo hi) := by
  rw [← C8.cutS_slice]
  unfold cutS cut
  rw [sIx_HT, sIx_HT, SX.S_len]
def RSl (K : PySem.W.Frag) (T : Tab) : V → Option Int → Option Int → Hp → VK → Prop := fun x lo hi H Q => ∃ O d r, TrO O H ∧ RepB K O H x d ∧ slD d lo hi = .ok r ∧ ∀ v H', Ext T H H' → Rep K (Hm O H') v r → Q v H'
theorem sl_D : SlR X (RSl X.K T) := by
  intro pins s σ H x v vl vu lo hi sl Q I rv hs pl pu h
  obtain ⟨O, d, r, tr, hx, ho, q⟩ := h
  cases d with
  | tup xs =>
    cases ho
    obtain ⟨a, vs, ex, sx, rx'⟩ := hx.tup
    subst ex
    refine sl_tupA pins s σ H _ v vl vu lo hi sl Q I rv hs pl pu ⟨a, vs, rfl, sqT_ext ExtN.hmTop sx, fun z => ?_, fun z p hp => ?_⟩
    · have := cutV_rep (lo := lo) (hi := hi) rx'
      rw [cutV_all vs lo hi z] at this
      exact q _ H (Ext.refl T H) (.tup sx this)
    · exact q _ _ (Ext.new hp) (new_tup tr hp (cutV_rep rx'))
  | lst xs =>
    cases ho
    obtain ⟨a, vs, ex, sx, rx'⟩ := hx
    subst ex
    exact sl_list pins s σ H _ v vl vu lo hi sl Q I rv hs pl pu ⟨a, vs, rfl, sx, fun p hp => q _ _ (Ext.new hp) (new_lst tr hp (cutV_rep rx'))⟩
  | str x' =>
    simp only [slD] at ho
    split at ho
    · rename_i hl
      cases ho
      refine C8.sl_txt pins s σ H _ v vl vu lo hi sl Q I rv hs pl pu ⟨_, hx.str, by rw [SX.S_len]; exact lim_le hl, ?_⟩
      rw [txt_slice]
      exact q _ H (Ext.refl T H) (.str _)
    · cases ho
  | _ => cases ho
/-! ### calls -/
/-- a call of one thing -/
def RC (K : PySem.W.Frag) (T : Tab) (op : D → R D) : List V → Hp → VK → Prop := fun xs H Q => ∃ O x d r, xs = [x] ∧ TrO O H ∧ RepB K O H x d ∧ op d = .ok r ∧ ∀ v H', Ext T H H' → Rep K (Hm O H') v r → Q v H'
def RC2 (K : PySem.W.Frag) (T : Tab) (op : D → D → R D) : List V → Hp → VK → Prop := fun xs H Q => ∃ O x y d e r, xs = [x, y] ∧ TrO O H ∧ RepB K O H x d ∧ RepB K O H y e ∧ op d e = .ok r ∧ ∀ v H', Ext T H H' → Rep K (Hm O H') v r → Q v H'
theorem cr_len : CallR X (.builtin "len") (RC X.K T (biD .len)) := by
  intro pins s σ H xs us Q I rv h
  obtain ⟨O, x, d, r, rfl, tr, hx, ho, q⟩ := h
  cases d with
  | tup ds =>
    cases ho
    obtain ⟨a, vs, ex, sx, rx'⟩ := hx.tup
    subst ex
    refine call_len_seq pins s σ H _ us Q I rv ⟨a, vs, rfl, .inr (sqT_ext ExtN.hmTop sx), ?_⟩
    rw [rx'.length]
    exact q _ H (Ext.refl T H) (.int _)
  | lst ds =>
    cases ho
    obtain ⟨a, vs, ex, sx, rx'⟩ := hx
    subst ex
    refine call_len_seq pins s σ H _ us Q I rv ⟨a, vs, rfl, .inl sx, ?_⟩
    rw [rx'.length]
    exact q _ H (Ext.refl T H) (.int _)
  | str z =>
    simp only [biD] at ho
    split at ho
    · rename_i hl
      cases ho
      have ex := hx.str
      subst ex
      refine call_len_str pins s σ H _ us Q I rv ⟨_, rfl, by rw [SX.S_len]; exact lim_le hl, ?_⟩
      rw [SX.S_len]
      exact q _ H (Ext.refl T H) (.int _)
    · cases ho
  | _ => cases ho
theorem cr_tuple : CallR X (.type "tuple") (RC X.K T (biD .tuple)) := by
  intro pins s σ H xs us Q I rv h
  obtain ⟨O, x, d, r, rfl, tr, hx, ho, q⟩ := h
  cases d with
  | tup ds =>
    cases ho
    obtain ⟨a, vs, ex, sx, rx'⟩ := hx.tup
    subst ex
    exact call_tuple_of pins s σ H _ us Q I rv ⟨a, vs, rfl, .inr ⟨sqT_ext ExtN.hmTop sx, q _ H (Ext.refl T H) (.tup sx rx')⟩⟩
  | lst ds =>
    cases ho
    obtain ⟨a, vs, ex, sx, rx'⟩ := hx
    subst ex
    exact call_tuple_of pins s σ H _ us Q I rv ⟨a, vs, rfl, .inl ⟨sx, fun p hp => q _ _ (Ext.new hp) (new_tup tr hp rx')⟩⟩
  | _ => cases ho
theorem vals_signs : ∀ (x : List Nat) (us : List Value), (∀ (j : Nat) (v : Value), us[j]? = some v → ∃ (c : Nat) (u : Tok), x[j]? = some c ∧ v = Value.str ⟨#[c]⟩ u) → us.length = x.length → Vals (x.map fun c => V.str (Sx [c])) us
  | [], [], _, _ => .nil
  | [], _ :: _, _, h => by cases h
  | _ :: _, [], _, h => by cases h
  | c :: x, u :: us, f, h => by
    obtain ⟨c', t, e1, e2⟩ := f 0 u rfl
    cases e1
    refine .cons ⟨t, e2⟩ (vals_signs x us (fun j v e => f (j + 1) v e) (by simpa using h))
theorem reps_signs {K : PySem.W.Frag} : ∀ x : List Nat, Reps K H (x.map fun c => V.str (Sx [c])) (x.map fun c => D.str [c])
  | [] => .nil
  | c :: x => .cons (.str [c]) (reps_signs x)
theorem cr_list (hc : X.calm = true) : CallR X (.type "list") (RC X.K T (biD .list)) := by
  intro pins s σ H xs us Q I rv h
  obtain ⟨O, x, d, r, rfl, tr, hx, ho, q⟩ := h
  cases d with
  | tup ds =>
    cases ho
    obtain ⟨a, vs, ex, sx, rx'⟩ := hx.tup
    subst ex
    exact call_list_of pins s σ H _ us Q I rv ⟨a, vs, rfl, .inr (sqT_ext ExtN.hmTop sx), fun p hp => q _ _ (Ext.new hp) (new_lst tr hp rx')⟩
  | lst ds =>
    cases ho
    obtain ⟨a, vs, ex, sx, rx'⟩ := hx
    subst ex
    exact call_list_of pins s σ H _ us Q I rv ⟨a, vs, rfl, .inl sx, fun p hp => q _ _ (Ext.new hp) (new_lst tr hp rx')⟩
  | str z =>
    simp only [biD] at ho
    split at ho
    · rename_i hl
      cases ho
      have ex := hx.str
      subst ex
      obtain ⟨u, rfl, ru⟩ := vals1 rv
      obtain ⟨t, rfl⟩ := ru
      refine call_list_str (I.ok.hd hc) (Sx z) t (fun h' tk acc' c' hk hS hacc => ?_) (by show z.toArray.size ≤ sizeLine; simpa using lim_le hl)
      have I1 : Inv X pins σ (upd H s.heap.objs.size (.lst (z.map fun c => V.str (Sx [c])))) { s with heap := h', toks := tk } := by
        refine I.laid (t' := tk) hk (Nat.le_refl _) ⟨by rw [List.length_map]; exact lim_le hl, acc'.toList, c', ?_, by simpa using hS⟩
        refine vals_signs z acc'.toList (fun j v e => ?_) (by rw [Array.length_toList, hacc.1]; simp)
        obtain ⟨c, u, e1, e2⟩ := hacc.2 j v (by rw [← Array.getElem?_toList]; exact e)
        exact ⟨c, u, by simpa using e1, e2⟩
      exact ⟨.ref _, _, I1, rfl, q _ _ (Ext.new I.fresh) (new_lst tr I.fresh (reps_signs z))⟩
    · cases ho
  | _ => cases ho
theorem cr_sumD (hc : X.calm = true) : CallR X (.builtin "sum") (RC X.K T (biD .sum)) := by
  intro pins s σ H xs us Q I rv h
  obtain ⟨O, x, d, r, rfl, tr, hx, ho, q⟩ := h
  cases d with
  | lst ds =>
    obtain ⟨is, e1, ho⟩ := bind_eq_ok ho
    cases ho
    obtain ⟨a, vs, ex, sx, rx'⟩ := hx
    subst ex
    rw [rx'.allI' e1] at sx
    exact cr_sum hc pins s σ H _ us Q I rv ⟨a, is, rfl, sx, q _ H (Ext.refl T H) (.int _)⟩
  | _ => cases ho
theorem cr_anyD (hc : X.calm = true) : CallR X (.builtin "any") (RC X.K T (biD .any)) := by
  intro pins s σ H xs us Q I rv h
  obtain ⟨O, x, d, r, rfl, tr, hx, ho, q⟩ := h
  cases d with
  | lst ds =>
    obtain ⟨is, e1, ho⟩ := bind_eq_ok ho
    cases ho
    obtain ⟨a, vs, ex, sx, rx'⟩ := hx
    subst ex
    rw [rx'.allB' e1] at sx
    exact cr_any hc pins s σ H _ us Q I rv ⟨a, is, rfl, sx, q _ H (Ext.refl T H) (.bl _)⟩
  | _ => cases ho
theorem cr_allD (hc : X.calm = true) : CallR X (.builtin "all") (RC X.K T (biD .all)) := by
  intro pins s σ H xs us Q I rv h
  obtain ⟨O, x, d, r, rfl, tr, hx, ho, q⟩ := h
  cases d with
  | lst ds =>
    obtain ⟨is, e1, ho⟩ := bind_eq_ok ho
    cases ho
    obtain ⟨a, vs, ex, sx, rx'⟩ := hx
    subst ex
    rw [rx'.allB' e1] at sx
    exact cr_all hc pins s σ H _ us Q I rv ⟨a, is, rfl, sx, q _ H (Ext.refl T H) (.bl _)⟩
  | _ => cases ho
theorem maxL_spec : ∀ (is : List Int) (m : Int), (maxL is m = m ∨ maxL is m ∈ is) ∧ m ≤ maxL is m ∧ ∀ y ∈ is, y ≤ maxL is m
  | [], m => ⟨.inl rfl, Int.le_refl _, fun y h => by cases h⟩
  | x :: is, m => by
    obtain ⟨h1, h2, h3⟩ := maxL_spec is (if x > m then x else m)
    show (maxL is (if x > m then x else m) = m ∨ maxL is (if x > m then x else m) ∈ x :: is) ∧ m ≤ maxL is (if x > m then x else m) ∧ _
    refine ⟨?_, ?_, fun y hy => ?_⟩
    · rcases h1 with h1 | h1
      · by_cases hc : x > m
        · rw [if_pos hc] at h1 ⊢; rw [h1]; exact .inr List.mem_cons_self
        · rw [if_neg hc] at h1 ⊢; exact .inl h1
      · exact .inr (List.mem_cons_of_mem _ h1)
    · refine Int.le_trans ?_ h2; split <;> omega
    · rcases List.mem_cons.mp hy with rfl | hy
      · refine Int.le_trans ?_ h2; split <;> omega
      · exact h3 y hy
theorem minL_spec : ∀ (is : List Int) (m : Int), (minL is m = m ∨ minL is m ∈ is) ∧ minL is m ≤ m ∧ ∀ y ∈ is, minL is m ≤ y
  | [], m => ⟨.inl rfl, Int.le_refl _, fun y h => by cases h⟩
  | x :: is, m => by
    obtain ⟨h1, h2, h3⟩ := minL_spec is (if x < m then x else m)
    show (minL is (if x < m then x else m) = m ∨ minL is (if x < m then x else m) ∈ x :: is) ∧ minL is (if x < m then x else m) ≤ m ∧ _
    refine ⟨?_, ?_, fun y hy => ?_⟩
    · rcases h1 with h1 | h1
      · by_cases hc : x < m
        · rw [if_pos hc] at h1 ⊢; rw [h1]; exact .inr List.mem_cons_self
        · rw [if_neg hc] at h1 ⊢; exact .inl h1
      · exact .inr (List.mem_cons_of_mem _ h1)
    · refine Int.le_trans h2 ?_; split <;> omega
    · rcases List.mem_cons.mp hy with rfl | hy
      · refine Int.le_trans h2 ?_; split <;> omega
      · exact h3 y hy
theorem cr_maxD (hc : X.calm = true) : CallR X (.builtin "max") (RC X.K T (biD .max1)) := by
  intro pins s σ H xs us Q I rv h
  obtain ⟨O, x, d, r, rfl, tr, hx, ho, q⟩ := h
  cases d with
  | lst ds =>
    obtain ⟨is, e1, ho⟩ := bind_eq_ok ho
    cases is with
    | nil => cases ho
    | cons i is =>
      cases ho
      obtain ⟨a, vs, ex, sx, rx'⟩ := hx
      subst ex
      rw [rx'.allI' e1] at sx
      refine cr_max hc pins s σ H _ us Q I rv ⟨a, i :: is, rfl, sx, by simp, fun m hm hle => ?_⟩
      obtain ⟨h1, h2, h3⟩ := maxL_spec is i
      have e : m = maxL is i := by
        have a1 : maxL is i ≤ m := hle _ (by rcases h1 with h1 | h1; · rw [h1]; exact List.mem_cons_self
                                             · exact List.mem_cons_of_mem _ h1)
        have a2 : m ≤ maxL is i := by
          rcases List.mem_cons.mp hm with rfl | hm
          · exact h2
          · exact h3 m hm
        omega
      rw [e]
      exact q _ H (Ext.refl T H) (.int _)
  | _ => cases ho
theorem cr_minD (hc : X.calm = true) : CallR X (.builtin "min") (RC X.K T (biD .min1)) := by
  intro pins s σ H xs us Q I rv h
  obtain ⟨O, x, d, r, rfl, tr, hx, ho, q⟩ := h
  cases d with
  | lst ds =>
    obtain ⟨is, e1, ho⟩ := bind_eq_ok ho
    cases is with
    | nil => cases ho
    | cons i is =>
      cases ho
      obtain ⟨a, vs, ex, sx, rx'⟩ := hx
      subst ex
      rw [rx'.allI' e1] at sx
      refine cr_min hc pins s σ H _ us Q I rv ⟨a, i :: is, rfl, sx, by simp, fun m hm hle => ?_⟩
      obtain ⟨h1, h2, h3⟩ := minL_spec is i
      have e : m = minL is i := by
        have a1 : m ≤ minL is i := hle _ (by rcases h1 with h1 | h1; · rw [h1]; exact List.mem_cons_self
                                             · exact List.mem_cons_of_mem _ h1)
        have a2 : minL is i ≤ m := by
          rcases List.mem_cons.mp hm with rfl | hm
          · exact h2
          · exact h3 m hm
        omega
      rw [e]
      exact q _ H (Ext.refl T H) (.int _)
  | _ => cases ho
theorem cr_max2 (hc : X.calm = true) : CallR X (.builtin "max") (RC2 X.K T max2) := by
  intro pins s σ H xs us Q I rv h
  obtain ⟨O, x, y, d, e, r, rfl, tr, hx, hy, ho, q⟩ := h
  cases d with
  | int i =>
    cases e with
    | int j =>
      cases ho
      have ex := hx.int
      have ey := hy.int
      subst ex ey
      exact call_max2 hc pins s σ H _ us Q I rv ⟨i, j, rfl, q _ H (Ext.refl T H) (.int _)⟩
    | _ => cases ho
  | _ => cases ho
theorem cr_min2 (hc : X.calm = true) : CallR X (.builtin "min") (RC2 X.K T min2) := by
  intro pins s σ H xs us Q I rv h
  obtain ⟨O, x, y, d, e, r, rfl, tr, hx, hy, ho, q⟩ := h
  cases d with
  | int i =>
    cases e with
    | int j =>
      cases ho
      have ex := hx.int
      have ey := hy.int
      subst ex ey
      exact call_min2 hc pins s σ H _ us Q I rv ⟨i, j, rfl, q _ H (Ext.refl T H) (.int _)⟩
    | _ => cases ho
  | _ => cases ho
theorem digV_eq (x : List Nat) : NumText.digitsVal x = digV x := rfl
theorem cr_int : CallR X (.type "int") (RC X.K T (biD .int)) := by
  intro pins s σ H xs us Q I rv h
  obtain ⟨O, x, d, r, rfl, tr, hx, ho, q⟩ := h
  cases d with
  | bl b =>
    cases ho
    have ex := hx.bl
    subst ex
    exact call_int1 pins s σ H _ us Q I rv (.inr ⟨b, rfl, q _ H (Ext.refl T H) (.int _)⟩)
  | int i =>
    cases ho
    have ex := hx.int
    subst ex
    exact call_int1 pins s σ H _ us Q I rv (.inl ⟨i, rfl, q _ H (Ext.refl T H) (.int _)⟩)
  | str z =>
    simp only [biD] at ho
    split at ho
    · rename_i hc
      cases ho
      have ex := hx.str
      subst ex
      refine call_int_str pins s σ H _ us Q I rv ⟨_, _, rfl, SX.int_S ?_ hc.2.1 (by omega), by rw [SX.S_len]; exact hc.2.2, ?_⟩
      · exact hc.1
      · rw [digV_eq]
        exact q _ H (Ext.refl T H) (.int _)
    · cases ho
  | _ => cases ho
theorem log_small {i : Int} (h0 : 0 ≤ i) (h : i < BIG) : i.natAbs.log2 < 1920 := by
  have h1 : i.natAbs < 2 ^ 64 := by rw [big_eq] at h; omega
  by_cases hz : i.natAbs = 0
  · rw [hz]; decide
  · have := (Nat.log2_lt hz).mpr h1
    omega
theorem cr_str : CallR X (.type "str") (RC X.K T (biD .str)) := by
  intro pins s σ H xs us Q I rv h
  obtain ⟨O, x, d, r, rfl, tr, hx, ho, q⟩ := h
  cases d with
  | bl b =>
    cases ho
    have ex := hx.bl
    subst ex
    obtain ⟨u, rfl, ru⟩ := vals1 rv
    cases ru
    refine PySem.P.str_of_bool ⟨.str (Sx (if b then [84, 114, 117, 101] else [70, 97, 108, 115, 101])), H, I.tok _, ?_, q _ H (Ext.refl T H) (.str _)⟩
    refine ⟨s.toks, ?_⟩
    cases b
    · have e : Str.ofString "False" = Sx [70, 97, 108, 115, 101] := by decide +kernel
      show Value.str (Str.ofString "False") _ = _
      rw [e]; rfl
    · have e : Str.ofString "True" = Sx [84, 114, 117, 101] := by decide +kernel
      show Value.str (Str.ofString "True") _ = _
      rw [e]; rfl
  | int i =>
    simp only [biD] at ho
    split at ho
    · rename_i hc
      cases ho
      have ex := hx.int
      subst ex
      refine call_str_int pins s σ H _ us Q I rv ⟨i, rfl, log_small hc.1 hc.2, ?_⟩
      have e : Str.ofString (toString i) = Sx (numL i.toNat) := by
        have h1 : ((i.toNat : Nat) : Int) = i := Int.toNat_of_nonneg hc.1
        have := SX.num_S i.toNat
        rw [h1] at this
        exact this
      show Q (.str (Str.ofString (toString i))) H
      rw [e]
      exact q _ H (Ext.refl T H) (.str _)
    · cases ho
  | _ => cases ho
end
end Ev

/-! EvOp3: methods, isinstance, sorting. -/
namespace Ev
open PySem PySem.Spec PyProof.Rows L2
def RM (K : PySem.W.Frag) (T : Tab) (op : D → D → R D) : V → List V → Hp → VK → Prop := fun x xs H Q => ∃ O d y e r, xs = [y] ∧ TrO O H ∧ RepB K O H x d ∧ RepB K O H y e ∧ op d e = .ok r ∧ ∀ v H', Ext T H H' → Rep K (Hm O H') v r → Q v H'
def RM0 (K : PySem.W.Frag) (T : Tab) (op : D → R D) : V → List V → Hp → VK → Prop := fun x xs H Q => ∃ O d r, xs = [] ∧ TrO O H ∧ RepB K O H x d ∧ op d = .ok r ∧ ∀ v H', Ext T H H' → Rep K (Hm O H') v r → Q v H'
section
variable {X : Cx} {T : Tab} {pins : List (Addr × Obj)} {σ : L2.St} {H : Hp} {s : Shared}
theorem pre_take : ∀ (y x : List Nat), TL.pre y x = y.isPrefixOf x
  | [], x => by simp [TL.pre]
  | _ :: _, [] => by simp [TL.pre]
  | b :: y, a :: x => by
    have := pre_take y x
    unfold TL.pre at this ⊢
    rw [List.length_cons, List.take_succ_cons, List.isPrefixOf_cons₂, ← this]
    show ((a == b) && (List.take y.length x == y)) = ((b == a) && _)
    rw [show (a == b) = (b == a) from by
      cases h : (a == b) <;> cases h' : (b == a) <;> simp_all]
theorem startswith_S (x y : List Nat) : Txt.startswith (Sx x) (Sx y) = y.isPrefixOf x := by
  rw [← pre_take]
  unfold Txt.startswith Builtin.Str.subAt TL.pre
  rw [SX.S_len, SX.S_len, Nat.zero_add]
  have e : ((Sx x).cps.extract 0 y.length == (Sx y).cps) = (x.take y.length == y) := by
    show (x.toArray.extract 0 y.length == y.toArray) = _
    rw [List.extract_toArray]
    have h : x.extract 0 y.length = x.take y.length := by simp [List.extract_eq_drop_take]
    rw [h]
    rw [Bool.eq_iff_iff]
    simp
  rw [e]
  by_cases h : y.length ≤ x.length
  · rw [decide_eq_true h, Bool.true_and]
  · rw [decide_eq_false h, Bool.false_and]
    symm
    rw [beq_eq_false_iff_ne]
    intro z
    have := congrArg List.length z
    rw [List.length_take] at this
    omega
theorem mt_startswithD : MtR X "str.startswith" (RM X.K T (mtD .startswith)) := by
  intro pins s σ H x xs v us Q I rv rs h
  obtain ⟨O, d, y, e, r, rfl, tr, hx, hy, ho, q⟩ := h
  cases d with
  | str a =>
    cases e with
    | str b =>
      cases ho
      have ex := hx.str
      have ey := hy.str
      subst ex ey
      refine mt_startswith pins s σ H _ _ v us Q I rv rs ⟨_, _, rfl, rfl, ?_⟩
      rw [startswith_S]
      exact q _ H (Ext.refl T H) (.bl _)
    | _ => cases ho
  | _ => cases ho
theorem joinL_TL (s : List Nat) : ∀ ys : List (List Nat), TL.joinL s ys = joinL s ys
  | [] => rfl
  | [x] => rfl
  | x :: y :: r => by
    show x ++ (s ++ TL.joinL s (y :: r)) = x ++ s ++ joinL s (y :: r)
    rw [joinL_TL s (y :: r), List.append_assoc]
theorem sumLen_eq : ∀ ys : List (List Nat), ((ys.map Sx).map (·.length)).sum = sumLen ys
  | [] => rfl
  | x :: r => by
    rw [List.map_cons, List.map_cons, List.sum_cons, sumLen_eq r, SX.S_len]; rfl
theorem mt_joinD : MtR X "str.join" (RM X.K T (mtD .join)) := by
  intro pins s σ H x xs v us Q I rv rs h
  obtain ⟨O, d, y, e, r, rfl, tr, hx, hy, ho, q⟩ := h
  cases d with
  | str a =>
    cases e with
    | lst b =>
      have ho : (allS b).bind (fun ys => if sumLen ys + a.length * ys.length ≤ LIM then R.ok (D.str (joinL a ys)) else .no) = .ok r := ho
      obtain ⟨ys, e1, ho⟩ := bind_eq_ok ho
      split at ho
      · rename_i hl
        cases ho
        have ex := hx.str
        obtain ⟨p, vs, ey, sy, ry⟩ := hy
        subst ex ey
        rw [ry.allS' e1] at sy
        refine mt_join pins s σ H _ _ v us Q I rv rs ⟨_, p, ys.map Sx, rfl, rfl, .inl sy, ?_, ?_⟩
        · rw [sumLen_eq, List.length_map, SX.S_len, Nat.mul_comm]; exact hl
        · rw [SX.join_S, joinL_TL]
          exact q _ H (Ext.refl T H) (.str _)
      · cases ho
    | _ => cases ho
  | _ => cases ho
theorem spl_one (c : Nat) : ∀ (x acc : List Nat), TL.spl [c] 0 acc x = splitL c acc x
  | [], acc => rfl
  | a :: x, acc => by
    unfold splitL
    by_cases h : a = c
    · subst h
      rw [if_pos rfl, TL.spl_hit (by unfold TL.pre; simp)]
      show acc :: TL.spl [a] 0 [] x = _
      rw [spl_one a x []]
    · rw [if_neg h, TL.spl_miss (by unfold TL.pre; simpa using h), spl_one c x (acc ++ [a])]
theorem mt_splitD : MtR X "str.split" (RM X.K T (mtD .split)) := by
  intro pins s σ H x xs v us Q I rv rs h
  obtain ⟨O, d, y, e, r, rfl, tr, hx, hy, ho, q⟩ := h
  cases d with
  | str a =>
    cases e with
    | str b =>
      match b, ho, hy with
      | [c], ho, hy =>
        have ho : (if c < 128 ∧ a.length + 2 ≤ LIM then R.ok (D.lst ((splitL c [] a).map D.str)) else .no) = .ok r := ho
        split at ho
        · rename_i hc
          cases ho
          have ex := hx.str
          have ey := hy.str
          subst ex ey
          refine mt_split pins s σ H _ _ v us Q I rv rs ⟨_, _, rfl, rfl, rfl, by rw [SX.S_len]; exact lim_le hc.2, fun p hp => ?_⟩
          have e1 : Txt.split (Sx a) (Sx [c]) = (splitL c [] a).map Sx := by
            rw [SX.split_S (by simp) (by simp; omega), spl_one]
          rw [e1, List.map_map]
          exact q _ _ (Ext.new hp) (new_lst tr hp (Reps.textsR _))
        · cases ho
      | [], ho, _ => cases ho
      | _ :: _ :: _, ho, _ => cases ho
    | _ => cases ho
  | _ => cases ho
theorem up1_eq (c : Nat) : PyProof.Rows.up1 c = up1 c := rfl
theorem mt_upperD : MtR X "str.upper" (RM0 X.K T upperD) := by
  intro pins s σ H x xs v us Q I rv rs h
  obtain ⟨O, d, r, rfl, tr, hx, ho, q⟩ := h
  cases d with
  | str a =>
    simp only [upperD] at ho
    split at ho
    · rename_i hc
      cases ho
      have ex := hx.str
      subst ex
      refine mt_upper pins s σ H _ _ v us Q I rv rs ⟨_, rfl, rfl, by rw [SX.S_len]; omega, ?_⟩
      rw [SX.upper_S hc.1]
      exact q _ H (Ext.refl T H) (.str _)
    · cases ho
  | _ => cases ho
theorem mt_countD (hu : X.A.units + 64 < cLine) : MtR X "list.count" (RM X.K T (mtD .count)) := by
  intro pins s σ H x xs v us Q I rv rs h
  obtain ⟨O, d, y, e, r, rfl, tr, hx, hy, ho, q⟩ := h
  cases d with
  | lst ds =>
    have ho : (if min (depL ds) (dep e) ≤ 60 then R.ok (D.int ((ds.countP fun e' => eqv e' e) : Nat)) else .no) = .ok r := ho
    split at ho
    · rename_i hc
      cases ho
      obtain ⟨p, vs, ex, sx, rx⟩ := hx
      subst ex
      obtain ⟨w, rfl, rw'⟩ := vals1 rs
      cases rv
      obtain ⟨as, ra⟩ := Dp.reads I _ _ _ hy.all.dp rw'
      obtain ⟨its, r', pl, hz⟩ := I.list sx
      obtain ⟨bs, rb⟩ := Dp.readsAll I _ _ _ (rx.ext ExtN.hmTop).dp r'
      refine SeqAt.count_list_data (xs := toPL ds) (d := toP e) pl.isList (by simpa using rb) ra (plainL_toP ds) (plain_toP e) ?_ ?_
      · rw [depL_toP, dep_toP]; have h2 : X.A.units + 64 < cLine := hu; omega
      · refine ⟨.int _, H, I.tok _, ⟨_, rfl⟩, ?_⟩
        have e1 : (toPL ds).countP (fun y => PyData.eqv y (toP e)) = ds.countP fun e' => eqv e' e := by
          rw [toPL_map, List.countP_map]
          congr 1
          funext y
          exact eqv_toP y e
        rw [e1]
        exact q _ H (Ext.refl T H) (.int _)
    · cases ho
  | _ => cases ho
theorem toPL_get {ds : List D} {j : Nat} {d : D} (h : ds[j]? = some d) : (toPL ds)[j]? = some (toP d) := by
  rw [toPL_map, List.getElem?_map, h]; rfl
theorem mt_indexD (hu : X.A.units + 64 < cLine) : MtR X "list.index" (RM X.K T (mtD .index)) := by
  intro pins s σ H x xs v us Q I rv rs h
  obtain ⟨O, d, y, e, r, rfl, tr, hx, hy, ho, q⟩ := h
  cases d with
  | lst ds =>
    have ho : (if min (depL ds) (dep e) ≤ 60 ∧ ds.length ≤ LIM then (opt (findD e ds)).bind fun i => R.ok (D.int (i : Nat)) else .no) = .ok r := ho
    split at ho
    · rename_i hc
      obtain ⟨j, hj, ho⟩ := bind_eq_ok ho
      cases ho
      have hj := opt_ok hj
      unfold findD at hj
      obtain ⟨hlt, h1, h2⟩ := List.findIdx?_eq_some_iff_getElem.mp hj
      obtain ⟨p, vs, ex, sx, rx⟩ := hx
      subst ex
      obtain ⟨w, rfl, rw'⟩ := vals1 rs
      cases rv
      obtain ⟨as, ra⟩ := Dp.reads I _ _ _ hy.all.dp rw'
      obtain ⟨its, r', pl, hz⟩ := I.list sx
      obtain ⟨bs, rb⟩ := Dp.readsAll I _ _ _ (rx.ext ExtN.hmTop).dp r'
      have hl1 := rx.length
      have hl2 := r'.length
      obtain ⟨o, n, ho1, hcls, hdict, hdata⟩ := pl
      obtain ⟨cls, dd, data, sl⟩ := o
      simp only at hcls hdict hdata
      subst hcls hdict hdata
      have hitems := SeqAt.items_plain (A := X.A) (vs := its.toArray) (xs := toPL ds) (d := toP e) (by simpa using rb) ra (plainL_toP ds) (plain_toP e) (by
        rw [depL_toP, dep_toP]; have h2 : X.A.units + 64 < cLine := hu; omega)
      have hat : ∀ (i : Nat) (hi : i < its.toArray.size), SeqAt.readOf s.heap its.toArray[i] = toP (ds[i]'(by simp at hi; omega)) := fun i hi => by
        obtain ⟨h3, h4⟩ := SeqAt.readOf_at (h := s.heap) (vs := its.toArray) (xs := toPL ds) (as := bs) (by simpa using rb) (plainL_toP ds) i hi
        rw [h4]
        have h5 : i < ds.length := by simp at hi; omega
        have := toPL_get (List.getElem?_eq_getElem h5)
        rw [List.getElem?_eq_getElem h3] at this
        exact Option.some.inj this
      refine call_meets F.slot_list_index ⟨_, ho1, rfl⟩ F.entry_list_index (F.args_list_index_2 _ _)
        (SeqAt.list_index2_found p its.toArray n none sl w (fun i => match ds[i]? with | some d => eqv d e | none => false) j (by simp; omega) (Nat.zero_le _) (by
          have := hc.2
          unfold LIM at this
          omega) ?_ ?_) ⟨ho1, fun i hi => ?_, ?_⟩
      · show (match ds[j]? with | some d => eqv d e | none => false) = true
        rw [List.getElem?_eq_getElem hlt]; exact h1
      · intro m hm _ hmj
        have h5 : m < ds.length := by simp at hm; omega
        show (match ds[m]? with | some d => eqv d e | none => false) = false
        rw [List.getElem?_eq_getElem h5]
        have := h2 m hmj
        simpa using this
      · have h5 : i < ds.length := by simp at hi; omega
        have h6 := hitems its.toArray[i] (by simp)
        rw [hat i hi, eqv_toP] at h6
        show SeqAt.EqAt _ _ _ _ (match ds[i]? with | some d => eqv d e | none => false)
        rw [List.getElem?_eq_getElem h5]
        exact h6
      · exact ⟨.int _, H, I.tok _, ⟨_, rfl⟩, q _ H (Ext.refl T H) (.int _)⟩
    · cases ho
  | _ => cases ho
/-! ### isinstance -/
def tyName : Ty → String
  | .str => "str" | .int => "int" | .bool => "bool" | .tuple => "tuple"
theorem cr_isi (t : Ty) : CallR X (.builtin "isinstance") (fun xs H Q => ∃ O x d, xs = [x, .ty (tyName t)] ∧ TrO O H ∧ RepB X.K O H x d ∧ ∀ v H', Ext T H H' → Rep X.K (Hm O H') v (.bl (isiD t d)) → Q v H') := by
  intro pins s σ H xs us Q I rv h
  obtain ⟨O, x, d, rfl, tr, hx, q⟩ := h
  obtain ⟨u, w, rfl, r1, r2⟩ := vals2 rv
  cases r2
  obtain ⟨as, ra⟩ := Dp.reads I _ _ _ hx.all.dp r1
  have q0 : ∀ tk, EP X pins σ Q (.bool (isiD t d)) { s with toks := tk } := fun tk => ⟨.bl _, H, I.tok _, rfl, q _ H (Ext.refl T H) (.bl _)⟩
  cases t with
  | str => exact PySem.W.isinstance_str_data ra fun tk _ => by cases d <;> exact q0 tk
  | int => exact PySem.W.isinstance_int_data ra fun tk _ => by cases d <;> exact q0 tk
  | bool => exact PySem.W.isinstance_bool_data ra fun tk _ => by cases d <;> exact q0 tk
  | tuple => exact PySem.W.isinstance_tuple_data ra fun tk _ => by cases d <;> exact q0 tk
end
end Ev

/-! EvSort: sorted of what is walked. -/
namespace Ev
open PySem PySem.Spec PyProof.Rows L2
/-- a value and the thing that it stands for -/
abbrev VD := V × D
def RVD : Value → VD → Prop := fun u p => RelV p.1 u
def encV (p : VD) : PyData := toP p.2
theorem each_of {ps : List VD} : ∀ {us : List Value}, Vals (ps.map (·.1)) us → PySem.W.EachIs RVD us ps := by
  induction ps with
  | nil => intro us h; cases h; exact .nil
  | cons p ps ih =>
    intro us h
    cases h with
    | cons r t => exact .cons r (ih t)
theorem vals_of_each {ps : List VD} : ∀ {us : List Value}, PySem.W.EachIs RVD us ps → Vals (ps.map (·.1)) us := by
  induction ps with
  | nil => intro us h; cases h; exact .nil
  | cons p ps ih =>
    intro us h
    cases h with
    | cons r t => exact .cons r (ih t)
theorem zipVD {K : PySem.W.Frag} {H : Hp} : ∀ {vs : List V} {ds : List D}, Reps K H vs ds → (vs.zip ds).map (·.1) = vs ∧ (vs.zip ds).map (·.2) = ds ∧ ∀ p ∈ vs.zip ds, Rep K H p.1 p.2
  | _, [], h => by cases h; exact ⟨rfl, rfl, fun p hp => by cases hp⟩
  | _, d :: ds, h => by
    cases h with
    | cons h1 h2 =>
      obtain ⟨a, b, c⟩ := zipVD h2
      refine ⟨by simp [a], by simp [b], fun p hp => ?_⟩
      rcases List.mem_cons.mp hp with rfl | hp
      · exact h1
      · exact c p hp
theorem repsVD {K : PySem.W.Frag} {H : Hp} : ∀ {ps : List VD}, (∀ p ∈ ps, Rep K H p.1 p.2) → Reps K H (ps.map (·.1)) (ps.map (·.2))
  | [], _ => .nil
  | p :: ps, h => .cons (h p List.mem_cons_self) (repsVD fun q hq => h q (List.mem_cons_of_mem _ hq))
theorem sortD_ok {ds : List D} {r : D} (h : sortD ds = .ok r) : r = .lst (ds.mergeSort leD) ∧ ds.length ≤ LIM ∧ (∀ x ∈ ds, ∀ y ∈ ds, alike x y = true) ∧ ((∀ x ∈ ds, ∃ a b, x = .tup (a :: b)) ∨ ∀ x ∈ ds, isNone x = false ∧ ∀ xs, x ≠ .tup xs) ∧ ∀ x ∈ ds, isNone x = false ∧ dep x ≤ 60 := by
  unfold sortD at h
  split at h
  · rename_i hc
    obtain ⟨h1, h2, h3, h4⟩ := hc
    cases h
    simp only [allAlike, List.all_eq_true, decide_eq_true_eq] at h2 h3 h4
    have hn : ∀ x ∈ ds, isNone x = false := fun x hx => by
      have := h3 x hx
      cases x <;> simp_all [sortable, isNone]
    refine ⟨rfl, h1, h2, ?_, fun x hx => ⟨hn x hx, h4 x hx⟩⟩
    by_cases ht : ∃ x ∈ ds, ∃ xs, x = .tup xs
    · obtain ⟨x, hx, xs, rfl⟩ := ht
      refine .inl fun y hy => ?_
      have ha := h2 _ hx y hy
      have hs := h3 y hy
      cases y with
      | tup ys =>
        cases ys with
        | nil => cases hs
        | cons a b => exact ⟨a, b, rfl⟩
      | _ => simp [alike] at ha
    · refine .inr fun y hy => ⟨hn y hy, fun xs e => ht ⟨y, hy, xs, e⟩⟩
  · cases h
section
variable {X : Cx} {T : Tab} {pins : List (Addr × Obj)} {σ : L2.St} {H : Hp} {s : Shared}
/-- list.sort of a new list of things -/
theorem sort_new {A : Around} {E : Value → Shared → Prop} {prog : Program} {w : World} {vs : List Value} {ps : List VD} {a : Addr} {n : Nat} {Q : Value → Shared → Prop}
    (hds : ∀ x ∈ ps.map (·.2), ∀ y ∈ ps.map (·.2), alike x y = true) (hso : (∀ x ∈ ps.map (·.2), ∃ a b, x = .tup (a :: b)) ∨ ∀ x ∈ ps.map (·.2), isNone x = false ∧ ∀ xs, x ≠ .tup xs) (hdp : ∀ x ∈ ps.map (·.2), isNone x = false ∧ dep x ≤ 60)
    (hL : ps.length ≤ sizeLine) (hu : A.units + 64 < cLine) (e : PySem.W.EachIs RVD vs ps) (er : PySem.W.EachIs (fun u p => ∃ as, Reads s.heap u (encV p) as ∧ a ∉ as) vs ps)
    (ho : s.heap.get? a = some (seqObj "list" vs.toArray n))
    (h : ∀ out : List Value, Vals ((ps.mergeSort fun p q => leD p.2 q.2).map (·.1)) out → Q .none { s with heap := sortedHeap s.heap a vs (List.toArray out) }) :
    wpAny (model prog w) A (call (.builtin "list.sort") [.ref a]) Q E s := by
  have hal : PySem.W.AllAlike (ps.map encV) := fun d hd d' hd' => by
    obtain ⟨p, hp, rfl⟩ := List.mem_map.mp hd
    obtain ⟨q, hq, rfl⟩ := List.mem_map.mp hd'
    unfold encV
    rw [alike_toP]
    exact hds _ (List.mem_map.mpr ⟨p, hp, rfl⟩) _ (List.mem_map.mpr ⟨q, hq, rfl⟩)
  refine PySem.W.list_sort_data (R := RVD) (enc := encV) (bs := ps) ho e er hal ?_ hL (fun p hp => ?_) fun out hlen hout => ?_
  · rcases hso with hso | hso
    · refine .inl fun d hd => ?_
      obtain ⟨p, hp, rfl⟩ := List.mem_map.mp hd
      obtain ⟨a, b, e⟩ := hso _ (List.mem_map.mpr ⟨p, hp, rfl⟩)
      exact ⟨toP a, toPL b, by unfold encV; rw [e]; simp only [toP, toPL]⟩
    · refine .inr fun d hd => ?_
      obtain ⟨p, hp, rfl⟩ := List.mem_map.mp hd
      obtain ⟨h1, h2⟩ := hso _ (List.mem_map.mpr ⟨p, hp, rfl⟩)
      refine ⟨toP_ne h1, fun xs z => ?_⟩
      unfold encV at z
      cases hd2 : p.2 with
      | tup ys => exact h2 _ hd2
      | _ => rw [hd2] at z; simp [toP] at z
  · have := (hdp _ (List.mem_map.mpr ⟨p, hp, rfl⟩)).2
    unfold encV
    rw [dep_toP]
    omega
  · have e1 : ps.mergeSort (PySem.W.dataLe false encV) = ps.mergeSort fun p q => leD p.2 q.2 := by
      have h3 : (ps.mergeSort (PySem.W.dataLe false encV)).map id = (ps.map id).mergeSort fun p q => leD p.2 q.2 :=
        List.map_mergeSort (f := id) fun p hp q hq => by
          have h1 := hds q.2 (List.mem_map.mpr ⟨q, hq, rfl⟩) p.2 (List.mem_map.mpr ⟨p, hp, rfl⟩)
          have h2 := (hdp q.2 (List.mem_map.mpr ⟨q, hq, rfl⟩)).1
          show (!PyProof.Rows.lexLt PyProof.Rows.itemOrd (PySem.W.keyToks (encV q)) (PySem.W.keyToks (encV p))) = !ltD q.2 p.2
          congr 1
          exact lt_toP q.2 p.2 h1 h2
      simpa using h3
    rw [e1] at hout
    exact h out (vals_of_each hout)
/-- sorted(x), where x is collected as values, standing for things -/
theorem sorted_any {u : Value} {r : D} {O : List Addr} {Q : VK} (hu : X.A.units + 128 < cLine) (tr : TrO O H)
    (hcol : wpAny (model X.prog X.w) X.A.in1 (collect u) (fun us s1 => Inv X pins σ H s1 ∧ ∃ vs ds, Vals vs us ∧ Reps X.K (Hm O H) vs ds ∧ sortD ds = .ok r) X.xe s)
    (q : ∀ v H', Ext T H H' → Rep X.K (Hm O H') v r → Q v H') : wpAny (model X.prog X.w) X.A (call (.builtin "sorted") [u]) (EP X pins σ Q) X.xe s := by
  refine Calls.call_function_entry kind_sorted plain_sorted entry_sorted (args_sorted1 _) ?_
  unfold Builtin.«sorted»
  refine wpAny_bind (m := checkCount "sorted" 1 1 _) (wpAny_pure ?_)
  refine wpAny_bind (thn hcol fun us s1 ⟨I1, vs, ds, rv, hrep, ho⟩ => ?_)
  obtain ⟨er, hl, hal, hso, hdp⟩ := sortD_ok ho
  subst er
  have hlen := rv.length
  have hlr := hrep.length
  refine wpAny_bind (wpAny_newList ?_ (by rw [← hlen, hlr]; exact lim_le hl))
  have hoL : (s1.heap.push (seqObj "list" us.toArray 0)).get? s1.heap.objs.size = some (seqObj "list" us.toArray 0) := Heap.get?_push_size _ rfl
  obtain ⟨z1, z2, z3⟩ := zipVD hrep
  have hps : (vs.zip ds).length ≤ sizeLine := by
    have := congrArg List.length z2
    rw [List.length_map] at this
    rw [this]; exact lim_le hl
  have rv' : Vals ((vs.zip ds).map (·.1)) us := by rw [z1]; exact rv
  have ers : PySem.W.EachIs (fun (u : Value) (p : VD) => ∃ as, Reads (s1.heap.push (seqObj "list" us.toArray 0)) u (encV p) as ∧ s1.heap.objs.size ∉ as) us (vs.zip ds) := by
    have base : ∀ (ps : List VD) (ws : List Value), Vals (ps.map (·.1)) ws → (∀ p ∈ ps, Rep X.K (Hm O H) p.1 p.2) → PySem.W.EachIs (fun (u : Value) (p : VD) => ∃ as, Reads (s1.heap.push (seqObj "list" us.toArray 0)) u (encV p) as ∧ s1.heap.objs.size ∉ as) ws ps := by
      intro ps
      induction ps with
      | nil => intro ws h _; cases h; exact .nil
      | cons p ps ih =>
        intro ws h hr
        cases h with
        | cons r t =>
          refine .cons ?_ (ih _ t fun p' hp' => hr p' (List.mem_cons_of_mem _ hp'))
          obtain ⟨as, ra⟩ := Dp.reads I1 _ _ _ (Rep.ext ExtN.hmTop (hr p List.mem_cons_self)).dp r
          exact ⟨as, PyProof.Rows.Reads.keeps (fun b o e => Heap.get?_push_of_some _ e) ra, fun hm => absurd (Heap.lt_size (PyProof.On.reads_mem_get ra _ hm).choose_spec) (Nat.lt_irrefl _)⟩
    exact base _ _ rv' z3
  refine wpAny_bind (wpAny_holding (sort_new (s := { s1 with heap := s1.heap.push (seqObj "list" us.toArray 0) }) (ps := vs.zip ds) (a := s1.heap.objs.size) (n := 0) (by rw [z2]; exact hal) (by rw [z2]; exact hso) (by rw [z2]; exact hdp) hps
    (by show X.A.units + 1 + 64 < cLine; omega) (each_of rv') ers hoL fun out hv => ?_))
  obtain ⟨c, hc⟩ := sortedHeap_at (vs := us) (out := out.toArray) hoL
  refine wpAny_pure ⟨_, rfl, ?_⟩
  have hperm := List.mergeSort_perm (vs.zip ds) fun p q => leD p.2 q.2
  have e2 : ((vs.zip ds).mergeSort fun p q => leD p.2 q.2).map (·.2) = ds.mergeSort leD := by
    rw [List.map_mergeSort (f := fun p : VD => p.2) (s := leD) fun _ _ _ _ => rfl, z2]
  have hr : Reps X.K (Hm O H) (((vs.zip ds).mergeSort fun p q => leD p.2 q.2).map (·.1)) (ds.mergeSort leD) := by
    rw [← e2]
    exact repsVD fun p hp => z3 p (hperm.mem_iff.mp hp)
  have hlen2 : (((vs.zip ds).mergeSort fun p q => leD p.2 q.2).map (·.1)).length ≤ sizeLine := by
    rw [List.length_map, hperm.length_eq]; exact hps
  refine ⟨.ref s1.heap.objs.size, _, I1.laid (t' := s1.toks) (o := .lst (((vs.zip ds).mergeSort fun p q => leD p.2 q.2).map (·.1))) (fun b o e => ?_) (Nat.le_refl _) ⟨hlen2, out, c, hv, hc⟩, rfl, q _ _ (Ext.new I1.fresh) (new_lst tr I1.fresh hr)⟩
  have hlt := Heap.lt_size e
  show (sortedHeap (s1.heap.push (seqObj "list" us.toArray 0)) s1.heap.objs.size us out.toArray).get? b = some o
  rw [sortedHeap_old (Nat.ne_of_lt hlt) (by rw [size_push']; exact Nat.lt_succ_of_lt hlt)]
  exact Heap.get?_push_of_some _ e
/-- sorted(x), where x is collected as the values us, standing for the things ds -/
theorem sorted_by {u : Value} {ds : List D} {r : D} {O : List Addr} {vs : List V} {Q : VK} (hu : X.A.units + 128 < cLine) (ho : sortD ds = .ok r) (tr : TrO O H)
    (hcol : wpAny (model X.prog X.w) X.A.in1 (collect u) (fun us s1 => Inv X pins σ H s1 ∧ Vals vs us) X.xe s) (hrep : Reps X.K (Hm O H) vs ds)
    (q : ∀ v H', Ext T H H' → Rep X.K (Hm O H') v r → Q v H') : wpAny (model X.prog X.w) X.A (call (.builtin "sorted") [u]) (EP X pins σ Q) X.xe s :=
  sorted_any hu tr (thn hcol fun us s1 ⟨I1, rv⟩ => ⟨I1, vs, ds, rv, hrep, ho⟩) q
theorem cr_sortedD (hc : X.calm = true) (hu : X.A.units + 128 < cLine) : CallR X (.builtin "sorted") (RC X.K T (biD .sorted)) := by
  intro pins s σ H xs us Q I rv h
  obtain ⟨O, x, d, r, rfl, tr, hx, ho, q⟩ := h
  obtain ⟨u, rfl, ru⟩ := vals1 rv
  cases d with
  | tup ds =>
    obtain ⟨a, vs, ex, sx, rx'⟩ := hx.tup
    subst ex
    cases ru
    obtain ⟨its, r', ⟨o, ho1, hcls, n, hd⟩, hz⟩ := I.tuple (sqT_ext ExtN.hmTop sx)
    refine sorted_by hu ho tr (wpAny_collect_seq a (.inr rfl) ho1 hcls hd (fun h' hk => ?_) (by have := r'.length; rw [List.size_toArray]; omega)) rx' q
    exact ⟨I.kept (t' := s.toks) hk, by simpa using r'⟩
  | lst ds =>
    obtain ⟨a, vs, ex, sx, rx'⟩ := hx
    subst ex
    cases ru
    obtain ⟨its, r', ⟨o, n, ho1, hcls, hdict, hd⟩, hz⟩ := I.list sx
    refine sorted_by hu ho tr (wpAny_collect_seq a (.inl rfl) ho1 hcls hd (fun h' hk => ?_) (by have := r'.length; rw [List.size_toArray]; omega)) rx' q
    exact ⟨I.kept (t' := s.toks) hk, by simpa using r'⟩
  | str z =>
    have ho : sortD (z.map fun c => D.str [c]) = .ok r := ho
    have ex := hx.str
    subst ex
    obtain ⟨t, rfl⟩ := ru
    have hl : z.length ≤ LIM := by
      have := (sortD_ok ho).2.1
      rwa [List.length_map] at this
    refine sorted_by hu ho tr (vs := z.map fun c => V.str (Sx [c])) (wpAny_collect_str (A := X.A.in1) (I.ok.hd hc) (Sx z) t (fun s' acc hk hg hdr hos hacc => ?_) (by show z.toArray.size ≤ sizeLine; simpa using lim_le hl)) (reps_signs z) q
    refine ⟨?_, ?_⟩
    · obtain ⟨h', g', dr', tk', os'⟩ := s'
      simp only at hg hdr hos
      subst hg hdr hos
      exact I.kept (t' := tk') hk
    · refine vals_signs z acc.toList (fun j v e => ?_) (by rw [Array.length_toList, hacc.1]; simp)
      obtain ⟨c, u, e1, e2⟩ := hacc.2 j v (by rw [← Array.getElem?_toList]; exact e)
      exact ⟨c, u, by simpa using e1, e2⟩
  | _ => cases ho
end
end Ev

/-! EvJud: the judgements of the layer, read over plain data. -/
namespace Ev
open PySem PySem.Spec PyProof.Rows L2
/-- what a row fixes: the tables of code, the classes of errors -/
structure Cfg where
  T : Tab
  cls : Nat → Value
/-- r is told in a good way, from H on -/
def PostG (C : Cfg) (W : Nat → Hp → Prop) {α : Type} (H : Hp) (good : α → Hp → Prop) : R α → Prop
  | .ok a => ∀ H', Ext C.T H H' → good a H'
  | .ex c => ∀ H', Ext C.T H H' → W c H'
  | .no => False
section
variable {C : Cfg} {W : Nat → Hp → Prop} {α β : Type} {H H' : Hp} {good good' : α → Hp → Prop}
theorem PostG.ext {r : R α} (p : PostG C W H good r) (e : Ext C.T H H') : PostG C W H' good r := by
  cases r with
  | ok a => exact fun H'' e' => p H'' (e.trans e')
  | ex c => exact fun H'' e' => p H'' (e.trans e')
  | no => exact p
theorem PostG.imp {r : R α} (p : PostG C W H good r) (h : ∀ a H', Ext C.T H H' → good a H' → good' a H') : PostG C W H good' r := by
  cases r with
  | ok a => exact fun H'' e' => h a H'' e' (p H'' e')
  | ex c => exact p
  | no => exact p
theorem PostG.bind {r : R α} {f : α → R β} {g : β → Hp → Prop} (p : PostG C W H g (r.bind f)) : PostG C W H (fun a H' => PostG C W H' g (f a)) r := by
  cases r with
  | ok a => exact fun H' e => PostG.ext (r := f a) p e
  | ex c => exact p
  | no => exact p
theorem PostG.ok {r : R α} {a : α} (p : PostG C W H good r) (e : r = .ok a) (H' : Hp) (h : Ext C.T H H') : good a H' := by
  subst e; exact p H' h
end
/-- a thing is told as v -/
abbrev goodV (K : PySem.W.Frag) (O : List Addr) (Q : VK) : D → Hp → Prop := fun d H' => ∀ v, Rep K (Hm O H') v d → Q v H'
abbrev goodB (K : PySem.W.Frag) (O : List Addr) (Q : VK) : D → Hp → Prop := fun d H' => ∀ v, RepB K O H' v d → Q v H'
def rdE (X : Cx) (C : Cfg) (W : Nat → Hp → Prop) (f : Ev.Env → R D) : TE := fun σ H Q => ∃ O ρ, Rel X.K C.T O σ H ρ ∧ PostG C W H (goodV X.K O Q) (f ρ)
def rdB (X : Cx) (C : Cfg) (W : Nat → Hp → Prop) (f : Ev.Env → R D) : TE := fun σ H Q => ∃ O ρ, Rel X.K C.T O σ H ρ ∧ PostG C W H (goodB X.K O Q) (f ρ)
def rdT (X : Cx) (C : Cfg) (W : Nat → Hp → Prop) (f : Ev.Env → R Bool) : TT := fun σ H Q => ∃ O ρ, Rel X.K C.T O σ H ρ ∧ PostG C W H (fun b H' => Q b H') (f ρ)
def rdA (X : Cx) (C : Cfg) (W : Nat → Hp → Prop) (f : Ev.Env → R (List D)) : TA := fun σ H Q => ∃ O ρ, Rel X.K C.T O σ H ρ ∧ PostG C W H (fun ds H' => ∀ vs, Reps X.K (Hm O H') vs ds → Q vs H') (f ρ)
section
variable {X : Cx} {C : Cfg} {W : Nat → Hp → Prop} {e : Expr}
theorem peW {t t' : TE} (h : PE X e t) (w : ∀ σ H Q, t' σ H Q → t σ H Q) : PE X e t' := ⟨fun pins s σ H Q I q => h.run pins s σ H Q I (w σ H Q q)⟩
theorem ptW {t t' : TT} (h : PT X e t) (w : ∀ σ H Q, t' σ H Q → t σ H Q) : PT X e t' := ⟨fun pins s σ H Q I q => h.run pins s σ H Q I (w σ H Q q)⟩
theorem pwW {t t' : TT} (h : PW X e t) (w : ∀ σ H Q, t' σ H Q → t σ H Q) : PW X e t' := ⟨fun wh pins s σ H Q I q => h.run wh pins s σ H Q I (w σ H Q q)⟩
theorem paW {es : List Expr} {t t' : TA} (h : PA X es t) (w : ∀ σ H Q, t' σ H Q → t σ H Q) : PA X es t' := ⟨fun pos pins s σ H Q I q => h.run pos pins s σ H Q I (w σ H Q q)⟩
theorem psW {st : Stmt} {t t' : TS} (h : PS X st t) (w : ∀ D σ H, t' D σ H → t D σ H) : PS X st t' := ⟨fun pins s σ H D I q => h.run pins s σ H D I (w D σ H q)⟩
theorem pssW {st : List Stmt} {t t' : TS} (h : PSs X st t) (w : ∀ D σ H, t' D σ H → t D σ H) : PSs X st t' := ⟨fun pins s σ H D I q => h.run pins s σ H D I (w D σ H q)⟩
theorem rdB_rdE {f : Ev.Env → R D} {σ : L2.St} {H : Hp} {Q : VK} (h : rdB X C W f σ H Q) : rdE X C W f σ H Q := by
  obtain ⟨O, ρ, r, p⟩ := h
  exact ⟨O, ρ, r, p.imp fun d H' _ q v rv => q v rv.toB⟩
theorem peB {f : Ev.Env → R D} (h : PE X e (rdE X C W f)) : PE X e (rdB X C W f) := peW h fun _ _ _ q => rdB_rdE q
theorem one {f : Ev.Env → R D} {σ : L2.St} {H : Hp} {O : List Addr} {ρ : Ev.Env} {β : Type} {k : D → R β} {good : β → Hp → Prop} {Z : V → Hp → Prop} (r : Rel X.K C.T O σ H ρ)
    (p : PostG C W H good ((f ρ).bind k)) (z : ∀ a x H1, Ext C.T H H1 → TrO O H1 → RepB X.K O H1 x a → PostG C W H1 good (k a) → Z x H1) : rdB X C W f σ H Z :=
  ⟨O, ρ, r, p.bind.imp fun a H1 e q v rv => z a v H1 e (r.ext e).tr rv q⟩
theorem oneE {f : Ev.Env → R D} {σ : L2.St} {H : Hp} {O : List Addr} {ρ : Ev.Env} {β : Type} {k : D → R β} {good : β → Hp → Prop} {Z : V → Hp → Prop} (r : Rel X.K C.T O σ H ρ)
    (p : PostG C W H good ((f ρ).bind k)) (z : ∀ a x H1, Ext C.T H H1 → TrO O H1 → Rep X.K (Hm O H1) x a → PostG C W H1 good (k a) → Z x H1) : rdE X C W f σ H Z :=
  ⟨O, ρ, r, p.bind.imp fun a H1 e q v rv => z a v H1 e (r.ext e).tr rv q⟩
theorem two {f g : Ev.Env → R D} {σ : L2.St} {H : Hp} {O : List Addr} {ρ : Ev.Env} {β : Type} {k : D → D → R β} {good : β → Hp → Prop} {Z : V → V → Hp → Prop} (r : Rel X.K C.T O σ H ρ)
    (p : PostG C W H good ((f ρ).bind fun a => (g ρ).bind fun b => k a b)) (z : ∀ a b x y H2, Ext C.T H H2 → TrO O H2 → RepB X.K O H2 x a → RepB X.K O H2 y b → PostG C W H2 good (k a b) → Z x y H2) :
    rdB X C W f σ H fun x H1 => rdB X C W g σ H1 fun y H2 => Z x y H2 :=
  one r p fun a x H1 e1 _ rx p1 => one (r.ext e1) p1 fun b y H2 e2 t2 ry p2 => z a b x y H2 (e1.trans e2) t2 (rx.ext e2.1) ry p2
/-- an operation that never tells an error -/
def NoEx {α : Type} (r : R α) : Prop := ∀ c, r ≠ .ex c
theorem PostG.noEx {r : R D} {H : Hp} {O : List Addr} {Q : VK} (p : PostG C W H (goodV X.K O Q) r) (n : NoEx r) : ∃ d, r = .ok d ∧ ∀ v H', Ext C.T H H' → Rep X.K (Hm O H') v d → Q v H' := by
  cases r with
  | ok d => exact ⟨d, rfl, fun v H' e rv => p H' e v rv⟩
  | ex c => exact absurd rfl (n c)
  | no => exact p.elim
/-- an operation on values, over plain data -/
theorem opE {f g : Ev.Env → R D} {k : D → D → R D} {r2 : R2} (hr : ∀ O d e r x y H Q, TrO O H → RepB X.K O H x d → RepB X.K O H y e → k d e = .ok r → (∀ v H', Ext C.T H H' → Rep X.K (Hm O H') v r → Q v H') → r2 x y H Q)
    (n : ∀ d e, NoEx (k d e)) (σ : L2.St) (H : Hp) (Q : VK) (h : rdE X C W (fun ρ => (f ρ).bind fun a => (g ρ).bind fun b => k a b) σ H Q) : tOp r2 (rdB X C W f) (rdB X C W g) σ H Q := by
  obtain ⟨O, ρ, r, p⟩ := h
  refine two r p fun a b x y H2 e2 t2 rx ry p2 => ?_
  obtain ⟨d, hd, q⟩ := p2.noEx (n a b)
  exact hr O a b d x y H2 Q t2 rx ry hd q
end
theorem noEx_ok {α : Type} (a : α) : NoEx (R.ok a) := fun c h => by cases h
theorem noEx_no {α : Type} : NoEx (R.no : R α) := fun c h => by cases h
theorem noEx_bind {α β : Type} {r : R α} {f : α → R β} (h : NoEx r) (h' : ∀ a, NoEx (f a)) : NoEx (r.bind f) := by
  cases r with
  | ok a => exact h' a
  | ex c => exact absurd rfl (h c)
  | no => exact noEx_no
theorem noEx_ite {α : Type} {p : Prop} [Decidable p] {r s : R α} (h : NoEx r) (h' : NoEx s) : NoEx (if p then r else s) := by
  split
  · exact h
  · exact h'
theorem noEx_opt {α : Type} (o : Option α) : NoEx (opt o) := by cases o <;> first | exact noEx_no | exact noEx_ok _
theorem noEx_asI (d : D) : NoEx (asI d) := by cases d <;> first | exact noEx_no | exact noEx_ok _
theorem noEx_asB (d : D) : NoEx (asB d) := by cases d <;> first | exact noEx_no | exact noEx_ok _
theorem noEx_asS (d : D) : NoEx (asS d) := by cases d <;> first | exact noEx_no | exact noEx_ok _
theorem noEx_allI : ∀ ds : List D, NoEx (allI ds)
  | [] => noEx_ok _
  | d :: ds => noEx_bind (noEx_asI d) fun _ => noEx_bind (noEx_allI ds) fun _ => noEx_ok _
theorem noEx_allB : ∀ ds : List D, NoEx (allB ds)
  | [] => noEx_ok _
  | d :: ds => noEx_bind (noEx_asB d) fun _ => noEx_bind (noEx_allB ds) fun _ => noEx_ok _
theorem noEx_allS : ∀ ds : List D, NoEx (allS ds)
  | [] => noEx_ok _
  | d :: ds => noEx_bind (noEx_asS d) fun _ => noEx_bind (noEx_allS ds) fun _ => noEx_ok _
theorem noEx_bin (o : Bo) (d e : D) : NoEx (binD o d e) := by
  cases o <;> cases d <;> cases e <;> simp only [binD, addD, subD, mulD, fdivD, modD] <;> first | exact noEx_no | exact noEx_ok _ | exact noEx_ite (noEx_ok _) noEx_no
theorem noEx_in (d e : D) : NoEx (inD d e) := by
  unfold inD
  split <;> first | exact noEx_no | exact noEx_ok _ | exact noEx_ite (noEx_ok _) noEx_no | (split <;> first | exact noEx_no | exact noEx_ok _)
theorem noEx_cmp (o : Co) (d e : D) : NoEx (cmpD o d e) := by
  cases o <;> simp only [cmpD, eqD, neD, ltR, leR, gtR, geR] <;> first | exact noEx_ite (noEx_ok _) noEx_no | exact noEx_bind (noEx_in d e) fun _ => noEx_ok _
theorem noEx_ix (d e : D) : NoEx (ixD d e) := by
  unfold ixD
  split <;> first | exact noEx_no | exact noEx_opt _ | exact noEx_ite (noEx_bind (noEx_opt _) fun _ => noEx_ok _) noEx_no
theorem noEx_sl (d : D) (lo hi : Option Int) : NoEx (slD d lo hi) := by
  unfold slD
  split <;> first | exact noEx_no | exact noEx_ok _ | exact noEx_ite (noEx_ok _) noEx_no
theorem noEx_rev (d : D) : NoEx (revD d) := by
  unfold revD
  split <;> first | exact noEx_no | exact noEx_ok _ | exact noEx_ite (noEx_ok _) noEx_no
theorem noEx_sort (ds : List D) : NoEx (sortD ds) := noEx_ite (noEx_ok _) noEx_no
theorem noEx_bi (f : Bi) (d : D) : NoEx (biD f d) := by
  unfold biD
  split <;> first | exact noEx_ite (noEx_sort _) noEx_no | exact noEx_no | exact noEx_ok _ | exact noEx_sort _ | exact noEx_ite (noEx_ok _) noEx_no | exact noEx_bind (noEx_allI _) (fun _ => noEx_ok _) | exact noEx_bind (noEx_allB _) (fun _ => noEx_ok _) | exact noEx_bind (noEx_allS _) (fun _ => noEx_ite (noEx_sort _) noEx_no) | exact noEx_bind (noEx_allI _) (fun is => by cases is <;> first | exact noEx_no | exact noEx_ok _)
theorem noEx_max2 (d e : D) : NoEx (max2 d e) := by
  unfold max2
  split <;> first | exact noEx_no | exact noEx_ok _
theorem noEx_min2 (d e : D) : NoEx (min2 d e) := by
  unfold min2
  split <;> first | exact noEx_no | exact noEx_ok _
theorem noEx_mt (m : Mt) (d e : D) : NoEx (mtD m d e) := by
  unfold mtD
  split <;> first | exact noEx_no | exact noEx_ok _ | exact noEx_ite (noEx_ok _) noEx_no | exact noEx_bind (noEx_allS _) (fun _ => noEx_ite (noEx_ok _) noEx_no) | exact noEx_ite (noEx_bind (noEx_opt _) fun _ => noEx_ok _) noEx_no | (split <;> first | exact noEx_no | exact noEx_ite (noEx_ok _) noEx_no)
theorem noEx_upper (d : D) : NoEx (upperD d) := by
  unfold upperD
  split <;> first | exact noEx_no | exact noEx_ok _ | exact noEx_ite (noEx_ok _) noEx_no
end Ev

/-! EvChk: the look that holds a def's text and our tree together. -/
namespace Ev
open PySem PySem.Spec PyProof.Rows L2
/-- what is known of names, ahead of a run -/
structure Gam where
  N : List Str
  sc : List (Str × NameKind)
  cs : Bool
  bi : List Str
  gd : List (Str × D)
  fn : List (Str × Nat)
  lm : Bool
  lam : List (Str × Nat)
  exc : List (Str × Nat)
def visB (Γ : Gam) (x : Str) : Bool := match Γ.sc.lookup x with
  | some .local => true | some .cell => true | some .free => true | _ => false
def stB (Γ : Gam) (x : Str) : Bool := match Γ.sc.lookup x with
  | some .local => true | some .cell => Γ.cs | _ => false
def glB (Γ : Gam) (x : Str) : Bool := match Γ.sc.lookup x with
  | some .globalImplicit => true | _ => false
def okName (x : Str) : Bool := !(x == ("__debug__" : Str)) && !(x == ("__classdict__" : Str))
def nameOk (Γ : Gam) (i : Nat) (x : Str) : Bool := decide (Γ.N[i]? = some x) && visB Γ x && okName x
def storeOk (Γ : Gam) (i : Nat) (x : Str) : Bool := decide (Γ.N[i]? = some x) && stB Γ x
/-- a built-in's name -/
def biOk (Γ : Gam) (x : Str) : Bool := glB Γ x && Γ.bi.contains x
def fnOk (Γ : Gam) (x : Str) (f : Nat) : Bool := glB Γ x && okName x && Γ.fn.contains (x, f)
def beqK : D → D → Bool
  | .non, .non => true
  | .bl a, .bl b => a == b
  | .int i, .int j => i == j
  | .str x, .str y => x == y
  | _, _ => false
theorem beqK_eq {d e : D} (h : beqK d e = true) : d = e := by
  cases d <;> cases e <;> simp_all [beqK]
def gdOk (Γ : Gam) (x : Str) (d : D) : Bool := glB Γ x && okName x && Γ.gd.any fun p => p.1 == x && beqK p.2 d
def chkK (Γ : Gam) : Expr → D → Bool
  | .Constant .none _ _, .non => true
  | .Constant (.bool b) _ _, .bl c => b == c
  | .Constant (.int i) _ _, .int j => i == j
  | .Constant (.str s) _ _, .str x => s.cps.toList == x
  | .UnaryOp .USub (.Constant (.int i) _ _) _, .int j => -i == j
  | .Name x _, d => gdOk Γ x d
  | _, _ => false
def boOf : Bo → Operator
  | .add => .Add | .sub => .Sub | .mul => .Mult | .fdiv => .FloorDiv | .mod => .Mod
def coOf : Co → CmpOp
  | .eq => .Eq | .ne => .NotEq | .lt => .Lt | .le => .LtE | .gt => .Gt | .ge => .GtE | .inn => .In | .nin => .NotIn
def biName : Bi → Str
  | .len => "len" | .tuple => "tuple" | .list => "list" | .sorted => "sorted" | .srtset => "sorted" | .min1 => "min" | .max1 => "max" | .sum => "sum" | .any => "any" | .all => "all" | .int => "int" | .str => "str" | .repr => "repr"
def mtName : Mt → Str
  | .startswith => "startswith" | .join => "join" | .split => "split" | .upper => "upper" | .index => "index" | .count => "count"
def notCall0 : Expr → Bool
  | .Call (.Name _ _) [] [] _ => false
  | _ => true
def chkTg (Γ : Gam) : List Nat → Bool → Expr → Bool
  | [i], false, .Name x _ => storeOk Γ i x
  | is, true, .Tuple es _ _ => (is.length == es.length) && (is.zip es).all fun p => match p.2 with
    | .Name x _ => storeOk Γ p.1 x
    | _ => false
  | _, _, _ => false
def ownOf (Γ : Gam) (ws : List Nat) : List (Str × Nat) := ws.filterMap fun i => (Γ.N[i]?).map fun x => (x, i)
/-- a comprehension's block -/
def blkB (Γ : Gam) (scope : Scope) (ws : List Nat) : Bool :=
  (match scope.kind with | .function => true | _ => false) && (scope.names.all fun y => decide (scope.names.lookup y.1 = some y.2)) && (ws.all fun i => decide (i < Γ.N.length)) &&
    (scope.names.all fun y => match y.2 with
      | .free => (match Γ.sc.lookup y.1 with | some .cell => true | some .free => true | _ => false)
      | .local => decide (y.1 ∈ (ownOf Γ ws).map (·.1)) || decide (y.1 ∉ Γ.N)
      | .cell => decide (y.1 ∈ (ownOf Γ ws).map (·.1)) || decide (y.1 ∉ Γ.N)
      | _ => true)
def Gam.blk (Γ : Gam) (scope : Scope) : Gam := { Γ with sc := scope.names, cs := false, lm := false }
def Gam.lamG (Γ : Gam) (scope : Scope) : Gam := { Γ with sc := scope.names, cs := false, lm := false }
def lamScope (Γ : Gam) (scope : Scope) : Bool :=
  decide (scope.kind = .function) && !scope.isCoroutine && !scope.isGenerator && (scope.names.all fun y => decide (scope.names.lookup y.1 = some y.2)) && scope.names.all fun y => !decide (y.2 = .local) && !decide (y.2 = .cell) &&
    (!decide (y.2 = .free) || (match Γ.sc.lookup y.1 with | some .cell => true | some .free => true | _ => false))
def noParams (a : Arguments) : Bool := match a with
  | ⟨[], [], none, [], [], none, []⟩ => true
  | _ => false
def lamOk (Γ : Gam) (x : Str) (g : Nat) : Bool := Γ.lm && glB Γ x && okName x && Γ.lam.contains (x, g)
/-- no list of one's own -/
def noB : E → Bool
  | .b _ => false
  | _ => true
/-- a list of one's own, walked -/
def keysB : E → Gam → Expr → Bool
  | .dkeys i, Γ, e => (match e with | .Name y _ => nameOk Γ i y | _ => false)
  | _, _, _ => false
mutual
def chkE : E → Gam → Expr → Bool
  | .v i, Γ, e => (match e with | .Name x _ => nameOk Γ i x | _ => false)
  | .b i, Γ, e => (match e with | .Name x _ => nameOk Γ i x | _ => false)
  | .k d, Γ, e => chkK Γ e d
  | .tup es, Γ, e => (match e with | .Tuple xs _ _ => chkEs es Γ xs | _ => false)
  | .lst es, Γ, e => (match e with | .List xs _ => chkEs es Γ xs | _ => false)
  | .dix i x, Γ, e => (match e with | .Subscript (.Name y _) sl _ => nameOk Γ i y && chkE x Γ sl | _ => false)
  | .din x i, Γ, e => (match e with | .Compare l [.In] [.Name y _] _ => nameOk Γ i y && chkE x Γ l | _ => false)
  | .dnin x i, Γ, e => (match e with | .Compare l [.NotIn] [.Name y _] _ => nameOk Γ i y && chkE x Γ l | _ => false)
  | .dlen i, Γ, e => (match e with | .Call (.Name n _) [.Name y _] [] _ => (n == ("len" : Str)) && biOk Γ "len" && nameOk Γ i y | _ => false)
  | .dne i, Γ, e => (match e with | .Compare (.Name y _) [.NotEq] [.Dict [] [] _] _ => nameOk Γ i y | _ => false)
  | .dsort i, Γ, e => (match e with | .Call (.Name n _) [.Name y _] [] _ => (n == ("sorted" : Str)) && biOk Γ "sorted" && nameOk Γ i y | _ => false)
  | .dget _ _ _, _, _ => false
  | .tix _ _, _, _ => false
  | .tin _ _, _, _ => false
  | .bin o x y, Γ, e => (match e with | .BinOp l op r _ => decide (op = boOf o) && chkE x Γ l && chkE y Γ r | _ => false)
  | .cmp o x y, Γ, e => (match e with | .Compare l [op] [r] _ => decide (op = coOf o) && chkE x Γ l && chkE y Γ r | _ => false)
  | .chain o p x y z, Γ, e => (match e with | .Compare l [op, op'] [m, r] _ => decide (op = coOf o) && decide (op' = coOf p) && chkE x Γ l && chkE y Γ m && chkE z Γ r | _ => false)
  | .isN x, Γ, e => (match e with | .Compare l [.Is] [.Constant .none _ _] _ => chkE x Γ l | _ => false)
  | .notN x, Γ, e => (match e with | .Compare l [.IsNot] [.Constant .none _ _] _ => chkE x Γ l | _ => false)
  | .isB x b, Γ, e => (match e with | .Compare l [.Is] [.Constant (.bool c) _ _] _ => (b == c) && chkE x Γ l | _ => false)
  | .notB x b, Γ, e => (match e with | .Compare l [.IsNot] [.Constant (.bool c) _ _] _ => (b == c) && chkE x Γ l | _ => false)
  | .and es, Γ, e => (match e with | .BoolOp .And vs _ => !vs.isEmpty && chkEs es Γ vs | _ => false)
  | .or es, Γ, e => (match e with | .BoolOp .Or vs _ => !vs.isEmpty && chkEs es Γ vs | _ => false)
  | .not x, Γ, e => (match e with | .UnaryOp .Not a _ => noB x && chkE x Γ a | _ => false)
  | .ix x y, Γ, e => (match e with | .Subscript a b _ => chkE x Γ a && chkE y Γ b | _ => false)
  | .slL x lo, Γ, e => (match e with | .Subscript a (.Slice (some l) none none _) _ => chkE x Γ a && chkE lo Γ l | _ => false)
  | .slH x hi, Γ, e => (match e with | .Subscript a (.Slice none (some h) none _) _ => chkE x Γ a && chkE hi Γ h | _ => false)
  | .slB x lo hi, Γ, e => (match e with | .Subscript a (.Slice (some l) (some h) none _) _ => chkE x Γ a && chkE lo Γ l && chkE hi Γ h | _ => false)
  | .rev x, Γ, e => (match e with | .Subscript a (.Slice none none (some (.UnaryOp .USub (.Constant (.int 1) _ _) _)) _) _ => chkE x Γ a | _ => false)
  | .bi f x, Γ, e => (match f with
    | .srtset => (match e with | .Call (.Name n _) [.Call (.Name m _) [a] [] _] [] _ => (n == ("sorted" : Str)) && biOk Γ "sorted" && (m == ("set" : Str)) && biOk Γ "set" && chkE x Γ a | _ => false)
    | f => (match e with | .Call (.Name n _) [a] [] _ => (n == biName f) && biOk Γ n && chkE x Γ a | _ => false))
  | .max2 x y, Γ, e => (match e with | .Call (.Name n _) [a, b] [] _ => (n == ("max" : Str)) && biOk Γ "max" && chkE x Γ a && chkE y Γ b | _ => false)
  | .min2 x y, Γ, e => (match e with | .Call (.Name n _) [a, b] [] _ => (n == ("min" : Str)) && biOk Γ "min" && chkE x Γ a && chkE y Γ b | _ => false)
  | .isi x t, Γ, e => (match e with | .Call (.Name n _) [a, .Name tn _] [] _ => (n == ("isinstance" : Str)) && biOk Γ "isinstance" && (tn == Str.ofString (tyName t)) && biOk Γ tn && chkE x Γ a | _ => false)
  | .mt m x y, Γ, e => (match e with | .Call (.Attribute o nm apos) [a] [] pos => (nm == mtName m) && (apos.endLine == pos.line) && notCall0 o && chkE x Γ o && chkE y Γ a | _ => false)
  | .upper x, Γ, e => (match e with | .Call (.Attribute o nm apos) [] [] pos => (nm == ("upper" : Str)) && (apos.endLine == pos.line) && notCall0 o && chkE x Γ o | _ => false)
  | .call f es, Γ, e => (match e with | .Call (.Name n _) xs [] _ => fnOk Γ n f && !xs.isEmpty && chkEs es Γ xs | _ => false)
  | .lam g x, Γ, e => (match e with | .Call (.Name n _) [.Lambda ps body scope _] [] _ => lamOk Γ n g && noParams ps && lamScope Γ scope && noB x && chkE x (Γ.lamG scope) body | _ => false)
  | .comp x tg many it c ws, Γ, e => (match e with
    | .ListComp elt [⟨t, iter, ifs, 0⟩] scope _ => blkB Γ scope ws && chkTg (Γ.blk scope) tg many t && tg.all (fun i => ws.contains i) && noB x && (chkIt it Γ t iter || keysB it Γ iter) && (match ifs with | [] => (match c with | .nil => true | _ => false) | [_] => chkEs c (Γ.blk scope) ifs | _ => false) && chkE x (Γ.blk scope) elt
    | _ => false)
  | .val _, _, _ => false
  | .dkeys _, _, _ => false
  | .rng1 _, _, _ => false
  | .rng2 _ _, _, _ => false
  | .rngd _ _, _, _ => false
  | .enu _, _, _ => false
  | .zip _ _, _, _ => false
def chkEs : Es → Gam → List Expr → Bool
  | .nil, _, xs => xs.isEmpty
  | .cons e es, Γ, xs => (match xs with | x :: r => noB e && chkE e Γ x && chkEs es Γ r | [] => false)
/-- what is walked; the target is a tuple where pairs are walked -/
def chkIt : E → Gam → Expr → Expr → Bool
  | .val x, Γ, _, e => noB x && chkE x Γ e
  | .dkeys _, _, _, _ => false
  | .rng1 x, Γ, _, e => (match e with | .Call (.Name n _) [a] [] _ => (n == ("range" : Str)) && biOk Γ "range" && chkE x Γ a | _ => false)
  | .rng2 x y, Γ, _, e => (match e with | .Call (.Name n _) [a, b] [] _ => (n == ("range" : Str)) && biOk Γ "range" && chkE x Γ a && chkE y Γ b | _ => false)
  | .rngd x y, Γ, _, e => (match e with | .Call (.Name n _) [a, b, .UnaryOp .USub (.Constant (.int 1) _ _) _] [] _ => (n == ("range" : Str)) && biOk Γ "range" && chkE x Γ a && chkE y Γ b | _ => false)
  | .enu x, Γ, t, e => (match t with | .Tuple _ _ _ => (match e with | .Call (.Name n _) [a] [] _ => (n == ("enumerate" : Str)) && biOk Γ "enumerate" && noB x && chkE x Γ a | _ => false) | _ => false)
  | .zip x y, Γ, t, e => (match t with | .Tuple _ _ _ => (match e with | .Call (.Name n _) [a, b] [] _ => (n == ("zip" : Str)) && biOk Γ "zip" && noB x && noB y && chkE x Γ a && chkE y Γ b | _ => false) | _ => false)
  | _, _, _, _ => false
end
/-! ### statements -/
def chkParTg (Γ : Gam) (is : List Nat) (ts : List Expr) : Bool := (is.length == ts.length) && (is.zip ts).all fun p => match p.2 with
  | .Name x _ => decide (Γ.N[p.1]? = some x) && (match Γ.sc.lookup x with | some .local => true | _ => false)
  | _ => false
def lineOf : List Expr → Nat
  | t :: _ => t.pos.line
  | [] => 0
/-- a list comprehension whose target is stored within it -/
def chkSetOk (Γ : Gam) (x : Str) : Expr → Bool
  | .ListComp .. => (match Γ.sc.lookup x with | some .local => true | some .cell => true | _ => false)
  | .SetComp .. => false
  | .DictComp .. => false
  | _ => true
def isComp : Expr → Bool
  | .ListComp .. => true | .SetComp .. => true | .DictComp .. => true | _ => false
def isTup : Expr → Bool
  | .Tuple .. => true | .List .. => true | _ => false
def namesOf (es : List Expr) : List Str := es.filterMap fun e => match e with | .Name x _ => some x | _ => none
/-- a list comprehension -/
def isCmp : E → Bool
  | .comp .. => true | _ => false
mutual
def chkS : S → Gam → Stmt → Bool
  | .set i x, Γ, s => (match s with | .Assign [.Name y _] e _ => storeOk Γ i y && chkSetOk Γ y e && noB x && chkE x Γ e | _ => false)
  | .own i es, Γ, s => (match s with | .Assign [.Name y _] (.List xs _) _ => storeOk Γ i y && chkEs es Γ xs | _ => false)
  | .dnew i, Γ, s => (match s with | .Assign [.Name y _] (.Dict [] [] _) _ => storeOk Γ i y | _ => false)
  | .ddisp _ _ _, _, _ => false
  | .dfrom i x, Γ, s => (match s with | .Assign [.Name y _] (.Call (.Name n _) [a] [] _) _ => storeOk Γ i y && (n == ("dict" : Str)) && biOk Γ "dict" && isCmp x && noB x && chkE x Γ a | _ => false)
  | .mv _ _, _, _ => false
  | .unp is x, Γ, s => (match s with | .Assign [t] e _ => (match t with | .Tuple _ _ _ => chkTg Γ is true t && !isComp e && !isTup e && noB x && chkE x Γ e | _ => false) | _ => false)
  | .par is es, Γ, s => (match s with | .Assign [.Tuple ts _ _] (.Tuple vs _ _) _ => chkParTg Γ is ts && (is.length == vs.length) && (is.length == 2 || is.length == 3) && decide is.Nodup && decide (namesOf ts).Nodup && (ts.all fun t => t.pos.line == lineOf ts) && !(vs.all (foldedForSure 8)) && !(vs.all (constantsAlone 8)) && chkEs es Γ vs | _ => false)
  | .key i k v, Γ, s => (match s with | .Assign [.Subscript (.Name y _) sl _] e _ => nameOk Γ i y && !isComp e && noB v && chkE k Γ sl && chkE v Γ e | _ => false)
  | .app i x, Γ, s => (match s with | .Expr (.Call (.Attribute (.Name y _) m apos) [a] [] cpos) _ => nameOk Γ i y && (m == ("append" : Str)) && (apos.endLine == cpos.line) && noB x && chkE x Γ a | _ => false)
  | .ext i x, Γ, s => (match s with | .Expr (.Call (.Attribute (.Name y _) m apos) [a] [] cpos) _ => nameOk Γ i y && (m == ("extend" : Str)) && (apos.endLine == cpos.line) && noB x && chkE x Γ a | _ => false)
  | .drop x, Γ, s => (match s with | .Expr e _ => !isComp e && noB x && chkE x Γ e | _ => false)
  | .ifs c a b, Γ, s => (match s with | .If e xs ys _ => noB c && chkE c Γ e && chkSs a Γ xs && chkSs b Γ ys | _ => false)
  | .for_ is many it body, Γ, s => (match s with | .For t e xs [] _ => chkTg Γ is many t && chkIt it Γ t e && chkSs body Γ xs | _ => false)
  | .whl _ c body, Γ, s => (match s with | .While e xs [] _ => noB c && chkE c Γ e && chkSs body Γ xs | _ => false)
  | .ret x, Γ, s => (match s with | .Return (some e) _ => noB x && chkE x Γ e | _ => false)
  | .raise c, Γ, s => (match s with | .Raise (some (.Call (.Name x _) [.Constant (.str _) _ _] [] _)) none _ => glB Γ x && okName x && Γ.exc.contains (x, c) | _ => false)
  | .cont, _, s => (match s with | .Continue _ => true | _ => false)
  | .frz _, _, _ => false
def chkSs : Ss → Gam → List Stmt → Bool
  | .nil, _, xs => xs.isEmpty
  | .cons s ss, Γ, xs => (match s with
    | .frz i => decide (i < Γ.N.length) && chkSs ss Γ xs
    | s => (match xs with | x :: r => chkS s Γ x && chkSs ss Γ r | [] => false))
end
end Ev

/-! EvSnd: what our tree comes to, the text comes to (expressions). -/
namespace Ev
open PySem PySem.Spec PyProof.Rows L2
/-- a def's promise, by what our tree comes to -/
def spOf (C : Cfg) (K : PySem.W.Frag) (op : List D → R D) : Sp := fun vs H Q E => ∃ O ds, TrO O H ∧ LamX.Tabs C.T H ∧ Reps K (Hm O H) vs ds ∧ PostG C (fun c H' => E (C.cls c) none H') H (goodV K O Q) (op ds)
/-- the wish for errors -/
def wishW (C : Cfg) (W : Nat → Hp → Prop) : WX := fun cls d _ H => ∃ c, cls = C.cls c ∧ d = none ∧ W c H
/-- what stands above ValueError -/
def bmVE : List Value := [.type "ValueError", .type "Exception", .type "BaseException", .type "object"]
structure Good0 (C : Cfg) (Γ : Gam) (T : Tbl) (n : Nat) (X : Cx) (W : Nat → Hp → Prop) : Prop where
  N : X.N = Γ.N
  nd : X.N.Nodup
  vis : ∀ x, visB Γ x = true → Vis X.env.scope x
  st : ∀ x, stB Γ x = true → Loc X.env.scope x ∧ (X.fn x = true ∨ X.env.scope.names.lookup x = some .local)
  gl : ∀ x, glB Γ x = true → Gl X x
  cf : ∀ x, (Γ.sc.lookup x = some .cell ∨ Γ.sc.lookup x = some .free) → (X.env.scope.names.lookup x = some .cell ∨ X.env.scope.names.lookup x = some .free)
  lo : ∀ x, Γ.sc.lookup x = some .local → X.env.scope.names.lookup x = some .local
  calm : X.calm = true
  room : Room n X.A
  bi : ∀ x ∈ Γ.bi, X.mg x = none
  gd : ∀ p ∈ Γ.gd, ∃ u v, X.mg p.1 = some u ∧ RelV v u ∧ ∀ H, Rep X.K H v p.2
  fn : ∀ p ∈ Γ.fn, ∃ a fd ps, X.mg p.1 = some (.ref a) ∧ PySem.W.keepIn X.K (.ref a) = true ∧ Binds X.K fd ps [] ∧ FnOk X.prog X.w X.K X.mg X.base (L2.CX X.prog X.w) n a fd ps (spOf C X.K (T 0 p.2))
  takes : Takes X (wishW C W)
  exc : ∀ p ∈ Γ.exc, ∃ a, X.mg p.1 = some (.ref a) ∧ PySem.W.keepIn X.K (.ref a) = true ∧ PySem.W.excIn X.K a bmVE "ValueError.__new__" = true ∧ Raises X (.ref a) ∧ C.cls p.2 = .ref a
/-- x(lambda: body) -/
def LamF (C : Cfg) (Γ : Gam) (T : Tbl) (n : Nat) (X : Cx) (W : Nat → Hp → Prop) : Prop :=
  ∀ (g : Nat) (x : Str) (p lpos pos : Pos) (ps : Arguments) (body : Expr) (scope : Scope) (f : Ev.Env → R D), lamOk Γ x g = true → noParams ps = true → lamScope Γ scope = true →
    (∀ X' W', Good0 C (Γ.lamG scope) (fun j => T (j + 2)) (n - 2) X' W' → PE X' body (rdE X' C W' f)) → PE X (.Call (.Name x p) [.Lambda ps body scope lpos] [] pos) (rdE X C W fun ρ => toldD g (f ρ))
structure Good (C : Cfg) (Γ : Gam) (T : Tbl) (n : Nat) (X : Cx) (W : Nat → Hp → Prop) : Prop extends Good0 C Γ T n X W where
  lam : Γ.lm = true → LamF C Γ T n X W
theorem Good0.good {C : Cfg} {Γ : Gam} {T : Tbl} {n : Nat} {X : Cx} {W : Nat → Hp → Prop} (g : Good0 C Γ T n X W) (h : Γ.lm = false) : Good C Γ T n X W :=
  { g with lam := fun z => by rw [h] at z; cases z }
section
variable {C : Cfg} {Γ : Gam} {T : Tbl} {n : Nat} {X : Cx} {W : Nat → Hp → Prop} {e e1 e2 e3 : Expr} {pos : Pos}
theorem Good0.hu (g : Good0 C Γ T n X W) : X.A.units + 128 < cLine := by
  have := g.room.un
  omega
theorem Good0.hu64 (g : Good0 C Γ T n X W) : X.A.units + 64 < cLine := by
  have := g.room.un
  omega
/-! ### what the look tells of an expression's form -/
def plainF : Expr → Bool
  | .Slice .. => false
  | .Starred .. => false
  | .Set .. => false
  | _ => true
theorem chk_plain {Γ : Gam} : ∀ (e' : E) (e : Expr), chkE e' Γ e = true → plainF e = true := fun e' e h => by
  cases e with
  | Slice l u st p => exact absurd h (by cases e' <;> first | exact Bool.false_ne_true | (rename_i f x; cases f <;> exact Bool.false_ne_true) | (unfold chkE chkK; exact Bool.false_ne_true))
  | Starred v p => exact absurd h (by cases e' <;> first | exact Bool.false_ne_true | (rename_i f x; cases f <;> exact Bool.false_ne_true) | (unfold chkE chkK; exact Bool.false_ne_true))
  | Set v k p => exact absurd h (by cases e' <;> first | exact Bool.false_ne_true | (rename_i f x; cases f <;> exact Bool.false_ne_true) | (unfold chkE chkK; exact Bool.false_ne_true))
  | _ => rfl
theorem star_cons (h : plainF e = true) (es : List Expr) (env : PySem.Env) : starEach (e :: es) env = (false, PySem.eval e env) :: starEach es env := by
  cases e <;> first | rfl | cases h
theorem folded_pure (h : plainF e = true) (env : PySem.Env) (x : Value) : foldedSetIterable e env x = pure x := by
  cases e <;> first | rfl | cases h
theorem plainIx (h : plainF e = true) : PlainIx e := by
  intro o i
  cases e <;> first | rfl | cases h
/-- a test by its value -/
def plainT : Expr → Bool
  | .UnaryOp .Not _ _ => false
  | .BoolOp .. => false
  | .IfExp .. => false
  | .Compare .. => false
  | _ => true
theorem isTrue_plain (h : plainT e = true) (env : PySem.Env) (whole : Sem Value) : isTrue e env whole = (do let v ← whole; standAt e.pos; holding [v] (truthy v)) := by
  cases e with
  | UnaryOp op x p => cases op <;> first | rfl | cases h
  | BoolOp => cases h
  | IfExp => cases h
  | Compare => cases h
  | _ => rfl
/-! ### one expression's three readings -/
structure SX (X : Cx) (C : Cfg) (W : Nat → Hp → Prop) (e : Expr) (f : Ev.Env → R D) : Prop where
  v : PE X e (rdE X C W f)
  t : PT X e (rdT X C W fun ρ => (f ρ).bind asB)
theorem rdT_of {f : Ev.Env → R D} {σ : L2.St} {H : Hp} {Q : Bool → Hp → Prop} (h : rdT X C W (fun ρ => (f ρ).bind asB) σ H Q) : tB (rdE X C W f) σ H Q := by
  obtain ⟨O, ρ, r, p⟩ := h
  refine ⟨O, ρ, r, p.bind.imp fun d H1 _ q v rv => ?_⟩
  cases d with
  | bl b =>
    cases rv
    exact ⟨b, rfl, q H1 (Ext.refl _ _)⟩
  | _ => exact q.elim
theorem sx_val {f : Ev.Env → R D} (h : PE X e (rdE X C W f)) (hp : plainT e = true) : SX X C W e f :=
  ⟨h, ptW (pt_val h (isTrue_plain hp X.env)) fun _ _ _ q => rdT_of q⟩
theorem sx_both {f : Ev.Env → R D} {t : TE} (h1 : PE X e t) (h2 : PT X e (tB t)) (w : ∀ σ H Q, rdE X C W f σ H Q → t σ H Q) : SX X C W e f :=
  ⟨peW h1 w, ptW h2 fun σ H Q q => w _ _ _ (rdT_of q)⟩
theorem SX.b {f : Ev.Env → R D} (h : SX X C W e f) : PE X e (rdB X C W f) := peB h.v
/-! ### names, constants -/
theorem nameOk_of {i : Nat} {x : Str} (g : Good0 C Γ T n X W) (h : nameOk Γ i x = true) : X.N[i]? = some x ∧ Vis X.env.scope x ∧ (x == ("__debug__" : Str)) = false ∧ (x == ("__classdict__" : Str)) = false := by
  unfold nameOk okName at h
  simp only [Bool.and_eq_true, decide_eq_true_eq, Bool.not_eq_true'] at h
  exact ⟨by rw [g.N]; exact h.1.1, g.vis x h.1.2, h.2.1, h.2.2⟩
theorem pe_v {i : Nat} {x : Str} (g : Good0 C Γ T n X W) (h : nameOk Γ i x = true) : PE X (.Name x pos) (tVar i) := by
  obtain ⟨h1, h2, h3, h4⟩ := nameOk_of g h
  exact pe_var h1 h2 h3 h4
theorem sx_v {i : Nat} {x : Str} (g : Good0 C Γ T n X W) (h : nameOk Γ i x = true) : SX X C W (.Name x pos) (fun ρ => match ρ[i]? with | some (.sh d) => .ok d | _ => .no) :=
  sx_val (peW (pe_v g h) fun σ H Q q => by
    obtain ⟨O, ρ, r, p⟩ := q
    dsimp only at p
    cases e : ρ[i]? with
    | none => rw [e] at p; exact p.elim
    | some s =>
      rw [e] at p
      cases s with
      | sh d =>
        obtain ⟨v, h1, h2⟩ := r.sh i d e
        exact ⟨v, h1, p H (Ext.refl _ _) v h2⟩
      | _ => exact p.elim) rfl
theorem pe_b {i : Nat} {x : Str} (g : Good0 C Γ T n X W) (h : nameOk Γ i x = true) : PE X (.Name x pos) (rdB X C W (fun ρ => match ρ[i]? with | some (.sh d) => .ok d | some (.ow xs) => .ok (.lst xs) | _ => .no)) :=
  peW (pe_v g h) fun σ H Q q => by
    obtain ⟨O, ρ, r, p⟩ := q
    dsimp only at p
    cases e : ρ[i]? with
    | none => rw [e] at p; exact p.elim
    | some s =>
      rw [e] at p
      cases s with
      | sh d =>
        obtain ⟨v, h1, h2⟩ := r.sh i d e
        exact ⟨v, h1, p H (Ext.refl _ _) v h2.toB⟩
      | ow xs =>
        obtain ⟨a, h1, h2, h3⟩ := r.ow i _ e rfl
        exact ⟨.ref a, h1, p H (Ext.refl _ _) _ h3.toB⟩
      | _ => exact p.elim
theorem sx_k {d : D} (g : Good0 C Γ T n X W) (h : chkK Γ e d = true) : SX X C W e (fun _ => .ok d) := by
  have fin : ∀ {v : V}, (∀ H, Rep X.K H v d) → ∀ σ H Q, rdE X C W (fun _ => .ok d) σ H Q → tC v σ H Q := fun hv σ H Q q => by
    obtain ⟨O, ρ, r, p⟩ := q
    exact p H (Ext.refl _ _) _ (hv _)
  unfold chkK at h
  split at h
  · exact sx_val (peW pe_non (fin fun H => .non)) rfl
  · have e : _ = _ := beq_iff_eq.mp h
    subst e
    exact sx_val (peW pe_bl (fin fun H => .bl _)) rfl
  · have e : _ = _ := beq_iff_eq.mp h
    subst e
    exact sx_val (peW pe_int (fin fun H => .int _)) rfl
  · rename_i s _ _ x
    have e : s.cps.toList = x := beq_iff_eq.mp h
    subst e
    have e2 : s = Sx s.cps.toList := (SX.S_tl s).symm
    have hv : ∀ H, Rep X.K H (.str s) (.str s.cps.toList) := fun H => by
      have h0 : Rep X.K H (.str (Sx s.cps.toList)) (.str s.cps.toList) := .str _
      rw [← e2] at h0
      exact h0
    exact sx_val (peW pe_str (fin hv)) rfl
  · rename_i i _ _ _ j
    have e : -i = j := beq_iff_eq.mp h
    subst e
    exact sx_val (peW (pe_un un_neg pe_int) fun σ H Q q => by
      obtain ⟨O, ρ, r, p⟩ := q
      exact ⟨i, rfl, p H (Ext.refl _ _) _ (.int _)⟩) rfl
  · rename_i _ _ x _
    unfold gdOk at h
    simp only [Bool.and_eq_true, List.any_eq_true] at h
    obtain ⟨⟨h1, h2⟩, ⟨y, d'⟩, h3, h4⟩ := h
    have h5 : y = x := beq_iff_eq.mp h4.1
    have h6 := beqK_eq h4.2
    simp only at h5 h6
    subst h5 h6
    obtain ⟨u, v, hm, rv, hr⟩ := g.gd _ h3
    unfold okName at h2
    simp only [Bool.and_eq_true, Bool.not_eq_true'] at h2
    exact sx_val (peW (pe_glob (g.gl _ h1) hm rv h2.1) (fin hr)) rfl
  · cases h
end
end Ev

/-! EvSnd2: operators, parts, calls of what is built in. -/
namespace Ev
open PySem PySem.Spec PyProof.Rows L2
section
variable {C : Cfg} {Γ : Gam} {T : Tbl} {n : Nat} {X : Cx} {W : Nat → Hp → Prop} {e e1 e2 e3 : Expr} {pos : Pos} {f f1 f2 f3 : Ev.Env → R D}
theorem rd_RD {k : D → D → R D} : ∀ (O : List Addr) (d e r : D) (x y : V) (H : Hp) (Q : VK), TrO O H → RepB X.K O H x d → RepB X.K O H y e → k d e = .ok r → (∀ v H', Ext C.T H H' → Rep X.K (Hm O H') v r → Q v H') → RD X.K C.T k x y H Q :=
  fun O d e r _ _ _ _ tr hx hy ho q => ⟨O, d, e, r, tr, hx, hy, ho, q⟩
theorem sx_bin (g : Good0 C Γ T n X W) (o : Bo) (h1 : PE X e1 (rdB X C W f1)) (h2 : PE X e2 (rdB X C W f2)) : SX X C W (.BinOp e1 (boOf o) e2 pos) (fun ρ => (f1 ρ).bind fun a => (f2 ρ).bind fun b => binD o a b) := by
  cases o with
  | add => exact sx_val (peW (pe_op op_addD h1 h2) (opE rd_RD (noEx_bin .add))) rfl
  | sub => exact sx_val (peW (pe_op op_subD h1 h2) (opE rd_RD (noEx_bin .sub))) rfl
  | mul => exact sx_val (peW (pe_op op_mulD h1 h2) (opE rd_RD (noEx_bin .mul))) rfl
  | fdiv => exact sx_val (peW (pe_op op_fdivD h1 h2) (opE rd_RD (noEx_bin .fdiv))) rfl
  | mod => exact sx_val (peW (pe_op op_modD h1 h2) (opE rd_RD (noEx_bin .mod))) rfl
theorem op_cmpD (g : Good0 C Γ T n X W) (o : Co) : OpR X (compareOp (coOf o)) (RD X.K C.T (cmpD o)) := by
  cases o with
  | eq => exact op_eqR g.hu64
  | ne => exact op_neR g.hu64
  | lt => exact op_ltR g.hu64
  | le => exact op_leR g.hu64
  | gt => exact op_gtR g.hu64
  | ge => exact op_geR g.hu64
  | inn => exact op_inR g.hu64
  | nin => exact op_ninR g.hu64
theorem marks (h : plainF e = true) (op : CmpOp) : behindInMarks op e = false := by
  cases e <;> first | rfl | cases h
theorem sx_cmp (g : Good0 C Γ T n X W) (o : Co) (h1 : PE X e1 (rdB X C W f1)) (h2 : PE X e2 (rdB X C W f2)) (p2 : plainF e2 = true) : SX X C W (.Compare e1 [coOf o] [e2] pos) (fun ρ => (f1 ρ).bind fun a => (f2 ρ).bind fun b => cmpD o a b) :=
  sx_both (pe_cmpR (op_cmpD g o) h1 h2 (marks p2 _)) (pt_cmpR (op_cmpD g o) h1 h2 (marks p2 _)) (opE rd_RD (noEx_cmp o))
theorem cmp_bl (o : Co) {a b r : D} (h : cmpD o a b = .ok r) : ∃ t, r = .bl t := by
  cases o with
  | eq => simp only [cmpD, eqD] at h; split at h <;> cases h; exact ⟨_, rfl⟩
  | ne => simp only [cmpD, neD] at h; split at h <;> cases h; exact ⟨_, rfl⟩
  | lt => simp only [cmpD, ltR] at h; split at h <;> cases h; exact ⟨_, rfl⟩
  | le => simp only [cmpD, leR] at h; split at h <;> cases h; exact ⟨_, rfl⟩
  | gt => simp only [cmpD, gtR] at h; split at h <;> cases h; exact ⟨_, rfl⟩
  | ge => simp only [cmpD, geR] at h; split at h <;> cases h; exact ⟨_, rfl⟩
  | inn => obtain ⟨c, _, h⟩ := bind_eq_ok h; cases h; exact ⟨_, rfl⟩
  | nin => obtain ⟨c, _, h⟩ := bind_eq_ok h; cases h; exact ⟨_, rfl⟩
theorem sx_chain (g : Good0 C Γ T n X W) (o p : Co) (h1 : PE X e1 (rdB X C W f1)) (h2 : PE X e2 (rdB X C W f2)) (h3 : PE X e3 (rdB X C W f3)) (p2 : plainF e2 = true) (p3 : plainF e3 = true) :
    SX X C W (.Compare e1 [coOf o, coOf p] [e2, e3] pos) (fun ρ => (f1 ρ).bind fun a => (f2 ρ).bind fun b => (cmpD o a b).bind fun r => (asB r).bind fun t => if t then (f3 ρ).bind fun c => cmpD p b c else .ok (.bl false)) := by
  have hm : lastMarks [coOf o, coOf p] [e2, e3] = false := marks p3 _
  refine sx_both (pe_chain (op_cmpD g o) (op_cmpD g p) h1 h2 h3 hm) (pt_chain (op_cmpD g o) (op_cmpD g p) h1 h2 h3 hm) fun σ H Q q => ?_
  obtain ⟨O, ρ, r, pg⟩ := q
  refine two r pg fun a b x y H2 e2 t2 rx ry p2 => ?_
  cases hc : cmpD o a b with
  | no => rw [hc] at p2; exact p2.elim
  | ex c => exact absurd hc (noEx_cmp o a b c)
  | ok z =>
    rw [hc] at p2
    obtain ⟨t, rfl⟩ := cmp_bl o hc
    refine ⟨O, a, b, .bl t, t2, rx, ry, hc, fun v H3 e3 rv => ?_⟩
    cases rv
    refine ⟨t, rfl, ?_⟩
    have p3 : PostG C W H3 (goodV X.K O Q) (if t = true then (f3 ρ).bind fun c => cmpD p b c else .ok (.bl false)) := PostG.ext (r := if t = true then (f3 ρ).bind fun c => cmpD p b c else .ok (.bl false)) p2 e3
    cases t with
    | true =>
      rw [if_pos rfl] at p3 ⊢
      refine one ((r.ext e2).ext e3) p3 fun c w H4 e4 t4 rw' p4 => ?_
      obtain ⟨d, hd, q⟩ := p4.noEx (noEx_cmp p b c)
      exact ⟨O, b, c, d, t4, (ry.ext e3.1).ext e4.1, rw', hd, q⟩
    | false =>
      rw [if_neg Bool.false_ne_true] at p3 ⊢
      exact p3 H3 (Ext.refl _ _) _ (.bl _)
theorem isN_dec {K : PySem.W.Frag} {O : List Addr} {H : Hp} {x : V} {d : D} (h : RepB K O H x d) : decide (x = .non) = isNone d := by
  cases d with
  | non => rw [h.non]; rfl
  | bl b => rw [h.bl]; rfl
  | int i => rw [h.int]; rfl
  | str s => rw [h.str]; rfl
  | tup xs => obtain ⟨a, vs, rfl, _⟩ := h.tup; rfl
  | lst xs => obtain ⟨a, vs, rfl, _⟩ := h; rfl
theorem sx_isN (h1 : PE X e1 (rdB X C W f1)) {j p2} : SX X C W (.Compare e1 [.Is] [.Constant .none j p2] pos) (fun ρ => (f1 ρ).bind fun a => .ok (.bl (isNone a))) := by
  refine sx_both (pe_cmp (pc_isN h1)) (pt_cmp (pc_isN h1)) fun σ H Q q => ?_
  obtain ⟨O, ρ, r, p⟩ := q
  refine one r p fun a x H1 e _ rx p1 => ?_
  rw [isN_dec rx]
  exact p1 H1 (Ext.refl _ _) _ (.bl _)
theorem sx_notN (h1 : PE X e1 (rdB X C W f1)) {j p2} : SX X C W (.Compare e1 [.IsNot] [.Constant .none j p2] pos) (fun ρ => (f1 ρ).bind fun a => .ok (.bl (!isNone a))) := by
  refine sx_both (pe_cmp (pc_notN h1)) (pt_cmp (pc_notN h1)) fun σ H Q q => ?_
  obtain ⟨O, ρ, r, p⟩ := q
  refine one r p fun a x H1 e _ rx p1 => ?_
  rw [isN_dec rx]
  exact p1 H1 (Ext.refl _ _) _ (.bl _)
theorem sx_isB (h1 : PE X e1 (rdB X C W f1)) {b : Bool} {j p2} : SX X C W (.Compare e1 [.Is] [.Constant (.bool b) j p2] pos) (fun ρ => (f1 ρ).bind fun a => (asB a).bind fun c => .ok (.bl (c == b))) := by
  refine sx_both (pe_cmpR op_isBl h1 pe_bl (nomark _)) (pt_cmpR op_isBl h1 pe_bl (nomark _)) fun σ H Q q => ?_
  obtain ⟨O, ρ, r, p⟩ := q
  refine one r p fun a x H1 e _ rx p1 => ?_
  cases a with
  | bl c =>
    refine ⟨c, b, rx.bl, rfl, ?_⟩
    have := p1 H1 (Ext.refl _ _) _ (.bl _)
    rwa [show (c == b) = decide (c = b) from by cases c <;> cases b <;> rfl] at this
  | _ => exact p1.elim
theorem sx_notB (h1 : PE X e1 (rdB X C W f1)) {b : Bool} {j p2} : SX X C W (.Compare e1 [.IsNot] [.Constant (.bool b) j p2] pos) (fun ρ => (f1 ρ).bind fun a => (asB a).bind fun c => .ok (.bl (!(c == b)))) := by
  refine sx_both (pe_cmpR op_notBl h1 pe_bl (nomark _)) (pt_cmpR op_notBl h1 pe_bl (nomark _)) fun σ H Q q => ?_
  obtain ⟨O, ρ, r, p⟩ := q
  refine one r p fun a x H1 e _ rx p1 => ?_
  cases a with
  | bl c =>
    refine ⟨c, b, rx.bl, rfl, ?_⟩
    have := p1 H1 (Ext.refl _ _) _ (.bl _)
    rwa [show (c == b) = decide (c = b) from by cases c <;> cases b <;> rfl] at this
  | _ => exact p1.elim
theorem sx_not (h1 : SX X C W e1 f1) : SX X C W (.UnaryOp .Not e1 pos) (fun ρ => (f1 ρ).bind fun a => (asB a).bind fun t => .ok (.bl (!t))) := by
  refine ⟨peW (pe_not h1.v) fun σ H Q q => ?_, ptW (pt_not h1.t) fun σ H Q q => ?_⟩
  · obtain ⟨O, ρ, r, p⟩ := q
    refine oneE r p fun a x H1 e _ rx p1 => ?_
    cases a with
    | bl c => cases rx; exact ⟨c, rfl, p1 H1 (Ext.refl _ _) _ (.bl _)⟩
    | _ => exact p1.elim
  · obtain ⟨O, ρ, r, p⟩ := q
    refine ⟨O, ρ, r, ?_⟩
    dsimp only at p ⊢
    cases h : f1 ρ with
    | no => rw [h] at p; exact p.elim
    | ex c => rw [h] at p; exact p
    | ok a =>
      rw [h] at p
      cases a with
      | bl c => exact p
      | _ => exact p.elim
/-! ### and, or -/
/-- a row of tests -/
inductive SBs (X : Cx) (C : Cfg) (W : Nat → Hp → Prop) : List Expr → List (Ev.Env → R D) → Prop
  | nil : SBs X C W [] []
  | cons {e : Expr} {es : List Expr} {f : Ev.Env → R D} {fs : List (Ev.Env → R D)} : SX X C W e f → SBs X C W es fs → SBs X C W (e :: es) (f :: fs)
def andF : List (Ev.Env → R D) → Ev.Env → R Bool
  | [], _ => .ok true
  | f :: fs, ρ => (f ρ).bind fun a => (asB a).bind fun t => if t then andF fs ρ else .ok false
def orF : List (Ev.Env → R D) → Ev.Env → R Bool
  | [], _ => .ok false
  | f :: fs, ρ => (f ρ).bind fun a => (asB a).bind fun t => if t then .ok true else orF fs ρ
theorem bind_asB_one (r : R D) : ((r.bind fun a => (asB a).bind fun t => if t then R.ok true else .ok false)) = r.bind asB := by
  cases r with
  | ok a => cases a with
    | bl b => cases b <;> rfl
    | _ => rfl
  | _ => rfl
theorem and_both : ∀ {es : List Expr} {fs : List (Ev.Env → R D)}, SBs X C W es fs → es ≠ [] → PW X (.BoolOp .And es pos) (rdT X C W (andF fs)) ∧ PE X (.BoolOp .And es pos) (rdE X C W fun ρ => (andF fs ρ).bind fun b => .ok (.bl b))
  | [], _, _, h => absurd rfl h
  | [e], _, .cons (f := f) s .nil, _ => by
    refine ⟨pwW (pw_and1 s.t) fun σ H Q q => ?_, peW (pe_one s.v) fun σ H Q q => ?_⟩
    · obtain ⟨O, ρ, r, p⟩ := q
      exact ⟨O, ρ, r, by simp only [andF, orF] at p; rw [bind_asB_one] at p; exact p⟩
    · obtain ⟨O, ρ, r, p⟩ := q
      refine ⟨O, ρ, r, ?_⟩
      simp only [andF] at p
      rw [bind_asB_one] at p
      cases h : f ρ with
      | no => rw [h] at p; exact p.elim
      | ex c => rw [h] at p; exact p
      | ok a =>
        rw [h] at p
        cases a with
        | bl c => exact p
        | _ => exact p.elim
  | e :: e' :: es, _, .cons (f := f) (fs := fs) s r, _ => by
    obtain ⟨i1, i2⟩ := and_both r (by simp)
    refine ⟨pwW (pw_and s.t i1) fun σ H Q q => ?_, peW (pe_and s.v i2) fun σ H Q q => ?_⟩
    · obtain ⟨O, ρ, rel, p⟩ := q
      refine ⟨O, ρ, rel, ?_⟩
      have e1 : andF (f :: fs) ρ = ((f ρ).bind asB).bind fun t => if t then andF fs ρ else .ok false := by
        simp only [andF]; cases f ρ <;> rfl
      rw [e1] at p
      refine p.bind.imp fun c H1 e1 p1 => ?_
      cases c with
      | true => exact ⟨O, ρ, rel.ext e1, p1⟩
      | false => exact p1 H1 (Ext.refl _ _)
    · obtain ⟨O, ρ, rel, p⟩ := q
      have e1 : ((andF (f :: fs) ρ).bind fun b => R.ok (D.bl b)) = (f ρ).bind fun a => (asB a).bind fun t => if t then (andF fs ρ).bind fun b => .ok (.bl b) else .ok (.bl false) := by
        simp only [andF]
        cases f ρ with
        | ok a => cases a with
          | bl t => cases t <;> rfl
          | _ => rfl
        | _ => rfl
      dsimp only at p
      rw [e1] at p
      refine oneE rel p fun a x H1 e1 _ rx p1 => ?_
      cases a with
      | bl t =>
        cases rx
        refine ⟨t, rfl, ?_⟩
        cases t with
        | true => exact ⟨O, ρ, rel.ext e1, p1⟩
        | false => exact p1 H1 (Ext.refl _ _) _ (.bl _)
      | _ => exact p1.elim
theorem or_both : ∀ {es : List Expr} {fs : List (Ev.Env → R D)}, SBs X C W es fs → es ≠ [] → PW X (.BoolOp .Or es pos) (rdT X C W (orF fs)) ∧ PE X (.BoolOp .Or es pos) (rdE X C W fun ρ => (orF fs ρ).bind fun b => .ok (.bl b))
  | [], _, _, h => absurd rfl h
  | [e], _, .cons (f := f) s .nil, _ => by
    refine ⟨pwW (pw_or1 s.t) fun σ H Q q => ?_, peW (pe_one s.v) fun σ H Q q => ?_⟩
    · obtain ⟨O, ρ, r, p⟩ := q
      exact ⟨O, ρ, r, by simp only [andF, orF] at p; rw [bind_asB_one] at p; exact p⟩
    · obtain ⟨O, ρ, r, p⟩ := q
      refine ⟨O, ρ, r, ?_⟩
      simp only [orF] at p
      rw [bind_asB_one] at p
      cases h : f ρ with
      | no => rw [h] at p; exact p.elim
      | ex c => rw [h] at p; exact p
      | ok a =>
        rw [h] at p
        cases a with
        | bl c => exact p
        | _ => exact p.elim
  | e :: e' :: es, _, .cons (f := f) (fs := fs) s r, _ => by
    obtain ⟨i1, i2⟩ := or_both r (by simp)
    refine ⟨pwW (pw_or s.t i1) fun σ H Q q => ?_, peW (pe_or s.v i2) fun σ H Q q => ?_⟩
    · obtain ⟨O, ρ, rel, p⟩ := q
      refine ⟨O, ρ, rel, ?_⟩
      have e1 : orF (f :: fs) ρ = ((f ρ).bind asB).bind fun t => if t then .ok true else orF fs ρ := by
        simp only [orF]; cases f ρ <;> rfl
      rw [e1] at p
      refine p.bind.imp fun c H1 e1 p1 => ?_
      cases c with
      | false => exact ⟨O, ρ, rel.ext e1, p1⟩
      | true => exact p1 H1 (Ext.refl _ _)
    · obtain ⟨O, ρ, rel, p⟩ := q
      have e1 : ((orF (f :: fs) ρ).bind fun b => R.ok (D.bl b)) = (f ρ).bind fun a => (asB a).bind fun t => if t then .ok (.bl true) else (orF fs ρ).bind fun b => .ok (.bl b) := by
        simp only [orF]
        cases f ρ with
        | ok a => cases a with
          | bl t => cases t <;> rfl
          | _ => rfl
        | _ => rfl
      dsimp only at p
      rw [e1] at p
      refine oneE rel p fun a x H1 e1 _ rx p1 => ?_
      cases a with
      | bl t =>
        cases rx
        refine ⟨t, rfl, ?_⟩
        cases t with
        | false => exact ⟨O, ρ, rel.ext e1, p1⟩
        | true => exact p1 H1 (Ext.refl _ _) _ (.bl _)
      | _ => exact p1.elim
theorem flat_asB (r : R Bool) : ((r.bind fun b => R.ok (D.bl b)).bind asB) = r := by cases r <;> rfl
theorem sx_and {es : List Expr} {fs : List (Ev.Env → R D)} (s : SBs X C W es fs) (h : es ≠ []) : SX X C W (.BoolOp .And es pos) (fun ρ => (andF fs ρ).bind fun b => .ok (.bl b)) :=
  ⟨(and_both s h).2, ptW (and_both s h).1.pt fun σ H Q q => by
    obtain ⟨O, ρ, r, p⟩ := q
    exact ⟨O, ρ, r, by dsimp only at p; rw [flat_asB] at p; exact p⟩⟩
theorem sx_or {es : List Expr} {fs : List (Ev.Env → R D)} (s : SBs X C W es fs) (h : es ≠ []) : SX X C W (.BoolOp .Or es pos) (fun ρ => (orF fs ρ).bind fun b => .ok (.bl b)) :=
  ⟨(or_both s h).2, ptW (or_both s h).1.pt fun σ H Q q => by
    obtain ⟨O, ρ, r, p⟩ := q
    exact ⟨O, ρ, r, by dsimp only at p; rw [flat_asB] at p; exact p⟩⟩
/-! ### places, parts -/
theorem sx_ix (h1 : PE X e1 (rdB X C W f1)) (h2 : PE X e2 (rdB X C W f2)) (p2 : plainF e2 = true) : SX X C W (.Subscript e1 e2 pos) (fun ρ => (f1 ρ).bind fun a => (f2 ρ).bind fun b => ixD a b) :=
  sx_val (peW (pe_ix ix_D h1 h2 (plainIx p2)) (opE rd_RD noEx_ix)) rfl
theorem sx_sl {lo hi : Option Expr} {tl th : TO} {p2 : Pos} {fl : Ev.Env → R (Option Int)} {fh : Ev.Env → R (Option Int)} (h1 : PE X e1 (rdB X C W f1)) (hl : PO X lo tl) (hh : PO X hi th)
    (wl : ∀ σ H O ρ (good : Option Int → Hp → Prop), Rel X.K C.T O σ H ρ → PostG C W H good (fl ρ) → tl σ H (fun o H1 => Ext C.T H H1 ∧ good o H1))
    (wh : ∀ σ H O ρ (good : Option Int → Hp → Prop), Rel X.K C.T O σ H ρ → PostG C W H good (fh ρ) → th σ H (fun o H1 => Ext C.T H H1 ∧ good o H1)) 
    (ml : ∀ {σ H Q Q'}, tl σ H Q → (∀ o H', Q o H' → Q' o H') → tl σ H Q') (mh : ∀ {σ H Q Q'}, th σ H Q → (∀ o H', Q o H' → Q' o H') → th σ H Q') :
    SX X C W (.Subscript e1 (.Slice lo hi none p2) pos) (fun ρ => (f1 ρ).bind fun a => (fl ρ).bind fun l => (fh ρ).bind fun h => slD a l h) := by
  refine sx_val (peW (pe_slice (sl_D (T := C.T)) h1 hl hh) fun σ H Q q => ?_) rfl
  obtain ⟨O, ρ, r, p⟩ := q
  refine one r p fun a x H1 e1 t1 rx p1 => ?_
  refine ml (wl σ H1 O ρ _ (r.ext e1) p1.bind) fun l H2 ⟨e2, p2⟩ => ?_
  refine mh (wh σ H2 O ρ _ ((r.ext e1).ext e2) p2.bind) fun h H3 ⟨e3, p3⟩ => ?_
  obtain ⟨d, hd, q⟩ := p3.noEx (noEx_sl a l h)
  exact ⟨O, a, d, (t1.ext e2.1).ext e3.1, (rx.ext e2.1).ext e3.1, hd, q⟩
theorem wl_some : ∀ σ H O ρ (good : Option Int → Hp → Prop), Rel X.K C.T O σ H ρ → PostG C W H good ((f2 ρ).bind fun b => (asI b).bind fun i => .ok (some i)) → tPart (rdB X C W f2) σ H (fun o H1 => Ext C.T H H1 ∧ good o H1) := fun σ H O ρ good r p => by
  refine one r p fun a x H1 e1 _ rx p1 => ?_
  cases a with
  | int i => exact ⟨i, rx.int, e1, p1 H1 (Ext.refl _ _)⟩
  | _ => exact p1.elim
theorem wl_none : ∀ σ H O ρ (good : Option Int → Hp → Prop), Rel X.K C.T O σ H ρ → PostG C W H good (R.ok none) → tNoPart σ H (fun o H1 => Ext C.T H H1 ∧ good o H1) := fun σ H O ρ good r p => ⟨Ext.refl _ _, p H (Ext.refl _ _)⟩
theorem rdB_mono {σ : L2.St} {H : Hp} {Q Q' : VK} (h : rdB X C W f σ H Q) (m : ∀ v H', Q v H' → Q' v H') : rdB X C W f σ H Q' := by
  obtain ⟨O, ρ, r, p⟩ := h
  exact ⟨O, ρ, r, p.imp fun d H' _ q v rv => m _ _ (q v rv)⟩
theorem m_some {σ : L2.St} {H : Hp} {Q Q' : Option Int → Hp → Prop} (h : tPart (rdB X C W f) σ H Q) (m : ∀ o H', Q o H' → Q' o H') : tPart (rdB X C W f) σ H Q' :=
  rdB_mono h fun v H' ⟨i, e, q⟩ => ⟨i, e, m _ _ q⟩
theorem m_none {σ : L2.St} {H : Hp} {Q Q' : Option Int → Hp → Prop} (h : tNoPart σ H Q) (m : ∀ o H', Q o H' → Q' o H') : tNoPart σ H Q' := m _ _ h
theorem asI_some (r : R D) {β : Type} (k : Int → R β) : (r.bind fun b => (asI b).bind fun i => k i) = (r.bind fun b => (asI b).bind fun i => R.ok (some i)).bind fun l => match l with | some i => k i | none => .no := by
  cases r with
  | ok a => cases a <;> rfl
  | _ => rfl
theorem congrR {X : Cx} {e : Expr} {f g : Ev.Env → R D} (h : ∀ ρ, f ρ = g ρ) (s : SX X C W e f) : SX X C W e g := by
  have : f = g := funext h
  subst this; exact s
theorem sx_slL {p2 : Pos} (h1 : PE X e1 (rdB X C W f1)) (h2 : PE X e2 (rdB X C W f2)) : SX X C W (.Subscript e1 (.Slice (some e2) none none p2) pos) (fun ρ => (f1 ρ).bind fun a => (f2 ρ).bind fun b => (asI b).bind fun i => slD a (some i) none) := by
  refine congrR (fun ρ => ?_) (sx_sl (fl := fun ρ => (f2 ρ).bind fun b => (asI b).bind fun i => .ok (some i)) (fh := fun _ => .ok none) h1 (po_some h2) po_none wl_some wl_none m_some m_none)
  cases f1 ρ with
  | ok a => cases f2 ρ with
    | ok b => cases b <;> rfl
    | _ => rfl
  | _ => rfl
theorem sx_slH {p2 : Pos} (h1 : PE X e1 (rdB X C W f1)) (h2 : PE X e2 (rdB X C W f2)) : SX X C W (.Subscript e1 (.Slice none (some e2) none p2) pos) (fun ρ => (f1 ρ).bind fun a => (f2 ρ).bind fun b => (asI b).bind fun i => slD a none (some i)) := by
  refine congrR (fun ρ => ?_) (sx_sl (fl := fun _ => .ok none) (fh := fun ρ => (f2 ρ).bind fun b => (asI b).bind fun i => .ok (some i)) h1 po_none (po_some h2) wl_none wl_some m_none m_some)
  cases f1 ρ with
  | ok a => cases f2 ρ with
    | ok b => cases b <;> rfl
    | _ => rfl
  | _ => rfl
theorem sx_slB {p2 : Pos} (h1 : PE X e1 (rdB X C W f1)) (h2 : PE X e2 (rdB X C W f2)) (h3 : PE X e3 (rdB X C W f3)) : SX X C W (.Subscript e1 (.Slice (some e2) (some e3) none p2) pos) (fun ρ => (f1 ρ).bind fun a => (f2 ρ).bind fun b => (asI b).bind fun i => (f3 ρ).bind fun c => (asI c).bind fun j => slD a (some i) (some j)) := by
  refine congrR (fun ρ => ?_) (sx_sl (fl := fun ρ => (f2 ρ).bind fun b => (asI b).bind fun i => .ok (some i)) (fh := fun ρ => (f3 ρ).bind fun b => (asI b).bind fun i => .ok (some i)) h1 (po_some h2) (po_some h3) wl_some wl_some m_some m_some)
  cases f1 ρ with
  | ok a => cases f2 ρ with
    | ok b => cases b with
      | int i => cases f3 ρ with
        | ok c => cases c <;> rfl
        | _ => rfl
      | _ => rfl
    | _ => rfl
  | _ => rfl
end
end Ev

/-! EvSnd3: displays, calls, methods. -/
namespace Ev
open PySem PySem.Spec PyProof.Rows L2
section
variable {C : Cfg} {Γ : Gam} {T : Tbl} {n : Nat} {X : Cx} {W : Nat → Hp → Prop} {e e1 e2 e3 : Expr} {pos : Pos} {f f1 f2 f3 : Ev.Env → R D}
/-! ### rows of expressions -/
inductive SAs (X : Cx) (C : Cfg) (W : Nat → Hp → Prop) : List Expr → List (Ev.Env → R D) → Prop
  | nil : SAs X C W [] []
  | cons {e : Expr} {es : List Expr} {f : Ev.Env → R D} {fs : List (Ev.Env → R D)} : PE X e (rdE X C W f) → plainF e = true → SAs X C W es fs → SAs X C W (e :: es) (f :: fs)
def allF : List (Ev.Env → R D) → Ev.Env → R (List D)
  | [], _ => .ok []
  | f :: fs, ρ => (f ρ).bind fun d => (allF fs ρ).bind fun ds => .ok (d :: ds)
theorem sa_pa : ∀ {es : List Expr} {fs : List (Ev.Env → R D)}, SAs X C W es fs → PA X es (rdA X C W (allF fs))
  | [], _, .nil => paW pa_nil fun σ H Q q => by
    obtain ⟨O, ρ, r, p⟩ := q
    exact p H (Ext.refl _ _) [] .nil
  | e :: es, _, .cons (f := f) (fs := fs) h hp s => paW (pa_cons h (sa_pa s) (star_cons hp es X.env)) fun σ H Q q => by
    obtain ⟨O, ρ, r, p⟩ := q
    refine oneE r p fun a x H1 e1 _ rx p1 => ?_
    refine ⟨O, ρ, r.ext e1, p1.bind.imp fun ds H2 e2 p2 vs rv => ?_⟩
    exact p2 H2 (Ext.refl _ _) (x :: vs) (.cons (rx.ext e2.1.hm) rv)
theorem sa_star : ∀ {es : List Expr} {fs : List (Ev.Env → R D)}, SAs X C W es fs → ∀ (pos : Pos) (env : PySem.Env), (backTo pos (starEach es env)).any (·.1) = false
  | [], _, .nil, _, _ => rfl
  | e :: es, _, .cons h hp s, pos, env => by
    rw [star_cons hp es env]
    show (false || (backTo pos (starEach es env)).any (·.1)) = false
    rw [sa_star s pos env]; rfl
theorem sx_tup {es : List Expr} {fs : List (Ev.Env → R D)} {k : Nat} (s : SAs X C W es fs) : SX X C W (.Tuple es k pos) (fun ρ => (allF fs ρ).bind fun ds => if ds.length ≤ LIM then .ok (.tup ds) else .no) := by
  refine sx_val (peW (pe_tup (sa_pa s)) fun σ H Q q => ?_) rfl
  obtain ⟨O, ρ, r, p⟩ := q
  refine ⟨O, ρ, r, p.bind.imp fun ds H1 e1 p1 vs rv => ?_⟩
  split at p1
  · rename_i hl
    refine ⟨by rw [rv.length]; exact lim_le hl, fun a ha => ?_⟩
    exact p1 _ (Ext.new ha) _ (new_tup (r.ext e1).tr ha rv)
  · exact p1.elim
theorem sx_lst {es : List Expr} {fs : List (Ev.Env → R D)} (s : SAs X C W es fs) : SX X C W (.List es pos) (fun ρ => (allF fs ρ).bind fun ds => if ds.length ≤ LIM then .ok (.lst ds) else .no) := by
  refine sx_val (peW (pe_lst (sa_pa s)) fun σ H Q q => ?_) rfl
  obtain ⟨O, ρ, r, p⟩ := q
  refine ⟨O, ρ, r, p.bind.imp fun ds H1 e1 p1 vs rv => ?_⟩
  split at p1
  · rename_i hl
    refine ⟨by rw [rv.length]; exact lim_le hl, fun a ha => ?_⟩
    exact p1 _ (Ext.new ha) _ (new_lst (r.ext e1).tr ha rv)
  · exact p1.elim
/-! ### what is built in -/
theorem bi_of {x : Str} (g : Good0 C Γ T n X W) (h : biOk Γ x = true) : Gl X x ∧ X.mg x = none := by
  unfold biOk at h
  rw [Bool.and_eq_true] at h
  exact ⟨g.gl x h.1, g.bi x (List.contains_iff_mem.mp h.2)⟩
theorem rd_call1 {k : D → R D} (n : ∀ d, NoEx (k d)) (σ : L2.St) (H : Hp) (Q : VK) (q : rdE X C W (fun ρ => (f1 ρ).bind k) σ H Q) : tCB (RC X.K C.T k) (tCons (rdB X C W f1) tNil) σ H Q := by
  obtain ⟨O, ρ, r, p⟩ := q
  refine one r p fun a x H1 e1 t1 rx p1 => ?_
  obtain ⟨d, hd, q⟩ := p1.noEx (n a)
  exact ⟨O, x, a, d, rfl, t1, rx, hd, q⟩
theorem rd_call2 {k : D → D → R D} (n : ∀ d e, NoEx (k d e)) (σ : L2.St) (H : Hp) (Q : VK) (q : rdE X C W (fun ρ => (f1 ρ).bind fun a => (f2 ρ).bind fun b => k a b) σ H Q) : tCB (RC2 X.K C.T k) (tCons (rdB X C W f1) (tCons (rdB X C W f2) tNil)) σ H Q := by
  obtain ⟨O, ρ, r, p⟩ := q
  refine two r p fun a b x y H2 e2 t2 rx ry p2 => ?_
  obtain ⟨d, hd, q⟩ := p2.noEx (n a b)
  exact ⟨O, x, y, a, b, d, rfl, t2, rx, ry, hd, q⟩
theorem sx_callB {x : Str} {id : String} {k : D → R D} {p : Pos} (g : Good0 C Γ T n X W) (hc : CallR X (.builtin id) (RC X.K C.T k)) (hx : biOk Γ x = true) (hv : bootBuiltins x = some (.builtin id)) (hn : x ≠ "__name__") (hdb : (x == ("__debug__" : Str)) = false)
    (nx : ∀ d, NoEx (k d)) (h1 : PE X e1 (rdB X C W f1)) (p1 : plainF e1 = true) : SX X C W (.Call (.Name x p) [e1] [] pos) (fun ρ => (f1 ρ).bind k) := by
  obtain ⟨hg, hm⟩ := bi_of g hx
  exact sx_val (peW (pe_callB hc hg hm hv (pa_cons h1 pa_nil (star_cons p1 [] X.env)) hn hdb (star_cons p1 [] X.env) rfl) (rd_call1 nx)) rfl
theorem sx_callTy {x : Str} {id : String} {k : D → R D} {p : Pos} (g : Good0 C Γ T n X W) (hc : CallR X (.type id) (RC X.K C.T k)) (hx : biOk Γ x = true) (hv : bootBuiltins x = some (.type id)) (hn : x ≠ "__name__") (hdb : (x == ("__debug__" : Str)) = false)
    (nx : ∀ d, NoEx (k d)) (h1 : PE X e1 (rdB X C W f1)) (p1 : plainF e1 = true) : SX X C W (.Call (.Name x p) [e1] [] pos) (fun ρ => (f1 ρ).bind k) := by
  obtain ⟨hg, hm⟩ := bi_of g hx
  exact sx_val (peW (pe_callTy hc hg hm hv (pa_cons h1 pa_nil (star_cons p1 [] X.env)) hn hdb (star_cons p1 [] X.env) rfl) (rd_call1 nx)) rfl
theorem sx_bi (g : Good0 C Γ T n X W) (b : Bi) (hb : b ≠ .srtset) {p : Pos} (hx : biOk Γ (biName b) = true) (h1 : PE X e1 (rdB X C W f1)) (p1 : plainF e1 = true) : SX X C W (.Call (.Name (biName b) p) [e1] [] pos) (fun ρ => (f1 ρ).bind (biD b)) := by
  cases b with
  | len => exact sx_callB g cr_len hx boot_len (by decide +kernel) (by decide +kernel) (noEx_bi .len) h1 p1
  | tuple => exact sx_callTy g cr_tuple hx boot_tuple (by decide +kernel) (by decide +kernel) (noEx_bi .tuple) h1 p1
  | list => exact sx_callTy g (cr_list g.calm) hx boot_list (by decide +kernel) (by decide +kernel) (noEx_bi .list) h1 p1
  | sorted => exact sx_callB g (cr_sortedD g.calm g.hu) hx (by decide +kernel) (by decide +kernel) (by decide +kernel) (noEx_bi .sorted) h1 p1
  | srtset => exact absurd rfl hb
  | min1 => exact sx_callB g (cr_minD g.calm) hx boot_min (by decide +kernel) (by decide +kernel) (noEx_bi .min1) h1 p1
  | max1 => exact sx_callB g (cr_maxD g.calm) hx boot_max (by decide +kernel) (by decide +kernel) (noEx_bi .max1) h1 p1
  | sum => exact sx_callB g (cr_sumD g.calm) hx boot_sum (by decide +kernel) (by decide +kernel) (noEx_bi .sum) h1 p1
  | any => exact sx_callB g (cr_anyD g.calm) hx (by decide +kernel) (by decide +kernel) (by decide +kernel) (noEx_bi .any) h1 p1
  | all => exact sx_callB g (cr_allD g.calm) hx (by decide +kernel) (by decide +kernel) (by decide +kernel) (noEx_bi .all) h1 p1
  | int => exact sx_callTy g cr_int hx boot_int (by decide +kernel) (by decide +kernel) (noEx_bi .int) h1 p1
  | str => exact sx_callTy g cr_str hx boot_str (by decide +kernel) (by decide +kernel) (noEx_bi .str) h1 p1
  | repr =>
    have hr : CallR X (.builtin "repr") (RC X.K C.T (biD .repr)) := fun pins s σ H xs us Q I rv h => by
      obtain ⟨O, x, d, r, rfl, tr, hx, ho, q⟩ := h
      cases d <;> cases ho
    exact sx_callB g hr hx (by decide +kernel) (by decide +kernel) (by decide +kernel) (noEx_bi .repr) h1 p1
theorem sx_call2 {x : Str} {id : String} {k : D → D → R D} {p : Pos} (g : Good0 C Γ T n X W) (hc : CallR X (.builtin id) (RC2 X.K C.T k)) (hx : biOk Γ x = true) (hv : bootBuiltins x = some (.builtin id)) (hn : x ≠ "__name__") (hdb : (x == ("__debug__" : Str)) = false)
    (nx : ∀ d e, NoEx (k d e)) (h1 : PE X e1 (rdB X C W f1)) (h2 : PE X e2 (rdB X C W f2)) (p1 : plainF e1 = true) (p2 : plainF e2 = true) : SX X C W (.Call (.Name x p) [e1, e2] [] pos) (fun ρ => (f1 ρ).bind fun a => (f2 ρ).bind fun b => k a b) := by
  obtain ⟨hg, hm⟩ := bi_of g hx
  refine sx_val (peW (pe_callB hc hg hm hv (pa_cons h1 (pa_cons h2 pa_nil (star_cons p2 [] X.env)) (star_cons p1 [e2] X.env)) hn hdb (star_cons p1 [e2] X.env) ?_) (rd_call2 nx)) rfl
  rw [star_cons p2 [] X.env]; rfl
theorem sx_max2 (g : Good0 C Γ T n X W) {p : Pos} (hx : biOk Γ "max" = true) (h1 : PE X e1 (rdB X C W f1)) (h2 : PE X e2 (rdB X C W f2)) (p1 : plainF e1 = true) (p2 : plainF e2 = true) :
    SX X C W (.Call (.Name "max" p) [e1, e2] [] pos) (fun ρ => (f1 ρ).bind fun a => (f2 ρ).bind fun b => max2 a b) := sx_call2 g (cr_max2 g.calm) hx boot_max (by decide +kernel) (by decide +kernel) noEx_max2 h1 h2 p1 p2
theorem sx_min2 (g : Good0 C Γ T n X W) {p : Pos} (hx : biOk Γ "min" = true) (h1 : PE X e1 (rdB X C W f1)) (h2 : PE X e2 (rdB X C W f2)) (p1 : plainF e1 = true) (p2 : plainF e2 = true) :
    SX X C W (.Call (.Name "min" p) [e1, e2] [] pos) (fun ρ => (f1 ρ).bind fun a => (f2 ρ).bind fun b => min2 a b) := sx_call2 g (cr_min2 g.calm) hx boot_min (by decide +kernel) (by decide +kernel) noEx_min2 h1 h2 p1 p2
theorem sx_isi (g : Good0 C Γ T n X W) (t : Ty) {p pt : Pos} (hx : biOk Γ "isinstance" = true) (ht : biOk Γ (Str.ofString (tyName t)) = true) (h1 : PE X e1 (rdB X C W f1)) (p1 : plainF e1 = true) :
    SX X C W (.Call (.Name "isinstance" p) [e1, .Name (Str.ofString (tyName t)) pt] [] pos) (fun ρ => (f1 ρ).bind fun a => .ok (.bl (isiD t a))) := by
  obtain ⟨hg, hm⟩ := bi_of g hx
  obtain ⟨hg2, hm2⟩ := bi_of g ht
  have h2 : PE X (.Name (Str.ofString (tyName t)) pt) (tC (.ty (tyName t))) := by
    cases t with
    | str => exact pe_bltn hg2 hm2 boot_str rfl (by decide +kernel) (by decide +kernel)
    | int => exact pe_bltn hg2 hm2 boot_int rfl (by decide +kernel) (by decide +kernel)
    | bool => exact pe_bltn hg2 hm2 boot_bool rfl (by decide +kernel) (by decide +kernel)
    | tuple => exact pe_bltn hg2 hm2 boot_tuple rfl (by decide +kernel) (by decide +kernel)
  refine sx_val (peW (pe_callB (cr_isi t (T := C.T)) hg hm (by decide +kernel) (pa_cons h1 (pa_cons h2 pa_nil rfl) (star_cons p1 _ X.env)) (by decide +kernel) (by decide +kernel) (star_cons p1 _ X.env) rfl) fun σ H Q q => ?_) rfl
  obtain ⟨O, ρ, r, pg⟩ := q
  refine one r pg fun a x H1 e1 t1 rx p1 => ?_
  exact ⟨O, x, a, rfl, t1, rx, fun v H' e rv => p1 H' e v rv⟩
/-! ### methods -/
theorem base_of {o : Expr} (h : notCall0 o = true) (nm : Str) (env : PySem.Env) (w : Sem Value) : attributeBase o nm env w = w := by
  unfold attributeBase
  cases o with
  | Call f as ks p =>
    cases f with
    | Name id q =>
      cases as with
      | nil => cases ks with
        | nil => cases h
        | cons => rfl
      | cons => rfl
    | _ => rfl
  | _ => rfl
theorem tyV_str {K : PySem.W.Frag} {O : List Addr} {H : Hp} {x : V} {z : List Nat} (h : RepB K O H x (.str z)) : tyV K "str" x H := by
  rw [h.str]; rfl
theorem tyV_lst {K : PySem.W.Frag} {O : List Addr} {H : Hp} {x : V} {z : List D} (h : RepB K O H x (.lst z)) : tyV K "list" x H := by
  obtain ⟨a, vs, rfl, h1, h2⟩ := h
  exact .inl ⟨rfl, vs, h1⟩
end
end Ev

/-! EvSnd4: methods, calls of own defs. -/
namespace Ev
open PySem PySem.Spec PyProof.Rows L2
section
variable {C : Cfg} {Γ : Gam} {T : Tbl} {n : Nat} {X : Cx} {W : Nat → Hp → Prop} {e e1 e2 e3 : Expr} {pos apos : Pos} {f f1 f2 f3 : Ev.Env → R D}
theorem rd_mt {m : Mt} {Ty : String} (hty : ∀ {O H x a}, RepB X.K O H x a → recv m a = true → tyV X.K Ty x H) (σ : L2.St) (H : Hp) (Q : VK)
    (q : rdE X C W (fun ρ => (f1 ρ).bind fun a => if recv m a then (f2 ρ).bind fun b => mtD m a b else .no) σ H Q) :
    tBM X.K Ty (RM X.K C.T (mtD m)) (rdB X C W f1) (tCons (rdB X C W f2) tNil) σ H Q := by
  obtain ⟨O, ρ, r, p⟩ := q
  refine one r p fun a x H1 e1 t1 rx p1 => ?_
  cases hr : recv m a with
  | false => rw [hr, if_neg Bool.false_ne_true] at p1; exact p1.elim
  | true =>
    rw [hr, if_pos rfl] at p1
    refine ⟨hty rx hr, ?_⟩
    refine one (r.ext e1) p1 fun b y H2 e2 t2 ry p2 => ?_
    obtain ⟨d, hd, q⟩ := p2.noEx (noEx_mt m a b)
    exact ⟨O, a, y, b, d, rfl, t2, rx.ext e2.1, ry, hd, q⟩
theorem recv_str {m : Mt} (hm : m = .index ∨ m = .count → False) {K : PySem.W.Frag} {O : List Addr} {H : Hp} {x : V} {a : D} (h : RepB K O H x a) (hr : recv m a = true) : tyV K "str" x H := by
  cases a with
  | str z => exact tyV_str h
  | lst z => cases m <;> first | exact (hm (.inl rfl)).elim | exact (hm (.inr rfl)).elim | cases hr
  | _ => cases m <;> cases hr
theorem recv_lst {m : Mt} (hm : m = .index ∨ m = .count) {K : PySem.W.Frag} {O : List Addr} {H : Hp} {x : V} {a : D} (h : RepB K O H x a) (hr : recv m a = true) : tyV K "list" x H := by
  cases a with
  | lst z => exact tyV_lst h
  | _ => rcases hm with rfl | rfl <;> cases hr
theorem few1 (p2 : plainF e2 = true) (env : PySem.Env) : ((backTo pos (starEach [e2] env)).all (fun x => !x.1) && (backToKw pos (keywordEach [] env)).all (fun x => x.1.isSome)
      && decide ([e2].length + ([] : List Keyword).length + (if ([] : List Keyword).isEmpty then 0 else 1) < 30)) = true := by
  rw [star_cons p2 [] env]; rfl
theorem sx_mt (g : Good0 C Γ T n X W) (m : Mt) (hl : (apos.endLine == pos.line) = true) (hb : notCall0 e1 = true) (h1 : PE X e1 (rdB X C W f1)) (h2 : PE X e2 (rdB X C W f2)) (p2 : plainF e2 = true) :
    SX X C W (.Call (.Attribute e1 (mtName m) apos) [e2] [] pos) (fun ρ => (f1 ρ).bind fun a => if recv m a then (f2 ρ).bind fun b => mtD m a b else .no) := by
  have ha := pa_cons h2 pa_nil (star_cons p2 [] X.env)
  have hs := star_cons p2 [] X.env
  cases m with
  | startswith => exact sx_val (peW (pe_bm PySem.F.plainAttrs_str PySem.F.slot_str_startswith PySem.F.type_str_startswith (mt_startswithD (T := C.T)) h1 ha (base_of hb _ _ _) (few1 p2 _) hl hs rfl) (rd_mt (recv_str fun h => by rcases h with h | h <;> cases h))) rfl
  | join => exact sx_val (peW (pe_bm PySem.F.plainAttrs_str PySem.F.slot_str_join PySem.F.type_str_join (mt_joinD (T := C.T)) h1 ha (base_of hb _ _ _) (few1 p2 _) hl hs rfl) (rd_mt (recv_str fun h => by rcases h with h | h <;> cases h))) rfl
  | split => exact sx_val (peW (pe_bm PySem.F.plainAttrs_str PySem.F.slot_str_split PySem.F.type_str_split (mt_splitD (T := C.T)) h1 ha (base_of hb _ _ _) (few1 p2 _) hl hs rfl) (rd_mt (recv_str fun h => by rcases h with h | h <;> cases h))) rfl
  | index => exact sx_val (peW (pe_bm PySem.F.plainAttrs_list PySem.F.slot_list_index PySem.F.type_list_index (mt_indexD (T := C.T) g.hu64) h1 ha (base_of hb _ _ _) (few1 p2 _) hl hs rfl) (rd_mt (recv_lst (.inl rfl)))) rfl
  | count => exact sx_val (peW (pe_bm PySem.F.plainAttrs_list PySem.F.slot_list_count PySem.F.type_list_count (mt_countD (T := C.T) g.hu64) h1 ha (base_of hb _ _ _) (few1 p2 _) hl hs rfl) (rd_mt (recv_lst (.inr rfl)))) rfl
  | upper =>
    have hm : MtR X "str.upper" (RM X.K C.T (mtD .upper)) := fun pins s σ H x xs v us Q I rv rvs h => by
      obtain ⟨O, d, y, e, r, rfl, tr, hx, hy, ho, q⟩ := h
      cases d <;> cases ho
    exact sx_val (peW (pe_bm PySem.F.plainAttrs_str PySem.F.slot_str_upper PySem.F.type_str_upper hm h1 ha (base_of hb _ _ _) (few1 p2 _) hl hs rfl) (rd_mt (recv_str fun h => by rcases h with h | h <;> cases h))) rfl
theorem sx_upper (g : Good0 C Γ T n X W) (hl : (apos.endLine == pos.line) = true) (hb : notCall0 e1 = true) (h1 : PE X e1 (rdB X C W f1)) :
    SX X C W (.Call (.Attribute e1 "upper" apos) [] [] pos) (fun ρ => (f1 ρ).bind upperD) := by
  refine sx_val (peW (pe_bm0 PySem.F.plainAttrs_str PySem.F.slot_str_upper PySem.F.type_str_upper (mt_upperD (T := C.T)) h1 (base_of hb _ _ _) hl) fun σ H Q q => ?_) rfl
  obtain ⟨O, ρ, r, p⟩ := q
  refine one r p fun a x H1 e1 t1 rx p1 => ?_
  obtain ⟨d, hd, q⟩ := p1.noEx (noEx_upper a)
  refine ⟨?_, O, a, d, rfl, t1, rx, hd, q⟩
  cases a with
  | str z => exact tyV_str rx
  | _ => cases hd
/-! ### own defs -/
theorem fn_of {x : Str} {k : Nat} (g : Good0 C Γ T n X W) (h : fnOk Γ x k = true) : Gl X x ∧ (x == ("__debug__" : Str)) = false ∧ (x == ("__classdict__" : Str)) = false ∧ ∃ a fd ps, X.mg x = some (.ref a) ∧ PySem.W.keepIn X.K (.ref a) = true ∧ Binds X.K fd ps [] ∧ FnOk X.prog X.w X.K X.mg X.base (L2.CX X.prog X.w) n a fd ps (spOf C X.K (T 0 k)) := by
  unfold fnOk okName at h
  simp only [Bool.and_eq_true, Bool.not_eq_true', List.contains_iff_mem] at h
  exact ⟨g.gl x h.1.1, h.1.2.1, h.1.2.2, g.fn (x, k) h.2⟩
theorem sx_call {x : Str} {k : Nat} {p : Pos} {e : Expr} {es : List Expr} {fs : List (Ev.Env → R D)} (g : Good0 C Γ T n X W) (h : fnOk Γ x k = true) (s : SAs X C W (e :: es) fs) :
    SX X C W (.Call (.Name x p) (e :: es) [] pos) (fun ρ => (allF fs ρ).bind fun ds => T 0 k ds) := by
  obtain ⟨hg, hdb, hcd, a, fd, ps, hm, hk, hb, F⟩ := fn_of g h
  have hs : starEach (e :: es) X.env = (false, PySem.eval e X.env) :: starEach es X.env := by
    cases s with
    | cons h1 hp _ => exact star_cons hp es X.env
  have hpl : (backTo pos (starEach es X.env)).any (·.1) = false := by
    cases s with
    | cons h1 hp s => exact sa_star s pos X.env
  refine sx_val (peW (pe_callS F g.room hg hm hk hb (passAt g.takes) (sa_pa s) hdb hs hpl) fun σ H Q q => ?_) rfl
  obtain ⟨O, ρ, r, p⟩ := q
  refine ⟨O, ρ, r, p.bind.imp fun ds H1 e1 p1 vs rv => ?_⟩
  refine ⟨O, ds, (r.ext e1).tr, (r.ext e1).tab, rv, ?_⟩
  show PostG C (fun c H' => wishW C W (C.cls c) none σ H') H1 (goodV X.K O Q) (T 0 k ds)
  cases hT : T 0 k ds with
  | no => rw [hT] at p1; exact p1.elim
  | ok d => rw [hT] at p1; exact p1
  | ex c => rw [hT] at p1; exact fun H' e' => ⟨c, rfl, rfl, p1 H' e'⟩
end
end Ev

/-! EvDict: dicts of one's own. -/
namespace Ev
open PySem PySem.Spec PyProof.Rows L2
theorem Sx_inj {x y : List Nat} (h : Sx x = Sx y) : x = y := by
  have := congrArg (fun s : Str => s.cps.toList) h
  simpa [SX.S_tl] using this
theorem keyOf_inj {x y : List Nat} : keyOf x = keyOf y ↔ x = y := ⟨fun h => Sx_inj (Sum.inr.inj h), fun h => by rw [h]⟩
section
variable {K : PySem.W.Frag} {H : Hp}
theorem kv_get : ∀ {kvs : List (L2.Key × V)} {ks : List (List Nat)} {vs : List D} (k : List Nat), kvs.map (·.1) = ks.map keyOf → Reps K H (kvs.map (·.2)) vs →
    (∀ d, dget ks vs k = some d → ∃ v, valV kvs (keyOf k) = some v ∧ Rep K H v d) ∧ (dget ks vs k = none → valV kvs (keyOf k) = none) ∧ (valV kvs (keyOf k)).isSome = ks.contains k
  | [], ks, vs, k, h, r => by
    cases ks with
    | nil => cases r; exact ⟨(fun d h => by cases h), fun _ => rfl, rfl⟩
    | cons a b => cases h
  | (k', v) :: kvs, [], vs, k, h, r => by cases h
  | (k', v) :: kvs, x :: ks, vs, k, h, r => by
    rw [List.map_cons] at r
    cases r with
    | cons r1 r2 =>
      rename_i d ds
      rw [List.map_cons, List.map_cons, List.cons.injEq] at h
      obtain ⟨h1, h2⟩ := h
      simp only at h1
      subst h1
      have ih := kv_get k h2 r2
      by_cases e : k = x
      · subst e
        have e1 : dget (k :: ks) (d :: ds) k = some d := by unfold dget; rw [List.zip_cons_cons, List.lookup_cons]; simp
        have e2 : valV ((keyOf k, v) :: kvs) (keyOf k) = some v := valV_pos (p := (keyOf k, v)) rfl
        refine ⟨fun d' h' => ?_, fun h' => ?_, ?_⟩
        · rw [e1] at h'; cases h'; exact ⟨v, e2, r1⟩
        · rw [e1] at h'; cases h'
        · rw [e2]; simp
      · have e1 : dget (x :: ks) (d :: ds) k = dget ks ds k := by
          unfold dget; rw [List.zip_cons_cons, List.lookup_cons]
          rw [show (k == x) = false from beq_eq_false_iff_ne.mpr e]
        have e2 : valV ((keyOf x, v) :: kvs) (keyOf k) = valV kvs (keyOf k) := valV_neg (p := (keyOf x, v)) fun z => e (keyOf_inj.mp z).symm
        rw [e1, e2]
        refine ⟨ih.1, ih.2.1, ?_⟩
        rw [ih.2.2, List.contains_cons, show (k == x) = false from beq_eq_false_iff_ne.mpr e, Bool.false_or]
theorem any_keyOf (k : List Nat) : ∀ ks : List (List Nat), ks.any ((fun a => decide (a = keyOf k)) ∘ keyOf) = ks.contains k
  | [] => rfl
  | x :: ks => by
    rw [List.any_cons, List.contains_cons, any_keyOf k ks]
    congr 1
    by_cases e : k = x
    · subst e; simp
    · rw [show (k == x) = false from beq_eq_false_iff_ne.mpr e]
      exact decide_eq_false fun z => e (keyOf_inj.mp z).symm
theorem putK_any {kvs : List (L2.Key × V)} {ks : List (List Nat)} {k : List Nat} (h : kvs.map (·.1) = ks.map keyOf) : (kvs.any fun kv => decide (kv.1 = keyOf k)) = ks.contains k := by
  have e : (kvs.any fun kv => decide (kv.1 = keyOf k)) = (kvs.map (·.1)).any fun a => decide (a = keyOf k) := by rw [List.any_map]; rfl
  rw [e, h, List.any_map]
  exact any_keyOf k ks
theorem putK_mem : ∀ {ks : List (List Nat)} {k x : List Nat}, x ∈ putK ks k ↔ x ∈ ks ∨ x = k
  | [], k, x => by simp [putK]
  | y :: ks, k, x => by
    unfold putK
    by_cases e : y = k
    · rw [if_pos e]; subst e; simp only [List.mem_cons]
      constructor
      · rintro (h | h) <;> simp [h]
      · rintro ((h | h) | h) <;> simp [h]
    · rw [if_neg e, List.mem_cons, putK_mem, List.mem_cons]; exact ⟨fun h => by rcases h with h | h | h <;> simp [h], fun h => by rcases h with (h | h) | h <;> simp [h]⟩
theorem putK_nodup : ∀ {ks : List (List Nat)} {k : List Nat}, ks.Nodup → (putK ks k).Nodup
  | [], k, _ => by simp [putK]
  | y :: ks, k, h => by
    unfold putK
    by_cases e : y = k
    · rw [if_pos e]; exact h
    · rw [if_neg e, List.nodup_cons, putK_mem]
      rw [List.nodup_cons] at h
      exact ⟨fun z => by rcases z with z | z; exact h.1 z; exact e z, putK_nodup h.2⟩
theorem putK_old : ∀ {ks : List (List Nat)} {k : List Nat}, k ∈ ks → putK ks k = ks
  | [], k, h => by cases h
  | y :: ks, k, h => by
    unfold putK
    by_cases e : y = k
    · rw [if_pos e]
    · rw [if_neg e, putK_old (by rcases List.mem_cons.mp h with z | z; exact absurd z.symm e; exact z)]
theorem putK_fresh : ∀ {ks : List (List Nat)} {k : List Nat}, k ∉ ks → putK ks k = ks ++ [k]
  | [], k, h => rfl
  | y :: ks, k, h => by
    unfold putK
    rw [if_neg fun e => h (by rw [e]; exact List.mem_cons_self), putK_fresh fun z => h (List.mem_cons_of_mem _ z), List.cons_append]
theorem putV_fresh : ∀ {ks : List (List Nat)} {vs : List D} {k : List Nat} {d : D}, ks.length = vs.length → k ∉ ks → putV ks vs k d = vs ++ [d]
  | [], [], k, d, _, _ => rfl
  | [], _ :: _, _, _, h, _ => by cases h
  | _ :: _, [], _, _, h, _ => by cases h
  | y :: ks, v :: vs, k, d, h, n => by
    unfold putV
    rw [if_neg fun e => n (by rw [e]; exact List.mem_cons_self), putV_fresh (by simpa using h) fun z => n (List.mem_cons_of_mem _ z), List.cons_append]
theorem map_put_none {kvs : List (L2.Key × V)} {k : L2.Key} {v : V} (h : ∀ p ∈ kvs, p.1 ≠ k) : kvs.map (fun kv => if kv.1 = k then (kv.1, v) else kv) = kvs := by
  have := List.map_congr_left (f := fun kv : L2.Key × V => if kv.1 = k then (kv.1, v) else kv) (g := id) fun p hp => if_neg (h p hp)
  rw [this, List.map_id]
theorem map_put : ∀ {kvs : List (L2.Key × V)} {ks : List (List Nat)} {vs : List D} {k : List Nat} {v : V} {d : D}, kvs.map (·.1) = ks.map keyOf → Reps K H (kvs.map (·.2)) vs → ks.Nodup → k ∈ ks → Rep K H v d →
    (kvs.map fun kv => if kv.1 = keyOf k then (kv.1, v) else kv).map (·.1) = ks.map keyOf ∧ Reps K H ((kvs.map fun kv => if kv.1 = keyOf k then (kv.1, v) else kv).map (·.2)) (putV ks vs k d)
  | [], ks, vs, k, v, d, h, r, nd, hk, hr => by
    cases ks with
    | nil => cases hk
    | cons a b => cases h
  | (k', v') :: kvs, [], vs, k, v, d, h, r, nd, hk, hr => by cases h
  | (k', v') :: kvs, x :: ks, vs, k, v, d, h, r, nd, hk, hr => by
    rw [List.map_cons] at r
    cases r with
    | cons r1 r2 =>
      rename_i d' ds
      rw [List.map_cons, List.map_cons, List.cons.injEq] at h
      obtain ⟨h1, h2⟩ := h
      simp only at h1
      subst h1
      rw [List.nodup_cons] at nd
      by_cases e : x = k
      · subst e
        have hno : ∀ p ∈ kvs, p.1 ≠ keyOf x := fun p hp z => by
          have : p.1 ∈ kvs.map (·.1) := List.mem_map.mpr ⟨p, hp, rfl⟩
          rw [h2, z, List.mem_map] at this
          obtain ⟨y, hy, e⟩ := this
          rw [keyOf_inj] at e
          subst e; exact nd.1 hy
        rw [List.map_cons, map_put_none hno, if_pos rfl, putV, if_pos rfl]
        exact ⟨by rw [List.map_cons, List.map_cons, h2], .cons hr r2⟩
      · have hk' : k ∈ ks := by rcases List.mem_cons.mp hk with z | z; exact absurd z.symm e; exact z
        obtain ⟨i1, i2⟩ := map_put h2 r2 nd.2 hk' hr
        rw [List.map_cons, if_neg fun z => e (keyOf_inj.mp z), putV, if_neg e]
        exact ⟨by rw [List.map_cons, List.map_cons, i1], .cons r1 i2⟩
theorem kv_put {kvs : List (L2.Key × V)} {ks : List (List Nat)} {vs : List D} {k : List Nat} {v : V} {d : D} (h : KvOk K H kvs ks vs) (hr : Rep K H v d) : KvOk K H (L2.putK kvs (keyOf k) v) (putK ks k) (putV ks vs k d) := by
  obtain ⟨h1, h2, h3⟩ := h
  refine ⟨?_, ?_, putK_nodup h3⟩ <;> unfold L2.putK <;> rw [putK_any h1]
  · by_cases e : k ∈ ks
    · rw [if_pos (by simpa using e), putK_old e]; exact (map_put h1 h2 h3 e hr).1
    · rw [if_neg (by simpa using e), putK_fresh e, List.map_append, List.map_append, h1]; rfl
  · by_cases e : k ∈ ks
    · rw [if_pos (by simpa using e)]; exact (map_put h1 h2 h3 e hr).2
    · have hl : ks.length = vs.length := by
        have := congrArg List.length h1
        rw [List.length_map, List.length_map] at this
        rw [← this, ← h2.length, List.length_map]
      rw [if_neg (by simpa using e), putV_fresh hl e, List.map_append]
      exact h2.app (.cons hr .nil)
theorem kv_len {kvs : List (L2.Key × V)} {ks : List (List Nat)} {vs : List D} (h : KvOk K H kvs ks vs) : kvs.length = ks.length := by
  have := congrArg List.length h.1
  rwa [List.length_map, List.length_map] at this
end
end Ev

/-! EvSnd5: what is asked of dicts. -/
namespace Ev
open PySem PySem.Spec PyProof.Rows L2
section
variable {C : Cfg} {Γ : Gam} {T : Tbl} {n : Nat} {X : Cx} {W : Nat → Hp → Prop} {e e1 e2 e3 : Expr} {pos apos : Pos} {f f1 f2 f3 : Ev.Env → R D}
theorem Good0.hu1 (g : Good0 C Γ T n X W) : X.A.units + 1 < cLine := by
  have := g.room.un
  omega
theorem plainNo (h : plainF e = true) : NoSl e := plainIx h
/-- a dict's place -/
theorem od_at {O : List Addr} {σ : L2.St} {H : Hp} {ρ : Ev.Env} {K : PySem.W.Frag} {Tb : Tab} {i : Nat} {ks : List (List Nat)} {vs : List D} (r : Rel K Tb O σ H ρ) (h : ρ[i]? = some (.od ks vs)) :
    ∃ a kvs, σ[i]? = some (some (V.ref a)) ∧ a ∈ O ∧ H a = some (.dK kvs) ∧ KvOk K (Hm O H) kvs ks vs := by
  obtain ⟨a, h1, h2, kvs, h3, h4⟩ := r.ow i _ h rfl
  exact ⟨a, kvs, h1, h2, h3, h4⟩
theorem sx_dix {i : Nat} {y : Str} {p : Pos} (g : Good0 C Γ T n X W) (hy : nameOk Γ i y = true) (h1 : PE X e1 (rdB X C W f1)) (p1 : plainF e1 = true) :
    SX X C W (.Subscript (.Name y p) e1 pos) (fun ρ => match ρ[i]? with | some (.od ks vs) => (f1 ρ).bind fun a => (asS a).bind fun k => opt (dget ks vs k) | _ => .no) := by
  refine sx_val (peW (pe_dget g.hu1 (pe_v g hy) h1 (plainNo p1)) fun σ H Q q => ?_) rfl
  obtain ⟨O, ρ, r, p⟩ := q
  dsimp only at p
  split at p
  · rename_i ks vs hi
    obtain ⟨a, kvs, e1, _, _, _⟩ := od_at r hi
    refine ⟨_, e1, one r p fun d x H1 e2 t2 rx p2 => ?_⟩
    obtain ⟨a', kvs, e3, hO, e4, hk⟩ := od_at (r.ext e2) hi
    have ea : a' = a := by rw [e1] at e3; exact (V.ref.inj (Option.some.inj (Option.some.inj e3))).symm
    subst ea
    cases d with
    | str z =>
      obtain ⟨d', hd, q⟩ := p2.noEx (noEx_opt _)
      obtain ⟨v, hv, hr⟩ := (kv_get z hk.1 hk.2.1).1 d' (opt_ok hd)
      have := rx.str
      subst this
      exact ⟨a', v, rfl, .inl ⟨kvs, keyOf z, .inl e4, rfl, hv.symm⟩, q v H1 (Ext.refl _ _) hr⟩
    | _ => exact p2.elim
  · exact p.elim
theorem din_rd {i : Nat} {b : Bool} (σ : L2.St) (H : Hp) (Q : VK) (q : rdE X C W (fun ρ => (f1 ρ).bind fun a => (asS a).bind fun k => match ρ[i]? with | some (.od ks _) => .ok (.bl (xor b (ks.contains k))) | _ => .no) σ H Q) :
    rdB X C W f1 σ H fun y H1 => tVar i σ H1 fun x H2 => ∃ a o, x = .ref a ∧ DGet H2 a y o ∧ Q (.bl (xor b o.isSome)) H2 := by
  obtain ⟨O, ρ, r, p⟩ := q
  refine one r p fun d x H1 e2 t2 rx p2 => ?_
  cases d with
  | str z =>
    replace p2 : PostG C W H1 (goodV X.K O Q) (match ρ[i]? with | some (.od ks _) => .ok (.bl (xor b (ks.contains z))) | _ => .no) := p2
    split at p2
    · rename_i ks vs hi
      obtain ⟨a, kvs, e1, hO, e4, hk⟩ := od_at (r.ext e2) hi
      have := rx.str
      subst this
      refine ⟨_, e1, a, valV kvs (keyOf z), rfl, .inl ⟨kvs, keyOf z, .inl e4, rfl, rfl⟩, ?_⟩
      rw [(kv_get z hk.1 hk.2.1).2.2]
      exact p2 H1 (Ext.refl _ _) _ (.bl _)
    · exact p2.elim
  | _ => exact p2.elim
theorem sx_din {i : Nat} {y : Str} {p : Pos} (g : Good0 C Γ T n X W) (hy : nameOk Γ i y = true) (h1 : PE X e1 (rdB X C W f1)) :
    SX X C W (.Compare e1 [.In] [.Name y p] pos) (fun ρ => (f1 ρ).bind fun a => (asS a).bind fun k => match ρ[i]? with | some (.od ks _) => .ok (.bl (ks.contains k)) | _ => .no) := by
  refine sx_both (pe_cmp (pc_din g.hu1 h1 (pe_v g hy))) (pt_cmp (pc_din g.hu1 h1 (pe_v g hy))) fun σ H Q q => ?_
  have := din_rd (b := false) (f1 := f1) (i := i) (X := X) (C := C) (W := W) σ H Q (by simpa only [Bool.false_xor] using q)
  simp only [Bool.false_xor] at this
  exact this
theorem sx_dnin {i : Nat} {y : Str} {p : Pos} (g : Good0 C Γ T n X W) (hy : nameOk Γ i y = true) (h1 : PE X e1 (rdB X C W f1)) :
    SX X C W (.Compare e1 [.NotIn] [.Name y p] pos) (fun ρ => (f1 ρ).bind fun a => (asS a).bind fun k => match ρ[i]? with | some (.od ks _) => .ok (.bl (!ks.contains k)) | _ => .no) := by
  refine sx_both (pe_cmp (pc_dnotin g.hu1 h1 (pe_v g hy))) (pt_cmp (pc_dnotin g.hu1 h1 (pe_v g hy))) fun σ H Q q => ?_
  have := din_rd (b := true) (f1 := f1) (i := i) (X := X) (C := C) (W := W) σ H Q (by simpa only [Bool.true_xor] using q)
  simp only [Bool.true_xor] at this
  exact this
/-! ### len, sorted, != {} -/
theorem cr_lenDict : CallR X (.builtin "len") (fun xs H Q => ∃ a kvs, xs = [.ref a] ∧ Rd H a (.dK kvs) ∧ Q (.int kvs.length) H) := by
  intro pins s σ H xs us Q I rv h
  obtain ⟨a, kvs, rfl, hd, q⟩ := h
  obtain ⟨u, rfl, ru⟩ := vals1 rv
  obtain rfl : u = Value.ref a := ru
  exact d_len I hd fun t s' I' => ⟨.int kvs.length, H, I', ⟨t, rfl⟩, q⟩
theorem sx_dlen {i : Nat} {y : Str} {p p2 : Pos} (g : Good0 C Γ T n X W) (hx : biOk Γ "len" = true) (hy : nameOk Γ i y = true) :
    SX X C W (.Call (.Name "len" p) [.Name y p2] [] pos) (fun ρ => match ρ[i]? with | some (.od ks _) => .ok (.int ks.length) | _ => .no) := by
  obtain ⟨hg, hm⟩ := bi_of g hx
  refine sx_val (peW (pe_callB cr_lenDict hg hm boot_len (pa_cons (pe_v g hy) pa_nil rfl) (by decide +kernel) (by decide +kernel) rfl rfl) fun σ H Q q => ?_) rfl
  obtain ⟨O, ρ, r, p⟩ := q
  dsimp only at p
  split at p
  · rename_i ks vs hi
    obtain ⟨a, kvs, e1, _, e4, hk⟩ := od_at r hi
    refine ⟨_, e1, a, kvs, rfl, .inl e4, ?_⟩
    rw [kv_len hk]
    exact p H (Ext.refl _ _) _ (.int _)
  · exact p.elim
theorem reps_keys {K : PySem.W.Frag} {H : Hp} (ks : List (List Nat)) : Reps K H (ks.map fun k => V.str (Sx k)) (ks.map .str) := Reps.textsR ks
theorem vals_keys : ∀ (ks : List (List Nat)) (us : List Value), us.length = ks.length → (∀ (j : Nat) (v : Value), us[j]? = some v → ∃ (k : List Nat) (t : Tok), ks[j]? = some k ∧ v = Value.str (Sx k) t) → Vals (ks.map fun k => V.str (Sx k)) us
  | [], [], _, _ => .nil
  | [], _ :: _, h, _ => by cases h
  | _ :: _, [], h, _ => by cases h
  | k :: ks, u :: us, h, h' => by
    obtain ⟨k', t, e1, e2⟩ := h' 0 u rfl
    have e1 : k = k' := Option.some.inj e1
    subst e1
    exact .cons ⟨t, e2⟩ (vals_keys ks us (by simpa using h) fun j v e => h' (j + 1) v (by simpa using e))
theorem cr_sortDict (hc : X.calm = true) (hu : X.A.units + 128 < cLine) : CallR X (.builtin "sorted") (fun xs H Q => ∃ (O : List Addr) (a : Addr) (kvs : List (L2.Key × V)) (ks : List (List Nat)) (r : D), xs = [.ref a] ∧ TrO O H ∧ H a = some (.dK kvs) ∧ kvs.map (·.1) = ks.map keyOf ∧ sortD (ks.map .str) = .ok r ∧ ∀ v H', Ext C.T H H' → Rep X.K (Hm O H') v r → Q v H') := by
  intro pins s σ H xs us Q I rv h
  obtain ⟨O, a, kvs, ks, r, rfl, tr, hd, hks, ho, q⟩ := h
  obtain ⟨u, rfl, ru⟩ := vals1 rv
  obtain rfl : u = Value.ref a := ru
  obtain ⟨z, lo, vs, rel, dd⟩ := dk_rd I.hok (.inl hd)
  obtain ⟨ep, hat⟩ := dd.dictAt
  have hkeys : vs.map (·.1) = ks.map keyOf := rel.keys.symm.trans hks
  have hl : vs.length = ks.length := by
    have e := congrArg List.length hkeys
    rwa [List.length_map, List.length_map] at e
  have h16 : vs.length ≤ sizeLine := by
    have := (sortD_ok ho).2.1
    rw [List.length_map] at this
    rw [hl]; exact lim_le this
  refine sorted_by (T := C.T) hu ho tr (vs := ks.map fun k => V.str (Sx k)) (PySem.W.kdu_collect (A := X.A.in1) (PySem.W.kdl_dict (knd := mixKind X.prog X.w) (kvs := vs) (ep := ep) lo) (I.ok.hd hc) hat h16 fun h' tk acc hk hacc => ?_) (reps_keys ks) q
  refine ⟨I.kept hk, ?_⟩
  have hal : acc.toList.length = ks.length := by rw [Array.length_toList, hacc.1, hl]
  have hat : ∀ j v, acc.toList[j]? = some v → ∃ (k : List Nat) (t : Tok), ks[j]? = some k ∧ v = Value.str (Sx k) t := fun j v e => by
    obtain ⟨k, x, e1, e2⟩ := hacc.2 j v (by rw [← Array.getElem?_toList]; exact e)
    have e3 : (vs.map (·.1))[j]? = some k := by rw [List.getElem?_map, e1]; all_goals rfl
    rw [hkeys, List.getElem?_map] at e3
    cases e4 : ks[j]? with
    | none => rw [e4] at e3; cases e3
    | some y =>
      rw [e4] at e3
      have e5 : keyOf y = k := Option.some.inj e3
      subst e5
      obtain ⟨t, ev⟩ := Value.isStrOf_shape (x := Sx y) (v := v) e2
      exact ⟨y, t, e4, ev⟩
  exact vals_keys ks acc.toList hal hat
theorem sx_dsort {i : Nat} {y : Str} {p p2 : Pos} (g : Good0 C Γ T n X W) (hx : biOk Γ "sorted" = true) (hy : nameOk Γ i y = true) :
    SX X C W (.Call (.Name "sorted" p) [.Name y p2] [] pos) (fun ρ => match ρ[i]? with | some (.od ks _) => sortD (ks.map .str) | _ => .no) := by
  obtain ⟨hg, hm⟩ := bi_of g hx
  refine sx_val (peW (pe_callB (cr_sortDict (C := C) g.calm g.hu) hg hm (by decide +kernel) (pa_cons (pe_v g hy) pa_nil rfl) (by decide +kernel) (by decide +kernel) rfl rfl) fun σ H Q q => ?_) rfl
  obtain ⟨O, ρ, r, p⟩ := q
  dsimp only at p
  split at p
  · rename_i ks vs hi
    obtain ⟨a, kvs, e1, _, e4, hk⟩ := od_at r hi
    obtain ⟨d, hd, q⟩ := p.noEx (noEx_sort _)
    exact ⟨_, e1, O, a, kvs, ks, d, rfl, r.tr, e4, hk.1, hd, q⟩
  · exact p.elim
theorem op_neEmpty (hu : X.A.units < cLine) : OpR X (compareOp .NotEq) (fun x y H Q => ∃ a b kvs, x = .ref a ∧ y = .ref b ∧ H a = some (.dK kvs) ∧ H b = some (.dK []) ∧ Q (.bl (!kvs.isEmpty)) H) := by
  intro pins s σ H x y v u Q I rx ry h
  obtain ⟨a, b, ks, rfl, rfl, ea, eb, q⟩ := h
  obtain rfl : v = Value.ref a := rx
  obtain rfl : u = Value.ref b := ry
  obtain ⟨_, ya, va, ra, da⟩ := (show ObjOk X.prog X.w H s.heap a (.dK ks) from I.hok a _ ea)
  obtain ⟨_, yb, vb, rb, db⟩ := (show ObjOk X.prog X.w H s.heap b (.dK []) from I.hok b _ eb)
  cases rb
  have hl := ra.length
  refine PySem.W.keq_ne (knd := mixKind X.prog X.w) (r := true) ya yb da db hu (fun z => ?_) (fin_bl I q ?_)
  · have : va = [] := List.eq_nil_of_length_eq_zero z
    subst this
    cases ra
    exact .nil
  · cases ks with
    | nil => cases ra; rfl
    | cons p r => cases ra; rfl
theorem sx_dne {i : Nat} {y : Str} {p p2 : Pos} (g : Good0 C Γ T n X W) (hy : nameOk Γ i y = true) :
    SX X C W (.Compare (.Name y p) [.NotEq] [.Dict [] [] p2] pos) (fun ρ => match ρ[i]? with | some (.od ks _) => .ok (.bl (!ks.isEmpty)) | _ => .no) := by
  have hu : X.A.units < cLine := by have := g.room.un; omega
  refine sx_both (pe_cmpR (op_neEmpty hu) (pe_v g hy) pe_dnewK rfl) (pt_cmpR (op_neEmpty hu) (pe_v g hy) pe_dnewK rfl) fun σ H Q q => ?_
  obtain ⟨O, ρ, r, p⟩ := q
  dsimp only at p
  split at p
  · rename_i ks vs hi
    obtain ⟨a, kvs, e1, hO, e4, hk⟩ := od_at r hi
    refine ⟨_, e1, fun b hb => ⟨a, b, kvs, rfl, rfl, by rw [upd_ne (ne_of_none e4 hb)]; exact e4, if_pos rfl, ?_⟩⟩
    have : kvs.isEmpty = ks.isEmpty := by
      have := kv_len hk
      cases kvs <;> cases ks <;> first | rfl | cases this
    rw [this]
    exact p _ (Ext.new hb) _ (.bl _)
  · exact p.elim
end
end Ev

set_option maxHeartbeats 4000000
/-! EvRev: x[::-1]. -/
namespace Ev
open PySem PySem.Spec PyProof.Rows L2 HT
section
variable {prog : Program} {w : World} {A : Around} {E : Value → Shared → Prop} {s : Shared}
theorem adjust_down (n : Nat) : Builtin.Slice.sliceAdjust none none (-1) (n : Int) = ((n : Int) - 1, -1) := by
  unfold Builtin.Slice.sliceAdjust
  rfl
theorem places_down (n : Nat) : Builtin.Slice.slicePlaces ((n : Int) - 1) (-1) (-1) = n := by
  unfold Builtin.Slice.slicePlaces
  rw [if_neg (by decide)]
  split
  · rw [show (-(-1) : Int) = 1 from rfl, Int.ediv_one]; omega
  · omega
theorem fm_congr {α β : Type} {f g : α → Option β} : ∀ {l : List α}, (∀ m ∈ l, f m = g m) → l.filterMap f = l.filterMap g
  | [], _ => rfl
  | a :: l, h => by rw [List.filterMap_cons, List.filterMap_cons, h a List.mem_cons_self, fm_congr fun m hm => h m (List.mem_cons_of_mem _ hm)]
theorem pick_down (xs : Array Value) : ((List.range xs.size).filterMap fun (m : Nat) => xs[(((xs.size : Nat) : Int) - 1 + (m : Int) * -1).toNat]?).toArray = xs.toList.reverse.toArray := by
  congr 1
  have e : ∀ m ∈ List.range xs.size, xs[(((xs.size : Nat) : Int) - 1 + (m : Int) * -1).toNat]? = xs.toList.reverse[m]? := fun m hm => by
    have hm := List.mem_range.mp hm
    have h1 : (((xs.size : Nat) : Int) - 1 + (m : Int) * -1).toNat = xs.size - 1 - m := by omega
    rw [h1, List.getElem?_reverse (by rw [Array.length_toList]; exact hm), Array.length_toList, Array.getElem?_toList]
  have e2 : ((List.range xs.size).filterMap fun (m : Nat) => xs[(((xs.size : Nat) : Int) - 1 + (m : Int) * -1).toNat]?) = (List.range xs.size).filterMap fun m => xs.toList.reverse[m]? := fm_congr e
  rw [e2]
  have := PySem.W.krv_all xs.toList.reverse.toArray
  simpa using this
theorem sliceApplied_down {sl : Addr} {vl vu vs : Value} {n : Nat} {Q : Int × Int × Nat → Shared → Prop} (hs : s.heap.IsSliceOf sl vl vu vs) (pl : IsPart vl none) (pu : IsPart vu none) (ps : IsPart vs (some (-1)))
    (h : Q ((n : Int) - 1, -1, n) s) : wpAny (model prog w) A (Builtin.Slice.sliceApplied (.ref sl) (pure (n : Int))) Q E s := by
  obtain ⟨os, hos, hcs, hds⟩ := id hs
  unfold Builtin.Slice.sliceApplied Builtin.Slice.sliceFields
  refine wpAny_bind (wpAny_bind (wpAny_field hos hds (x := vl) rfl (wpAny_bind (wpAny_field hos hds (x := vu) rfl (wpAny_bind (wpAny_field hos hds (x := vs) rfl (wpAny_pure ?_)))))))
  refine wpAny_bind (slicePart_ ps ?_)
  show wpAny _ _ (if ((-1 : Int) == 0) = true then _ else _) _ _ s
  rw [if_neg (by decide)]
  refine wpAny_bind (slicePart_ pl (wpAny_bind (slicePart_ pu (wpAny_bind (wpAny_pure ?_)))))
  show wpAny _ _ (match Builtin.Slice.sliceAdjust none none (-1) (n : Int) with | (lo, hi) => pure (lo, (-1 : Int), Builtin.Slice.slicePlaces lo hi (-1))) _ _ s
  rw [adjust_down n]
  show wpAny _ _ (pure ((n : Int) - 1, (-1 : Int), Builtin.Slice.slicePlaces ((n : Int) - 1) (-1) (-1))) _ _ s
  rw [places_down]
  exact wpAny_pure h
theorem getItem_tuple_rev {t sl : Addr} {items : Array Value} {vl vu vs : Value} {Q : Value → Shared → Prop} (ht : IsTup s.heap t items) (hs : s.heap.IsSliceOf sl vl vu vs) (pl : IsPart vl none) (pu : IsPart vu none) (ps : IsPart vs (some (-1)))
    (h : Q (.ref s.heap.objs.size) { s with heap := s.heap.push { cls := .type "tuple", data := .seq items.toList.reverse.toArray } })
    (hsz : items.size ≤ sizeLine) : wpAny (model prog w) A (getItem (.ref t) (.ref sl)) Q E s := by
  have hfit : sizeOk (.seq items.toList.reverse.toArray) := by
    show items.toList.reverse.toArray.size ≤ sizeLine
    simpa using hsz
  obtain ⟨os, hos, hcs, hds⟩ := id hs
  have hTs : s.TypeIs (.ref sl) "slice" := ⟨os, hos, hcs⟩
  unfold getItem
  try with_reducible refine wpAny_holding ?_
  first | refine wpAny_bind (wpAny_pure ?_) | skip
  refine wpAny_bind (wpAny_sequenceKey ht.typeIs (by decide) ?_)
  refine wpAny_bind (wpAny_callSpecial?_slot (name := Str.ofString "__getitem__") ht.typeIs PyProof.Rows.slot_tuple_getitem
    (wpAny_call_entry PyProof.Rows.slot_tuple_getitem ht.typeIs entry_tuple_getitem ?_ (args_tuple_getitem _ _)))
  show wpAny _ _ (Builtin.Tuple.tupleItemsOf (.ref t) >>= _) _ _ s
  refine wpAny_bind (tupleItemsOf_ ht ?_)
  refine wpAny_bind (wpAny_typeOf hTs ?_)
  rw [if_pos (by decide)]
  refine wpAny_bind (sliceApplied_down hs pl pu ps ?_)
  have hno : ¬ ((((items.size : Nat) : Int) - 1 == 0 && (-1 : Int) == 1 && items.size == items.size) = true) := by
    rw [show ((-1 : Int) == 1) = false from by decide, Bool.and_false, Bool.false_and]
    exact Bool.false_ne_true
  show wpAny _ _ (if (((items.size : Nat) : Int) - 1 == 0 && (-1 : Int) == 1 && items.size == items.size) = true then _ else _) _ _ s
  rw [if_neg hno, pick_down]
  first
    | exact wpAny_bind (m := Builtin.Tuple.tupleExact _) (wpAny_newObj_type (wpAny_pure ⟨_, rfl, wpAny_pure h⟩) hfit)
    | exact wpAny_bind (m := Builtin.Tuple.tupleExact _) (wpAny_newObj_type (wpAny_bind (wpAny_pure (wpAny_pure ⟨_, rfl, wpAny_pure h⟩))) hfit)
    | exact wpAny_bind (wpAny_bind (m := Builtin.Tuple.tupleExact _) (wpAny_newObj_type (wpAny_pure (wpAny_pure ⟨_, rfl, wpAny_pure h⟩)) hfit))
    | exact wpAny_bind (wpAny_bind (m := Builtin.Tuple.tupleExact _) (wpAny_newObj_type (wpAny_pure ⟨_, rfl, wpAny_pure h⟩) hfit))
theorem str_pick_down (x : List Nat) : ((Builtin.Str.strSliceIndices none none (-1) x.length).filterMap (x.toArray[·]?)).toArray = x.reverse.toArray := by
  have e1 : Builtin.Str.strSliceIndices none none (-1) x.length = (List.range x.length).map fun k => x.length - 1 - k := PySem.W.krv_sliceRange x.length
  rw [e1, PySem.W.krv_range, List.filterMap_reverse]
  congr 2
  have : ∀ (y : List Nat), (List.range y.length).filterMap (fun k => y.toArray[k]?) = y := fun y => by
    apply List.ext_getElem?
    intro i
    have hall : ∀ n, n ≤ y.length → (List.range n).filterMap (fun k => y.toArray[k]?) = y.take n := by
      intro n
      induction n with
      | zero => intro _; rfl
      | succ n ih =>
        intro hn
        rw [List.range_succ, List.filterMap_append, ih (by omega), List.take_add_one]
        have hlt : n < y.length := by omega
        simp [List.getElem?_eq_getElem hlt]
    rw [hall y.length (Nat.le_refl _), List.take_length]
  exact this x
end
section
variable {C : Cfg} {Γ : Gam} {T : Tbl} {n : Nat} {X : Cx} {W : Nat → Hp → Prop} {e e1 e2 e3 : Expr} {pos apos p1 p2 p3 : Pos} {f f1 f2 f3 : Ev.Env → R D} {k : Nat}
/-- x[::-1] -/
def tRev (K : PySem.W.Frag) (te : TE) : TE := fun σ H Q => te σ H fun x H1 => (∃ a xs, x = .ref a ∧ SqL K H1 a xs ∧ ∀ p, H1 p = none → Q (.ref p) (upd H1 p (.lst xs.reverse))) ∨
  (∃ a xs, x = .ref a ∧ SqT K H1 a xs ∧ ∀ p, H1 p = none → Q (.ref p) (upd H1 p (.tup xs.reverse))) ∨ ∃ z : List Nat, x = .str (Sx z) ∧ z.length ≤ LIM ∧ Q (.str (Sx z.reverse)) H1
theorem pe_rev {te : TE} (he : PE X e te) : PE X (.Subscript e (.Slice none none (some (.UnaryOp .USub (.Constant (.int 1) k p1) p2)) p3) pos) (tRev X.K te) := by
  refine ⟨fun pins s σ H Q I h => ?_⟩
  refine Subscript_ (thn (he.run pins s σ H _ I h) fun v s1 ⟨x, H1, I1, r1, q1⟩ => ?_)
  have hst : PO X (some (.UnaryOp .USub (.Constant (.int 1) k p1) p2)) (tPart (tUn (rU fun i => .int (-i)) (tC (.int 1)))) := po_some (pe_un un_neg pe_int)
  refine wpAny_Slice (thn (po_none.run pins s1 σ H1 (fun o H2 => o = none ∧ H2 = H1) I1 ⟨rfl, rfl⟩) fun vl s2 ⟨l, H2, I2, pl, el, e2⟩ => ?_)
  subst el e2
  refine thn (po_none.run pins s2 σ H2 (fun o H3 => o = none ∧ H3 = H2) I2 ⟨rfl, rfl⟩) fun vu s3 ⟨u, H3, I3, pu, eu, e3⟩ => ?_
  subst eu e3
  refine thn (hst.run pins s3 σ H3 (fun o H4 => o = some (-1) ∧ H4 = H3) I3 ⟨1, rfl, -1, rfl, rfl, rfl⟩) fun vs s4 ⟨o, H4, I4, ps, eo, e4⟩ => ?_
  subst eo e4
  have I5 : Inv X pins σ H4 { s4 with heap := s4.heap.push { cls := .type "slice", data := .fields #[vl, vu, vs] } } := I4.kept (t' := s4.toks) fun b ob q => Heap.get?_push_of_some _ q
  rcases q1 with ⟨a, xs, rfl, hx, q⟩ | ⟨a, xs, rfl, hx, q⟩ | ⟨z, rfl, hz, q⟩
  · cases r1
    obtain ⟨its, r, ht, hz⟩ := I5.list hx
    have hlen := r.length
    show wpAny (model X.prog X.w) X.A (subscriptTail e (.Slice none none (some (.UnaryOp .USub (.Constant (.int 1) k p1) p2)) p3) (.ref a) (.ref s4.heap.objs.size)) (EP X pins σ Q) X.xe { s4 with heap := s4.heap.push { cls := .type "slice", data := .fields #[vl, vu, vs] } }
    refine tail_any (ops := [.ref a, .ref s4.heap.objs.size]) ht.isList.typeIs (PySem.slot_list_getitem.lookup) ?_ (by with_unfolding_all rfl)
    refine wpAny_getItem_list_slice ht.isList (Heap.IsSliceOf.new _ vl vu vs) pl pu ps (by decide) ?_ (by rw [List.size_toArray]; omega)
    rw [PySem.W.krv_pick]
    refine ⟨.ref _, _, I5.laid (t' := s4.toks) (o := .lst xs.reverse) (fun b ob q => Heap.get?_push_of_some _ q) (Nat.le_refl _) ?_, rfl, q _ (I5.hok.fresh (Nat.le_refl _))⟩
    exact ⟨by rw [List.length_reverse]; exact hz, _, 0, r.reverse, Heap.get?_push_size _ rfl⟩
  · cases r1
    obtain ⟨its, r, ht, hz⟩ := I5.tuple hx
    have hlen := r.length
    show wpAny (model X.prog X.w) X.A (subscriptTail e (.Slice none none (some (.UnaryOp .USub (.Constant (.int 1) k p1) p2)) p3) (.ref a) (.ref s4.heap.objs.size)) (EP X pins σ Q) X.xe { s4 with heap := s4.heap.push { cls := .type "slice", data := .fields #[vl, vu, vs] } }
    refine tail_any (ops := [.ref a, .ref s4.heap.objs.size]) ht.typeIs (PyProof.Rows.slot_tuple_getitem.lookup) ?_ (by with_unfolding_all rfl)
    refine getItem_tuple_rev ht (Heap.IsSliceOf.new _ vl vu vs) pl pu ps ?_ (by rw [List.size_toArray]; omega)
    refine ⟨.ref _, _, I5.laid (t' := s4.toks) (o := .tup xs.reverse) (fun b ob q => Heap.get?_push_of_some _ q) (Nat.le_refl _) ?_, rfl, q _ (I5.hok.fresh (Nat.le_refl _))⟩
    exact ⟨by rw [List.length_reverse]; exact hz, _, r.reverse, ⟨_, Heap.get?_push_size _ rfl, rfl, _, rfl⟩⟩
  · obtain ⟨t, rfl⟩ := r1
    obtain ⟨l, rfl, hl⟩ := IsPart.raw pl
    obtain ⟨u, rfl, hu⟩ := IsPart.raw pu
    obtain ⟨st, rfl, hs⟩ := IsPart.raw ps
    show wpAny (model X.prog X.w) X.A (subscriptTail e (.Slice none none (some (.UnaryOp .USub (.Constant (.int 1) k p1) p2)) p3) (.str (Sx z) t) (.ref s4.heap.objs.size)) (EP X pins σ Q) X.xe { s4 with heap := s4.heap.push { cls := .type "slice", data := .fields #[partValue l, partValue u, partValue st] } }
    refine tail_any (ops := [.str (Sx z) t, .ref s4.heap.objs.size]) (typeIs_str _ _ _) (PySem.F.slot_str_getitem.lookup) ?_ (by with_unfolding_all rfl)
    refine wpAny_getItem_str_slice (l := l) (u := u) (st := st) ⟨_, Heap.get?_push_size _ rfl, rfl, rfl⟩ (by rw [hs]; rfl) ?_
    unfold sliceMade slicePicked
    rw [hl, hu, hs]
    show Made.post (if ((-1 : Int) == 1 && _) = true then Made.val (.str (Sx z) t) else Made.str ⟨((Builtin.Str.strSliceIndices none none (-1) (Sx z).length).filterMap ((Sx z).cps[·]?)).toArray⟩) (EP X pins σ Q) _
    rw [show ((-1 : Int) == 1) = false from by decide, Bool.false_and, if_neg Bool.false_ne_true]
    have e1 : (⟨((Builtin.Str.strSliceIndices none none (-1) (Sx z).length).filterMap ((Sx z).cps[·]?)).toArray⟩ : Str) = Sx z.reverse := congrArg Str.mk (by rw [SX.S_len]; exact str_pick_down z)
    rw [e1]
    exact ⟨by rw [SX.S_len, List.length_reverse]; exact lim_le hz, .str _, H4, I5.tok _, ⟨_, rfl⟩, q⟩
theorem sx_rev (h1 : PE X e1 (rdB X C W f1)) : SX X C W (.Subscript e1 (.Slice none none (some (.UnaryOp .USub (.Constant (.int 1) k p1) p2)) p3) pos) (fun ρ => (f1 ρ).bind revD) := by
  refine sx_val (peW (pe_rev h1) fun σ H Q q => ?_) rfl
  obtain ⟨O, ρ, r, p⟩ := q
  refine one r p fun a x H1 e1 t1 rx p1 => ?_
  obtain ⟨d, hd, q⟩ := p1.noEx (noEx_rev a)
  cases a with
  | tup xs =>
    obtain ⟨a, vs, rfl, h1, h2⟩ := rx.tup
    cases hd
    exact .inr (.inl ⟨a, vs, rfl, sqT_ext ExtN.hmTop h1, fun p hp => q _ _ (Ext.new hp) (new_tup t1 hp h2.rev)⟩)
  | lst xs =>
    obtain ⟨a, vs, rfl, h1, h2⟩ := rx
    cases hd
    exact .inl ⟨a, vs, rfl, h1, fun p hp => q _ _ (Ext.new hp) (new_lst t1 hp h2.rev)⟩
  | str z =>
    simp only [revD] at hd
    split at hd
    · rename_i hl
      cases hd
      exact .inr (.inr ⟨z, rx.str, hl, q _ H1 (Ext.refl _ _) (.str _)⟩)
    · cases hd
  | _ => cases hd
end
end Ev

/-! EvSet: sorted(set(texts)). -/
namespace Ev
open PySem PySem.Spec PyProof.Rows L2
/-- an entry's text -/
def tOf (e : Int × Value) : Str := match e.2 with
  | .str k _ => k
  | _ => ""
def GoodT (w : World) (e : Int × Value) : Prop := ∃ k u, e.2 = Value.str k u ∧ e.1 = hashStr w k
/-- the set at a holds the texts l, in some order -/
def SetT (w : World) (h : Heap) (a : Addr) (l : List Str) : Prop :=
  ∃ o es ep t, h.get? a = some o ∧ o.ExactSet ∧ o.data = .set es ep t ∧ (∀ e ∈ es.toList, GoodT w e) ∧ (es.toList.map tOf).Perm l ∧ l.Nodup ∧ es.size < scanBound ∧ t.fits es.size = true ∧ L2.Ris t.place.toList ∧ (w.params.followText "set-order" = true ∨ t.led = true)
section
variable {P : Program} {w : World} {A : Around} {E : Value → Shared → Prop} {s : Shared} {a : Addr} {l : List Str}
theorem SetT.at {h h' : Heap} (R : SetT w h a l) (k : ∀ o, h.get? a = some o → h'.get? a = some o) : SetT w h' a l := by
  obtain ⟨o, es, ep, t, ho, r⟩ := R
  exact ⟨o, es, ep, t, k o ho, r⟩
theorem good_elT {es : List (Int × Value)} (g : ∀ e ∈ es, GoodT w e) : ElemsOf (strKind P w) es := fun e he => by
  obtain ⟨k, u, e1, e2⟩ := g e he
  refine ⟨⟨k, ?_, e2⟩, ?_⟩
  · rw [e1]; exact strKind_is P w k u
  · rw [e1]; rfl
theorem good_isT {e : Int × Value} (g : GoodT w e) (k : Str) : (strKind P w).is k e.2 = true ↔ tOf e = k := by
  obtain ⟨k', u, e1, e2⟩ := g
  unfold tOf
  rw [e1]
  constructor
  · intro h
    obtain ⟨t, h⟩ := Value.isStrOf_shape (x := k) (v := .str k' u) h
    exact (Value.str.inj h).1
  · intro h
    have h : k' = k := h
    subst h
    exact strKind_is P w k' u
theorem setT_add_tail {g : Bool → Sem Unit} (hg : ∀ (b : Bool) (s₁ : Shared) (Q' : Unit → Shared → Prop), Q' () s₁ → wpAny (model P w) A (g b) Q' E s₁)
    {o : Obj} {es : Array (Int × Value)} {ep : Nat} {t : SetTable} (ho : s.heap.get? a = some o) (hex : o.ExactSet) (hd : o.data = .set es ep t)
    {es1 : Array (Int × Value)} {t2 : SetTable} (g1 : ∀ e ∈ es1.toList, GoodT w e) (m1 : (es1.toList.map tOf).Perm l) (nd1 : l.Nodup)
    (hb1 : es1.size < scanBound) (hf2 : t2.fits es1.size = true) (hr : L2.Ris t2.place.toList) (hl : w.params.followText "set-order" = true ∨ t2.led = true) {wasDummy : Bool} {R : Option Bool → Shared → Prop}
    (hR : ∀ h', Heap.SameBut a s.heap h' → SetT w h' a l → R (some true) { s with heap := h' }) :
    wpAny (model P w) A (do
        storeSet a es1 t2
        if (!wasDummy && t2.tooFull) = true then do
            g (relayAll t2 es1 (SetTable.grown es1.size)).2.2
            storeSet a (relayAll t2 es1 (SetTable.grown es1.size)).1 (relayAll t2 es1 (SetTable.grown es1.size)).2.1
            pure (some true)
          else pure (some true)) R E s := by
  refine wpAny_bind (wpAny_storeSet_of ho hd ?_ (fits_of_scanBound hb1))
  have ho1 := store_at (es' := es1) (t' := t2) ho hd
  have sb1 := Heap.SameBut.update s.heap a (Obj.putSet es1 t2)
  split
  · have pm := relayAll_perm t2 es1 (SetTable.grown es1.size)
    have hf3 := relayAll_fits t2 es1 (SetTable.grown es1.size)
    have hr3 := relayAll_ris t2 es1 (SetTable.grown es1.size)
    have hl3 := relayAll_led t2 es1 (SetTable.grown es1.size)
    generalize relayAll t2 es1 (SetTable.grown es1.size) = Z at pm hf3 hr3 hl3 ⊢
    obtain ⟨es2, t3, gave⟩ := Z
    dsimp only at pm hf3 hr3 hl3 ⊢
    have hsz : es2.size = es1.size := by rw [← Array.length_toList, pm.length_eq, Array.length_toList]
    have hb2 : es2.size < scanBound := by rw [hsz]; exact hb1
    refine wpAny_bind (hg _ _ _ ?_)
    refine wpAny_bind (wpAny_storeSet_of ho1 rfl ?_ (fits_of_scanBound hb2))
    have ho2 := store_at (es' := es2) (t' := t3) ho1 rfl
    refine wpAny_pure (hR _ (sb1.trans (Heap.SameBut.update _ a _)) ?_)
    exact ⟨_, es2, _, t3, ho2, hex, rfl, fun e he => g1 e (pm.mem_iff.mp he), (pm.map tOf).trans m1, nd1, hb2, hf3, hr3, hl.imp id fun z => by rw [hl3]; exact z⟩
  · exact wpAny_pure (hR _ sb1 ⟨_, es1, _, t2, ho1, hex, rfl, g1, m1, nd1, hb1, hf2, hr, hl⟩)
theorem vals_txt : ∀ {xs : List Str} {us : List Value}, Vals (xs.map V.str) us → ∀ (i : Nat) (v : Value), us[i]? = some v → ∃ x t, xs[i]? = some x ∧ v = .str x t
  | [], _, h, i, v, e => by cases h; simp at e
  | x :: xs, _, h, 0, v, e => by
    cases h with
    | cons r _ =>
      obtain ⟨t, rfl⟩ := r
      simp at e
      exact ⟨x, t, rfl, e.symm⟩
  | x :: xs, _, h, i + 1, v, e => by
    cases h with
    | cons _ r =>
      obtain ⟨y, t, e1, e2⟩ := vals_txt r i v (by simpa using e)
      exact ⟨y, t, by simpa using e1, e2⟩
/-- one more -/
def more (l : List Str) (k : Str) : List Str := if k ∈ l then l else k :: l
theorem setT_add {k : Str} {tk : Tok} {Q : Bool → Shared → Prop} (R : SetT w s.heap a l) (room : l.length + 1 < scanBound)
    (hQ : ∀ b h', Heap.SameBut a s.heap h' → SetT w h' a (more l k) → Q b { s with heap := h' }) :
    wpAny (model P w) A (setAddHashed a (.str k tk) ((strKind P w).hash k)) Q E s := by
  obtain ⟨o, es, ep, t, ho, hex, hd, g, hm, nd, hb, hf, hr, hl⟩ := R
  have hkey : (strKind P w).is k (.str k tk) = true := strKind_is P w k tk
  have hsc : (Value.str k tk).scannable = true := rfl
  have hel : ElemsOf (strKind P w) es.toList := good_elT g
  unfold setAddHashed setAddHashedIn
  refine wpAny_holding (wpAny_bind (wpAny_setState_of ho hd hf ?_))
  dsimp only
  rw [byScan_of hsc hb hel]
  simp only [↓reduceIte]
  unfold setAddByScan
  refine wpAny_bind ?_
  refine wpAny_bind (wpAny_rule ?_)
  refine wpAny_bind (wpAny_setScan_of hkey ho hd hf hel ?_)
  cases hfi : List.findIdx? (fun e => (strKind P w).is k e.2) es.toList with
  | some j =>
    dsimp only
    obtain ⟨hj, pj, _⟩ := List.findIdx?_eq_some_iff_getElem.mp hfi
    have hk : k ∈ l := hm.mem_iff.mp (List.mem_map.mpr ⟨es.toList[j], List.getElem_mem hj, (good_isT (P := P) (g _ (List.getElem_mem hj)) k).mp pj⟩)
    refine wpAny_pure (wpAny_pure ?_)
    have q := hQ false s.heap (Heap.SameBut.refl a s.heap) (by unfold more; rw [if_pos hk]; exact ⟨o, es, ep, t, ho, hex, hd, g, hm, nd, hb, hf, hr, hl⟩)
    exact q
  | none =>
    dsimp only
    have hnk : k ∉ l := fun z => by
      obtain ⟨e, he, q⟩ := List.mem_map.mp (hm.mem_iff.mpr z)
      have c := List.findIdx?_eq_none_iff.mp hfi e he
      rw [(good_isT (P := P) (g e he) k).mpr q] at c
      cases c
    have hgw : ∀ (b : Bool) {s₁ : Shared} {Q' : Unit → Shared → Prop}, Q' () s₁ → wpAny (model P w) A (match b with | true => rule "set.scan.the-table-gave-way" | false => pure ()) Q' E s₁ :=
      fun b s₁ Q' q => by cases b <;> first | exact wpAny_pure q | exact wpAny_rule q
    have pm := layNew_perm t es ((strKind P w).hash k) (.str k tk)
    have hf1 := layNew_fits t es ((strKind P w).hash k) (.str k tk)
    have hr1 := layNew_ris t es ((strKind P w).hash k) (.str k tk) hr
    have hl1 := layNew_led t es ((strKind P w).hash k) (.str k tk)
    generalize layNew t es ((strKind P w).hash k) (.str k tk) = Z at pm hf1 hr1 hl1 ⊢
    obtain ⟨es1, t1, wasDummy, gave⟩ := Z
    dsimp only at pm hf1 hr1 hl1 ⊢
    rw [Array.toList_push] at pm
    have pc : es1.toList.Perm (((strKind P w).hash k, Value.str k tk) :: es.toList) := pm.trans (List.perm_append_singleton _ _)
    have pk : (es1.toList.map tOf).Perm (k :: l) := (pc.map tOf).trans (List.Perm.cons k hm)
    have g1 : ∀ e ∈ es1.toList, GoodT w e := fun e he => by
      rcases List.mem_cons.mp (pc.mem_iff.mp he) with z | z
      · rw [z]; exact ⟨k, tk, rfl, rfl⟩
      · exact g e z
    have hsz : es1.size = l.length + 1 := by
      have := pk.length_eq
      rwa [List.length_map, Array.length_toList, List.length_cons] at this
    have hb1 : es1.size < scanBound := by rw [hsz]; exact room
    have hled : w.params.followText "set-order" = true ∨ t1.led = true := hl.imp id fun z => by rw [hl1]; exact z
    have hmore : more l k = k :: l := if_neg hnk
    have nd1 : (k :: l).Nodup := List.nodup_cons.mpr ⟨hnk, nd⟩
    have fin : ∀ h', Heap.SameBut a s.heap h' → SetT w h' a (k :: l) → Q true { s with heap := h' } := fun h' sb r => hQ true h' sb (by rw [hmore]; exact r)
    refine wpAny_bind (hgw _ ?_)
    split
    · refine wpAny_bind ?_
      rw [hashByValue_scannable 8 hsc]
      refine wpAny_pure ?_
      refine setT_add_tail ?_ ho hex hd g1 pk nd1 hb1 ?_ ?_ ?_ ?_
      · intro b s₁ Q' q; cases b <;> first | exact wpAny_pure q | exact wpAny_rule q
      · first | (split <;> first | exact hf1 | exact SetTable.fits_plain_off hf1) | exact hf1
      · first | (split <;> exact hr1) | exact hr1
      · first | (split <;> exact hled) | exact hled
      · intro h' sb r; dsimp only; exact wpAny_pure (fin h' sb r)
    · refine wpAny_bind (wpAny_pure ?_)
      simp only [↓reduceIte]
      refine setT_add_tail ?_ ho hex hd g1 pk nd1 hb1 hf1 hr1 hled ?_
      · intro b s₁ Q' q; cases b <;> first | exact wpAny_pure q | exact wpAny_rule q
      · intro h' sb r; dsimp only; exact wpAny_pure (fin h' sb r)
theorem setT_fresh {h : Heap} {a : Addr} (ho : h.get? a = some { cls := .type "set", dict := none, data := .set #[] 0 (.fresh 0 0 (!w.params.followText "set-order")) }) : SetT w h a [] := by
  refine ⟨_, #[], 0, _, ho, ⟨rfl, rfl, rfl⟩, rfl, by simp, by simp, List.nodup_nil, by show 0 < scanBound; decide, rfl, List.Pairwise.nil, ?_⟩
  show _ ∨ (!w.params.followText "set-order") = true
  cases w.params.followText "set-order"
  · exact .inr rfl
  · exact .inl rfl
/-- the texts met -/
def met : List Str → List Str → List Str
  | [], l => l
  | x :: xs, l => met xs (more l x)
theorem more_len (l : List Str) (k : Str) : (more l k).length ≤ l.length + 1 := by
  unfold more; split <;> simp
theorem set_update_txt {I : Addr} {fp wr : List Addr} {G : Array GenState → Array GenState → Prop} {n : Nat} {Pv : Nat → Value → Prop} {St : Nat → Shared → Prop} {R : Result → Shared → Prop}
    (W : WalksS P w A.in1 I fp wr G n Pv St) (S : Addr) (hSf : S ∉ fp) (xs : List Str) (hn : n = xs.length) (hval : ∀ i v, Pv i v → ∃ x t, xs[i]? = some x ∧ v = .str x t) :
    ∀ (k i : Nat) (s : Shared) (l : List Str), n - i = k → i ≤ n → St i s → SetT w s.heap S l → l.length + (n - i) + 1 < scanBound →
      (∀ s', Moved (S :: wr) G s s' → SetT w s'.heap S (met (xs.drop i) l) → R (.ok (.ret .none)) s') →
      codeAny (model P w) A (.builtin "set.update.loop" ⟨[.ref S, .ref I], []⟩) R s := by
  have hSw : S ∉ wr := fun h => hSf (W.sub _ h)
  have hsub : ∀ b ∈ wr, b ∈ S :: wr := fun b hb => List.mem_cons_of_mem _ hb
  intro k
  induction k with
  | zero =>
    intro i s l hk hi hst hS hroom hR
    have hin : i = n := by omega
    subst hin
    refine codeAny_builtin PyProof.Rows.F.entry_set_update_loop ?_
    rw [Around.under_plainId PyProof.Rows.F.plain_set_update_loop _]
    show wpAny _ A.in1 (pyNext (.ref I) >>= _) _ _ s
    refine wpAny_bind (W.done s _ _ hst fun s' hm => ?_)
    show wpAny _ A.in1 (ret Value.none) _ _ s'
    refine wpAny_pure (hR s' (hm.mono hsub) ?_)
    rw [hn, List.drop_length]
    exact hS.at fun o e => hm.heap S o hSw e
  | succ k ih =>
    intro i s l hk hi hst hS hroom hR
    have hlt : i < n := by omega
    refine codeAny_builtin PyProof.Rows.F.entry_set_update_loop ?_
    rw [Around.under_plainId PyProof.Rows.F.plain_set_update_loop _]
    show wpAny _ A.in1 (pyNext (.ref I) >>= _) _ _ s
    refine wpAny_bind (W.item i s _ _ hlt hst fun v s' hP hst' hm => ?_)
    obtain ⟨x, t, hx, rfl⟩ := hval i v hP
    have hS' : SetT w s'.heap S l := hS.at fun o e => hm.heap S o hSw e
    show wpAny _ A.in1 (holding [Value.str x t] (setAdd S (.str x t)) >>= _) _ _ s'
    refine wpAny_bind (wpAny_holding ?_)
    unfold setAdd
    refine wpAny_holding ?_
    refine wpAny_bind ((PySem.strKind P w).pyHash (k := x) (strKind_is _ _ _ _) ?_)
    refine setT_add (s := { s' with toks := s'.toks + 1 }) hS' (by omega) fun b h' hsb hS2 => ?_
    have hd : xs.drop i = x :: xs.drop (i + 1) := by
      have hlt' : i < xs.length := by omega
      rw [List.drop_eq_getElem_cons hlt']
      rw [List.getElem?_eq_getElem hlt'] at hx
      rw [Option.some.inj hx]
    have hl2 := more_len l x
    refine wpAny_pure ⟨plainId_quiet PyProof.Rows.F.plain_set_update_loop _, ih (i + 1) _ (more l x) (by omega) hlt (W.frame _ s' _ _ hst' (Nat.le_succ _) fun b hb o e => ?_) hS2 (by omega) fun s'' hm'' hS'' => ?_⟩
    · rw [hsb.2 b (fun h : b = S => hSf (by rw [← h]; exact hb))]; exact e
    · refine hR s'' (Moved.trans W.gtrans ((hm.mono hsub).then_heap (Nat.le_succ _) fun b o hb e => ?_) hm'') (by rw [hd]; exact hS'')
      rw [hsb.2 b (fun h : b = S => hb (by rw [h]; exact List.mem_cons_self))]; exact e
set_option maxRecDepth 100000 in
set_option maxHeartbeats 3200000 in
theorem call_set_txt {l : Addr} {items : Array Value} (xs : List Str) {Q : Value → Shared → Prop} (hh : A.handled = none) (hl : s.heap.IsList l items) (hit : Vals (xs.map V.str) items.toList) (hfew : xs.length + 1 < scanBound)
    (h : ∀ (h' : Heap) (tk : Nat), SetT w h' s.heap.objs.size (met xs []) → (∀ b o, s.heap.get? b = some o → h'.get? b = some o) → Q (.ref s.heap.objs.size) { s with heap := h', toks := tk }) :
    wpAny (model P w) A (call (.type "set") [.ref l]) Q E s := by
  have hisz : items.size = xs.length := by
    have q := hit.length
    simp at q
    exact q.symm
  obtain ⟨c, tl, hmro⟩ := PySem.F.called_set.mro
  have hmade := PySem.F.called_set.made
  have hsub := PySem.F.called_set.sub
  refine wpAny_call (codeAny_of_tree ?_)
  show wpAny _ _ (callAny (.type "set") _) _ _ _
  refine wpAny_pure ⟨Code.quiet_builtin _ (by decide +kernel), codeAny_builtin PySem.F.entry_type_call ?_⟩
  rw [Around.under_plain (weight_type_call_type "set" [.ref l] []) rfl]
  have h1 := PySem.F.called_set.notType
  have h2 := PySem.F.called_set.canCreate
  have hct := PySem.F.typeCall_set_1 (.ref l)
  repeat (any_goals (first | assumption | wp_step))

  refine codeAny_mono (code_set_led1 (.ref l) (E := E) (Q₁ := fun obj s₁ => obj = .ref s.heap.objs.size ∧ s₁ = { s with heap := s.heap.push { cls := .type "set", dict := none, data := .set #[] 0 (.fresh 0 0 (!w.params.followText "set-order")) } }) ⟨rfl, rfl⟩) fun r s₁ hr => ?_
  cases r with
  | error e => exact hr
  | ok fl =>
    cases fl with
    | ret obj =>
      obtain ⟨rfl, rfl⟩ := hr
      have hS : (s.heap.push { cls := .type "set", dict := none, data := .set #[] 0 (.fresh 0 0 (!w.params.followText "set-order")) }).get? s.heap.objs.size = some { cls := .type "set", dict := none, data := .set #[] 0 (.fresh 0 0 (!w.params.followText "set-order")) } := Heap.get?_push_size _ rfl
      have hT : Shared.TypeIs { s with heap := s.heap.push { cls := .type "set", dict := none, data := .set #[] 0 (.fresh 0 0 (!w.params.followText "set-order")) } } (.ref s.heap.objs.size) "set" := ⟨_, hS, rfl⟩
      have hli := PySem.F.called_set.init.lookup
      have hbi := PySem.F.called_set.init.bind (.ref s.heap.objs.size)
      repeat (any_goals (first | assumption | wp_step))

      refine codeAny_mono (codeAny_call_builtin (R := wants (fun r s₂ => r = .none ∧ ∃ h' tk, s₂ = { s with heap := h', toks := tk } ∧ SetT w h' s.heap.objs.size (met xs []) ∧
          (∀ b o, s.heap.get? b = some o → h'.get? b = some o)) E) PySem.F.called_set.init.plain PySem.F.entry_set_init (check_set_init_1 hT ?_)) fun r₂ s₂ hr₂ => ?_
      · obtain ⟨ol, hol, hcl, nl, hdl⟩ := hl
        obtain ⟨ocls, odict, odata, oslots⟩ := ol
        simp only at hcl hdl
        subst hcl; subst hdl
        have hol' : (s.heap.push { cls := .type "set", dict := none, data := .set #[] 0 (.fresh 0 0 (!w.params.followText "set-order")) }).get? l = some { cls := .type "list", dict := odict, data := .seq items nl, slots := oslots } := Heap.get?_push_of_some _ hol
        have hsls := PySem.F.sub_list_set
        have hslf := PySem.F.sub_list_frozenset
        have hne : (Value.type "list" == Value.type "dict") = false := by decide
        have hl1 : (s.heap.push { cls := .type "set", dict := none, data := .set #[] 0 (.fresh 0 0 (!w.params.followText "set-order")) }).IsList l items := ⟨_, hol', rfl, nl, rfl⟩
        unfold Builtin.«set.__init__» noKeywords Builtin.Frozenset.updateFrom
        generalize hPI : pyIter = PI
        wp_walk
        subst hPI

        refine wpAny_pyIter_list hl1 ?_
        refine wpAny_bind (wpAny_runValue ?_)
        have hlS : l < s.heap.objs.size := Heap.lt_size hol
        have hh3 : A.in1.in1.in1.handled = none := by simp [hh]
        have hneI : l ≠ (s.heap.push { cls := .type "set", dict := none, data := .set #[] 0 (.fresh 0 0 (!w.params.followText "set-order")) }).objs.size := by
          rw [Heap.size_push]; exact Nat.ne_of_lt (Nat.lt_succ_of_lt hlS)
        have hSf : s.heap.objs.size ∉ [(s.heap.push { cls := .type "set", dict := none, data := .set #[] 0 (.fresh 0 0 (!w.params.followText "set-order")) }).objs.size, l] := by
          rw [Heap.size_push]; simp only [List.mem_cons, List.mem_singleton, List.not_mem_nil, or_false, not_or]
          exact ⟨Nat.ne_of_lt (Nat.lt_succ_self _), Nat.ne_of_gt hlS⟩
        have hval : ∀ (i : Nat) (v : Value), items[i]? = some v → ∃ x t, xs[i]? = some x ∧ v = .str x t := fun i v hv => by
          have q : items.toList[i]? = some v := by rw [Array.getElem?_toList]; exact hv
          exact vals_txt hit i v q
        refine set_update_txt ((Walks.list hh3 _ l hneI items).toS) s.heap.objs.size hSf xs hisz hval (items.size - 0) 0 _ [] (by omega) (Nat.zero_le _)
          ⟨⟨_, Heap.get?_push_size _ rfl, rfl, rfl⟩, (hl1.push _)⟩ ?hS0 (by rw [List.length_nil]; omega) ?hR
        case hS0 => exact setT_fresh (Heap.get?_push_of_some _ hS)
        case hR =>
          intro s' hm hS'
          obtain ⟨h', g2, d', tk', os'⟩ := s'
          have eg : g2 = s.gens := hm.gens
          have ed : d' = s.drawn := hm.drawn
          have eo : os' = s.os := hm.os
          subst eg; subst ed; subst eo
          show wpAny _ _ _ _ _ _
          refine wpAny_pure ?_
          show wpAny _ _ (ret Value.none) _ _ _
          refine wpAny_pure ⟨rfl, h', tk', rfl, hS', fun b o e => ?_⟩
          have hb := Heap.lt_size e
          refine hm.heap b o ?_ (Heap.get?_push_of_some _ (Heap.get?_push_of_some _ e))
          rw [Heap.size_push]
          simp only [List.mem_cons, List.mem_singleton, List.not_mem_nil, or_false, not_or]
          exact ⟨Nat.ne_of_lt hb, Nat.ne_of_lt (Nat.lt_succ_of_lt hb)⟩

      · cases r₂ with
        | error e => exact hr₂
        | ok fl₂ =>
          cases fl₂ with
          | ret r =>
            obtain ⟨rfl, h', tk, rfl, hS', hk'⟩ := hr₂
            repeat (any_goals (first | assumption | wp_step))
            exact h _ _ hS' hk'
          | _ => exact hr₂.elim
    | _ => exact hr.elim
end
end Ev

/-! EvSetS: set(text). -/
namespace Ev
open PySem PySem.Spec PyProof.Rows L2
/-- a text's signs, each a text -/
def signs (z : Str) : List Str := z.cps.toList.map fun c => ⟨#[c]⟩
section
variable {P : Program} {w : World} {A : Around} {E : Value → Shared → Prop} {s : Shared}
set_option maxRecDepth 100000 in
set_option maxHeartbeats 3200000 in
theorem call_set_sgn {z : Str} {tz : Tok} {xs : List Str} {Q : Value → Shared → Prop} (hxs : xs = signs z) (hh : A.handled = none) (hfew : xs.length + 1 < scanBound)
    (h : ∀ (h' : Heap) (tk : Nat), SetT w h' s.heap.objs.size (met xs []) → (∀ b o, s.heap.get? b = some o → h'.get? b = some o) → Q (.ref s.heap.objs.size) { s with heap := h', toks := tk }) :
    wpAny (model P w) A (call (.type "set") [.str z tz]) Q E s := by
  have hisz : z.cps.size = xs.length := by
    rw [hxs]; unfold signs; simp
  obtain ⟨c, tl, hmro⟩ := PySem.F.called_set.mro
  have hmade := PySem.F.called_set.made
  have hsub := PySem.F.called_set.sub
  refine wpAny_call (codeAny_of_tree ?_)
  show wpAny _ _ (callAny (.type "set") _) _ _ _
  refine wpAny_pure ⟨Code.quiet_builtin _ (by decide +kernel), codeAny_builtin PySem.F.entry_type_call ?_⟩
  rw [Around.under_plain (weight_type_call_type "set" [.str z tz] []) rfl]
  have h1 := PySem.F.called_set.notType
  have h2 := PySem.F.called_set.canCreate
  have hct := PySem.F.typeCall_set_1 (.str z tz)
  repeat (any_goals (first | assumption | wp_step))

  refine codeAny_mono (code_set_led1 (.str z tz) (E := E) (Q₁ := fun obj s₁ => obj = .ref s.heap.objs.size ∧ s₁ = { s with heap := s.heap.push { cls := .type "set", dict := none, data := .set #[] 0 (.fresh 0 0 (!w.params.followText "set-order")) } }) ⟨rfl, rfl⟩) fun r s₁ hr => ?_
  cases r with
  | error e => exact hr
  | ok fl =>
    cases fl with
    | ret obj =>
      obtain ⟨rfl, rfl⟩ := hr
      have hS : (s.heap.push { cls := .type "set", dict := none, data := .set #[] 0 (.fresh 0 0 (!w.params.followText "set-order")) }).get? s.heap.objs.size = some { cls := .type "set", dict := none, data := .set #[] 0 (.fresh 0 0 (!w.params.followText "set-order")) } := Heap.get?_push_size _ rfl
      have hT : Shared.TypeIs { s with heap := s.heap.push { cls := .type "set", dict := none, data := .set #[] 0 (.fresh 0 0 (!w.params.followText "set-order")) } } (.ref s.heap.objs.size) "set" := ⟨_, hS, rfl⟩
      have hli := PySem.F.called_set.init.lookup
      have hbi := PySem.F.called_set.init.bind (.ref s.heap.objs.size)
      repeat (any_goals (first | assumption | wp_step))

      refine codeAny_mono (codeAny_call_builtin (R := wants (fun r s₂ => r = .none ∧ ∃ h' tk, s₂ = { s with heap := h', toks := tk } ∧ SetT w h' s.heap.objs.size (met xs []) ∧
          (∀ b o, s.heap.get? b = some o → h'.get? b = some o)) E) PySem.F.called_set.init.plain PySem.F.entry_set_init (check_set_init_1 hT ?_)) fun r₂ s₂ hr₂ => ?_
      · have hsls := PySem.F.sub_str_set
        have hslf := PySem.F.sub_str_frozenset
        have hne : (Value.type "str" == Value.type "dict") = false := by decide
        unfold Builtin.«set.__init__» noKeywords Builtin.Frozenset.updateFrom
        generalize hPI : pyIter = PI
        wp_walk
        subst hPI

        refine wpAny_pyIter_str (fun oI St W st => ?_)
        refine wpAny_bind (wpAny_runValue ?_)
        have hh3 : A.in1.in1.in1.handled = none := by simp [hh]
        have hSf : s.heap.objs.size ∉ [(s.heap.push { cls := .type "set", dict := none, data := .set #[] 0 (.fresh 0 0 (!w.params.followText "set-order")) }).objs.size] := by
          rw [Heap.size_push]; simp only [List.mem_singleton]
          exact Nat.ne_of_lt (Nat.lt_succ_self _)
        have hval : ∀ (i : Nat) (v : Value), SignAt z i v → ∃ x t, xs[i]? = some x ∧ v = .str x t := fun i v ⟨cc, u, hc, hv⟩ => by
          refine ⟨⟨#[cc]⟩, u, ?_, hv⟩
          rw [hxs]; unfold signs
          rw [List.getElem?_map, Array.getElem?_toList, hc]; rfl
        refine set_update_txt ((W _ hh3).toS) s.heap.objs.size hSf xs hisz hval (z.cps.size - 0) 0 _ [] (by omega) (Nat.zero_le _)
          st ?hS0 (by rw [List.length_nil]; omega) ?hR
        case hS0 => exact setT_fresh (Heap.get?_push_of_some _ hS)
        case hR =>
          intro s' hm hS'
          obtain ⟨h', g2, d', tk', os'⟩ := s'
          have eg : g2 = s.gens := hm.gens
          have ed : d' = s.drawn := hm.drawn
          have eo : os' = s.os := hm.os
          subst eg; subst ed; subst eo
          show wpAny _ _ _ _ _ _
          refine wpAny_pure ?_
          show wpAny _ _ (ret Value.none) _ _ _
          refine wpAny_pure ⟨rfl, h', tk', rfl, hS', fun b o e => ?_⟩
          have hb := Heap.lt_size e
          refine hm.heap b o ?_ (Heap.get?_push_of_some _ (Heap.get?_push_of_some _ e))
          rw [Heap.size_push]
          simp only [List.mem_cons, List.mem_singleton, List.not_mem_nil, or_false, not_or]
          exact ⟨Nat.ne_of_lt hb, Nat.ne_of_lt (Nat.lt_succ_of_lt hb)⟩

      · cases r₂ with
        | error e => exact hr₂
        | ok fl₂ =>
          cases fl₂ with
          | ret r =>
            obtain ⟨rfl, h', tk, rfl, hS', hk'⟩ := hr₂
            repeat (any_goals (first | assumption | wp_step))
            exact h _ _ hS' hk'
          | _ => exact hr₂.elim
    | _ => exact hr.elim
set_option maxRecDepth 100000 in
set_option maxHeartbeats 3200000 in
theorem call_set_tup {l : Addr} {items : Array Value} (xs : List Str) {Q : Value → Shared → Prop} (hh : A.handled = none) (hl : s.heap.IsTuple l items) (hit : Vals (xs.map V.str) items.toList) (hfew : xs.length + 1 < scanBound)
    (h : ∀ (h' : Heap) (tk : Nat), SetT w h' s.heap.objs.size (met xs []) → (∀ b o, s.heap.get? b = some o → h'.get? b = some o) → Q (.ref s.heap.objs.size) { s with heap := h', toks := tk }) :
    wpAny (model P w) A (call (.type "set") [.ref l]) Q E s := by
  have hisz : items.size = xs.length := by
    have q := hit.length
    simp at q
    exact q.symm
  obtain ⟨c, tl, hmro⟩ := PySem.F.called_set.mro
  have hmade := PySem.F.called_set.made
  have hsub := PySem.F.called_set.sub
  refine wpAny_call (codeAny_of_tree ?_)
  show wpAny _ _ (callAny (.type "set") _) _ _ _
  refine wpAny_pure ⟨Code.quiet_builtin _ (by decide +kernel), codeAny_builtin PySem.F.entry_type_call ?_⟩
  rw [Around.under_plain (weight_type_call_type "set" [.ref l] []) rfl]
  have h1 := PySem.F.called_set.notType
  have h2 := PySem.F.called_set.canCreate
  have hct := PySem.F.typeCall_set_1 (.ref l)
  repeat (any_goals (first | assumption | wp_step))

  refine codeAny_mono (code_set_led1 (.ref l) (E := E) (Q₁ := fun obj s₁ => obj = .ref s.heap.objs.size ∧ s₁ = { s with heap := s.heap.push { cls := .type "set", dict := none, data := .set #[] 0 (.fresh 0 0 (!w.params.followText "set-order")) } }) ⟨rfl, rfl⟩) fun r s₁ hr => ?_
  cases r with
  | error e => exact hr
  | ok fl =>
    cases fl with
    | ret obj =>
      obtain ⟨rfl, rfl⟩ := hr
      have hS : (s.heap.push { cls := .type "set", dict := none, data := .set #[] 0 (.fresh 0 0 (!w.params.followText "set-order")) }).get? s.heap.objs.size = some { cls := .type "set", dict := none, data := .set #[] 0 (.fresh 0 0 (!w.params.followText "set-order")) } := Heap.get?_push_size _ rfl
      have hT : Shared.TypeIs { s with heap := s.heap.push { cls := .type "set", dict := none, data := .set #[] 0 (.fresh 0 0 (!w.params.followText "set-order")) } } (.ref s.heap.objs.size) "set" := ⟨_, hS, rfl⟩
      have hli := PySem.F.called_set.init.lookup
      have hbi := PySem.F.called_set.init.bind (.ref s.heap.objs.size)
      repeat (any_goals (first | assumption | wp_step))

      refine codeAny_mono (codeAny_call_builtin (R := wants (fun r s₂ => r = .none ∧ ∃ h' tk, s₂ = { s with heap := h', toks := tk } ∧ SetT w h' s.heap.objs.size (met xs []) ∧
          (∀ b o, s.heap.get? b = some o → h'.get? b = some o)) E) PySem.F.called_set.init.plain PySem.F.entry_set_init (check_set_init_1 hT ?_)) fun r₂ s₂ hr₂ => ?_
      · obtain ⟨ol, hol, hcl, nl, hdl⟩ := hl
        obtain ⟨ocls, odict, odata, oslots⟩ := ol
        simp only at hcl hdl
        subst hcl; subst hdl
        have hol' : (s.heap.push { cls := .type "set", dict := none, data := .set #[] 0 (.fresh 0 0 (!w.params.followText "set-order")) }).get? l = some { cls := .type "tuple", dict := odict, data := .seq items nl, slots := oslots } := Heap.get?_push_of_some _ hol
        have hsls := PySem.F.sub_tuple_set
        have hslf := PySem.F.sub_tuple_frozenset
        have hne : (Value.type "tuple" == Value.type "dict") = false := by decide
        have hl1 : (s.heap.push { cls := .type "set", dict := none, data := .set #[] 0 (.fresh 0 0 (!w.params.followText "set-order")) }).IsTuple l items := ⟨_, hol', rfl, nl, rfl⟩
        unfold Builtin.«set.__init__» noKeywords Builtin.Frozenset.updateFrom
        generalize hPI : pyIter = PI
        wp_walk
        subst hPI

        refine wpAny_pyIter_tuple hl1 ?_
        refine wpAny_bind (wpAny_runValue ?_)
        have hlS : l < s.heap.objs.size := Heap.lt_size hol
        have hh3 : A.in1.in1.in1.handled = none := by simp [hh]
        have hneI : l ≠ (s.heap.push { cls := .type "set", dict := none, data := .set #[] 0 (.fresh 0 0 (!w.params.followText "set-order")) }).objs.size := by
          rw [Heap.size_push]; exact Nat.ne_of_lt (Nat.lt_succ_of_lt hlS)
        have hSf : s.heap.objs.size ∉ [(s.heap.push { cls := .type "set", dict := none, data := .set #[] 0 (.fresh 0 0 (!w.params.followText "set-order")) }).objs.size, l] := by
          rw [Heap.size_push]; simp only [List.mem_cons, List.mem_singleton, List.not_mem_nil, or_false, not_or]
          exact ⟨Nat.ne_of_lt (Nat.lt_succ_self _), Nat.ne_of_gt hlS⟩
        have hval : ∀ (i : Nat) (v : Value), items[i]? = some v → ∃ x t, xs[i]? = some x ∧ v = .str x t := fun i v hv => by
          have q : items.toList[i]? = some v := by rw [Array.getElem?_toList]; exact hv
          exact vals_txt hit i v q
        refine set_update_txt ((Walks.tuple hh3 _ l hneI items).toS) s.heap.objs.size hSf xs hisz hval (items.size - 0) 0 _ [] (by omega) (Nat.zero_le _)
          ⟨⟨_, Heap.get?_push_size _ rfl, rfl, rfl⟩, (hl1.push _)⟩ ?hS0 (by rw [List.length_nil]; omega) ?hR
        case hS0 => exact setT_fresh (Heap.get?_push_of_some _ hS)
        case hR =>
          intro s' hm hS'
          obtain ⟨h', g2, d', tk', os'⟩ := s'
          have eg : g2 = s.gens := hm.gens
          have ed : d' = s.drawn := hm.drawn
          have eo : os' = s.os := hm.os
          subst eg; subst ed; subst eo
          show wpAny _ _ _ _ _ _
          refine wpAny_pure ?_
          show wpAny _ _ (ret Value.none) _ _ _
          refine wpAny_pure ⟨rfl, h', tk', rfl, hS', fun b o e => ?_⟩
          have hb := Heap.lt_size e
          refine hm.heap b o ?_ (Heap.get?_push_of_some _ (Heap.get?_push_of_some _ e))
          rw [Heap.size_push]
          simp only [List.mem_cons, List.mem_singleton, List.not_mem_nil, or_false, not_or]
          exact ⟨Nat.ne_of_lt hb, Nat.ne_of_lt (Nat.lt_succ_of_lt hb)⟩

      · cases r₂ with
        | error e => exact hr₂
        | ok fl₂ =>
          cases fl₂ with
          | ret r =>
            obtain ⟨rfl, h', tk, rfl, hS', hk'⟩ := hr₂
            repeat (any_goals (first | assumption | wp_step))
            exact h _ _ hS' hk'
          | _ => exact hr₂.elim
    | _ => exact hr.elim
end
end Ev

/-! EvPure: orders of texts, the first of equal ones. -/
namespace Ev
/-! ### orders of texts -/
theorem leS (x y : List Nat) : leD (.str x) (.str y) = decide (x ≤ y) := by
  unfold leD ltD ltN
  dsimp only
  by_cases h : y < x
  · rw [decide_eq_true h, decide_eq_false (fun z => absurd h (List.not_lt.mpr z))]; rfl
  · rw [decide_eq_false h, decide_eq_true (List.not_lt.mp h)]; rfl
theorem leS_trans (x y z : List Nat) (h1 : x ≤ y) (h2 : y ≤ z) : x ≤ z := List.le_trans h1 h2
theorem sortS_pw (ts : List (List Nat)) : ((ts.map D.str).mergeSort leD).Pairwise fun a b => leD a b = true := by
  have e : (ts.map D.str).mergeSort leD = (ts.mergeSort fun a b => leD (.str a) (.str b)).map D.str := (List.map_mergeSort (f := D.str) (s := leD) (r := fun a b => leD (.str a) (.str b)) fun _ _ _ _ => rfl).symm
  rw [e, List.pairwise_map]
  refine List.pairwise_mergeSort (fun a b c h1 h2 => ?_) (fun a b => ?_) ts
  · rw [leS, decide_eq_true_eq] at *
    exact leS_trans _ _ _ h1 h2
  · rw [leS, leS]
    rcases List.le_total a b with z | z
    · rw [decide_eq_true z]; rfl
    · rw [decide_eq_true z, Bool.or_true]
theorem sortS_perm {ts us : List (List Nat)} (h : ts.Perm us) : (ts.map D.str).mergeSort leD = (us.map D.str).mergeSort leD := by
  refine List.Perm.eq_of_pairwise (le := fun a b => leD a b = true) (fun a b ha hb h1 h2 => ?_) (sortS_pw ts) (sortS_pw us) ?_
  · have ha := (List.mergeSort_perm _ _).mem_iff.mp ha
    have hb := (List.mergeSort_perm _ _).mem_iff.mp hb
    obtain ⟨x, _, rfl⟩ := List.mem_map.mp ha
    obtain ⟨y, _, rfl⟩ := List.mem_map.mp hb
    rw [leS, decide_eq_true_eq] at h1 h2
    rw [List.le_antisymm h1 h2]
  · exact ((List.mergeSort_perm _ _).trans (h.map _)).trans (List.mergeSort_perm _ _).symm
theorem sortD_txt (ts : List (List Nat)) (h : ts.length ≤ LIM) : sortD (ts.map D.str) = .ok (.lst ((ts.map D.str).mergeSort leD)) := by
  unfold sortD
  refine if_pos ⟨by rw [List.length_map]; exact h, ?_, ?_, ?_⟩
  · unfold allAlike
    rw [List.all_eq_true]
    intro x hx
    rw [List.all_eq_true]
    intro y hy
    obtain ⟨a, _, rfl⟩ := List.mem_map.mp hx
    obtain ⟨b, _, rfl⟩ := List.mem_map.mp hy
    rfl
  · rw [List.all_eq_true]
    intro x hx
    obtain ⟨a, _, rfl⟩ := List.mem_map.mp hx
    rfl
  · rw [List.all_eq_true]
    intro x hx
    obtain ⟨a, _, rfl⟩ := List.mem_map.mp hx
    rfl
/-! ### the first ones -/
def firstT : List (List Nat) → List (List Nat)
  | [] => []
  | x :: xs => x :: (firstT xs).filter fun y => !(x == y)
theorem firsts_txt : ∀ ts : List (List Nat), firsts (ts.map D.str) = (firstT ts).map D.str
  | [] => rfl
  | x :: xs => by
    rw [List.map_cons, firsts, firstT, List.map_cons, firsts_txt xs, List.filter_map]
    rfl
theorem firstT_mem : ∀ {ts : List (List Nat)} {x : List Nat}, x ∈ firstT ts ↔ x ∈ ts
  | [], x => Iff.rfl
  | y :: ts, x => by
    rw [firstT, List.mem_cons, List.mem_cons, List.mem_filter, firstT_mem]
    constructor
    · rintro (h | h)
      · exact .inl h
      · exact .inr h.1
    · rintro (h | h)
      · exact .inl h
      · by_cases e : x = y
        · exact .inl e
        · exact .inr ⟨h, by simpa using fun z => e z.symm⟩
theorem firstT_nodup : ∀ ts : List (List Nat), (firstT ts).Nodup
  | [] => List.nodup_nil
  | y :: ts => by
    rw [firstT, List.nodup_cons]
    refine ⟨fun h => ?_, (firstT_nodup ts).filter _⟩
    have := (List.mem_filter.mp h).2
    simp at this
theorem firstT_len (ts : List (List Nat)) : (firstT ts).length ≤ ts.length := by
  induction ts with
  | nil => exact Nat.le_refl _
  | cons x ts ih =>
    rw [firstT, List.length_cons, List.length_cons]
    exact Nat.succ_le_succ (Nat.le_trans (List.length_filter_le _ _) ih)
theorem allS_map : ∀ {xs : List D} {ts : List (List Nat)}, Ev.allS xs = .ok ts → xs = ts.map D.str
  | [], ts, h => by cases h; rfl
  | d :: xs, ts, h => by
    obtain ⟨i, e1, h⟩ := bind_eq_ok h
    obtain ⟨js, e2, h⟩ := bind_eq_ok h
    cases h
    rw [allS_map e2]
    cases d with
    | str x => cases e1; rfl
    | _ => cases e1
end Ev

/-! EvSet2: sorted(set(texts)), the rules. -/
namespace Ev
open PySem PySem.Spec PyProof.Rows L2
theorem met_mem : ∀ {xs l : List Str} {x : Str}, x ∈ met xs l ↔ x ∈ xs ∨ x ∈ l
  | [], l, x => by simp [met]
  | y :: xs, l, x => by
    rw [met, met_mem, List.mem_cons]
    unfold more
    split
    · rename_i h
      constructor
      · rintro (z | z) <;> simp [z]
      · rintro ((z | z) | z)
        · exact .inr (z ▸ h)
        · exact .inl z
        · exact .inr z
    · rw [List.mem_cons]
      constructor
      · rintro (z | z | z) <;> simp [z]
      · rintro ((z | z) | z) <;> simp [z]
theorem met_nodup : ∀ {xs l : List Str}, l.Nodup → (met xs l).Nodup
  | [], l, h => h
  | y :: xs, l, h => by
    rw [met]
    refine met_nodup ?_
    unfold more
    split
    · exact h
    · rename_i hn
      exact List.nodup_cons.mpr ⟨hn, h⟩
theorem tl_Sx (x : List Nat) : (Sx x).cps.toList = x := by
  show x.toArray.toList = x
  simp
theorem met_sort {ts : List (List Nat)} {ys : List Str} (h : ys.Perm (met (ts.map Sx) [])) (hl : ts.length ≤ 4000) : sortD ((ys.map fun y => y.cps.toList).map D.str) = sortD (firsts (ts.map D.str)) := by
  have hp : (ys.map fun y => y.cps.toList).Perm (firstT ts) := by
    have hinj : ∀ a b : Str, a.cps.toList = b.cps.toList → a = b := fun a b e => by
      rw [← SX.S_tl a, ← SX.S_tl b, e]
    have nd1 : (ys.map fun y => y.cps.toList).Nodup := by
      refine List.Pairwise.map _ (fun a b hab z => hab (hinj a b z)) (h.nodup_iff.mpr (met_nodup List.nodup_nil))
    refine (List.perm_ext_iff_of_nodup nd1 (firstT_nodup ts)).mpr fun a => ?_
    rw [firstT_mem, List.mem_map]
    constructor
    · rintro ⟨y, hy, rfl⟩
      have := met_mem.mp (h.mem_iff.mp hy)
      rcases this with z | z
      · obtain ⟨t, ht, rfl⟩ := List.mem_map.mp z
        rw [tl_Sx]; exact ht
      · cases z
    · intro ha
      exact ⟨Sx a, h.mem_iff.mpr (met_mem.mpr (.inl (List.mem_map.mpr ⟨a, ha, rfl⟩))), tl_Sx a⟩
  have hlen : (firstT ts).length ≤ LIM := by
    have := firstT_len ts
    have : (4000 : Nat) ≤ LIM := by decide
    omega
  rw [firsts_txt, sortD_txt _ (by rw [hp.length_eq]; exact hlen), sortD_txt _ hlen, sortS_perm hp]
/-! ### the rules -/
/-- the set at a -/
def SetX (w : World) (a : Addr) (l : List Str) : HO := .ext fun h => SetT w h a l
section
variable {C : Cfg} {Γ : Gam} {T : Tbl} {n : Nat} {X : Cx} {W : Nat → Hp → Prop} {e e1 e2 e3 : Expr} {pos apos : Pos} {f f1 f2 f3 : Ev.Env → R D}
theorem setX_new {P : Program} {w : World} {H : Hp} {h : Heap} {a : Addr} {l : List Str} (R : SetT w h a l) : ObjOk P w H h a (SetX w a l) := by
  have ⟨o, es, ep, t, ho, r⟩ := R
  exact ⟨R, ⟨o, ho⟩, fun h1 h2 p k => SetT.at p k⟩
/-- what set() is asked of: texts in a list, in a tuple, or a text's signs -/
def SetArg (K : PySem.W.Frag) (H : Hp) (v : V) (ts : List (List Nat)) : Prop :=
  (∃ l, v = .ref l ∧ SqL K H l ((ts.map Sx).map V.str)) ∨ (∃ l, v = .ref l ∧ SqT K H l ((ts.map Sx).map V.str)) ∨ ∃ z : List Nat, v = .str (Sx z) ∧ ts = z.map fun c => [c]
theorem signs_Sx (z : List Nat) : signs (Sx z) = (z.map fun c => [c]).map Sx := by
  unfold signs
  rw [show (Sx z).cps.toList = z from tl_Sx z, List.map_map]
  rfl
theorem cr_setTxt (hc : X.calm = true) : CallR X (.type "set") (fun xs H Q => ∃ (v : V) (ts : List (List Nat)), xs = [v] ∧ SetArg X.K H v ts ∧ ts.length ≤ 4000 ∧ ∀ p, H p = none → Q (.ref p) (upd H p (SetX X.w p (met (ts.map Sx) [])))) := by
  intro pins s σ H xs us Q I r h
  obtain ⟨v, ts, rfl, hl, hf, q⟩ := h
  have room : (ts.map Sx).length + 1 < scanBound := by rw [List.length_map]; show ts.length + 1 < 4096; omega
  rcases hl with ⟨l, rfl, hl⟩ | ⟨l, rfl, hl⟩ | ⟨z, rfl, hz⟩
  · rw [Vals.ref1 r]
    obtain ⟨its, rv, pl, hz⟩ := I.list hl
    refine call_set_txt (P := X.prog) (w := X.w) (ts.map Sx) (I.ok.hd hc) pl.isList (by simpa using rv) room fun h' tk R k => ?_
    exact ⟨.ref s.heap.objs.size, _, I.laid (t' := tk) k (Nat.le_refl _) (setX_new R), rfl, q _ (I.hok.fresh (Nat.le_refl _))⟩
  · rw [Vals.ref1 r]
    obtain ⟨its, rv, pl, hz⟩ := I.tuple hl
    refine call_set_tup (P := X.prog) (w := X.w) (ts.map Sx) (I.ok.hd hc) pl (by simpa using rv) room fun h' tk R k => ?_
    exact ⟨.ref s.heap.objs.size, _, I.laid (t' := tk) k (Nat.le_refl _) (setX_new R), rfl, q _ (I.hok.fresh (Nat.le_refl _))⟩
  · obtain ⟨u, rfl, ru⟩ := vals1 r
    obtain ⟨t, rfl⟩ := ru
    refine call_set_sgn (P := X.prog) (w := X.w) (xs := ts.map Sx) (by rw [signs_Sx, hz]) (I.ok.hd hc) room fun h' tk R k => ?_
    exact ⟨.ref s.heap.objs.size, _, I.laid (t' := tk) k (Nat.le_refl _) (setX_new R), rfl, q _ (I.hok.fresh (Nat.le_refl _))⟩
theorem reps_str {K : PySem.W.Frag} {H : Hp} : ∀ ys : List Str, Reps K H (ys.map V.str) ((ys.map fun y => y.cps.toList).map D.str)
  | [] => .nil
  | y :: ys => by
    refine .cons ?_ (reps_str ys)
    have := Rep.str (K := K) (H := H) y.cps.toList
    rwa [show Sx y.cps.toList = y from SX.S_tl y] at this
theorem vals_set {w : World} : ∀ {es : List (Int × Value)} , (∀ e ∈ es, GoodT w e) → Vals ((es.map tOf).map V.str) (es.map (·.2))
  | [], _ => .nil
  | e :: es, g => by
    obtain ⟨k, u, e1, _⟩ := g e List.mem_cons_self
    refine .cons ?_ (vals_set fun x hx => g x (List.mem_cons_of_mem _ hx))
    unfold tOf
    rw [e1]
    exact ⟨u, e1⟩
theorem vals_back {vs : List V} {us ws : List Value} (h : Vals vs us) (p : ws.Perm us) : ∃ vs', vs'.Perm vs ∧ Vals vs' ws := by
  induction p generalizing vs with
  | nil => cases h; exact ⟨[], .nil, .nil⟩
  | cons x _ ih =>
    cases h with
    | cons r h =>
      obtain ⟨vs', p', h'⟩ := ih h
      exact ⟨_ :: vs', .cons _ p', .cons r h'⟩
  | swap x y l =>
    cases h with
    | cons r h =>
      cases h with
      | cons r' h => exact ⟨_ :: _ :: _, .swap _ _ _, .cons r' (.cons r h)⟩
  | trans _ _ ih1 ih2 =>
    obtain ⟨v1, p1, h1⟩ := ih2 h
    obtain ⟨v2, p2, h2⟩ := ih1 h1
    exact ⟨v2, p2.trans p1, h2⟩
theorem perm_str {vs : List V} {ys : List Str} (p : vs.Perm (ys.map V.str)) : ∃ zs : List Str, zs.Perm ys ∧ vs = zs.map V.str := by
  have : ∀ v ∈ vs, ∃ y, v = V.str y := fun v hv => by
    obtain ⟨y, _, e⟩ := List.mem_map.mp (p.mem_iff.mp hv)
    exact ⟨y, e.symm⟩
  let g : V → Str := fun v => match v with | .str y => y | _ => ""
  have e1 : vs = (vs.map g).map V.str := by
    rw [List.map_map]
    conv => lhs; rw [← List.map_id vs]
    refine List.map_congr_left fun v hv => ?_
    obtain ⟨y, rfl⟩ := this v hv
    rfl
  refine ⟨vs.map g, ?_, e1⟩
  have := p.map g
  rw [List.map_map] at this
  have e2 : List.map (g ∘ V.str) ys = ys := by
    conv => rhs; rw [← List.map_id ys]
    rfl
  rwa [e2] at this
theorem cr_sortSet (hc : X.calm = true) (hu : X.A.units + 128 < cLine) : CallR X (.builtin "sorted") (fun xs H Q => ∃ (O : List Addr) (a : Addr) (ts : List (List Nat)) (r : D), xs = [.ref a] ∧ TrO O H ∧ H a = some (SetX X.w a (met (ts.map Sx) [])) ∧ ts.length ≤ 4000 ∧ sortD (firsts (ts.map D.str)) = .ok r ∧ ∀ v H', Ext C.T H H' → Rep X.K (Hm O H') v r → Q v H') := by
  intro pins s σ H xs us Q I rv h
  obtain ⟨O, a, ts, r, rfl, tr, ha, hl, ho, q⟩ := h
  obtain ⟨u, rfl, ru⟩ := vals1 rv
  obtain rfl : u = Value.ref a := ru
  obtain ⟨o, es, ep, t, hobj, hex, hd, hg, hperm, hnd, hb, hf, hr, hled⟩ : SetT X.w s.heap a (met (ts.map Sx) []) := (I.hok a _ ha).1
  refine sorted_any (T := C.T) hu tr (collect_set (P := X.prog) (w := X.w) (A := X.A.in1) (I.ok.hd hc) ⟨o, hobj, hex.1, hd⟩ hf hb hr hled fun s' out hk hsz hgen hos hout => ?_) q
  refine ⟨I.call' (ch := []) hos (Un.kept hk) (I.hok.kept hk) (by rw [hgen]; exact I.bare) (fun _ z => by simp at z), ?_⟩
  obtain ⟨vs, pv, hv⟩ := vals_back (vals_set hg) hout
  obtain ⟨zs, pz, rfl⟩ := perm_str pv
  exact ⟨_, _, hv, reps_str zs, by rw [met_sort (pz.trans hperm) hl]; exact ho⟩
theorem sx_srtset {p p2 pos2 : Pos} (g : Good0 C Γ T n X W) (hx : biOk Γ "sorted" = true) (hy : biOk Γ "set" = true) (h1 : PE X e1 (rdB X C W f1)) (p1 : plainF e1 = true) :
    SX X C W (.Call (.Name "sorted" p) [.Call (.Name "set" p2) [e1] [] pos2] [] pos) (fun ρ => (f1 ρ).bind (biD .srtset)) := by
  obtain ⟨hg, hm⟩ := bi_of g hx
  obtain ⟨hg2, hm2⟩ := bi_of g hy
  have hin := pe_callTy (pos := pos2) (p := p2) (cr_setTxt g.calm) hg2 hm2 (by decide +kernel) (pa_cons h1 pa_nil (star_cons p1 [] X.env)) (by decide +kernel) (by decide +kernel) (star_cons p1 [] X.env) rfl
  refine sx_val (peW (pe_callB (cr_sortSet (C := C) g.calm g.hu) hg hm (by decide +kernel) (pa_cons hin pa_nil rfl) (by decide +kernel) (by decide +kernel) rfl rfl) fun σ H Q q => ?_) rfl
  obtain ⟨O, ρ, r, pg⟩ := q
  refine one r pg fun d x H1 e1 t1 rx p1 => ?_
  obtain ⟨d', hd, q⟩ := p1.noEx (noEx_bi .srtset d)
  have fin : ∀ (v : V) (ts : List (List Nat)), SetArg X.K H1 v ts → ts.length ≤ 4000 → sortD (firsts (ts.map D.str)) = .ok d' →
      ∃ (v' : V) (ts' : List (List Nat)), [v] = [v'] ∧ SetArg X.K H1 v' ts' ∧ ts'.length ≤ 4000 ∧ ∀ p, H1 p = none → ∃ (O : List Addr) (a : Addr) (ts : List (List Nat)) (r : D), [V.ref p] = [V.ref a] ∧ TrO O (upd H1 p (SetX X.w p (met (ts'.map Sx) []))) ∧ (upd H1 p (SetX X.w p (met (ts'.map Sx) []))) a = some (SetX X.w a (met (ts.map Sx) [])) ∧ ts.length ≤ 4000 ∧ sortD (firsts (ts.map D.str)) = .ok r ∧ ∀ v H', Ext C.T (upd H1 p (SetX X.w p (met (ts'.map Sx) []))) H' → Rep X.K (Hm O H') v r → Q v H' := fun v ts hv hl hd => by
    refine ⟨v, ts, rfl, hv, hl, fun p hp => ?_⟩
    have ex : Ext C.T H1 (upd H1 p (SetX X.w p (met (ts.map Sx) []))) := Ext.new hp
    exact ⟨O, p, ts, d', rfl, t1.ext ex.1, upd_same, hl, hd, fun v H' e' rv => q v H' (ex.trans e') rv⟩
  cases d with
  | lst xs =>
    obtain ⟨ts, hts, hd⟩ := bind_eq_ok hd
    split at hd
    · rename_i hl
      obtain ⟨a, vs, rfl, hs, hr⟩ := rx
      have hv := Reps.allS' hr hts
      subst hv
      have hxs : xs = ts.map D.str := allS_map hts
      subst hxs
      exact fin _ ts (.inl ⟨a, rfl, hs⟩) hl hd
    · cases hd
  | tup xs =>
    obtain ⟨ts, hts, hd⟩ := bind_eq_ok hd
    split at hd
    · rename_i hl
      have rx : Rep X.K (Hm O H1) x (.tup xs) := rx
      cases rx with
      | tup hs hr =>
        rename_i a vs
        have hv := Reps.allS' hr hts
        subst hv
        have hxs : xs = ts.map D.str := allS_map hts
        subst hxs
        exact fin _ ts (.inr (.inl ⟨a, rfl, sqT_ext ExtN.hmTop hs⟩)) hl hd
    · cases hd
  | str z =>
    have hd : (if z.length ≤ 4000 then sortD (firsts (z.map fun c => .str [c])) else .no) = R.ok d' := hd
    split at hd
    · rename_i hl
      have rx : Rep X.K (Hm O H1) x (.str z) := rx
      cases rx
      have e : (z.map fun c => D.str [c]) = (z.map fun c => [c]).map D.str := by rw [List.map_map]; rfl
      rw [e] at hd
      exact fin _ _ (.inr (.inr ⟨z, rfl, rfl⟩)) (by rw [List.length_map]; exact hl) hd
    · cases hd
  | _ => cases hd
end
end Ev

/-! EvEnu: enumerate(tuple): as of lists. -/
namespace PySem
open Sem (wp)
open AutoSeq1 (wpAny_loadPart')
theorem enT_new (l : Addr) (items : Array Value) (n : Nat) (dct : Option Addr) (sl : Array (Option Value)) :
    Meets (Builtin.«enumerate.__new__» ⟨[.type "enumerate", .ref l], []⟩) (fun _ R s => s.heap.get? l = some { cls := .type "tuple", dict := dct, data := .seq items n, slots := sl } ∧
      R (.ok (.ret (.ref (s.heap.push { cls := .type "tuple_iterator", data := .fields #[.ref l, .int 0 0] }).objs.size)))
        { s with heap := (s.heap.push { cls := .type "tuple_iterator", data := .fields #[.ref l, .int 0 0] }).push { cls := .type "enumerate", data := .fields #[.none, .bool false, .ref s.heap.objs.size, rawInt 0, .none, .none] } }) :=
  .of_wp fun prog w A R s h => by
    obtain ⟨hp, g, d, tk, os⟩ := s; obtain ⟨hl, h⟩ := h
    have hsub := sub_enumerate
    have hL : Heap.IsTuple (Shared.heap ⟨hp, g, d, tk, os⟩) l items := ⟨_, hl, rfl, n, rfl⟩
    wp_walk using wpAny_loadPart' hl
    refine wpAny_stack_any fun st => wpAny_pure ?_
    split
    · rename_i c _ _ _ _ _
      cases (c == Value.type "enumerate")
      · wp_walk using wpAny_loadPart' hl, wpAny_pyIter_tuple hL
        exact ⟨_, rfl, h⟩
      · wp_walk using wpAny_loadPart' hl, wpAny_pyIter_tuple hL
        exact ⟨_, rfl, h⟩
    · wp_walk using wpAny_loadPart' hl, wpAny_pyIter_tuple hL
      exact ⟨_, rfl, h⟩

section
variable {prog : Program} {w : World} {A : Around} {E : Value → Shared → Prop} {s : Shared}
theorem enT_nextOf {it l : Addr} {i : Nat} {items} {x : Value} {Q : Value → Shared → Prop} (hit : s.heap.IsTupleIter it l i)
    (hl : s.heap.IsTuple l items) (hx : items[i]? = some x)
    (hQ : ∀ h', h'.IsTupleIter it l (i + 1) → Heap.SameBut it s.heap h' → Q x { s with heap := h' }) :
    wpAny (model prog w) A (Builtin.SmallTypes.nextOf (.ref it)) Q E s := by
  obtain ⟨o, ho, hc, hd⟩ := id hit
  obtain ⟨ol, hol, _, nl, hdl⟩ := hl
  unfold Builtin.SmallTypes.nextOf
  refine wpAny_bind (wpAny_callSpecial?_slot (name := Str.ofString "__next__") hit.typeIs F.slot_tuple_iterator_next
    (wpAny_call_entry F.slot_tuple_iterator_next hit.typeIs F.entry_tuple_iterator_next ?_ (F.args_tuple_iterator_next_1 _)))
  show wpAny _ _ (field (.ref it) 0 >>= _) _ _ s
  refine wpAny_bind (wpAny_field ho hd (x := .ref l) rfl ?_)
  show wpAny _ _ (if (Value.ref l == Value.none) = true then _ else _) _ _ s
  rw [if_neg (show ¬ ((Value.ref l == Value.none) = true) from Bool.false_ne_true)]
  show wpAny _ _ (field (.ref it) 1 >>= _) _ _ s
  refine wpAny_bind (wpAny_field ho hd (x := .int i 0) rfl ?_)
  show wpAny _ _ (seqItems? (.ref l) >>= _) _ _ s
  refine wpAny_bind (wpAny_seqItems hol hdl ?_)
  simp only [Int.toNat_natCast, hx]
  refine wpAny_bind (wpAny_setField ho hd (by simp) (wpAny_pure ⟨x, rfl, wpAny_pure (hQ _ ?_ (Heap.SameBut.update ..))⟩))
  exact ⟨_, Heap.get?_update_self _ ho (Obj.isFreed_of_fields (Obj.data_mapFields hd _)), (Obj.cls_mapFields ..).trans hc, by
    rw [Obj.data_mapFields hd]; simp [rawInt]⟩

theorem enT_nextEnd {it l : Addr} {i : Nat} {items} {Q : Value → Shared → Prop} (hh : A.handled = none)
    (hit : s.heap.IsTupleIter it l i) (hl : s.heap.IsTuple l items) (hx : items[i]? = none)
    (hE : ∀ h' e, Heap.ExtBut it s.heap h' → (∃ o, h'.get? e = some o ∧ o.cls = .type "StopIteration") → E (.ref e) { s with heap := h' }) :
    wpAny (model prog w) A (Builtin.SmallTypes.nextOf (.ref it)) Q E s := by
  obtain ⟨o, ho, hc, hd⟩ := id hit
  obtain ⟨ol, hol, _, nl, hdl⟩ := hl
  unfold Builtin.SmallTypes.nextOf
  refine wpAny_bind (wpAny_callSpecial?_slot (name := Str.ofString "__next__") hit.typeIs F.slot_tuple_iterator_next
    (wpAny_call_entry F.slot_tuple_iterator_next hit.typeIs F.entry_tuple_iterator_next ?_ (F.args_tuple_iterator_next_1 _)))
  show wpAny _ _ (field (.ref it) 0 >>= _) _ _ s
  refine wpAny_bind (wpAny_field ho hd (x := .ref l) rfl ?_)
  show wpAny _ _ (if (Value.ref l == Value.none) = true then _ else _) _ _ s
  rw [if_neg (show ¬ ((Value.ref l == Value.none) = true) from Bool.false_ne_true)]
  show wpAny _ _ (field (.ref it) 1 >>= _) _ _ s
  refine wpAny_bind (wpAny_field ho hd (x := .int i 0) rfl ?_)
  show wpAny _ _ (seqItems? (.ref l) >>= _) _ _ s
  refine wpAny_bind (wpAny_seqItems hol hdl ?_)
  simp only [Int.toNat_natCast, hx]
  refine wpAny_bind (wpAny_rule (wpAny_bind (wpAny_setField ho hd (by simp) ?_)))
  show wpAny _ _ (newExc (.type "StopIteration") [] >>= _) _ _ _
  refine wpAny_bind ?_
  simp only [newExc, newTuple]
  refine wpAny_bind (wpAny_newObj_type ?_ (by size_fits))
  refine wpAny_bind (m := firstArgMember _ _) (wpAny_of_eq (a := Value.none) (by first | rfl | (simp only [firstArgMember]; rfl)) ?_)
  refine wpAny_newObj_type ?_ (by size_fits)
  simp only [raiseNew]
  refine wpAny_bind (wpAny_handled ?_)
  first | rw [show A.in1.handled = none from hh] | rw [hh]
  refine wpAny_bind (wpAny_pure (wpAny_throw ?_))
  exact hE _ _ (((Heap.SameBut.update ..).extBut.push _).push _) ⟨_, Heap.get?_push_size _ rfl, rfl⟩

theorem enT_next {e it l : Addr} {i : Nat} {items : Array Value} {x old : Value} {Q : Value → Shared → Prop}
    (he : IsEnum s.heap e it i old) (hit : s.heap.IsTupleIter it l i) (hl : s.heap.IsTuple l items) (hx : items[i]? = some x) (hne : e ≠ it)
    (hQ : ∀ h', IsEnumOut h' e it ((i : Int) + 1) x s.heap.objs.size → h'.IsTupleIter it l (i + 1) →
      h'.get? s.heap.objs.size = some { cls := .type "tuple", data := .seq #[.int i s.toks, x] } → h'.objs.size = s.heap.objs.size + 1 →
      (∀ b o, b ≠ e → b ≠ it → s.heap.get? b = some o → h'.get? b = some o) → Q (.ref s.heap.objs.size) { s with heap := h', toks := s.toks + 1 }) :
    wpAny (model prog w) A (Builtin.«enumerate.__next__» ⟨[.ref e], []⟩) (fun fin s' => ∃ v, fin = .done (.ret v) ∧ Q v s') E s := by
  obtain ⟨hp, g, d, tk, os⟩ := s
  show wpAny _ _ (field (.ref e) 2 >>= _) _ _ _
  refine wpAny_bind (wpAny_field he rfl (x := .ref it) rfl ?_)
  refine wpAny_bind (enT_nextOf hit hl hx fun h₁ hit₁ hs₁ => ?_)
  replace hs₁ : Heap.SameBut it hp h₁ := hs₁
  have he₁ : IsEnum h₁ e it i old := (hs₁.2 e hne).trans he
  show wpAny _ _ (field (.ref e) 3 >>= _) _ _ ⟨h₁, g, d, tk, os⟩
  refine wpAny_bind (wpAny_field he₁ rfl (x := rawInt i) rfl ?_)
  show wpAny _ _ (field (.ref e) 4 >>= _) _ _ ⟨h₁, g, d, tk, os⟩
  refine wpAny_bind (wpAny_field he₁ rfl (x := .none) rfl ?_)
  show wpAny _ _ (mkInt i >>= _) _ _ ⟨h₁, g, d, tk, os⟩
  refine wpAny_bind (wpAny_mkInt ?_)
  show wpAny _ _ (setField (.ref e) 3 (rawInt ((i : Int) + 1)) >>= _) _ _ ⟨h₁, g, d, tk + 1, os⟩
  refine wpAny_bind (wpAny_setField_rec he₁ (by simp) fun h₂ he₂ hs₂ => ?_)
  replace hs₂ : Heap.SameBut e h₁ h₂ := hs₂
  replace he₂ : IsEnum h₂ e it ((i : Int) + 1) old := he₂
  show wpAny _ _ (setField (.ref e) 4 .none >>= _) _ _ ⟨h₂, g, d, tk + 1, os⟩
  refine wpAny_bind (wpAny_setField_rec he₂ (by simp) fun h₃ he₃ hs₃ => ?_)
  replace hs₃ : Heap.SameBut e h₂ h₃ := hs₃
  replace he₃ : IsEnum h₃ e it ((i : Int) + 1) old := he₃
  show wpAny _ _ (newTuple [.int i tk, x] >>= _) _ _ ⟨h₃, g, d, tk + 1, os⟩
  refine wpAny_bind (wpAny_newTuple ?_)
  have he₄ : IsEnum (h₃.push { cls := .type "tuple", data := .seq #[.int i tk, x] }) e it ((i : Int) + 1) old := Heap.get?_push_of_some _ he₃
  generalize hh₄ : h₃.push { cls := .type "tuple", data := .seq #[.int i tk, x] } = h₄ at he₄
  have hsz : h₃.objs.size = hp.objs.size := by rw [hs₃.1, hs₂.1, hs₁.1]
  have hel : e < hp.objs.size := Heap.lt_size he
  have ht₄ : h₄.get? hp.objs.size = some { cls := .type "tuple", data := .seq #[.int i tk, x] } := by rw [← hh₄, ← hsz]; exact Heap.get?_push_size _ rfl
  have hz₄ : h₄.objs.size = hp.objs.size + 1 := by rw [← hh₄, Heap.size_push, hsz]
  have hk₄ : ∀ b o, b ≠ e → b ≠ it → hp.get? b = some o → h₄.get? b = some o := fun b o hbe hbi hb => by
    rw [← hh₄]; exact Heap.get?_push_of_some _ (hs₃.extBut b o hbe (hs₂.extBut b o hbe (hs₁.extBut b o hbi hb)))
  have hit₄ : h₄.IsTupleIter it l (i + 1) := by
    rw [← hh₄]; obtain ⟨o, ho, r⟩ := (hit₁.extBut hs₂.extBut (Ne.symm hne)).extBut hs₃.extBut (Ne.symm hne); exact ⟨o, Heap.get?_push_of_some _ ho, r⟩
  show wpAny _ _ (Builtin.SmallTypes.ownedTupleIsFree (.ref e) >>= _) _ _ ⟨h₄, g, d, tk + 1, os⟩
  rw [hsz]
  clear hh₄ he₃ hs₃ he₂ hs₂ he₁ hs₁ hit₁ hsz h₃ h₂ h₁
  refine wpAny_bind ?_
  · unfold Builtin.SmallTypes.ownedTupleIsFree
    refine wpAny_bind (wpAny_field he₄ rfl (x := .none) rfl (wpAny_pure ?_))
    simp only [if_true]
    refine wpAny_bind (wpAny_rule ?_)
    refine wpAny_bind (wpAny_field he₄ rfl (x := old) rfl ?_)
    refine wpAny_bind (wpAny_setField_rec he₄ (by simp) fun h₅ he₅ hs₅ => ?_)
    replace hs₅ : Heap.SameBut e h₄ h₅ := hs₅
    replace he₅ : IsEnum h₅ e it ((i : Int) + 1) x := he₅
    show wpAny _ _ (Builtin.SmallTypes.ownedTupleHandOut (.ref e) (.ref hp.objs.size) >>= _) _ _ ⟨h₅, g, d, tk + 1, os⟩
    refine wpAny_bind ?_
    · unfold Builtin.SmallTypes.ownedTupleHandOut
      refine wpAny_bind (wpAny_setField_rec he₅ (by simp) fun h₆ he₆ hs₆ => ?_)
      replace hs₆ : Heap.SameBut e h₅ h₆ := hs₆
      replace he₆ : IsEnumOut h₆ e it ((i : Int) + 1) x hp.objs.size := he₆
      refine wpAny_setField_rec he₆ (by simp) fun h₇ he₇ hs₇ => ?_
      replace hs₇ : Heap.SameBut e h₆ h₇ := hs₇
      replace he₇ : IsEnumOut h₇ e it ((i : Int) + 1) x hp.objs.size := he₇
      refine wpAny_bind (wpAny_letGo (wpAny_pure ⟨_, rfl, hQ h₇ he₇ ?_ ?_ ?_ ?_⟩))
      · exact ((hit₄.extBut hs₅.extBut (Ne.symm hne)).extBut hs₆.extBut (Ne.symm hne)).extBut hs₇.extBut (Ne.symm hne)
      · exact hs₇.extBut _ _ (Nat.ne_of_gt hel) (hs₆.extBut _ _ (Nat.ne_of_gt hel) (hs₅.extBut _ _ (Nat.ne_of_gt hel) ht₄))
      · rw [hs₇.1, hs₆.1, hs₅.1, hz₄]
      · exact fun b o hbe hbi hb => hs₇.extBut b o hbe (hs₆.extBut b o hbe (hs₅.extBut b o hbe (hk₄ b o hbe hbi hb)))

theorem enT_item {e it l : Addr} {i : Nat} {items : Array Value} {x old : Value} {Q : Option Value → Shared → Prop}
    (he : IsEnum s.heap e it i old) (hit : s.heap.IsTupleIter it l i) (hl : s.heap.IsTuple l items) (hx : items[i]? = some x) (hne : e ≠ it)
    (hQ : ∀ h', IsEnumOut h' e it ((i : Int) + 1) x s.heap.objs.size → h'.IsTupleIter it l (i + 1) →
      h'.get? s.heap.objs.size = some { cls := .type "tuple", data := .seq #[.int i s.toks, x] } → h'.objs.size = s.heap.objs.size + 1 →
      (∀ b o, b ≠ e → b ≠ it → s.heap.get? b = some o → h'.get? b = some o) → Q (some (.ref s.heap.objs.size)) { s with heap := h', toks := s.toks + 1 }) :
    wpAny (model prog w) A (pyNext (.ref e)) Q E s := by
  have hT : s.TypeIs (.ref e) "enumerate" := ⟨_, he, rfl⟩
  unfold pyNext
  exact wpAny_bind (wpAny_attempt (wpAny_callSpecial?_slot (name := Str.ofString "__next__") hT F.slot_enumerate_next
    (wpAny_call_entry F.slot_enumerate_next hT F.entry_enumerate_next
      (enT_next he hit hl hx hne fun h' a b c d k => wpAny_pure (hQ h' a b c d k)) (F.args_enumerate_next_1 _))))

theorem enT_end {e it l : Addr} {i : Nat} {items : Array Value} {old : Value} {Q : Option Value → Shared → Prop} (hh : A.handled = none)
    (he : IsEnum s.heap e it i old) (hit : s.heap.IsTupleIter it l i) (hl : s.heap.IsTuple l items) (hx : items[i]? = none)
    (hQ : ∀ h', Heap.ExtBut it s.heap h' → Q none { s with heap := h' }) : wpAny (model prog w) A (pyNext (.ref e)) Q E s := by
  have hT : s.TypeIs (.ref e) "enumerate" := ⟨_, he, rfl⟩
  unfold pyNext
  refine wpAny_bind (wpAny_attempt (wpAny_callSpecial?_slot (name := Str.ofString "__next__") hT F.slot_enumerate_next
    (wpAny_call_entry F.slot_enumerate_next hT F.entry_enumerate_next ?_ (F.args_enumerate_next_1 _))))
  show wpAny _ _ (field (.ref e) 2 >>= _) _ _ _
  refine wpAny_bind (wpAny_field he rfl (x := .ref it) rfl ?_)
  refine wpAny_bind (enT_nextEnd hh hit hl hx fun h' x he' hx' => ?_)
  obtain ⟨o, ho, hc⟩ := hx'
  refine wpAny_bind (wpAny_isInstance (T := "StopIteration") (b := true) ⟨o, ho, hc⟩ isSubtype_stop ?_)
  exact wpAny_pure (hQ _ he')
theorem enT_call {l : Addr} {items : Array Value} {Q : Value → Shared → Prop} (hL : s.heap.IsTuple l items)
    (h : ∀ h', IsEnum h' (s.heap.objs.size + 1) s.heap.objs.size 0 .none → h'.IsTupleIter s.heap.objs.size l 0 → h'.objs.size = s.heap.objs.size + 2 →
      (∀ b o, s.heap.get? b = some o → h'.get? b = some o) → Q (.ref (s.heap.objs.size + 1)) { s with heap := h' }) :
    wpAny (model prog w) A (call (.type "enumerate") [.ref l]) Q E s := by
  obtain ⟨⟨c, dct, dt, sl⟩, hl, hc, n, hd⟩ := hL
  replace hc : c = .type "tuple" := hc
  replace hd : dt = .seq items n := hd
  subst hc hd
  refine callType_new F.called_enumerate (by decide) (F.typeCall_enumerate_1 _) (F.newCall_enumerate_1 _) (fun obj => F.args_object_init_2 obj _) F.entry_enumerate_new
    (enT_new l items n dct sl) ⟨hl, ?_⟩
  have hz : (s.heap.push { cls := .type "tuple_iterator", data := .fields #[.ref l, .int 0 0] }).objs.size = s.heap.objs.size + 1 := Heap.size_push ..
  show _ ∧ _
  rw [hz]
  have he : IsEnum ((s.heap.push { cls := .type "tuple_iterator", data := .fields #[.ref l, .int 0 0] }).push
      { cls := .type "enumerate", data := .fields #[.none, .bool false, .ref s.heap.objs.size, rawInt 0, .none, .none] }) (s.heap.objs.size + 1) s.heap.objs.size 0 .none := by
    have := Heap.get?_push_size (s.heap.push { cls := .type "tuple_iterator", data := .fields #[.ref l, .int 0 0] })
      (o := { cls := .type "enumerate", data := .fields #[.none, .bool false, .ref s.heap.objs.size, rawInt 0, .none, .none] }) rfl
    rw [hz] at this; exact this
  refine ⟨⟨_, he, rfl⟩, h _ he ⟨_, Heap.get?_push_of_some _ (Heap.get?_push_size _ rfl), rfl, rfl⟩ (by rw [Heap.size_push, hz]) fun b o x => Heap.get?_push_of_some _ (Heap.get?_push_of_some _ x)⟩

end
end PySem
namespace L2
open PySem PySem.Spec PyProof.Rows
def IteT (K : PySem.W.Frag) (a : Addr) : It :=
  ⟨fun i H => ∃ (xs : List V) (x : V), SqT K H a xs ∧ xs[i]? = some x, fun i H v H' => ∃ T x, v = .ref T ∧ H T = none ∧ H' = upd H T (.tup [.int (i : Nat), x]) ∧ ∀ xs, SqT K H a xs → xs[i]? = some x, fun i H => ∃ xs : List V, SqT K H a xs ∧ xs.length ≤ i⟩
theorem turn_enumT {P : Program} {w : World} {K : PySem.W.Frag} {elts : List Expr} {kk : Nat} {tpos : Pos} (a e it : Addr) :
    Turn P w K (.Tuple elts kk tpos) (IteT K a) [e, it] e (fun i h => (∃ old, IsEnum h e it ((i : Nat) : Int) old) ∧ h.IsTupleIter it a i ∧ e ≠ it) where
  mem := by simp
  obj := fun i h st b hb => by
    obtain ⟨⟨old, he⟩, ⟨o, ho, hc, hd⟩, _⟩ := st
    have e' : b = e ∨ b = it := by simpa using hb
    rcases e' with z | z
    · rw [z]; exact ⟨_, he, fun v q => nomatch q⟩
    · rw [z]; exact ⟨o, ho, fun v q => by rw [hd] at q; cases q⟩
  keep := fun i h h' st k => let ⟨⟨old, he⟩, hi, hne⟩ := st; ⟨⟨old, k e (by simp) _ he⟩, hi.at fun o q => k it (by simp) o q, hne⟩
  item := by
    intro X hP hw hK hc i pins s σ H E I hf st hg
    subst hP hw hK
    obtain ⟨⟨old, he⟩, hit, hne⟩ := st
    obtain ⟨xs, x, hq, hx⟩ := hg
    obtain ⟨its, rv, p, hz⟩ := I.tuple hq
    obtain ⟨u, hu, ru⟩ := rv.get hx
    have hel : e < s.heap.objs.size := Heap.lt_size he
    have hil : it < s.heap.objs.size := by obtain ⟨_, q, _⟩ := hit; exact Heap.lt_size q
    refine enT_item he hit p (x := u) (by simpa using hu) hne fun h' ho hit' hT hsz hk => ?_
    refine ⟨_, rfl, wpAny_letOwnedTupleGo_enum (s := { s with heap := h', toks := s.toks + 1 }) ho fun h'' he' sb => ?_⟩
    have hT2 : h''.get? s.heap.objs.size = some { cls := .type "tuple", data := .seq #[.int i s.toks, u] } := (sb.2 _ (Nat.ne_of_gt hel)).trans hT
    have new : ObjOk X.prog X.w (upd H s.heap.objs.size (.tup [.int (i : Nat), x])) h'' s.heap.objs.size (.tup [.int (i : Nat), x]) :=
      ⟨by show 2 ≤ sizeLine; decide, [.int i s.toks, u], .cons ⟨_, rfl⟩ (.cons ru .nil), ⟨_, hT2, rfl, _, rfl⟩⟩
    have I1 : Inv X pins σ (upd H s.heap.objs.size (.tup [.int (i : Nat), x])) { s with heap := h'', toks := s.toks + 1 } :=
      I.turnedNew (ch := [e, it]) (fun b ob hb q => (sb.2 b (fun z => hb (by simp [z]))).trans (hk b ob (fun z => hb (by simp [z])) (fun z => hb (by simp [z])) q)) hf (Nat.le_refl _) new
    refine ⟨.ref s.heap.objs.size, _, I1, rfl, ⟨_, x, rfl, I.hok.fresh (Nat.le_refl _), rfl, fun ys hy => by rw [I.tuple_inj hy hq]; exact hx⟩, ⟨⟨u, ?_⟩, hit'.at fun o q => (sb.2 it (Ne.symm hne)).trans q, hne⟩, fun b hb => ?_⟩
    · have e1 : ((i + 1 : Nat) : Int) = (i : Int) + 1 := by omega
      rw [e1]; exact he'
    · have hb' : b < s.heap.objs.size := by
        have e' : b = e ∨ b = it := by simpa using hb
        rcases e' with z | z
        · rw [z]; exact hel
        · rw [z]; exact hil
      rw [upd_ne (Nat.ne_of_lt hb')]
      exact (hf b hb).1
  done := by
    intro X hP hw hK hc i pins s σ H E I hf st hg
    subst hP hw hK
    obtain ⟨⟨old, he⟩, hit, hne⟩ := st
    obtain ⟨xs, hq, hx⟩ := hg
    obtain ⟨its, rv, p, hz⟩ := I.tuple hq
    obtain ⟨f0, f1, f2, f3, f4, f5⟩ := hf it (by simp)
    have hl := rv.length
    exact enT_end (I.ok.hd hc) he hit p (by simp; omega) fun h' eb => ⟨rfl, I.turned (t' := s.toks) (fun b o hb q => eb b o hb q) f0 f1 f3 f4 f5⟩
  self := fun A i s Q E st h => let ⟨⟨_, he⟩, _⟩ := st; wpAny_pyIter_enum he h
/-- enumerate of a list or of a tuple -/
def iEnumB (K : PySem.W.Frag) (ta : TA) : TI := fun σ H R => ta σ H fun vs H1 => ∃ a xs, vs = [.ref a] ∧ ((SqL K H1 a xs ∧ R (Ite K a) H1) ∨ (SqT K H1 a xs ∧ R (IteT K a) H1))
theorem pi_enumB {X : Cx} {e : Expr} {ta : TA} {p pos tpos : Pos} {elts : List Expr} {kk : Nat} (hg : Gl X "enumerate") (hm : X.mg "enumerate" = none) (ha : PA X [e] ta) (hs : starEach [e] X.env = [(false, eval e X.env)] := by rfl) :
    PI X (.Tuple elts kk tpos) (.Call (.Name "enumerate" p) [e] [] pos) (iEnumB X.K ta) := by
  refine ⟨fun pins s σ H R I h => Call_ (ld_blt I hg hm boot_enumerate (PyProof.Rows.callWith_type1 (thn (ha.run pos pins s σ H _ I h) fun us s1 ⟨vs, H1, I1, r1, q1⟩ => ?_) hs rfl))⟩
  obtain ⟨a, xs, rfl, q1⟩ := q1
  rw [Vals.ref1 r1]
  have fp : ∀ b ∈ [s1.heap.objs.size + 1, s1.heap.objs.size], s1.heap.objs.size ≤ b := fun b hb => by
    simp only [List.mem_cons, List.not_mem_nil, or_false] at hb
    omega
  rcases q1 with ⟨hq, q⟩ | ⟨hq, q⟩
  · obtain ⟨its, rv, p', hz⟩ := I1.list hq
    refine call_enumerate_list p'.isList fun h' he hit hsz hk => wpAny_pyIter_enum he ?_
    exact ⟨_, [s1.heap.objs.size + 1, s1.heap.objs.size], _, _, H1, rfl, I1.kept (t' := s1.toks) hk, turn_enum a (s1.heap.objs.size + 1) s1.heap.objs.size, ⟨⟨.none, he⟩, hit, Nat.succ_ne_self _⟩, fun b hb => I1.fpOk (fp b hb) (I1.hok.fresh (fp b hb)), q⟩
  · obtain ⟨its, rv, p', hz⟩ := I1.tuple hq
    refine enT_call p' fun h' he hit hsz hk => wpAny_pyIter_enum he ?_
    exact ⟨_, [s1.heap.objs.size + 1, s1.heap.objs.size], _, _, H1, rfl, I1.kept (t' := s1.toks) hk, turn_enumT a (s1.heap.objs.size + 1) s1.heap.objs.size, ⟨⟨.none, he⟩, hit, Nat.succ_ne_self _⟩, fun b hb => I1.fpOk (fp b hb) (I1.hok.fresh (fp b hb)), q⟩
end L2

set_option maxHeartbeats 1000000
/-! EvZip: zip of a list and a tuple (step by step as the layer has it for two of a kind). -/
namespace RZ
open PySem
open PySem.Sem (wp)
section
variable {prog : Program} {w : World} {A : Around} {E : Value → Shared → Prop} {s : Shared}
theorem zipM_item {z TI TO i1 i2 l1 l2 : Addr} {k1 k2 : Nat} {xs ys : Array Value} {x y a b : Value} {Q : Value → Shared → Prop} (D : ZipApart z TI TO i1 i2 l1 l2)
    (hz : IsZip s.heap z TI TO .none) (hTI : IsPair s.heap TI (.ref i1) (.ref i2)) (hTO : IsPair s.heap TO a b)
    (h1 : s.heap.IsListIter i1 l1 k1) (h2 : s.heap.IsTupleIter i2 l2 k2) (hl1 : s.heap.IsList l1 xs) (hl2 : s.heap.IsTuple l2 ys) (hx : xs[k1]? = some x) (hy : ys[k2]? = some y)
    (hQ : ∀ h', IsZip h' z TI TO (rawInt s.heap.objs.size) → IsPair h' TO x y → h'.IsListIter i1 l1 (k1 + 1) → h'.IsTupleIter i2 l2 (k2 + 1) → IsPair h' s.heap.objs.size x y → h'.objs.size = s.heap.objs.size + 1 →
      (∀ c o, c ≠ z → c ≠ TO → c ≠ i1 → c ≠ i2 → s.heap.get? c = some o → h'.get? c = some o) → Q (.ref s.heap.objs.size) { s with heap := h' }) :
    wpAny (model prog w) A (Builtin.«zip.__next__» ⟨[.ref z], []⟩) (fun fin s' => ∃ v, fin = .done (.ret v) ∧ Q v s') E s := by
  show wpAny _ _ (field (.ref z) 2 >>= _) _ _ _
  refine wpAny_bind (wpAny_field hz rfl (x := .bool false) rfl ?_)
  show wpAny _ _ (field (.ref z) 3 >>= _) _ _ _
  refine wpAny_bind (wpAny_field hz rfl (x := .ref TI) rfl ?_)
  refine wpAny_bind (wpAny_seqItems hTI rfl ?_)
  show wpAny _ _ (Builtin.SmallTypes.ownedTupleIsFree (.ref z) >>= _) _ _ _
  refine wpAny_bind ?_
  unfold Builtin.SmallTypes.ownedTupleIsFree
  refine wpAny_bind (wpAny_field hz rfl (x := .none) rfl (wpAny_pure ?_))
  simp only [if_true]
  refine wpAny_bind (wpAny_rule ?_)
  refine wpAny_bind (wpAny_field hz rfl (x := .ref TO) rfl ?_)
  refine wpAny_bind (wpAny_setField_rec hz (by simp) fun g1 z1 s1 => ?_)
  replace z1 : IsZip g1 z TI TO .ellipsis := z1
  refine wpAny_bind ?_
  simp only [List.zipIdx_cons, List.zipIdx_nil, List.forIn_cons, List.forIn_nil]
  refine wpAny_bind (wpAny_bind (wpAny_onRaise ?_))
  show wpAny _ _ (Builtin.SmallTypes.nextOf (.ref i1) >>= _) _ _ _
  refine wpAny_bind (wpAny_nextOf_list_item (h1.extBut s1.extBut D.i1z) (hl1.extBut s1.extBut D.l1z) hx fun g2 a2 s2 => wpAny_pure ?_)
  have t2 : IsPair g2 TO a b := s2.extBut _ _ D.TOi1 (s1.extBut _ _ D.TOz hTO)
  refine wpAny_bind (wpAny_seqItems t2 rfl ?_)
  refine wpAny_bind (wpAny_updateSeq_pair t2 fun g3 t3 s3 => ?_)
  replace t3 : IsPair g3 TO x b := t3
  refine wpAny_bind (wpAny_letGo (wpAny_pure ?_))
  refine wpAny_bind (wpAny_bind (wpAny_onRaise ?_))
  show wpAny _ _ (Builtin.SmallTypes.nextOf (.ref i2) >>= _) _ _ _
  refine wpAny_bind (nextOf_tuple_item (((h2.extBut s1.extBut D.i2z).extBut s2.extBut D.i12.symm).extBut s3.extBut D.TOi2.symm)
    (((hl2.extBut s1.extBut D.l2z).extBut s2.extBut D.l2i1).extBut s3.extBut D.l2TO) hy fun g4 b4 s4 => wpAny_pure ?_)
  have t4 : IsPair g4 TO x b := s4.extBut _ _ D.TOi2 t3
  refine wpAny_bind (wpAny_seqItems t4 rfl ?_)
  refine wpAny_bind (wpAny_updateSeq_pair t4 fun g5 t5 s5 => ?_)
  replace t5 : IsPair g5 TO x y := t5
  refine wpAny_bind (wpAny_letGo (wpAny_pure (wpAny_pure ?_)))
  refine wpAny_bind (wpAny_seqItems t5 rfl ?_)
  refine wpAny_bind (wpAny_newTuple ?_)
  have sz : g5.objs.size = s.heap.objs.size := by rw [s5.1, s4.1, s3.1, s2.1, s1.1]
  have z5 : IsZip g5 z TI TO .ellipsis := s5.extBut _ _ D.TOz.symm (s4.extBut _ _ D.i2z.symm (s3.extBut _ _ D.TOz.symm (s2.extBut _ _ D.i1z.symm z1)))
  have k5 : ∀ c o, c ≠ z → c ≠ TO → c ≠ i1 → c ≠ i2 → s.heap.get? c = some o → g5.get? c = some o := fun c o c1 c2 c3 c4 e =>
    s5.extBut _ _ c2 (s4.extBut _ _ c4 (s3.extBut _ _ c2 (s2.extBut _ _ c3 (s1.extBut _ _ c1 e))))
  have a5 : g5.IsListIter i1 l1 (k1 + 1) := ((a2.extBut s3.extBut D.TOi1.symm).extBut s4.extBut D.i12).extBut s5.extBut D.TOi1.symm
  have b5 : g5.IsTupleIter i2 l2 (k2 + 1) := b4.extBut s5.extBut D.TOi2.symm
  have zlt : z < g5.objs.size := Heap.lt_size z5
  show wpAny _ _ (Builtin.SmallTypes.ownedTupleHandOut (.ref z) (.ref g5.objs.size) >>= _) _ _ _
  refine wpAny_bind ?_
  unfold Builtin.SmallTypes.ownedTupleHandOut
  have z6 : IsZip (g5.push { cls := .type "tuple", data := .seq #[x, y] }) z TI TO .ellipsis := Heap.get?_push_of_some _ z5
  refine wpAny_bind (wpAny_setField_rec z6 (by simp) fun g7 z7 s7 => ?_)
  replace z7 : IsZip g7 z TI TO (rawInt g5.objs.size) := z7
  refine wpAny_setField_rec z7 (by simp) fun g8 z8 s8 => ?_
  replace z8 : IsZip g8 z TI TO (rawInt g5.objs.size) := z8
  have up : ∀ c o, c ≠ z → g5.get? c = some o → g8.get? c = some o := fun c o c1 e => s8.extBut _ _ c1 (s7.extBut _ _ c1 (Heap.get?_push_of_some _ e))
  have t8 : IsPair g8 g5.objs.size x y := s8.extBut _ _ (Nat.ne_of_gt zlt) (s7.extBut _ _ (Nat.ne_of_gt zlt) (Heap.get?_push_size _ rfl))
  have sz8 : g8.objs.size = g5.objs.size + 1 := by rw [s8.1, s7.1, Heap.size_push]
  rw [sz] at z8 t8 sz8
  refine wpAny_pure ⟨_, rfl, ?_⟩
  show Q (.ref g5.objs.size) _
  rw [sz]
  exact hQ g8 z8 (up _ _ D.TOz t5) (a5.at fun o e => up _ o D.i1z e) (b5.at fun o e => up _ o D.i2z e) t8 sz8 fun c o c1 c2 c3 c4 e => up c o c1 (k5 c o c1 c2 c3 c4 e)
theorem zipM_end {z TI TO i1 i2 l1 l2 : Addr} {k1 k2 : Nat} {xs ys : Array Value} {a b : Value} {Q : Fin → Shared → Prop} (hh : A.handled = none) (D : ZipApart z TI TO i1 i2 l1 l2)
    (hz : IsZip s.heap z TI TO .none) (hTI : IsPair s.heap TI (.ref i1) (.ref i2)) (hTO : IsPair s.heap TO a b)
    (h1 : s.heap.IsListIter i1 l1 k1) (h2 : s.heap.IsTupleIter i2 l2 k2) (hl1 : s.heap.IsList l1 xs) (hl2 : s.heap.IsTuple l2 ys) (hend : xs[k1]? = none ∨ ys[k2]? = none)
    (hE : ∀ h' e, (∀ c o, c ≠ z → c ≠ TO → c ≠ i1 → c ≠ i2 → s.heap.get? c = some o → h'.get? c = some o) → (∃ o, h'.get? e = some o ∧ o.cls = .type "StopIteration") → E (.ref e) { s with heap := h' }) :
    wpAny (model prog w) A (Builtin.«zip.__next__» ⟨[.ref z], []⟩) Q E s := by
  show wpAny _ _ (field (.ref z) 2 >>= _) _ _ _
  refine wpAny_bind (wpAny_field hz rfl (x := .bool false) rfl ?_)
  show wpAny _ _ (field (.ref z) 3 >>= _) _ _ _
  refine wpAny_bind (wpAny_field hz rfl (x := .ref TI) rfl ?_)
  refine wpAny_bind (wpAny_seqItems hTI rfl ?_)
  show wpAny _ _ (Builtin.SmallTypes.ownedTupleIsFree (.ref z) >>= _) _ _ _
  refine wpAny_bind ?_
  unfold Builtin.SmallTypes.ownedTupleIsFree
  refine wpAny_bind (wpAny_field hz rfl (x := .none) rfl (wpAny_pure ?_))
  simp only [if_true]
  refine wpAny_bind (wpAny_rule ?_)
  refine wpAny_bind (wpAny_field hz rfl (x := .ref TO) rfl ?_)
  refine wpAny_bind (wpAny_setField_rec hz (by simp) fun g1 z1 s1 => ?_)
  replace z1 : IsZip g1 z TI TO .ellipsis := z1
  refine wpAny_bind ?_
  simp only [List.zipIdx_cons, List.zipIdx_nil, List.forIn_cons, List.forIn_nil]
  refine wpAny_bind (wpAny_bind (wpAny_onRaise ?_))
  show wpAny _ _ (Builtin.SmallTypes.nextOf (.ref i1) >>= _) _ _ _
  cases hx : xs[k1]? with
  | none =>
    refine wpAny_bind (wpAny_nextOf_list_end hh (h1.extBut s1.extBut D.i1z) (hl1.extBut s1.extBut D.l1z) hx fun g2 e s2 he => ?_)
    obtain ⟨oe, hoe, hce⟩ := he
    have z2 : IsZip g2 z TI TO .ellipsis := s2 _ _ D.i1z.symm z1
    have ez : e ≠ z := fun q => by subst q; rw [z2] at hoe; cases hoe; simp at hce
    refine wpAny_setField_rec z2 (by simp) fun g3 _ s3 => hE g3 e (fun c o c1 _ c3 _ q => s3.extBut _ _ c1 (s2 _ _ c3 (s1.extBut _ _ c1 q))) ⟨oe, s3.extBut _ _ ez hoe, hce⟩
  | some x =>
    have hy : ys[k2]? = none := by rcases hend with h | h; rw [hx] at h; cases h; exact h
    refine wpAny_bind (wpAny_nextOf_list_item (h1.extBut s1.extBut D.i1z) (hl1.extBut s1.extBut D.l1z) hx fun g2 a2 s2 => wpAny_pure ?_)
    have t2 : IsPair g2 TO a b := s2.extBut _ _ D.TOi1 (s1.extBut _ _ D.TOz hTO)
    refine wpAny_bind (wpAny_seqItems t2 rfl ?_)
    refine wpAny_bind (wpAny_updateSeq_pair t2 fun g3 t3 s3 => ?_)
    refine wpAny_bind (wpAny_letGo (wpAny_pure ?_))
    refine wpAny_bind (wpAny_bind (wpAny_onRaise ?_))
    show wpAny _ _ (Builtin.SmallTypes.nextOf (.ref i2) >>= _) _ _ _
    refine wpAny_bind (nextOf_tuple_end hh (((h2.extBut s1.extBut D.i2z).extBut s2.extBut D.i12.symm).extBut s3.extBut D.TOi2.symm)
      (((hl2.extBut s1.extBut D.l2z).extBut s2.extBut D.l2i1).extBut s3.extBut D.l2TO) hy fun g4 e s4 he => ?_)
    obtain ⟨oe, hoe, hce⟩ := he
    have z4 : IsZip g4 z TI TO .ellipsis := s4 _ _ D.i2z.symm (s3.extBut _ _ D.TOz.symm (s2.extBut _ _ D.i1z.symm z1))
    have ez : e ≠ z := fun q => by subst q; rw [z4] at hoe; cases hoe; simp at hce
    refine wpAny_setField_rec z4 (by simp) fun g5 _ s5 => hE g5 e (fun c o c1 c2 c3 c4 q => s5.extBut _ _ c1 (s4 _ _ c4 (s3.extBut _ _ c2 (s2.extBut _ _ c3 (s1.extBut _ _ c1 q))))) ⟨oe, s5.extBut _ _ ez hoe, hce⟩
theorem pyNext_zipM_item {z TI TO i1 i2 l1 l2 : Addr} {k1 k2 : Nat} {xs ys : Array Value} {x y a b : Value} {Q : Option Value → Shared → Prop} (D : ZipApart z TI TO i1 i2 l1 l2)
    (hz : IsZip s.heap z TI TO .none) (hTI : IsPair s.heap TI (.ref i1) (.ref i2)) (hTO : IsPair s.heap TO a b)
    (h1 : s.heap.IsListIter i1 l1 k1) (h2 : s.heap.IsTupleIter i2 l2 k2) (hl1 : s.heap.IsList l1 xs) (hl2 : s.heap.IsTuple l2 ys) (hx : xs[k1]? = some x) (hy : ys[k2]? = some y)
    (hQ : ∀ h', IsZip h' z TI TO (rawInt s.heap.objs.size) → IsPair h' TO x y → h'.IsListIter i1 l1 (k1 + 1) → h'.IsTupleIter i2 l2 (k2 + 1) → IsPair h' s.heap.objs.size x y → h'.objs.size = s.heap.objs.size + 1 →
      (∀ c o, c ≠ z → c ≠ TO → c ≠ i1 → c ≠ i2 → s.heap.get? c = some o → h'.get? c = some o) → Q (some (.ref s.heap.objs.size)) { s with heap := h' }) :
    wpAny (model prog w) A (pyNext (.ref z)) Q E s := by
  have hT : s.TypeIs (.ref z) "zip" := ⟨_, hz, rfl⟩
  unfold pyNext
  exact wpAny_bind (wpAny_attempt (wpAny_callSpecial?_slot (name := Str.ofString "__next__") hT F.slot_zip_next
    (wpAny_call_entry F.slot_zip_next hT F.entry_zip_next
      (zipM_item D hz hTI hTO h1 h2 hl1 hl2 hx hy fun h' a1 a2 a3 a4 a5 a6 a7 => wpAny_pure (hQ h' a1 a2 a3 a4 a5 a6 a7)) (F.args_zip_next_1 _))))
theorem pyNext_zipM_end {z TI TO i1 i2 l1 l2 : Addr} {k1 k2 : Nat} {xs ys : Array Value} {a b : Value} {Q : Option Value → Shared → Prop} (hh : A.handled = none) (D : ZipApart z TI TO i1 i2 l1 l2)
    (hz : IsZip s.heap z TI TO .none) (hTI : IsPair s.heap TI (.ref i1) (.ref i2)) (hTO : IsPair s.heap TO a b)
    (h1 : s.heap.IsListIter i1 l1 k1) (h2 : s.heap.IsTupleIter i2 l2 k2) (hl1 : s.heap.IsList l1 xs) (hl2 : s.heap.IsTuple l2 ys) (hend : xs[k1]? = none ∨ ys[k2]? = none)
    (hQ : ∀ h', (∀ c o, c ≠ z → c ≠ TO → c ≠ i1 → c ≠ i2 → s.heap.get? c = some o → h'.get? c = some o) → Q none { s with heap := h' }) : wpAny (model prog w) A (pyNext (.ref z)) Q E s := by
  have hT : s.TypeIs (.ref z) "zip" := ⟨_, hz, rfl⟩
  unfold pyNext
  refine wpAny_bind (wpAny_attempt (wpAny_callSpecial?_slot (name := Str.ofString "__next__") hT F.slot_zip_next
    (wpAny_call_entry F.slot_zip_next hT F.entry_zip_next (zipM_end hh D hz hTI hTO h1 h2 hl1 hl2 hend fun h' e hk he => ?_) (F.args_zip_next_1 _))))
  obtain ⟨o, ho, hc⟩ := he
  refine wpAny_bind (wpAny_isInstance (T := "StopIteration") (b := true) ⟨o, ho, hc⟩ isSubtype_stop ?_)
  exact wpAny_pure (hQ _ hk)
end
abbrev zipMH1 (h : Heap) (l1 : Addr) : Heap := h.push { cls := .type "list_iterator", data := .fields #[.ref l1, .int 0 0] }
abbrev zipMH2 (h : Heap) (l1 l2 : Addr) : Heap := (zipMH1 h l1).push { cls := .type "tuple_iterator", data := .fields #[.ref l2, .int 0 0] }
abbrev zipMH3 (h : Heap) (l1 l2 : Addr) : Heap := (zipMH2 h l1 l2).push { cls := .type "tuple", data := .seq #[.ref h.objs.size, .ref (zipMH1 h l1).objs.size] }
abbrev zipMH4 (h : Heap) (l1 l2 : Addr) : Heap := (zipMH3 h l1 l2).push { cls := .type "tuple", data := .seq #[.none, .none] }
abbrev zipMH5 (h : Heap) (l1 l2 : Addr) : Heap := (zipMH4 h l1 l2).push { cls := .type "zip", data := .fields #[.none, .bool false, .bool false, .ref (zipMH2 h l1 l2).objs.size, .ref (zipMH3 h l1 l2).objs.size] }
theorem meets_zipM_new (l1 l2 : Addr) (xs ys : Array Value) :
    Meets (Builtin.«zip.__new__» ⟨[.type "zip", .ref l1, .ref l2], []⟩) (fun _ R s => s.heap.IsList l1 xs ∧ s.heap.IsTuple l2 ys ∧
      R (.ok (.ret (.ref (zipMH4 s.heap l1 l2).objs.size))) { s with heap := zipMH5 s.heap l1 l2 }) :=
  .of_wp fun prog w A R s h => by
    obtain ⟨hp, g, d, tk, os⟩ := s; obtain ⟨hl1, hl2, h⟩ := h
    have hsub := sub_zip
    have hL1 : Heap.IsList (Shared.heap ⟨hp, g, d, tk, os⟩) l1 xs := hl1
    have hL2 : Heap.IsTuple (Shared.heap ⟨hp.push { cls := .type "list_iterator", data := .fields #[.ref l1, .int 0 0] }, g, d, tk, os⟩) l2 ys := Heap.IsTuple.push hl2 _
    wp_walk using wpAny_pyIter_list hL1, wpAny_pyIter_tuple hL2
    exact ⟨_, rfl, h⟩
section
variable {prog : Program} {w : World} {A : Around} {E : Value → Shared → Prop} {s : Shared}
theorem call_zipM {l1 l2 : Addr} {xs ys : Array Value} {Q : Value → Shared → Prop} (hl1 : s.heap.IsList l1 xs) (hl2 : s.heap.IsTuple l2 ys)
    (h : ∀ h', IsZip h' (s.heap.objs.size + 4) (s.heap.objs.size + 2) (s.heap.objs.size + 3) .none → IsPair h' (s.heap.objs.size + 2) (.ref s.heap.objs.size) (.ref (s.heap.objs.size + 1)) →
      IsPair h' (s.heap.objs.size + 3) .none .none → h'.IsListIter s.heap.objs.size l1 0 → h'.IsTupleIter (s.heap.objs.size + 1) l2 0 → h'.objs.size = s.heap.objs.size + 5 →
      (∀ c o, s.heap.get? c = some o → h'.get? c = some o) → Q (.ref (s.heap.objs.size + 4)) { s with heap := h' }) :
    wpAny (model prog w) A (call (.type "zip") [.ref l1, .ref l2]) Q E s := by
  refine callType_new F.called_zip (by decide) (F.typeCall_zip_2 _ _) (F.newCall_zip_2 _ _) (fun obj => F.args_object_init_3 obj _ _) F.entry_zip_new
    (meets_zipM_new l1 l2 xs ys) ⟨hl1, hl2, ?_⟩
  have z1 : (zipMH1 s.heap l1).objs.size = s.heap.objs.size + 1 := Heap.size_push ..
  have z2 : (zipMH2 s.heap l1 l2).objs.size = s.heap.objs.size + 2 := by rw [Heap.size_push, z1]
  have z3 : (zipMH3 s.heap l1 l2).objs.size = s.heap.objs.size + 3 := by rw [Heap.size_push, z2]
  have z4 : (zipMH4 s.heap l1 l2).objs.size = s.heap.objs.size + 4 := by rw [Heap.size_push, z3]
  have z5 : (zipMH5 s.heap l1 l2).objs.size = s.heap.objs.size + 5 := by rw [Heap.size_push, z4]
  have g5 : (zipMH5 s.heap l1 l2).get? (zipMH4 s.heap l1 l2).objs.size = some _ := Heap.get?_push_size _ rfl
  have g4 : (zipMH5 s.heap l1 l2).get? (zipMH3 s.heap l1 l2).objs.size = some _ := Heap.get?_push_of_some _ (Heap.get?_push_size _ rfl)
  have g3 : (zipMH5 s.heap l1 l2).get? (zipMH2 s.heap l1 l2).objs.size = some _ := Heap.get?_push_of_some _ (Heap.get?_push_of_some _ (Heap.get?_push_size _ rfl))
  have g2 : (zipMH5 s.heap l1 l2).get? (zipMH1 s.heap l1).objs.size = some _ := Heap.get?_push_of_some _ (Heap.get?_push_of_some _ (Heap.get?_push_of_some _ (Heap.get?_push_size _ rfl)))
  have g1 : (zipMH5 s.heap l1 l2).get? s.heap.objs.size = some _ := Heap.get?_push_of_some _ (Heap.get?_push_of_some _ (Heap.get?_push_of_some _ (Heap.get?_push_of_some _ (Heap.get?_push_size _ rfl))))
  show _ ∧ _
  rw [z2, z3, z4] at g5
  rw [z1, z2] at g3
  rw [z3] at g4
  rw [z1] at g2
  rw [z4]
  exact ⟨⟨_, g5, rfl⟩, h _ g5 g3 g4 ⟨_, g1, rfl, rfl⟩ ⟨_, g2, rfl, rfl⟩ z5 fun c o q =>
    Heap.get?_push_of_some _ (Heap.get?_push_of_some _ (Heap.get?_push_of_some _ (Heap.get?_push_of_some _ (Heap.get?_push_of_some _ q))))⟩
end
open PySem.Spec PyProof.Rows L2
/-- the list at a, the tuple at b, the items in new pairs -/
def ItzM (K : PySem.W.Frag) (a b : Addr) : It :=
  ⟨fun i H => ∃ (xs ys : List V) (x y : V), SqL K H a xs ∧ SqT K H b ys ∧ xs[i]? = some x ∧ ys[i]? = some y,
    fun i H v H' => ∃ T x y, v = .ref T ∧ H T = none ∧ H' = upd H T (.tup [x, y]) ∧ (∀ xs, SqL K H a xs → xs[i]? = some x) ∧ ∀ ys, SqT K H b ys → ys[i]? = some y,
    fun i H => ∃ xs ys : List V, SqL K H a xs ∧ SqT K H b ys ∧ (xs.length ≤ i ∨ ys.length ≤ i)⟩
theorem turn_zipM {P : Program} {w : World} {K : PySem.W.Frag} {elts : List Expr} {kk : Nat} {tpos : Pos} {a b z TI TO i1 i2 : Addr} (D : ZipApart z TI TO i1 i2 a b) :
    Turn P w K (.Tuple elts kk tpos) (ItzM K a b) [z, TI, TO, i1, i2] z (fun i h => IsZip h z TI TO .none ∧ IsPair h TI (.ref i1) (.ref i2) ∧ (∃ x y, IsPair h TO x y) ∧ h.IsListIter i1 a i ∧ h.IsTupleIter i2 b i) where
  mem := by simp
  obj := fun i h st c hc => by
    obtain ⟨hz, hTI, ⟨x, y, hTO⟩, ⟨o1, e1, _, d1⟩, ⟨o2, e2, _, d2⟩⟩ := st
    have e' : c = z ∨ c = TI ∨ c = TO ∨ c = i1 ∨ c = i2 := by simpa using hc
    rcases e' with q | q | q | q | q
    · rw [q]; exact ⟨_, hz, fun v q => nomatch q⟩
    · rw [q]; exact ⟨_, hTI, fun v q => nomatch q⟩
    · rw [q]; exact ⟨_, hTO, fun v q => nomatch q⟩
    · rw [q]; exact ⟨o1, e1, fun v q => by rw [d1] at q; cases q⟩
    · rw [q]; exact ⟨o2, e2, fun v q => by rw [d2] at q; cases q⟩
  keep := fun i h h' st k => by
    obtain ⟨hz, hTI, ⟨x, y, hTO⟩, h1, h2⟩ := st
    exact ⟨k z (by simp) _ hz, k TI (by simp) _ hTI, ⟨x, y, k TO (by simp) _ hTO⟩, h1.at fun o q => k i1 (by simp) o q, h2.at fun o q => k i2 (by simp) o q⟩
  item := by
    intro X hP hw hK hc i pins s σ H E I hf st hg
    subst hP hw hK
    obtain ⟨hz, hTI, ⟨x0, y0, hTO⟩, h1, h2⟩ := st
    obtain ⟨xs, ys, x, y, hqx, hqy, hx, hy⟩ := hg
    obtain ⟨its, rv, p, _⟩ := I.list hqx
    obtain ⟨its2, rv2, p2, _⟩ := I.tuple hqy
    obtain ⟨u, hu, ru⟩ := rv.get hx
    obtain ⟨u2, hu2, ru2⟩ := rv2.get hy
    have hzl : z < s.heap.objs.size := Heap.lt_size hz
    refine pyNext_zipM_item D hz hTI hTO h1 h2 p.isList p2 (x := u) (y := u2) (by simpa using hu) (by simpa using hu2) fun h' z' TO' h1' h2' hT hsz hk => ?_
    refine ⟨_, rfl, wpAny_letOwnedTupleGo_zip (s := { s with heap := h' }) z' fun h'' z'' sb => ?_⟩
    have hT2 : h''.get? s.heap.objs.size = some { cls := .type "tuple", data := .seq #[u, u2] } := (sb.2 _ (Nat.ne_of_gt hzl)).trans hT
    have new : ObjOk X.prog X.w (upd H s.heap.objs.size (.tup [x, y])) h'' s.heap.objs.size (.tup [x, y]) :=
      ⟨by show 2 ≤ sizeLine; decide, [u, u2], .cons ru (.cons ru2 .nil), ⟨_, hT2, rfl, _, rfl⟩⟩
    have I1 : Inv X pins σ (upd H s.heap.objs.size (.tup [x, y])) { s with heap := h'' } :=
      I.turnedNew (t' := s.toks) (ch := [z, TI, TO, i1, i2]) (fun c o hb q => (sb.2 c (fun q' => hb (by simp [q']))).trans (hk c o (fun q' => hb (by simp [q'])) (fun q' => hb (by simp [q'])) (fun q' => hb (by simp [q'])) (fun q' => hb (by simp [q'])) q)) hf (Nat.le_refl _) new
    refine ⟨.ref s.heap.objs.size, _, I1, rfl, ⟨_, x, y, rfl, I.hok.fresh (Nat.le_refl _), rfl, fun l hl => by rw [I.list_inj hl hqx]; exact hx, fun l hl => by rw [I.tuple_inj hl hqy]; exact hy⟩, ⟨z'', ?_, ⟨u, u2, ?_⟩, ?_, ?_⟩, fun c hcm => ?_⟩
    · exact (sb.2 _ D.TIz).trans (hk _ _ D.TIz D.TITO D.TIi1 D.TIi2 hTI)
    · exact (sb.2 _ D.TOz).trans TO'
    · exact h1'.at fun o q => (sb.2 _ D.i1z).trans q
    · exact h2'.at fun o q => (sb.2 _ D.i2z).trans q
    · have hlt : c < s.heap.objs.size := by
        have e' : c = z ∨ c = TI ∨ c = TO ∨ c = i1 ∨ c = i2 := by simpa using hcm
        rcases e' with q | q | q | q | q
        · rw [q]; exact hzl
        · rw [q]; exact Heap.lt_size hTI
        · rw [q]; exact Heap.lt_size hTO
        · rw [q]; obtain ⟨_, e1, _⟩ := h1; exact Heap.lt_size e1
        · rw [q]; obtain ⟨_, e2, _⟩ := h2; exact Heap.lt_size e2
      rw [upd_ne (Nat.ne_of_lt hlt)]
      exact (hf c hcm).1
  done := by
    intro X hP hw hK hc i pins s σ H E I hf st hg
    subst hP hw hK
    obtain ⟨hz, hTI, ⟨x0, y0, hTO⟩, h1, h2⟩ := st
    obtain ⟨xs, ys, hqx, hqy, hend⟩ := hg
    obtain ⟨its, rv, p, _⟩ := I.list hqx
    obtain ⟨its2, rv2, p2, _⟩ := I.tuple hqy
    have l1 := rv.length
    have l2 := rv2.length
    have he : its.toArray[i]? = none ∨ its2.toArray[i]? = none := by
      rcases hend with q | q
      · exact .inl (by simp; omega)
      · exact .inr (by simp; omega)
    exact pyNext_zipM_end (I.ok.hd hc) D hz hTI hTO h1 h2 p.isList p2 he fun h' hk => ⟨rfl, I.turnedL (t' := s.toks) (ch := [z, TI, TO, i1, i2]) (fun c o hb q =>
      hk c o (fun q' => hb (by simp [q'])) (fun q' => hb (by simp [q'])) (fun q' => hb (by simp [q'])) (fun q' => hb (by simp [q'])) q) hf⟩
  self := fun A i s Q E st h => wpAny_pyIter_zip st.1 h
def iZipB (K : PySem.W.Frag) (ta : TA) : TI := fun σ H R => ta σ H fun vs H1 => ∃ a b xs ys, vs = [.ref a, .ref b] ∧
  ((SqL K H1 a xs ∧ SqL K H1 b ys ∧ R (Itz K a b) H1) ∨ (SqT K H1 a xs ∧ SqT K H1 b ys ∧ R (ItzT K a b) H1) ∨ (SqL K H1 a xs ∧ SqT K H1 b ys ∧ R (ItzM K a b) H1))
theorem pi_zipB {X : Cx} {e e2 : Expr} {ta : TA} {p pos tpos : Pos} {elts : List Expr} {kk : Nat} (hg : Gl X "zip") (hm : X.mg "zip" = none) (ha : PA X [e, e2] ta)
    (hs : starEach [e, e2] X.env = (false, eval e X.env) :: starEach [e2] X.env) (hpl : (backTo pos (starEach [e2] X.env)).any (·.1) = false) :
    PI X (.Tuple elts kk tpos) (.Call (.Name "zip" p) [e, e2] [] pos) (iZipB X.K ta) := by
  refine ⟨fun pins s σ H R I h => ?_⟩
  refine Call_ (ld_blt I hg hm PyProof.Rows.boot_zip (PyProof.Rows.callWith_type1 (thn (ha.run pos pins s σ H _ I h) fun us s1 ⟨vs, H1, I1, r1, q1⟩ => ?_) hs hpl))
  obtain ⟨a, b, xs, ys, ex, q1⟩ := q1
  subst ex
  cases r1 with
  | cons r rr =>
    cases rr with
    | cons r' rr =>
      cases rr
      cases r
      cases r'
      have fresh5 : ∀ c, c ∈ [s1.heap.objs.size + 4, s1.heap.objs.size + 2, s1.heap.objs.size + 3, s1.heap.objs.size, s1.heap.objs.size + 1] → FpOk X pins H1 c := fun c hcm => by
        have hle : s1.heap.objs.size ≤ c := by
          simp only [List.mem_cons, List.not_mem_nil, or_false] at hcm
          omega
        exact I1.fpOk hle (I1.hok.fresh hle)
      rcases q1 with ⟨hqx, hqy, q⟩ | ⟨hqx, hqy, q⟩ | ⟨hqx, hqy, q⟩
      · obtain ⟨its, rv, p1, _⟩ := I1.list hqx
        obtain ⟨its2, rv2, p2, _⟩ := I1.list hqy
        refine call_zip_2 p1.isList p2.isList fun h' hz hTI hTO h1 h2 hsz hk => wpAny_pyIter_zip hz ?_
        have I2 : Inv X pins σ H1 { s1 with heap := h' } := I1.kept (t' := s1.toks) hk
        exact ⟨s1.heap.objs.size + 4, [s1.heap.objs.size + 4, s1.heap.objs.size + 2, s1.heap.objs.size + 3, s1.heap.objs.size, s1.heap.objs.size + 1], _, _, H1, rfl, I2, turn_zip (PySem.W.ktu_apart s1.heap.objs.size a b p1.lt p2.lt), ⟨hz, hTI, ⟨_, _, hTO⟩, h1, h2⟩, fresh5, q⟩
      · obtain ⟨its, rv, p1, _⟩ := I1.tuple hqx
        obtain ⟨its2, rv2, p2, _⟩ := I1.tuple hqy
        obtain ⟨o1, ho1, _⟩ := id p1
        obtain ⟨o2, ho2, _⟩ := id p2
        refine call_zipT (show s1.heap.IsTuple a its.toArray from p1) (show s1.heap.IsTuple b its2.toArray from p2) fun h' hz hTI hTO h1 h2 hsz hk => wpAny_pyIter_zip hz ?_
        have I2 : Inv X pins σ H1 { s1 with heap := h' } := I1.kept (t' := s1.toks) hk
        exact ⟨s1.heap.objs.size + 4, [s1.heap.objs.size + 4, s1.heap.objs.size + 2, s1.heap.objs.size + 3, s1.heap.objs.size, s1.heap.objs.size + 1], _, _, H1, rfl, I2, turn_zipT (PySem.W.ktu_apart s1.heap.objs.size a b (Heap.lt_size ho1) (Heap.lt_size ho2)), ⟨hz, hTI, ⟨_, _, hTO⟩, h1, h2⟩, fresh5, q⟩
      · obtain ⟨its, rv, p1, _⟩ := I1.list hqx
        obtain ⟨its2, rv2, p2, _⟩ := I1.tuple hqy
        obtain ⟨o2, ho2, _⟩ := id p2
        refine call_zipM p1.isList (show s1.heap.IsTuple b its2.toArray from p2) fun h' hz hTI hTO h1 h2 hsz hk => wpAny_pyIter_zip hz ?_
        have I2 : Inv X pins σ H1 { s1 with heap := h' } := I1.kept (t' := s1.toks) hk
        exact ⟨s1.heap.objs.size + 4, [s1.heap.objs.size + 4, s1.heap.objs.size + 2, s1.heap.objs.size + 3, s1.heap.objs.size, s1.heap.objs.size + 1], _, _, H1, rfl, I2, turn_zipM (PySem.W.ktu_apart s1.heap.objs.size a b p1.lt (Heap.lt_size ho2)), ⟨hz, hTI, ⟨_, _, hTO⟩, h1, h2⟩, fresh5, q⟩
end RZ

/-! EvIt: what is walked. -/
namespace Ev
open PySem PySem.Spec PyProof.Rows L2
/-- J goes through ds, from H0 on, whatever is done to one's own -/
structure Wk (K : PySem.W.Frag) (T : Tab) (O : List Addr) (J : It) (ds : List D) (H0 : Hp) : Prop where
  step : ∀ (i : Nat) (d : D) (O' : List Addr) (H : Hp), ds[i]? = some d → TrO O' H → ExtN (Hm O H0) (Hm O' H) → J.go i H ∧ ∀ x H', J.yld i H x H' → Ext T H H' ∧ Rep K (Hm O' H') x d
  stop : ∀ (O' : List Addr) (H : Hp), TrO O' H → ExtN (Hm O H0) (Hm O' H) → J.stop ds.length H
def rdI (X : Cx) (C : Cfg) (W : Nat → Hp → Prop) (f : Ev.Env → R (List D)) : TI := fun σ H R => ∃ O ρ, Rel X.K C.T O σ H ρ ∧ PostG C W H (fun ds H' => ∀ J, Wk X.K C.T O J ds H' → R J H') (f ρ)
/-- .. while nothing is changed -/
structure WkC (K : PySem.W.Frag) (T : Tab) (O : List Addr) (J : It) (ds : List D) (H0 : Hp) : Prop where
  step : ∀ (i : Nat) (d : D) (O' : List Addr) (H : Hp), ds[i]? = some d → TrO O' H → ExtN H0 H → ExtN (Hm O H0) (Hm O' H) → J.go i H ∧ ∀ x H', J.yld i H x H' → Ext T H H' ∧ Rep K (Hm O' H') x d
  stop : ∀ (O' : List Addr) (H : Hp), TrO O' H → ExtN H0 H → ExtN (Hm O H0) (Hm O' H) → J.stop ds.length H
theorem Wk.c {K : PySem.W.Frag} {T : Tab} {O : List Addr} {J : It} {ds : List D} {H0 : Hp} (w : Wk K T O J ds H0) : WkC K T O J ds H0 := ⟨fun i d O' H h t _ e => w.step i d O' H h t e, fun O' H t _ e => w.stop O' H t e⟩
def rdC (X : Cx) (C : Cfg) (W : Nat → Hp → Prop) (f : Ev.Env → R (List D)) : TI := fun σ H R => ∃ O ρ, Rel X.K C.T O σ H ρ ∧ PostG C W H (fun ds H' => ∀ J, WkC X.K C.T O J ds H' → R J H') (f ρ)
section
variable {K : PySem.W.Frag} {T : Tab} {O : List Addr} {H : Hp} {ds es : List D} {vs ws : List V} {a b : Addr}
theorem hmTo {O O' : List Addr} {H0 H : Hp} (e : ExtN (Hm O H0) (Hm O' H)) : ExtN (Hm O H0) H := e.trans ExtN.hmTop
theorem wk_lst (h : SqL K (Hm O H) a vs) (r : Reps K (Hm O H) vs ds) : Wk K T O (Itl K a) ds H where
  step := fun i d O' H' hd tr e => by
    have hs : SqL K H' a vs := sqL_ext (hmTo e) h
    obtain ⟨v, hv, hr⟩ := r.get hd
    refine ⟨⟨vs, v, hs, hv⟩, fun x H'' y => ?_⟩
    obtain ⟨rfl, y⟩ := y
    have := y vs hs
    rw [hv] at this
    cases this
    exact ⟨Ext.refl _ _, hr.ext e⟩
  stop := fun O' H' tr e => ⟨vs, sqL_ext (hmTo e) h, by rw [r.length]; exact Nat.le_refl _⟩
theorem wk_tup (h : SqT K (Hm O H) a vs) (r : Reps K (Hm O H) vs ds) : Wk K T O (Itt K a) ds H where
  step := fun i d O' H' hd tr e => by
    have hs : SqT K H' a vs := sqT_ext (hmTo e) h
    obtain ⟨v, hv, hr⟩ := r.get hd
    refine ⟨⟨vs, v, hs, hv⟩, fun x H'' y => ?_⟩
    obtain ⟨rfl, y⟩ := y
    have := y vs hs
    rw [hv] at this
    cases this
    exact ⟨Ext.refl _ _, hr.ext e⟩
  stop := fun O' H' tr e => ⟨vs, sqT_ext (hmTo e) h, by rw [r.length]; exact Nat.le_refl _⟩
theorem wk_str (x : List Nat) : Wk K T O (Its (Sx x)) (x.map fun c => D.str [c]) H where
  step := fun i d O' H' hd tr e => by
    rw [List.getElem?_map] at hd
    cases hc : x[i]? with
    | none => rw [hc] at hd; cases hd
    | some c =>
      rw [hc] at hd
      cases hd
      have hl : i < x.length := by
        rcases Nat.lt_or_ge i x.length with z | z
        · exact z
        · rw [List.getElem?_eq_none z] at hc; cases hc
      refine ⟨by show i < x.toArray.size; simpa using hl, fun v H'' y => ?_⟩
      obtain ⟨rfl, c', e1, rfl⟩ := y
      have e1 : x.toArray[i]? = some c' := e1
      rw [List.getElem?_toArray, hc] at e1
      cases e1
      exact ⟨Ext.refl _ _, .str [c]⟩
  stop := fun O' H' tr e => by show x.toArray.size ≤ _; simp
theorem wk_rng (lo : Int) (n : Nat) : Wk K T O (Itr lo n) (rngL lo n) H where
  step := fun i d O' H' hd tr e => by
    unfold rngL at hd
    rw [List.getElem?_map] at hd
    have hl : i < n := by
      rcases Nat.lt_or_ge i n with z | z
      · exact z
      · rw [List.getElem?_eq_none (by rw [List.length_range]; exact z)] at hd; cases hd
    rw [List.getElem?_range hl] at hd
    cases hd
    refine ⟨hl, fun v H'' y => ?_⟩
    obtain ⟨rfl, rfl⟩ := y
    exact ⟨Ext.refl _ _, .int _⟩
  stop := fun O' H' tr e => by show n ≤ _; unfold rngL; rw [List.length_map, List.length_range]; exact Nat.le_refl _
theorem wk_rngD (lo : Int) (n : Nat) : Wk K T O (Itc lo (-1) n) (rngDown lo n) H where
  step := fun i d O' H' hd tr e => by
    unfold rngDown at hd
    rw [List.getElem?_map] at hd
    have hl : i < n := by
      rcases Nat.lt_or_ge i n with z | z
      · exact z
      · rw [List.getElem?_eq_none (by rw [List.length_range]; exact z)] at hd; cases hd
    rw [List.getElem?_range hl] at hd
    cases hd
    refine ⟨hl, fun v H'' y => ?_⟩
    obtain ⟨rfl, rfl⟩ := y
    have e1 : lo + (i : Int) * -1 = lo - (i : Int) := by omega
    rw [e1]
    exact ⟨Ext.refl _ _, .int _⟩
  stop := fun O' H' tr e => by show n ≤ _; unfold rngDown; rw [List.length_map, List.length_range]; exact Nat.le_refl _
theorem enuL_get : ∀ {ds : List D} {k i : Nat} {d : D}, (enuL k ds)[i]? = some d → ∃ e, ds[i]? = some e ∧ d = .tup [.int ((k + i : Nat) : Int), e]
  | [], k, i, d, h => by cases h
  | x :: ds, k, 0, d, h => by cases h; exact ⟨x, rfl, rfl⟩
  | x :: ds, k, i + 1, d, h => by
    obtain ⟨e, e1, e2⟩ := enuL_get (ds := ds) (k := k + 1) (i := i) (by simpa [enuL] using h)
    exact ⟨e, by simpa using e1, by rw [e2, show k + 1 + i = k + (i + 1) by omega]⟩
theorem enuL_len : ∀ (ds : List D) (k : Nat), (enuL k ds).length = ds.length
  | [], k => rfl
  | x :: ds, k => by rw [enuL, List.length_cons, List.length_cons, enuL_len ds]
theorem wk_enu (h : SqL K (Hm O H) a vs) (r : Reps K (Hm O H) vs ds) : Wk K T O (Ite K a) (enuL 0 ds) H where
  step := fun i d O' H' hd tr e => by
    have hs : SqL K H' a vs := sqL_ext (hmTo e) h
    obtain ⟨d', h1, rfl⟩ := enuL_get hd
    obtain ⟨v, hv, hr⟩ := r.get h1
    refine ⟨⟨vs, v, hs, hv⟩, fun x H'' y => ?_⟩
    obtain ⟨t, x', rfl, ht, rfl, y⟩ := y
    have := y vs hs
    rw [hv] at this
    cases this
    rw [Nat.zero_add]
    exact ⟨Ext.new ht, new_tup tr ht (.cons (.int _) (.cons (hr.ext e) .nil))⟩
  stop := fun O' H' tr e => ⟨vs, sqL_ext (hmTo e) h, by rw [r.length, enuL_len]; exact Nat.le_refl _⟩
theorem wk_enuT (h : SqT K (Hm O H) a vs) (r : Reps K (Hm O H) vs ds) : Wk K T O (IteT K a) (enuL 0 ds) H where
  step := fun i d O' H' hd tr e => by
    have hs : SqT K H' a vs := sqT_ext (hmTo e) h
    obtain ⟨d', h1, rfl⟩ := enuL_get hd
    obtain ⟨v, hv, hr⟩ := r.get h1
    refine ⟨⟨vs, v, hs, hv⟩, fun x H'' y => ?_⟩
    obtain ⟨t, x', rfl, ht, rfl, y⟩ := y
    have := y vs hs
    rw [hv] at this
    cases this
    rw [Nat.zero_add]
    exact ⟨Ext.new ht, new_tup tr ht (.cons (.int _) (.cons (hr.ext e) .nil))⟩
  stop := fun O' H' tr e => ⟨vs, sqT_ext (hmTo e) h, by rw [r.length, enuL_len]; exact Nat.le_refl _⟩
theorem zipL_get : ∀ {ds es : List D} {i : Nat} {d : D}, (zipL ds es)[i]? = some d → ∃ x y, ds[i]? = some x ∧ es[i]? = some y ∧ d = .tup [x, y]
  | [], es, i, d, h => by cases h
  | x :: ds, [], i, d, h => by cases h
  | x :: ds, y :: es, 0, d, h => by cases h; exact ⟨x, y, rfl, rfl, rfl⟩
  | x :: ds, y :: es, i + 1, d, h => by
    obtain ⟨a, b, e1, e2, e3⟩ := zipL_get (ds := ds) (es := es) (i := i) (by simpa [zipL] using h)
    exact ⟨a, b, by simpa using e1, by simpa using e2, e3⟩
theorem zipL_len : ∀ (ds es : List D), (zipL ds es).length = min ds.length es.length
  | [], es => by simp [zipL]
  | x :: ds, [] => by simp [zipL]
  | x :: ds, y :: es => by rw [zipL, List.length_cons, List.length_cons, List.length_cons, zipL_len ds es]; omega
theorem wk_zip (h : SqL K (Hm O H) a vs) (r : Reps K (Hm O H) vs ds) (h' : SqL K (Hm O H) b ws) (r' : Reps K (Hm O H) ws es) : Wk K T O (Itz K a b) (zipL ds es) H where
  step := fun i d O' H' hd tr e => by
    have hs : SqL K H' a vs := sqL_ext (hmTo e) h
    have hs' : SqL K H' b ws := sqL_ext (hmTo e) h'
    obtain ⟨d1, d2, h1, h2, rfl⟩ := zipL_get hd
    obtain ⟨v, hv, hr⟩ := r.get h1
    obtain ⟨v', hv', hr'⟩ := r'.get h2
    refine ⟨⟨vs, ws, v, v', hs, hs', hv, hv'⟩, fun x H'' y => ?_⟩
    obtain ⟨t, x', y', rfl, ht, rfl, y1, y2⟩ := y
    have := y1 vs hs
    rw [hv] at this
    cases this
    have := y2 ws hs'
    rw [hv'] at this
    cases this
    exact ⟨Ext.new ht, new_tup tr ht (.cons (hr.ext e) (.cons (hr'.ext e) .nil))⟩
  stop := fun O' H' tr e => ⟨vs, ws, sqL_ext (hmTo e) h, sqL_ext (hmTo e) h', by rw [r.length, r'.length, zipL_len]; omega⟩
theorem wk_zipT (h : SqT K (Hm O H) a vs) (r : Reps K (Hm O H) vs ds) (h' : SqT K (Hm O H) b ws) (r' : Reps K (Hm O H) ws es) : Wk K T O (RZ.ItzT K a b) (zipL ds es) H where
  step := fun i d O' H' hd tr e => by
    have hs : SqT K H' a vs := sqT_ext (hmTo e) h
    have hs' : SqT K H' b ws := sqT_ext (hmTo e) h'
    obtain ⟨d1, d2, h1, h2, rfl⟩ := zipL_get hd
    obtain ⟨v, hv, hr⟩ := r.get h1
    obtain ⟨v', hv', hr'⟩ := r'.get h2
    refine ⟨⟨vs, ws, v, v', hs, hs', hv, hv'⟩, fun x H'' y => ?_⟩
    obtain ⟨t, x', y', rfl, ht, rfl, y1, y2⟩ := y
    have := y1 vs hs
    rw [hv] at this
    cases this
    have := y2 ws hs'
    rw [hv'] at this
    cases this
    exact ⟨Ext.new ht, new_tup tr ht (.cons (hr.ext e) (.cons (hr'.ext e) .nil))⟩
  stop := fun O' H' tr e => ⟨vs, ws, sqT_ext (hmTo e) h, sqT_ext (hmTo e) h', by rw [r.length, r'.length, zipL_len]; omega⟩
theorem wk_zipM (h : SqL K (Hm O H) a vs) (r : Reps K (Hm O H) vs ds) (h' : SqT K (Hm O H) b ws) (r' : Reps K (Hm O H) ws es) : Wk K T O (RZ.ItzM K a b) (zipL ds es) H where
  step := fun i d O' H' hd tr e => by
    have hs : SqL K H' a vs := sqL_ext (hmTo e) h
    have hs' : SqT K H' b ws := sqT_ext (hmTo e) h'
    obtain ⟨d1, d2, h1, h2, rfl⟩ := zipL_get hd
    obtain ⟨v, hv, hr⟩ := r.get h1
    obtain ⟨v', hv', hr'⟩ := r'.get h2
    refine ⟨⟨vs, ws, v, v', hs, hs', hv, hv'⟩, fun x H'' y => ?_⟩
    obtain ⟨t, x', y', rfl, ht, rfl, y1, y2⟩ := y
    have := y1 vs hs
    rw [hv] at this
    cases this
    have := y2 ws hs'
    rw [hv'] at this
    cases this
    exact ⟨Ext.new ht, new_tup tr ht (.cons (hr.ext e) (.cons (hr'.ext e) .nil))⟩
  stop := fun O' H' tr e => ⟨vs, ws, sqL_ext (hmTo e) h, sqT_ext (hmTo e) h', by rw [r.length, r'.length, zipL_len]; omega⟩
end
section
variable {C : Cfg} {Γ : Gam} {T : Tbl} {n : Nat} {X : Cx} {W : Nat → Hp → Prop} {tg e e1 e2 e3 : Expr} {pos p apos tpos : Pos} {f f1 f2 f3 : Ev.Env → R D}
theorem piW {t t' : TI} (h : PI X tg e t) (w : ∀ σ H R, t' σ H R → t σ H R) : PI X tg e t' := ⟨fun pins s σ H R I q => h.run pins s σ H R I (w σ H R q)⟩
/-- a list, a tuple, a text -/
def iAll (K : PySem.W.Frag) (te : TE) : TI := fun σ H R => te σ H fun v H1 => (∃ a xs, v = .ref a ∧ SqL K H1 a xs ∧ R (Itl K a) H1) ∨ (∃ a xs, v = .ref a ∧ SqT K H1 a xs ∧ R (Itt K a) H1) ∨ ∃ x, v = .str x ∧ R (Its x) H1
theorem pi_all {te : TE} (he : PE X e te) : PI X tg e (iAll X.K te) := by
  refine ⟨fun pins s σ H R I h => ?_⟩
  refine thn (he.run pins s σ H _ I h) fun v s1 ⟨y, H1, I1, r1, q⟩ => ?_
  rcases q with ⟨a, xs, rfl, hq, q⟩ | ⟨a, xs, rfl, hq, q⟩ | ⟨x, rfl, q⟩
  · cases r1
    obtain ⟨its, rv, p, hz⟩ := I1.list hq
    refine wpAny_pyIter_list p.isList ?_
    exact pi_one (tk := s1.toks) I1 _ (turn_list a _) ⟨_, Heap.get?_push_size _ rfl, rfl, rfl⟩ q
  · cases r1
    obtain ⟨its, rv, p, hz⟩ := I1.tuple hq
    refine wpAny_pyIter_tuple (show s1.heap.IsTuple a its.toArray from p) ?_
    exact pi_one (tk := s1.toks) I1 _ (turn_tuple a _) ⟨_, Heap.get?_push_size _ rfl, rfl, rfl⟩ q
  · obtain ⟨t, rfl⟩ := r1
    cases ha : x.cps.all (· < 128)
    · exact wpAny_pyIter_wide ha (pi_one (tk := s1.toks) I1 _ (turn_str _ x t "str_iterator" (.inr rfl)) ⟨_, Heap.get?_push_size _ rfl, rfl, rfl⟩ q)
    · exact wpAny_pyIter_ascii ha (pi_one (tk := s1.toks) I1 _ (turn_str _ x t "str_ascii_iterator" (.inl rfl)) ⟨_, Heap.get?_push_size _ rfl, rfl, rfl⟩ q)
theorem pi_val (h1 : PE X e1 (rdE X C W f1)) : PI X tg e1 (rdI X C W fun ρ => (f1 ρ).bind itD) := piW (pi_all h1) fun σ H R q => by
  obtain ⟨O, ρ, r, p⟩ := q
  refine oneE r p fun d x H1 e1 _ rx p1 => ?_
  cases d with
  | lst xs =>
    cases rx with
    | lst h1 h2 => exact .inl ⟨_, _, rfl, sqL_ext ExtN.hmTop h1, p1 H1 (Ext.refl _ _) _ (wk_lst h1 h2)⟩
  | tup xs =>
    cases rx with
    | tup h1 h2 => exact .inr (.inl ⟨_, _, rfl, sqT_ext ExtN.hmTop h1, p1 H1 (Ext.refl _ _) _ (wk_tup h1 h2)⟩)
  | str x => cases rx; exact .inr (.inr ⟨_, rfl, p1 H1 (Ext.refl _ _) _ (wk_str x)⟩)
  | _ => exact p1.elim
theorem pi_rng1 (g : Good0 C Γ T n X W) (hx : biOk Γ "range" = true) (h1 : PE X e1 (rdB X C W f1)) (p1 : plainF e1 = true) : PI X tg (.Call (.Name "range" p) [e1] [] pos) (rdI X C W fun ρ => (f1 ρ).bind fun a => (asI a).bind fun n => rngD 0 n) := by
  obtain ⟨hg, hm⟩ := bi_of g hx
  refine piW (pi_range1 hg hm (pa_cons h1 pa_nil (star_cons p1 [] X.env)) (by exact star_cons p1 [] X.env)) fun σ H R q => ?_
  obtain ⟨O, ρ, r, p⟩ := q
  refine one r p fun d x H1 e1 _ rx p1 => ?_
  cases d with
  | int j =>
    have p1 : PostG C W H1 _ (rngD 0 j) := p1
    unfold rngD at p1
    split at p1
    · rename_i hj
      unfold MID at hj
      refine ⟨j, by rw [rx.int], by omega, by omega, ?_⟩
      have := p1 H1 (Ext.refl _ _) (Itr 0 j.toNat) (by rw [Int.sub_zero]; exact wk_rng 0 j.toNat)
      exact this
    · exact p1.elim
  | _ => exact p1.elim
theorem pi_rng2 (g : Good0 C Γ T n X W) (hx : biOk Γ "range" = true) (h1 : PE X e1 (rdB X C W f1)) (h2 : PE X e2 (rdB X C W f2)) (p1 : plainF e1 = true) (p2 : plainF e2 = true) :
    PI X tg (.Call (.Name "range" p) [e1, e2] [] pos) (rdI X C W fun ρ => (f1 ρ).bind fun a => (f2 ρ).bind fun b => (asI a).bind fun i => (asI b).bind fun j => rngD i j) := by
  obtain ⟨hg, hm⟩ := bi_of g hx
  refine piW (pi_range2 hg hm (pa_cons h1 (pa_cons h2 pa_nil (star_cons p2 [] X.env)) (star_cons p1 [e2] X.env)) (by rw [star_cons p1 [e2] X.env, star_cons p2 [] X.env]; rfl) (by rw [star_cons p2 [] X.env]; rfl)) fun σ H R q => ?_
  obtain ⟨O, ρ, r, p⟩ := q
  refine two r p fun a b x y H2 e2 t2 rx ry p2 => ?_
  cases a with
  | int i =>
    cases b with
    | int j =>
      have p2 : PostG C W H2 _ (rngD i j) := p2
      unfold rngD at p2
      split at p2
      · rename_i hj
        unfold MID at hj
        refine ⟨i, j, by rw [rx.int, ry.int], ⟨by omega, by omega, by omega, by omega⟩, ?_⟩
        exact p2 H2 (Ext.refl _ _) (Itr i (j - i).toNat) (wk_rng i _)
      · exact p2.elim
    | _ => exact p2.elim
  | _ => exact p2.elim
theorem pi_rngd {k : Nat} {p3 p4 : Pos} (g : Good0 C Γ T n X W) (hx : biOk Γ "range" = true) (h1 : PE X e1 (rdB X C W f1)) (h2 : PE X e2 (rdB X C W f2)) (p1 : plainF e1 = true) (p2 : plainF e2 = true) :
    PI X tg (.Call (.Name "range" p) [e1, e2, .UnaryOp .USub (.Constant (.int 1) k p3) p4] [] pos) (rdI X C W fun ρ => (f1 ρ).bind fun a => (f2 ρ).bind fun b => (asI a).bind fun i => (asI b).bind fun j => rngB i j) := by
  obtain ⟨hg, hm⟩ := bi_of g hx
  have h3 : PE X (.UnaryOp .USub (.Constant (.int 1) k p3) p4) (tC (.int (-1))) := peW (pe_un un_neg pe_int) fun σ H Q q => ⟨1, rfl, q⟩
  refine piW (pi_range3 hg hm (pa_cons h1 (pa_cons h2 (pa_cons h3 pa_nil rfl) (star_cons p2 _ X.env)) (star_cons p1 _ X.env)) (by exact star_cons p1 _ X.env) (by rw [star_cons p2 _ X.env]; rfl)) fun σ H R q => ?_
  obtain ⟨O, ρ, r, p⟩ := q
  refine two r p fun a b x y H2 e2 t2 rx ry p2 => ?_
  cases a with
  | int i =>
    cases b with
    | int j =>
      have p2 : PostG C W H2 _ (rngB i j) := p2
      unfold rngB at p2
      split at p2
      · rename_i hj
        unfold MID at hj
        refine ⟨i, j, -1, (i - j).toNat, by rw [rx.int, ry.int], RgC.neg (by omega) (by omega) (by omega) (by omega), ?_⟩
        exact p2 H2 (Ext.refl _ _) (Itc i (-1) (i - j).toNat) (wk_rngD i _)
      · exact p2.elim
    | _ => exact p2.elim
  | _ => exact p2.elim
theorem pi_enuL {elts : List Expr} {kk : Nat} (g : Good0 C Γ T n X W) (hx : biOk Γ "enumerate" = true) (h1 : PE X e1 (rdE X C W f1)) (p1 : plainF e1 = true) :
    PI X (.Tuple elts kk tpos) (.Call (.Name "enumerate" p) [e1] [] pos) (rdI X C W fun ρ => (f1 ρ).bind enuD) := by
  obtain ⟨hg, hm⟩ := bi_of g hx
  refine piW (pi_enumB hg hm (pa_cons h1 pa_nil (star_cons p1 [] X.env)) (by exact star_cons p1 [] X.env)) fun σ H R q => ?_
  obtain ⟨O, ρ, r, p⟩ := q
  refine oneE r p fun d x H1 e1 _ rx p1 => ?_
  cases d with
  | lst xs =>
    cases rx with
    | lst h1 h2 => exact ⟨_, _, rfl, .inl ⟨sqL_ext ExtN.hmTop h1, p1 H1 (Ext.refl _ _) _ (wk_enu h1 h2)⟩⟩
  | tup xs =>
    cases rx with
    | tup h1 h2 => exact ⟨_, _, rfl, .inr ⟨sqT_ext ExtN.hmTop h1, p1 H1 (Ext.refl _ _) _ (wk_enuT h1 h2)⟩⟩
  | _ => exact p1.elim
theorem pi_zipLT {elts : List Expr} {kk : Nat} (g : Good0 C Γ T n X W) (hx : biOk Γ "zip" = true) (h1 : PE X e1 (rdE X C W f1)) (h2 : PE X e2 (rdE X C W f2)) (p1 : plainF e1 = true) (p2 : plainF e2 = true) :
    PI X (.Tuple elts kk tpos) (.Call (.Name "zip" p) [e1, e2] [] pos) (rdI X C W fun ρ => (f1 ρ).bind fun a => (f2 ρ).bind fun b => match a, b with | .tup xs, .tup ys => .ok (zipL xs ys) | .lst xs, .lst ys => .ok (zipL xs ys) | .lst xs, .tup ys => .ok (zipL xs ys) | _, _ => .no) := by
  obtain ⟨hg, hm⟩ := bi_of g hx
  refine piW (RZ.pi_zipB hg hm (pa_cons h1 (pa_cons h2 pa_nil (star_cons p2 [] X.env)) (star_cons p1 [e2] X.env)) (by exact star_cons p1 [e2] X.env) (by rw [star_cons p2 [] X.env]; rfl)) fun σ H R q => ?_
  obtain ⟨O, ρ, r, p⟩ := q
  refine oneE r p fun a x H1 e1 _ rx p1 => oneE (r.ext e1) p1 fun b y H2 e2 _ ry p2 => ?_
  have rx := rx.ext e2.1.hm
  cases a with
  | lst xs =>
    cases b with
    | lst ys =>
      cases rx with
      | lst h1 h2 =>
        cases ry with
        | lst h3 h4 => exact ⟨_, _, _, _, rfl, .inl ⟨sqL_ext ExtN.hmTop h1, sqL_ext ExtN.hmTop h3, p2 H2 (Ext.refl _ _) _ (wk_zip h1 h2 h3 h4)⟩⟩
    | tup ys =>
      cases rx with
      | lst h1 h2 =>
        cases ry with
        | tup h3 h4 => exact ⟨_, _, _, _, rfl, .inr (.inr ⟨sqL_ext ExtN.hmTop h1, sqT_ext ExtN.hmTop h3, p2 H2 (Ext.refl _ _) _ (wk_zipM h1 h2 h3 h4)⟩)⟩
    | _ => exact p2.elim
  | tup xs =>
    cases b with
    | tup ys =>
      cases rx with
      | tup h1 h2 =>
        cases ry with
        | tup h3 h4 => exact ⟨_, _, _, _, rfl, .inr (.inl ⟨sqT_ext ExtN.hmTop h1, sqT_ext ExtN.hmTop h3, p2 H2 (Ext.refl _ _) _ (wk_zipT h1 h2 h3 h4)⟩)⟩
    | _ => exact p2.elim
  | _ => exact p2.elim
theorem rdC_I {fi : Ev.Env → R (List D)} {σ : L2.St} {H : Hp} {R : It → Hp → Prop} (h : rdC X C W fi σ H R) : rdI X C W fi σ H R := by
  obtain ⟨O, ρ, r, p⟩ := h
  exact ⟨O, ρ, r, p.imp fun ds H' _ q J wk => q J wk.c⟩
theorem pi_own {i : Nat} {y : Str} (g : Good0 C Γ T n X W) (h : nameOk Γ i y = true) : PI X tg (.Name y pos) (rdC X C W fun ρ => match ρ[i]? with | some (.ow xs) => .ok xs | _ => .no) := piW (pi_all (pe_v g h)) fun σ H R q => by
  obtain ⟨O, ρ, r, p⟩ := q
  dsimp only at p
  split at p
  · rename_i xs hi
    obtain ⟨a, ha, hO, vs, hv, hr⟩ := r.ow i _ hi rfl
    refine ⟨_, ha, .inl ⟨a, vs, rfl, .inl (.inl hv), ?_⟩⟩
    refine p H (Ext.refl _ _) _ ⟨fun j d O' H' hd tr e1 e2 => ?_, fun O' H' tr e1 e2 => ?_⟩
    · have hs : SqL X.K H' a vs := .inl (.inl (e1 a _ hv fun ps z => by cases z))
      obtain ⟨v, hv', hr'⟩ := hr.get hd
      refine ⟨⟨vs, v, hs, hv'⟩, fun x H'' y => ?_⟩
      obtain ⟨rfl, y⟩ := y
      have := y vs hs
      rw [hv'] at this
      cases this
      exact ⟨Ext.refl _ _, hr'.ext e2⟩
    · exact ⟨vs, .inl (.inl (e1 a _ hv fun ps z => by cases z)), by rw [hr.length]; exact Nat.le_refl _⟩
  · exact p.elim
end
end Ev

/-! EvLc: stores to names, comprehensions. -/
namespace Ev
open PySem PySem.Spec PyProof.Rows L2
/-! ### names set -/
section
variable {K : PySem.W.Frag} {T : Tab} {O : List Addr} {H : Hp} {σ : L2.St} {ρ ρ' : Ev.Env} {v : V} {d : D}
theorem Rel.setSh (r : Rel K T O σ H ρ) (i : Nat) (h : Rep K (Hm O H) v d) : Rel K T O (σ.set i (some v)) H (ρ.set i (.sh d)) where
  len := by rw [List.length_set, List.length_set]; exact r.len
  sh := fun j e hj => by
    rw [List.getElem?_set] at hj ⊢
    by_cases q : i = j
    · subst q
      rw [if_pos rfl] at hj ⊢
      split at hj
      · rename_i hl
        have e1 : d = e := Sl.sh.inj (Option.some.inj hj)
        subst e1
        rw [if_pos (by rw [← r.len]; exact hl)]
        exact ⟨v, rfl, h⟩
      · cases hj
    · rw [if_neg q] at hj ⊢
      exact r.sh j e hj
  ow := fun j s hj ho => by
    rw [List.getElem?_set] at hj ⊢
    by_cases q : i = j
    · subst q
      rw [if_pos rfl] at hj
      split at hj
      · have := Option.some.inj hj
        subst this
        cases ho
      · cases hj
    · rw [if_neg q] at hj ⊢
      exact r.ow j s hj ho
  ne := fun j k s s' a hn hj ho hk ho' e => by
    rw [List.getElem?_set] at hj hk e ⊢
    by_cases q : i = j
    · subst q
      rw [if_pos rfl] at hj
      split at hj
      · have := Option.some.inj hj
        subst this
        cases ho
      · cases hj
    · by_cases q' : i = k
      · subst q'
        rw [if_pos rfl] at hk
        split at hk
        · have := Option.some.inj hk
          subst this
          cases ho'
        · cases hk
      · rw [if_neg q] at hj e
        rw [if_neg q'] at hk ⊢
        exact r.ne j k s s' a hn hj ho hk ho' e
  tr := r.tr
  tab := r.tab
theorem Rel.setUn (r : Rel K T O σ H ρ) (i : Nat) (v : Option V) : Rel K T O (σ.set i v) H (ρ.set i .un) where
  len := by rw [List.length_set, List.length_set]; exact r.len
  sh := fun j e hj => by
    rw [List.getElem?_set] at hj ⊢
    by_cases q : i = j
    · subst q
      rw [if_pos rfl] at hj
      split at hj
      · cases hj
      · cases hj
    · rw [if_neg q] at hj ⊢
      exact r.sh j e hj
  ow := fun j s hj ho => by
    rw [List.getElem?_set] at hj ⊢
    by_cases q : i = j
    · subst q
      rw [if_pos rfl] at hj
      split at hj
      · have := Option.some.inj hj
        subst this
        cases ho
      · cases hj
    · rw [if_neg q] at hj ⊢
      exact r.ow j s hj ho
  ne := fun j k s s' a hn hj ho hk ho' e => by
    rw [List.getElem?_set] at hj hk e ⊢
    by_cases q : i = j
    · subst q
      rw [if_pos rfl] at hj
      split at hj
      · have := Option.some.inj hj
        subst this
        cases ho
      · cases hj
    · by_cases q' : i = k
      · subst q'
        rw [if_pos rfl] at hk
        split at hk
        · have := Option.some.inj hk
          subst this
          cases ho'
        · cases hk
      · rw [if_neg q] at hj e
        rw [if_neg q'] at hk ⊢
        exact r.ne j k s s' a hn hj ho hk ho' e
  tr := r.tr
  tab := r.tab
theorem Rel.wipes (r : Rel K T O σ H ρ) : ∀ ws : List Nat, Rel K T O (L2.wipe σ ws) H (Ev.wipe ρ ws)
  | [] => r
  | w :: ws => (r.wipes ws).setUn w none
end
theorem wipe_get (σ : L2.St) (j : Nat) : ∀ vs : List Nat, (L2.wipe σ vs)[j]? = if j ∈ vs then (if j < σ.length then some none else none) else σ[j]?
  | [] => by simp [L2.wipe]
  | v :: vs => by
    show ((L2.wipe σ vs).set v none)[j]? = _
    rw [List.getElem?_set, wipe_length, wipe_get σ j vs]
    by_cases e : v = j
    · subst e; simp
    · rw [if_neg e]
      by_cases e2 : j ∈ vs
      · rw [if_pos e2, if_pos (List.mem_cons_of_mem _ e2)]
      · rw [if_neg e2, if_neg (by simp; exact ⟨fun z => e z.symm, e2⟩)]
theorem wipe_idem (σ : L2.St) (vs : List Nat) : L2.wipe (L2.wipe σ vs) vs = L2.wipe σ vs := by
  apply List.ext_getElem?
  intro j
  rw [wipe_get, wipe_length, wipe_get]
  split <;> rfl
theorem wipe_set (σ : L2.St) (vs : List Nat) (i : Nat) (h : i ∈ vs) (x : Option V) : L2.wipe (σ.set i x) vs = L2.wipe σ vs := by
  apply List.ext_getElem?
  intro j
  rw [wipe_get, wipe_get, List.length_set]
  split
  · rfl
  · rename_i hj
    rw [List.getElem?_set, if_neg (fun z : i = j => hj (z ▸ h))]
/-! ### targets -/
def gs : List Nat → TGs
  | [] => gNil
  | i :: is => gCons (gName i) (gs is)
def tgG (K : PySem.W.Frag) (is : List Nat) (many : Bool) : TG := if many = true then gTup K is.length (gs is) else gName (is.headD 0)
section
variable {C : Cfg} {Γ : Gam} {T : Tbl} {n : Nat} {X : Cx} {W : Nat → Hp → Prop} {tg e e1 e2 e3 : Expr} {pos p apos tpos : Pos} {f f1 f2 f3 : Ev.Env → R D}
theorem pg_nm {i : Nat} {x : Str} (g : Good0 C Γ T n X W) (h : storeOk Γ i x = true) : PG X (.Name x pos) (gName i) := by
  unfold storeOk at h
  rw [Bool.and_eq_true, decide_eq_true_eq] at h
  obtain ⟨h1, h2⟩ := g.st x h.2
  exact pg_name g.nd (by rw [g.N]; exact h.1) h1 h2
theorem pgs_tg (g : Good0 C Γ T n X W) : ∀ (is : List Nat) (es : List Expr), is.length = es.length → ((is.zip es).all fun p => match p.2 with | .Name x _ => storeOk Γ p.1 x | _ => false) = true →
    PGs X es (gs is) ∧ (assignEach es X.env).length = is.length ∧ (assignEach es X.env).findIdx? (·.1) = none
  | [], [], _, _ => ⟨pgs_nil, rfl, rfl⟩
  | [], _ :: _, h, _ => by cases h
  | _ :: _, [], h, _ => by cases h
  | i :: is, e :: es, hl, h => by
    rw [List.zip_cons_cons, List.all_cons, Bool.and_eq_true] at h
    obtain ⟨h1, h2⟩ := h
    obtain ⟨i1, i2, i3⟩ := pgs_tg g is es (by simpa using hl) h2
    cases e with
    | Name x p =>
      refine ⟨pgs_cons (pg_nm g h1) i1, ?_, ?_⟩
      · show (assignEach es X.env).length + 1 = _
        rw [i2]; rfl
      · show List.findIdx? (·.1) ((false, assign (.Name x p) X.env) :: assignEach es X.env) = none
        rw [List.findIdx?_cons, i3]; rfl
    | _ => cases h1
theorem pg_tg {is : List Nat} {many : Bool} {t : Expr} (g : Good0 C Γ T n X W) (h : chkTg Γ is many t = true) : PG X t (tgG X.K is many) := by
  unfold chkTg at h
  split at h
  · exact pg_nm g h
  · rw [Bool.and_eq_true] at h
    obtain ⟨h1, h2, h3⟩ := pgs_tg g _ _ (by simpa using h.1) h.2
    exact pg_tup g.calm h1 h2 h3
  · cases h
theorem tg_plain {is : List Nat} {many : Bool} {t : Expr} (h : chkTg Γ is many t = true) : (many = false → ∃ i, is = [i]) := by
  intro hm
  subst hm
  unfold chkTg at h
  split at h
  · exact ⟨_, rfl⟩
  · rename_i hh; cases hh
  · cases h
variable {K : PySem.W.Frag} {Tb : Tab} {O : List Addr} {H : Hp}
theorem gs_do : ∀ (is : List Nat) (ds : List D) (vs : List V) (σ : L2.St) (ρ ρ' : Ev.Env) (Q : L2.St → Hp → Prop), setAll ρ is ds = .ok ρ' → Rel K Tb O σ H ρ → Reps K (Hm O H) vs ds →
    (∀ σ', Rel K Tb O σ' H ρ' → (∀ ws : List Nat, (∀ i ∈ is, i ∈ ws) → L2.wipe σ' ws = L2.wipe σ ws) → Q σ' H) → gs is vs σ H Q
  | [], [], vs, σ, ρ, ρ', Q, h, r, rv, q => by
    cases rv
    cases h
    exact ⟨rfl, q σ r fun _ _ => rfl⟩
  | [], _ :: _, _, _, _, _, _, h, _, _, _ => by cases h
  | _ :: _, [], _, _, _, _, _, h, _, _, _ => by cases h
  | i :: is, d :: ds, vs, σ, ρ, ρ', Q, h, r, rv, q => by
    cases rv with
    | cons r1 r2 =>
      refine ⟨_, _, rfl, ?_⟩
      exact gs_do is ds _ _ (ρ.set i (.sh d)) ρ' Q h (r.setSh i r1) r2 fun σ' r' w => q σ' r' fun ws hw => by
        rw [w ws fun j hj => hw j (List.mem_cons_of_mem _ hj), wipe_set _ _ _ (hw i List.mem_cons_self)]
theorem tg_do {is : List Nat} {many : Bool} {d : D} {v : V} {σ : L2.St} {ρ ρ' : Ev.Env} {Q : L2.St → Hp → Prop} (hs : many = false → ∃ i, is = [i]) (h : store is many d ρ = .ok ρ') (r : Rel K Tb O σ H ρ) (rv : Rep K (Hm O H) v d)
    (q : ∀ σ', Rel K Tb O σ' H ρ' → (∀ ws : List Nat, (∀ i ∈ is, i ∈ ws) → L2.wipe σ' ws = L2.wipe σ ws) → Q σ' H) : tgG K is many v σ H Q := by
  cases many with
  | false =>
    obtain ⟨i, rfl⟩ := hs rfl
    have h : setAll ρ [i] [d] = .ok ρ' := h
    obtain ⟨a, b, e, q'⟩ := gs_do [i] [d] [v] σ ρ ρ' Q h r (.cons rv .nil) q
    cases e
    exact q'.2
  | true =>
    cases d with
    | tup ds =>
      cases rv with
      | tup h1 h2 =>
        refine ⟨_, _, rfl, sqT_ext ExtN.hmTop h1, ?_, gs_do is ds _ σ ρ ρ' Q h r h2 q⟩
        rw [h2.length]
        have : ∀ (is : List Nat) (ds : List D) (ρ ρ' : Ev.Env), setAll ρ is ds = .ok ρ' → ds.length = is.length := by
          intro is
          induction is with
          | nil => intro ds ρ ρ' h; cases ds with
            | nil => rfl
            | cons a b => cases h
          | cons i is ih => intro ds ρ ρ' h; cases ds with
            | nil => cases h
            | cons a b => rw [List.length_cons, List.length_cons, ih b _ _ h]
        exact this is ds ρ ρ' h
    | _ => cases h
/-! ### a comprehension's block -/
theorem lookup_rel {c : Bool} {f : Str → Bool} : ∀ (names : List (Str × NameKind)) (x : Str),
    (names.map fun (n, k) => if (k == NameKind.free && c && f n) then (n, NameKind.cell) else (n, k)).lookup x = (names.lookup x).map fun k => if (k == NameKind.free && c && f x) then NameKind.cell else k
  | [], x => rfl
  | (n, k) :: r, x => by
    have ih := lookup_rel (c := c) (f := f) r x
    have e0 : (if (k == NameKind.free && c && f n) = true then (n, NameKind.cell) else (n, k)) = (n, if (k == NameKind.free && c && f n) = true then NameKind.cell else k) := by split <;> rfl
    show List.lookup x ((if (k == NameKind.free && c && f n) = true then (n, NameKind.cell) else (n, k)) :: _) = _
    rw [e0]
    cases hx : x == n with
    | true =>
      have e : x = n := eq_of_beq hx
      subst e
      simp only [List.lookup_cons, hx]
      rfl
    | false =>
      simp only [List.lookup_cons, hx]
      exact ih
theorem blkB_of {scope : Scope} {ws : List Nat} (g : Good0 C Γ T n X W) (h : blkB Γ scope ws = true) : BlkOk X.N X.env.scope scope (ownOf Γ ws) ∧ (ownOf Γ ws).map (·.2) = ws ∧ scope.kind = .function := by
  unfold blkB at h
  simp only [Bool.and_eq_true, List.all_eq_true, decide_eq_true_eq] at h
  obtain ⟨⟨⟨h1, h2⟩, h3⟩, h4⟩ := h
  have hk : scope.kind = .function := by
    cases hk : scope.kind with
    | function => rfl
    | _ => rw [hk] at h1; cases h1
  refine ⟨⟨hk, h2, fun p hp => ?_, fun y hy e => ?_, fun y hy e => ?_⟩, ?_, hk⟩
  · unfold ownOf at hp
    rw [List.mem_filterMap] at hp
    obtain ⟨i, hi, e⟩ := hp
    rw [Option.map_eq_some_iff] at e
    obtain ⟨x, e1, rfl⟩ := e
    rw [g.N]; exact e1
  · have q := h4 y hy
    rw [e] at q
    refine g.cf y.1 ?_
    have q : (match Γ.sc.lookup y.1 with | some .cell => true | some .free => true | _ => false) = true := q
    split at q
    · exact .inl (by assumption)
    · exact .inr (by assumption)
    · cases q
  · have q := h4 y hy
    rw [g.N]
    rcases e with e | e <;> (rw [e] at q; simp only [Bool.or_eq_true, decide_eq_true_eq] at q; exact q)
  · have : ∀ l : List Nat, (∀ i ∈ l, i < Γ.N.length) → (ownOf Γ l).map (·.2) = l := by
      intro l
      induction l with
      | nil => intro _; rfl
      | cons i l ih =>
        intro h
        have hi := h i List.mem_cons_self
        unfold ownOf at ih ⊢
        rw [List.filterMap_cons, List.getElem?_eq_getElem hi]
        simp only [Option.map_some, List.map_cons]
        rw [ih fun j hj => h j (List.mem_cons_of_mem _ hj)]
    exact this ws h3
theorem Good0.blk {scope : Scope} {ws : List Nat} (g : Good0 C Γ T n X W) (h : blkB Γ scope ws = true) (s : Shared) (H : Hp) (A : Addr) (cl : List (Str × Addr)) (fp : List Addr) :
    Good0 C (Γ.blk scope) T n (X.blk s H scope (compEnvC scope cl A X.env) fp) (fun _ _ => False) := by
  have hl : ∀ x, (compEnvC scope cl A X.env).scope.names.lookup x = (scope.names.lookup x).map fun k => if (k == NameKind.free && (X.env.scope.kind == .function) && (X.env.kindOf x == some .cell)) then NameKind.cell else k := fun x => lookup_rel (c := X.env.scope.kind == .function) (f := fun y => X.env.kindOf y == some .cell) scope.names x
  have keep : ∀ x k, k ≠ .free → scope.names.lookup x = some k → (compEnvC scope cl A X.env).scope.names.lookup x = some k := fun x k hk e => by
    rw [hl, e, Option.map_some]
    cases k <;> first | rfl | exact absurd rfl hk
  have fr : ∀ x, scope.names.lookup x = some .free → (compEnvC scope cl A X.env).scope.names.lookup x = some .cell ∨ (compEnvC scope cl A X.env).scope.names.lookup x = some .free := fun x e => by
    rw [hl, e, Option.map_some]
    split <;> simp
  refine { N := g.N, nd := g.nd, vis := fun x hx => ?_, st := fun x hx => ?_, gl := fun x hx => ?_, cf := fun x hx => ?_, lo := fun x hx => keep x _ (by decide) hx, calm := g.calm, room := g.room, bi := g.bi, gd := g.gd, fn := g.fn, exc := g.exc, takes := takes0.imp fun c d σ H ⟨_, _, _, z⟩ => z }
  · unfold visB at hx
    have hx : (match scope.names.lookup x with | some .local => true | some .cell => true | some .free => true | _ => false) = true := hx
    split at hx
    · rename_i e; exact .inl (keep x _ (by decide) e)
    · rename_i e; exact .inr (.inl (keep x _ (by decide) e))
    · rename_i e; exact .inr (fr x e)
    · cases hx
  · unfold stB at hx
    have hx : (match scope.names.lookup x with | some .local => true | some .cell => false | _ => false) = true := hx
    split at hx
    · rename_i e; exact ⟨.inl (keep x _ (by decide) e), .inr (keep x _ (by decide) e)⟩
    · cases hx
    · cases hx
  · unfold glB at hx
    have hx : (match scope.names.lookup x with | some .globalImplicit => true | _ => false) = true := hx
    split at hx
    · rename_i e; exact keep x _ (by decide) e
    · cases hx
  · rcases hx with e | e
    · exact .inl (keep x _ (by decide) e)
    · exact fr x e
end
end Ev

/-! EvComp: list comprehensions. -/
namespace Ev
open PySem PySem.Spec PyProof.Rows L2
/-- a list or dict -/
def MutO (o : HO) : Prop := (∃ vs, o = .lst vs) ∨ ∃ kvs, o = .dK kvs
theorem tabs_mut {T : Tab} {H : Hp} {a : Addr} {o o' : HO} (t : LamX.Tabs T H) (h : H a = some o) (m : MutO o) : LamX.Tabs T (upd H a o') := fun p hp => by
  obtain ⟨ps, h1, h2, h3⟩ := t p hp
  have n1 : p.1 ≠ a := fun z => by
    rw [z, h] at h1
    rcases m with ⟨vs, rfl⟩ | ⟨vs, rfl⟩ <;> cases h1
  refine ⟨ps, by rw [upd_ne n1]; exact h1, h2, fun pos cv hc => ?_⟩
  obtain ⟨c, e1, e2⟩ := h3 pos cv hc
  refine ⟨c, e1, ?_⟩
  have n2 : c ≠ a := fun z => by
    rw [z, h] at e2
    rcases m with ⟨vs, rfl⟩ | ⟨vs, rfl⟩ <;> cases e2
  rw [upd_ne n2]; exact e2
theorem hm_upd {O : List Addr} {H : Hp} {a : Addr} {o : HO} (h : a ∈ O) : Hm O (upd H a o) = Hm O H := by
  funext b
  unfold Hm
  by_cases e : b ∈ O
  · rw [if_pos e, if_pos e]
  · rw [if_neg e, if_neg e, upd_ne fun z : b = a => e (z ▸ h)]
theorem trO_upd {O : List Addr} {H : Hp} {a : Addr} {o : HO} (t : TrO O H) (m : MutO o) : TrO O (upd H a o) := fun b hb => by
  by_cases e : b = a
  · subst e
    refine ⟨o, upd_same, fun ps z => ?_⟩
    rcases m with ⟨vs, rfl⟩ | ⟨vs, rfl⟩ <;> cases z
  · rw [upd_ne e]; exact t b hb
/-- more is one's own, which is new -/
theorem ExtN.grow {O O' : List Addr} {H H' : Hp} (e : ExtN H H') (h : ∀ b ∈ O', b ∉ O → H b = none) : ExtN (Hm O H) (Hm O' H') := fun b o hb n => by
  obtain ⟨h1, h2⟩ := Hm_some hb
  refine Hm_of (fun z => ?_) (e b o h2 n)
  rw [h b z h1] at h2
  cases h2
theorem Rel.grow {K : PySem.W.Frag} {T : Tab} {O O' : List Addr} {σ : L2.St} {H H' : Hp} {ρ : Ev.Env} (r : Rel K T O σ H ρ) (e : Ext T H H') (tr : TrO O' H') (s : ∀ a ∈ O, a ∈ O') (h : ∀ b ∈ O', b ∉ O → H b = none) : Rel K T O' σ H' ρ where
  len := r.len
  sh := fun i d hi => let ⟨v, h1, h2⟩ := r.sh i d hi; ⟨v, h1, h2.ext (e.1.grow h)⟩
  ow := fun i d hi h' => by
    obtain ⟨a, h1, h2, h3⟩ := r.ow i d hi h'
    refine ⟨a, h1, s a h2, ?_⟩
    cases d with
    | ow ds => obtain ⟨vs, h4, h5⟩ := h3; exact ⟨vs, e.1 _ _ h4 (fun ps z => by cases z), h5.ext (e.1.grow h)⟩
    | od ks ds => obtain ⟨kvs, h4, h5⟩ := h3; exact ⟨kvs, e.1 _ _ h4 (fun ps z => by cases z), h5.ext (e.1.grow h)⟩
    | un => exact h3.elim
    | sh d => exact h3.elim
  ne := r.ne
  tr := tr
  tab := e.2 r.tab
theorem mapF_cons {f : D → R (Option D)} {d : D} {r ys : List D} (h : mapF f (d :: r) = .ok ys) : ∃ o ys', f d = .ok o ∧ mapF f r = .ok ys' ∧ ys = match o with | some y => y :: ys' | none => ys' := by
  obtain ⟨o, h1, h⟩ := bind_eq_ok h
  obtain ⟨ys', h2, h⟩ := bind_eq_ok h
  cases h
  exact ⟨o, ys', h1, h2, rfl⟩
theorem noEx_some {α : Type} {r : R α} {a : α} (h : noEx r = .ok a) : r = .ok a := by
  cases r with
  | ok b => exact h
  | ex c => cases h
  | no => cases h
section
variable {C : Cfg} {Γ : Gam} {T : Tbl} {n : Nat} {X : Cx} {W W' : Nat → Hp → Prop} {tg e e1 e2 e3 : Expr} {pos p apos tpos : Pos} {f f1 f2 f3 : Ev.Env → R D}
theorem lc_rd {fi : Ev.Env → R (List D)} {fc : Ev.Env → R Bool} {fe : Ev.Env → R D} {tgl ws : List Nat} {many : Bool} (hs : many = false → ∃ i, tgl = [i]) (hin : ∀ i ∈ tgl, i ∈ ws) (σ : L2.St) (H : Hp) (Q : VK)
    (q : rdE X C W (fun ρ => noEx ((fi ρ).bind fun ds => if ds.length ≤ LIM then (mapF (fun d => (store tgl many d (Ev.wipe ρ ws)).bind fun ρ1 => (fc ρ1).bind fun t => if t then (fe ρ1).bind fun y => .ok (some y) else .ok none) ds).bind fun ys => .ok (.lst ys) else .no)) σ H Q) :
    tLc (rdC X C W fi) (tgG X.K tgl many) (rdT X C W' fc) (rdE X C W' fe) ws σ H Q := by
  obtain ⟨O, ρ, r, p⟩ := q
  dsimp only at p
  cases hr : noEx ((fi ρ).bind fun ds => if ds.length ≤ LIM then (mapF (fun d => (store tgl many d (Ev.wipe ρ ws)).bind fun ρ1 => (fc ρ1).bind fun t => if t then (fe ρ1).bind fun y => .ok (some y) else .ok none) ds).bind fun ys => .ok (D.lst ys) else .no) with
  | no => rw [hr] at p; exact p.elim
  | ex c => exfalso; revert hr; cases (fi ρ).bind _ <;> (intro hr; cases hr)
  | ok z =>
    rw [hr] at p
    have hr := noEx_some hr
    obtain ⟨ds, hi, hr⟩ := bind_eq_ok hr
    split at hr
    · rename_i hl
      generalize hF : (fun d => (store tgl many d (Ev.wipe ρ ws)).bind fun ρ1 => (fc ρ1).bind fun t => if t then (fe ρ1).bind fun y => R.ok (some y) else .ok none) = F at hr
      obtain ⟨ys, hm, hr⟩ := bind_eq_ok hr
      cases hr
      refine ⟨O, ρ, r, ?_⟩
      rw [hi]
      intro H1 e1 J wk D0 hD
      have r1 := r.ext e1
      have hDO : D0 ∉ O := TrO.fresh r1.tr hD
      have hnew : ∀ b ∈ D0 :: O, b ∉ O → H1 b = none := fun b hb hn => by
        rcases List.mem_cons.mp hb with z | z
        · rw [z]; exact hD
        · exact absurd z hn
      let W0 : Nat → Hp → Prop := fun i H' => i ≤ ds.length ∧ ∃ acc done rest, H' D0 = some (.lst acc) ∧ Reps X.K (Hm (D0 :: O) H') acc done ∧ Ext C.T H1 H' ∧ mapF F (ds.drop i) = .ok rest ∧ done ++ rest = ys ∧ acc.length ≤ i
      refine ⟨fun i m H' => m = ds.length - i ∧ W0 i H', ⟨_, rfl, Nat.zero_le _, [], [], ys, upd_same, .nil, Ext.new hD, hm, rfl, Nat.le_refl _⟩, ?_⟩
      rintro i m H' ⟨rfl, hile, acc, done, rest, hacc, hrep, ext, hmap, happ, hlen⟩
      have tr' : TrO (D0 :: O) H' := fun b hb => by
        rcases List.mem_cons.mp hb with z | z
        · rw [z]; exact ⟨_, hacc, fun ps z => by cases z⟩
        · exact (r1.ext ext).tr b z
      have exm : ExtN (Hm O H1) (Hm (D0 :: O) H') := ext.1.grow hnew
      rcases Nat.lt_or_ge i ds.length with hlt | hge
      · right
        have hd : ds[i]? = some ds[i] := List.getElem?_eq_getElem hlt
        have hdrop : ds.drop i = ds[i] :: ds.drop (i + 1) := List.drop_eq_getElem_cons hlt
        rw [hdrop] at hmap
        obtain ⟨o, ys', hf, hmap, hys⟩ := mapF_cons hmap
        obtain ⟨go, yld⟩ := wk.step i ds[i] (D0 :: O) H' hd tr' ext.1 exm
        refine ⟨go, fun H'' => W0 (i + 1) H'', fun H'' w => ⟨ds.length - (i + 1), by omega, rfl, w⟩, fun x H2 y => ?_⟩
        obtain ⟨e2, rx⟩ := yld x H2 y
        subst hF
        obtain ⟨ρ1, hst, hf⟩ := bind_eq_ok hf
        obtain ⟨t, hc, hf⟩ := bind_eq_ok hf
        have rb : Rel X.K C.T (D0 :: O) (L2.wipe σ ws) H2 (Ev.wipe ρ ws) := ((r1.grow ext tr' (fun a h => List.mem_cons_of_mem _ h) hnew).ext e2).wipes ws
        refine tg_do hs hst rb rx fun σ' rel hw => ⟨by rw [hw ws hin, wipe_idem], ?_⟩
        refine ⟨D0 :: O, ρ1, rel, ?_⟩
        rw [hc]
        intro H3 e3
        have keep : ∀ {Hz}, Ext C.T H2 Hz → Hz D0 = some (.lst acc) := fun {Hz} ez => ez.1 _ _ (e2.1 _ _ hacc (fun ps z => by cases z)) (fun ps z => by cases z)
        cases t with
        | false =>
          rw [if_neg Bool.false_ne_true] at hf
          cases hf
          show W0 (i + 1) H3
          refine ⟨hlt, acc, done, ys', keep e3, hrep.ext (e2.trans e3).1.hm, (ext.trans e2).trans e3, hmap, ?_, Nat.le_succ_of_le hlen⟩
          rw [← happ, hys]
        | true =>
          rw [if_pos rfl] at hf
          obtain ⟨d', hfe, hf⟩ := bind_eq_ok hf
          cases hf
          show rdE X C W' fe σ' H3 _
          refine ⟨D0 :: O, ρ1, rel.ext e3, ?_⟩
          rw [hfe]
          intro H4 e4 v rv
          refine ⟨acc, keep (e3.trans e4), ?_, ?_⟩
          · have h1 := lim_le hl
            omega
          · have k4 := keep (e3.trans e4)
            refine ⟨hlt, acc ++ [v], done ++ [d'], ys', upd_same, ?_, ?_, hmap, ?_, by rw [List.length_append, List.length_singleton]; omega⟩
            · rw [hm_upd List.mem_cons_self]
              exact (hrep.ext ((e2.trans e3).trans e4).1.hm).app (.cons rv .nil)
            · have ex4 := ((ext.trans e2).trans e3).trans e4
              refine ⟨fun b o hb n => ?_, fun t => tabs_mut (ex4.2 t) k4 (.inl ⟨_, rfl⟩)⟩
              have : b ≠ D0 := fun z => by rw [z, hD] at hb; cases hb
              rw [upd_ne this]
              exact ex4.1 b o hb n
            · rw [← happ, hys, List.append_assoc]; rfl
      · left
        have : i = ds.length := Nat.le_antisymm hile hge
        subst this
        refine ⟨wk.stop (D0 :: O) H' tr' ext.1 exm, ?_⟩
        rw [List.drop_length] at hmap
        cases hmap
        rw [List.append_nil] at happ
        subst happ
        exact p H' (e1.trans ext) _ (.lst (.inl (.inl (Hm_of hDO hacc))) (hrep.ext (ExtN.hmLess fun a h => List.mem_cons_of_mem _ h)))
    · cases hr
theorem sx_comp {elt iter : Expr} {ifs : List Expr} {scope : Scope} {fi : Ev.Env → R (List D)} {fc : Ev.Env → R Bool} {fe : Ev.Env → R D} {tgl ws : List Nat} {many : Bool} (g : Good0 C Γ T n X W) (hb : blkB Γ scope ws = true) (ht : chkTg (Γ.blk scope) tgl many tg = true)
    (hin : ∀ i ∈ tgl, i ∈ ws) (hi : PI X tg iter (rdC X C W fi)) (hp : plainF iter = true)
    (hc : ∀ X' W', Good0 C (Γ.blk scope) T n X' W' → PTs X' ifs (rdT X' C W' fc)) (he : ∀ X' W', Good0 C (Γ.blk scope) T n X' W' → PE X' elt (rdE X' C W' fe)) :
    PE X (.ListComp elt [⟨tg, iter, ifs, 0⟩] scope pos) (rdE X C W fun ρ => noEx ((fi ρ).bind fun ds => if ds.length ≤ LIM then (mapF (fun d => (store tgl many d (Ev.wipe ρ ws)).bind fun ρ1 => (fc ρ1).bind fun t => if t then (fe ρ1).bind fun y => .ok (some y) else .ok none) ds).bind fun ys => .ok (.lst ys) else .no)) := by
  obtain ⟨ok, hw, _⟩ := blkB_of g hb
  have := pe_lc (pos := pos) g.calm g.nd hi ok (g := tgG X.K tgl many) (tt := rdT X C (fun _ _ => False) fc) (te := rdE X C (fun _ _ => False) fe) (fun s H A cl fp => pg_tg (g.blk hb s H A cl fp) ht) (fun s H A cl fp => hc _ _ (g.blk hb s H A cl fp)) (fun s H A cl fp => he _ _ (g.blk hb s H A cl fp)) (folded_pure hp X.env)
  rw [hw] at this
  exact peW this (lc_rd (tg_plain ht) hin)
theorem ps_lcSet {elt iter : Expr} {ifs : List Expr} {scope : Scope} {fi : Ev.Env → R (List D)} {fc : Ev.Env → R Bool} {fe : Ev.Env → R D} {tgl ws : List Nat} {many : Bool} {i : Nat} {y : Str} {py spos : Pos} (g : Good0 C Γ T n X W) (hb : blkB Γ scope ws = true) (ht : chkTg (Γ.blk scope) tgl many tg = true)
    (hin : ∀ i ∈ tgl, i ∈ ws) (hi : PI X tg iter (rdC X C W fi)) (hp : plainF iter = true) (hy : X.N[i]? = some y) (hyl : X.env.scope.names.lookup y = some .local) (hsw : swapsWith (.ListComp elt [⟨tg, iter, ifs, 0⟩] scope pos) (some (.Name y py)) spos.line X.env = pure true)
    (hc : ∀ X' W', Good0 C (Γ.blk scope) T n X' W' → PTs X' ifs (rdT X' C W' fc)) (he : ∀ X' W', Good0 C (Γ.blk scope) T n X' W' → PE X' elt (rdE X' C W' fe)) :
    PS X (.Assign [.Name y py] (.ListComp elt [⟨tg, iter, ifs, 0⟩] scope pos) spos) (tAsg (rdE X C W fun ρ => noEx ((fi ρ).bind fun ds => if ds.length ≤ LIM then (mapF (fun d => (store tgl many d (Ev.wipe ρ ws)).bind fun ρ1 => (fc ρ1).bind fun t => if t then (fe ρ1).bind fun y => .ok (some y) else .ok none) ds).bind fun ys => .ok (.lst ys) else .no)) (gName i)) := by
  obtain ⟨ok, hw, _⟩ := blkB_of g hb
  have := ps_setLc (pos := pos) g.calm g.nd hy hyl hsw hi ok (g := tgG X.K tgl many) (tt := rdT X C (fun _ _ => False) fc) (te := rdE X C (fun _ _ => False) fe) (fun s H A cl fp => pg_tg (g.blk hb s H A cl fp) ht) (fun s H A cl fp => hc _ _ (g.blk hb s H A cl fp)) (fun s H A cl fp => he _ _ (g.blk hb s H A cl fp)) (folded_pure hp X.env)
  rw [hw] at this
  exact psW this fun D σ H q => lc_rd (tg_plain ht) hin _ _ _ q
theorem pts_rd1 {c : Expr} {fc : Ev.Env → R Bool} (h : PT X c (rdT X C W fc)) : PTs X [c] (rdT X C W fc) := pts_one h
theorem pts_rd0 : PTs X [] (rdT X C W fun _ => .ok true) := ⟨fun pins s σ H Q I q => pts_nil.run pins s σ H Q I (by obtain ⟨O, ρ, r, p⟩ := q; exact p H (Ext.refl _ _))⟩
end
end Ev

set_option maxHeartbeats 4000000
/-! EvMain: what our tree comes to, the text comes to: expressions. -/
namespace Ev
open PySem PySem.Spec PyProof.Rows L2
def fsOf : Es → Tbl → List (Ev.Env → R D)
  | .nil, _ => []
  | .cons e es, T => eval e T :: fsOf es T
theorem allF_of (T : Tbl) (ρ : Ev.Env) : ∀ es : Es, allF (fsOf es T) ρ = evals es T ρ
  | .nil => rfl
  | .cons e es => by
    show ((eval e T ρ).bind fun d => (allF (fsOf es T) ρ).bind fun ds => .ok (d :: ds)) = _
    rw [allF_of T ρ es, evals]
theorem andF_of (T : Tbl) (ρ : Ev.Env) : ∀ es : Es, andF (fsOf es T) ρ = evalAnd es T ρ
  | .nil => rfl
  | .cons e es => by
    show ((eval e T ρ).bind fun a => (asB a).bind fun t => if t then andF (fsOf es T) ρ else .ok false) = _
    rw [andF_of T ρ es, evalAnd]
theorem orF_of (T : Tbl) (ρ : Ev.Env) : ∀ es : Es, orF (fsOf es T) ρ = evalOr es T ρ
  | .nil => rfl
  | .cons e es => by
    show ((eval e T ρ).bind fun a => (asB a).bind fun t => if t then .ok true else orF (fsOf es T) ρ) = _
    rw [orF_of T ρ es, evalOr]
section
variable {C : Cfg} {X : Cx} {W : Nat → Hp → Prop} {e : Expr} {f : Ev.Env → R D} {b : Bool}
theorem both (s : SX X C W e f) : (b = true → SX X C W e f) ∧ PE X e (rdB X C W f) := ⟨fun _ => s, s.b⟩
theorem bothC {f' : Ev.Env → R D} (s : SX X C W e f) (h : ∀ ρ, f ρ = f' ρ) : (b = true → SX X C W e f') ∧ PE X e (rdB X C W f') := both (congrR h s)
end
theorem itPlain {Γ : Gam} (it : E) (t e : Expr) (h : chkIt it Γ t e = true) : plainF e = true := by
  cases it with
  | val x => unfold chkIt at h; rw [Bool.and_eq_true] at h; exact chk_plain _ _ h.2
  | rng1 => unfold chkIt at h; split at h <;> first | rfl | cases h
  | rng2 => unfold chkIt at h; split at h <;> first | rfl | cases h
  | rngd => unfold chkIt at h; split at h <;> first | rfl | cases h
  | enu =>
    unfold chkIt at h
    split at h
    · split at h <;> first | rfl | cases h
    · cases h
  | zip =>
    unfold chkIt at h
    split at h
    · split at h <;> first | rfl | cases h
    · cases h
  | _ => unfold chkIt at h; cases h
theorem itPlainC {Γ : Gam} (it : E) (t e : Expr) (h : (chkIt it Γ t e || keysB it Γ e) = true) : plainF e = true := by
  rw [Bool.or_eq_true] at h
  rcases h with h | h
  · exact itPlain it t e h
  · unfold keysB at h
    split at h
    · split at h
      · rfl
      · cases h
    · cases h
theorem itC {C : Cfg} {Γ : Gam} {T : Tbl} {n : Nat} {X : Cx} {W : Nat → Hp → Prop} (it : E) (t e : Expr) (g : Good0 C Γ T n X W) (h : (chkIt it Γ t e || keysB it Γ e) = true) (hI : chkIt it Γ t e = true → PI X t e (rdI X C W (evalIt it T))) : PI X t e (rdC X C W (evalIt it T)) := by
  rw [Bool.or_eq_true] at h
  rcases h with h | h
  · exact piW (hI h) fun σ H R q => rdC_I q
  · unfold keysB at h
    split at h
    · split at h
      · rw [show (evalIt (.dkeys _) T) = _ from funext fun ρ => by rw [evalIt]]
        exact pi_own g h
      · cases h
    · cases h
mutual
theorem snd {C : Cfg} : ∀ (e' : E) {Γ : Gam} {T : Tbl} {n : Nat} {X : Cx} {W : Nat → Hp → Prop} (e : Expr), Good C Γ T n X W → chkE e' Γ e = true → (noB e' = true → SX X C W e (eval e' T)) ∧ PE X e (rdB X C W (eval e' T))
  | .v i, Γ, T, n, X, W, e, g, h => by
    unfold chkE at h
    split at h
    · exact bothC (sx_v g.toGood0 h) fun ρ => by rw [eval]; first | done | rfl
    · cases h
  | .b i, Γ, T, n, X, W, e, g, h => by
    unfold chkE at h
    split at h
    · exact ⟨fun z => (by cases z), peW (pe_b g.toGood0 h) fun σ H Q q => by
        obtain ⟨O, ρ, r, p⟩ := q
        rw [eval] at p
        exact ⟨O, ρ, r, p⟩⟩
    · cases h
  | .k d, Γ, T, n, X, W, e, g, h => by
    unfold chkE at h
    exact bothC (sx_k g.toGood0 h) fun ρ => by rw [eval]; first | done | rfl
  | .tup es, Γ, T, n, X, W, e, g, h => by
    unfold chkE at h
    split at h
    · exact bothC (sx_tup (sndAs es _ g h)) fun ρ => by rw [eval, allF_of]; first | done | rfl
    · cases h
  | .lst es, Γ, T, n, X, W, e, g, h => by
    unfold chkE at h
    split at h
    · exact bothC (sx_lst (sndAs es _ g h)) fun ρ => by rw [eval, allF_of]; first | done | rfl
    · cases h
  | .dix i x, Γ, T, n, X, W, e, g, h => by
    unfold chkE at h
    split at h
    · rw [Bool.and_eq_true] at h
      exact bothC (sx_dix g.toGood0 h.1 (snd x _ g h.2).2 (chk_plain _ _ h.2)) fun ρ => by rw [eval]; first | done | rfl
    · cases h
  | .din x i, Γ, T, n, X, W, e, g, h => by
    unfold chkE at h
    split at h
    · rw [Bool.and_eq_true] at h
      exact bothC (sx_din g.toGood0 h.1 (snd x _ g h.2).2) fun ρ => by rw [eval]; first | done | rfl
    · cases h
  | .dnin x i, Γ, T, n, X, W, e, g, h => by
    unfold chkE at h
    split at h
    · rw [Bool.and_eq_true] at h
      exact bothC (sx_dnin g.toGood0 h.1 (snd x _ g h.2).2) fun ρ => by rw [eval]; first | done | rfl
    · cases h
  | .dlen i, Γ, T, n, X, W, e, g, h => by
    unfold chkE at h
    split at h
    · simp only [Bool.and_eq_true, beq_iff_eq] at h
      obtain ⟨⟨rfl, h1⟩, h2⟩ := h
      exact bothC (sx_dlen g.toGood0 h1 h2) fun ρ => by rw [eval]; first | done | rfl
    · cases h
  | .dne i, Γ, T, n, X, W, e, g, h => by
    unfold chkE at h
    split at h
    · exact bothC (sx_dne g.toGood0 h) fun ρ => by rw [eval]; first | done | rfl
    · cases h
  | .dsort i, Γ, T, n, X, W, e, g, h => by
    unfold chkE at h
    split at h
    · simp only [Bool.and_eq_true, beq_iff_eq] at h
      obtain ⟨⟨rfl, h1⟩, h2⟩ := h
      exact bothC (sx_dsort g.toGood0 h1 h2) fun ρ => by rw [eval]; first | done | rfl
    · cases h
  | .dget i x z, Γ, T, n, X, W, e, g, h => by unfold chkE at h; cases h
  | .tix x y, Γ, T, n, X, W, e, g, h => by unfold chkE at h; cases h
  | .tin x y, Γ, T, n, X, W, e, g, h => by unfold chkE at h; cases h
  | .bin o x y, Γ, T, n, X, W, e, g, h => by
    unfold chkE at h
    split at h
    · simp only [Bool.and_eq_true, decide_eq_true_eq] at h
      obtain ⟨⟨rfl, h1⟩, h2⟩ := h
      exact bothC (sx_bin g.toGood0 o (snd x _ g h1).2 (snd y _ g h2).2) fun ρ => by rw [eval]; first | done | rfl
    · cases h
  | .cmp o x y, Γ, T, n, X, W, e, g, h => by
    unfold chkE at h
    split at h
    · simp only [Bool.and_eq_true, decide_eq_true_eq] at h
      obtain ⟨⟨rfl, h1⟩, h2⟩ := h
      exact bothC (sx_cmp g.toGood0 o (snd x _ g h1).2 (snd y _ g h2).2 (chk_plain _ _ h2)) fun ρ => by rw [eval]; first | done | rfl
    · cases h
  | .chain o p x y z, Γ, T, n, X, W, e, g, h => by
    unfold chkE at h
    split at h
    · simp only [Bool.and_eq_true, decide_eq_true_eq] at h
      obtain ⟨⟨⟨⟨rfl, rfl⟩, h1⟩, h2⟩, h3⟩ := h
      exact bothC (sx_chain g.toGood0 o p (snd x _ g h1).2 (snd y _ g h2).2 (snd z _ g h3).2 (chk_plain _ _ h2) (chk_plain _ _ h3)) fun ρ => by rw [eval]; first | done | rfl
    · cases h
  | .isN x, Γ, T, n, X, W, e, g, h => by
    unfold chkE at h
    split at h
    · exact bothC (sx_isN (snd x _ g h).2) fun ρ => by rw [eval]; first | done | rfl
    · cases h
  | .notN x, Γ, T, n, X, W, e, g, h => by
    unfold chkE at h
    split at h
    · exact bothC (sx_notN (snd x _ g h).2) fun ρ => by rw [eval]; first | done | rfl
    · cases h
  | .isB x b, Γ, T, n, X, W, e, g, h => by
    unfold chkE at h
    split at h
    · rw [Bool.and_eq_true, beq_iff_eq] at h
      obtain ⟨rfl, h1⟩ := h
      exact bothC (sx_isB (snd x _ g h1).2) fun ρ => by rw [eval]; first | done | rfl
    · cases h
  | .notB x b, Γ, T, n, X, W, e, g, h => by
    unfold chkE at h
    split at h
    · rw [Bool.and_eq_true, beq_iff_eq] at h
      obtain ⟨rfl, h1⟩ := h
      exact bothC (sx_notB (snd x _ g h1).2) fun ρ => by rw [eval]; first | done | rfl
    · cases h
  | .and es, Γ, T, n, X, W, e, g, h => by
    unfold chkE at h
    split at h
    · rw [Bool.and_eq_true] at h
      exact bothC (sx_and (sndBs es _ g h.2) fun z => by rw [z] at h; cases h.1) fun ρ => by rw [eval, andF_of]; first | done | rfl
    · cases h
  | .or es, Γ, T, n, X, W, e, g, h => by
    unfold chkE at h
    split at h
    · rw [Bool.and_eq_true] at h
      exact bothC (sx_or (sndBs es _ g h.2) fun z => by rw [z] at h; cases h.1) fun ρ => by rw [eval, orF_of]; first | done | rfl
    · cases h
  | .not x, Γ, T, n, X, W, e, g, h => by
    unfold chkE at h
    split at h
    · rw [Bool.and_eq_true] at h
      exact bothC (sx_not ((snd x _ g h.2).1 h.1)) fun ρ => by rw [eval]; first | done | rfl
    · cases h
  | .ix x y, Γ, T, n, X, W, e, g, h => by
    unfold chkE at h
    split at h
    · rw [Bool.and_eq_true] at h
      exact bothC (sx_ix (snd x _ g h.1).2 (snd y _ g h.2).2 (chk_plain _ _ h.2)) fun ρ => by rw [eval]; first | done | rfl
    · cases h
  | .slL x lo, Γ, T, n, X, W, e, g, h => by
    unfold chkE at h
    split at h
    · rw [Bool.and_eq_true] at h
      exact bothC (sx_slL (snd x _ g h.1).2 (snd lo _ g h.2).2) fun ρ => by rw [eval]; first | done | rfl
    · cases h
  | .slH x hi, Γ, T, n, X, W, e, g, h => by
    unfold chkE at h
    split at h
    · rw [Bool.and_eq_true] at h
      exact bothC (sx_slH (snd x _ g h.1).2 (snd hi _ g h.2).2) fun ρ => by rw [eval]; first | done | rfl
    · cases h
  | .slB x lo hi, Γ, T, n, X, W, e, g, h => by
    unfold chkE at h
    split at h
    · rw [Bool.and_eq_true, Bool.and_eq_true] at h
      exact bothC (sx_slB (snd x _ g h.1.1).2 (snd lo _ g h.1.2).2 (snd hi _ g h.2).2) fun ρ => by rw [eval]; first | done | rfl
    · cases h
  | .rev x, Γ, T, n, X, W, e, g, h => by
    unfold chkE at h
    split at h
    · exact bothC (sx_rev (snd x _ g h).2) fun ρ => by rw [eval]
    · cases h
  | .bi b x, Γ, T, n, X, W, e, g, h => by
    unfold chkE at h
    split at h
    · split at h
      · simp only [Bool.and_eq_true, beq_iff_eq] at h
        obtain ⟨⟨⟨⟨rfl, h0⟩, rfl⟩, h1⟩, h2⟩ := h
        exact bothC (sx_srtset g.toGood0 h0 h1 (snd x _ g h2).2 (chk_plain _ _ h2)) fun ρ => by rw [eval]
      · cases h
    · rename_i hb
      split at h
      · simp only [Bool.and_eq_true, beq_iff_eq] at h
        obtain ⟨⟨rfl, h1⟩, h2⟩ := h
        exact bothC (sx_bi g.toGood0 b hb h1 (snd x _ g h2).2 (chk_plain _ _ h2)) fun ρ => by rw [eval]; first | done | rfl
      · cases h
  | .max2 x y, Γ, T, n, X, W, e, g, h => by
    unfold chkE at h
    split at h
    · simp only [Bool.and_eq_true, beq_iff_eq] at h
      obtain ⟨⟨⟨rfl, h0⟩, h1⟩, h2⟩ := h
      exact bothC (sx_max2 g.toGood0 h0 (snd x _ g h1).2 (snd y _ g h2).2 (chk_plain _ _ h1) (chk_plain _ _ h2)) fun ρ => by rw [eval]; first | done | rfl
    · cases h
  | .min2 x y, Γ, T, n, X, W, e, g, h => by
    unfold chkE at h
    split at h
    · simp only [Bool.and_eq_true, beq_iff_eq] at h
      obtain ⟨⟨⟨rfl, h0⟩, h1⟩, h2⟩ := h
      exact bothC (sx_min2 g.toGood0 h0 (snd x _ g h1).2 (snd y _ g h2).2 (chk_plain _ _ h1) (chk_plain _ _ h2)) fun ρ => by rw [eval]; first | done | rfl
    · cases h
  | .isi x t, Γ, T, n, X, W, e, g, h => by
    unfold chkE at h
    split at h
    · simp only [Bool.and_eq_true, beq_iff_eq] at h
      obtain ⟨⟨⟨⟨rfl, h0⟩, rfl⟩, h1⟩, h2⟩ := h
      exact bothC (sx_isi g.toGood0 t h0 h1 (snd x _ g h2).2 (chk_plain _ _ h2)) fun ρ => by rw [eval]; first | done | rfl
    · cases h
  | .mt m x y, Γ, T, n, X, W, e, g, h => by
    unfold chkE at h
    split at h
    · simp only [Bool.and_eq_true] at h
      obtain ⟨⟨⟨⟨h0, h1⟩, h2⟩, h3⟩, h4⟩ := h
      have h0 : _ = _ := eq_of_beq h0
      subst h0
      exact bothC (sx_mt g.toGood0 m h1 h2 (snd x _ g h3).2 (snd y _ g h4).2 (chk_plain _ _ h4)) fun ρ => by rw [eval]; first | done | rfl
    · cases h
  | .upper x, Γ, T, n, X, W, e, g, h => by
    unfold chkE at h
    split at h
    · simp only [Bool.and_eq_true] at h
      obtain ⟨⟨⟨h0, h1⟩, h2⟩, h3⟩ := h
      have h0 : _ = _ := eq_of_beq h0
      subst h0
      exact bothC (sx_upper g.toGood0 h1 h2 (snd x _ g h3).2) fun ρ => by rw [eval]; first | done | rfl
    · cases h
  | .call k es, Γ, T, n, X, W, e, g, h => by
    unfold chkE at h
    split at h
    · rename_i x p xs pos
      simp only [Bool.and_eq_true] at h
      obtain ⟨⟨h0, h1⟩, h2⟩ := h
      cases xs with
      | nil => cases h1
      | cons x0 xs => exact bothC (sx_call g.toGood0 h0 (sndAs es _ g h2)) fun ρ => by rw [eval, allF_of]; first | done | rfl
    · cases h
  | .lam k x, Γ, T, n, X, W, e, g, h => by
    unfold chkE at h
    split at h
    · simp only [Bool.and_eq_true] at h
      obtain ⟨⟨⟨⟨h0, h1⟩, h2⟩, h3⟩, h4⟩ := h
      have hl : Γ.lm = true := by
        unfold lamOk at h0
        simp only [Bool.and_eq_true] at h0
        exact h0.1.1.1
      exact bothC (sx_val (g.lam hl k _ _ _ _ _ _ _ (eval x fun j => T (j + 2)) h0 h1 h2 fun X' W' g' => ((snd x _ (g'.good rfl) h4).1 h3).v) rfl) fun ρ => by rw [eval]; first | done | rfl
    · cases h
  | .comp x tg many it c ws, Γ, T, n, X, W, e, g, h => by
    unfold chkE at h
    split at h
    · rename_i elt t iter ifs scope pos
      simp only [Bool.and_eq_true, List.all_eq_true, List.contains_iff_mem] at h
      obtain ⟨⟨⟨⟨⟨⟨h1, h2⟩, h3⟩, h4⟩, h5⟩, h6⟩, h7⟩ := h
      have hc : ∀ X' W', Good0 C (Γ.blk scope) T n X' W' → PTs X' ifs (rdT X' C W' (evalC c T)) := fun X' W' g' => by
        cases ifs with
        | nil =>
          cases c with
          | nil =>
            have := pts_rd0 (C := C) (X := X') (W := W')
            rw [show (evalC .nil T) = (fun _ => R.ok true) from funext fun ρ => by rw [evalC]]
            exact this
          | cons => cases h6
        | cons a r =>
          cases r with
          | nil =>
            cases c with
            | nil => cases h6
            | cons e0 es0 =>
              unfold chkEs at h6
              rw [Bool.and_eq_true, Bool.and_eq_true] at h6
              have := ((snd e0 _ (g'.good rfl) h6.1.2).1 h6.1.1).t
              rw [show (evalC (.cons e0 es0) T) = (fun ρ => (eval e0 T ρ).bind asB) from funext fun ρ => by rw [evalC]]
              exact pts_rd1 this
          | cons => cases h6
      have := sx_comp (pos := pos) g.toGood0 h1 h2 h3 (itC it _ _ g.toGood0 h5 fun z => sndIt it _ _ g z) (itPlainC it _ _ h5) hc fun X' W' g' => ((snd x _ (g'.good rfl) h7).1 h4).v
      refine bothC (sx_val this rfl) fun ρ => by rw [eval]; first | done | rfl
    · cases h
  | .val _, Γ, T, n, X, W, e, g, h => by unfold chkE at h; cases h
  | .dkeys _, Γ, T, n, X, W, e, g, h => by unfold chkE at h; cases h
  | .rng1 _, Γ, T, n, X, W, e, g, h => by unfold chkE at h; cases h
  | .rng2 _ _, Γ, T, n, X, W, e, g, h => by unfold chkE at h; cases h
  | .rngd _ _, Γ, T, n, X, W, e, g, h => by unfold chkE at h; cases h
  | .enu _, Γ, T, n, X, W, e, g, h => by unfold chkE at h; cases h
  | .zip _ _, Γ, T, n, X, W, e, g, h => by unfold chkE at h; cases h
theorem sndAs {C : Cfg} : ∀ (es' : Es) {Γ : Gam} {T : Tbl} {n : Nat} {X : Cx} {W : Nat → Hp → Prop} (xs : List Expr), Good C Γ T n X W → chkEs es' Γ xs = true → SAs X C W xs (fsOf es' T)
  | .nil, Γ, T, n, X, W, xs, g, h => by
    unfold chkEs at h
    cases xs with
    | nil => exact .nil
    | cons => cases h
  | .cons e es, Γ, T, n, X, W, xs, g, h => by
    unfold chkEs at h
    cases xs with
    | nil => cases h
    | cons x r =>
      simp only [Bool.and_eq_true] at h
      exact .cons ((snd e _ g h.1.2).1 h.1.1).v (chk_plain _ _ h.1.2) (sndAs es _ g h.2)
theorem sndBs {C : Cfg} : ∀ (es' : Es) {Γ : Gam} {T : Tbl} {n : Nat} {X : Cx} {W : Nat → Hp → Prop} (xs : List Expr), Good C Γ T n X W → chkEs es' Γ xs = true → SBs X C W xs (fsOf es' T)
  | .nil, Γ, T, n, X, W, xs, g, h => by
    unfold chkEs at h
    cases xs with
    | nil => exact .nil
    | cons => cases h
  | .cons e es, Γ, T, n, X, W, xs, g, h => by
    unfold chkEs at h
    cases xs with
    | nil => cases h
    | cons x r =>
      simp only [Bool.and_eq_true] at h
      exact .cons ((snd e _ g h.1.2).1 h.1.1) (sndBs es _ g h.2)
theorem sndIt {C : Cfg} : ∀ (it : E) {Γ : Gam} {T : Tbl} {n : Nat} {X : Cx} {W : Nat → Hp → Prop} (t e : Expr), Good C Γ T n X W → chkIt it Γ t e = true → PI X t e (rdI X C W (evalIt it T))
  | .val x, Γ, T, n, X, W, t, e, g, h => by
    unfold chkIt at h
    rw [Bool.and_eq_true] at h
    rw [show (evalIt (.val x) T) = (fun ρ => (eval x T ρ).bind itD) from funext fun ρ => by rw [evalIt]]
    exact pi_val ((snd x _ g h.2).1 h.1).v
  | .rng1 x, Γ, T, n, X, W, t, e, g, h => by
    unfold chkIt at h
    split at h
    · simp only [Bool.and_eq_true, beq_iff_eq] at h
      obtain ⟨⟨rfl, h0⟩, h1⟩ := h
      rw [show (evalIt (.rng1 x) T) = _ from funext fun ρ => by rw [evalIt]]
      exact pi_rng1 g.toGood0 h0 (snd x _ g h1).2 (chk_plain _ _ h1)
    · cases h
  | .rng2 x y, Γ, T, n, X, W, t, e, g, h => by
    unfold chkIt at h
    split at h
    · simp only [Bool.and_eq_true, beq_iff_eq] at h
      obtain ⟨⟨⟨rfl, h0⟩, h1⟩, h2⟩ := h
      rw [show (evalIt (.rng2 x y) T) = _ from funext fun ρ => by rw [evalIt]]
      exact pi_rng2 g.toGood0 h0 (snd x _ g h1).2 (snd y _ g h2).2 (chk_plain _ _ h1) (chk_plain _ _ h2)
    · cases h
  | .rngd x y, Γ, T, n, X, W, t, e, g, h => by
    unfold chkIt at h
    split at h
    · simp only [Bool.and_eq_true, beq_iff_eq] at h
      obtain ⟨⟨⟨rfl, h0⟩, h1⟩, h2⟩ := h
      rw [show (evalIt (.rngd x y) T) = _ from funext fun ρ => by rw [evalIt]]
      exact pi_rngd g.toGood0 h0 (snd x _ g h1).2 (snd y _ g h2).2 (chk_plain _ _ h1) (chk_plain _ _ h2)
    · cases h
  | .enu x, Γ, T, n, X, W, t, e, g, h => by
    unfold chkIt at h
    split at h
    · split at h
      · simp only [Bool.and_eq_true, beq_iff_eq] at h
        obtain ⟨⟨⟨rfl, h0⟩, h1⟩, h2⟩ := h
        rw [show (evalIt (.enu x) T) = _ from funext fun ρ => by rw [evalIt]]
        exact pi_enuL g.toGood0 h0 ((snd x _ g h2).1 h1).v (chk_plain _ _ h2)
      · cases h
    · cases h
  | .zip x y, Γ, T, n, X, W, t, e, g, h => by
    unfold chkIt at h
    split at h
    · split at h
      · simp only [Bool.and_eq_true, beq_iff_eq] at h
        obtain ⟨⟨⟨⟨⟨rfl, h0⟩, h1⟩, h2⟩, h3⟩, h4⟩ := h
        rw [show (evalIt (.zip x y) T) = _ from funext fun ρ => by rw [evalIt]]
        exact pi_zipLT g.toGood0 h0 ((snd x _ g h3).1 h1).v ((snd y _ g h4).1 h2).v (chk_plain _ _ h3) (chk_plain _ _ h4)
      · cases h
    · cases h
  | .v _, Γ, T, n, X, W, t, e, g, h => by unfold chkIt at h; cases h
  | .b _, Γ, T, n, X, W, t, e, g, h => by unfold chkIt at h; cases h
  | .k _, Γ, T, n, X, W, t, e, g, h => by unfold chkIt at h; cases h
  | .tup _, Γ, T, n, X, W, t, e, g, h => by unfold chkIt at h; cases h
  | .lst _, Γ, T, n, X, W, t, e, g, h => by unfold chkIt at h; cases h
  | .dix _ _, Γ, T, n, X, W, t, e, g, h => by unfold chkIt at h; cases h
  | .din _ _, Γ, T, n, X, W, t, e, g, h => by unfold chkIt at h; cases h
  | .dnin _ _, Γ, T, n, X, W, t, e, g, h => by unfold chkIt at h; cases h
  | .dlen _, Γ, T, n, X, W, t, e, g, h => by unfold chkIt at h; cases h
  | .dne _, Γ, T, n, X, W, t, e, g, h => by unfold chkIt at h; cases h
  | .dsort _, Γ, T, n, X, W, t, e, g, h => by unfold chkIt at h; cases h
  | .dget _ _ _, Γ, T, n, X, W, t, e, g, h => by unfold chkIt at h; cases h
  | .tix _ _, Γ, T, n, X, W, t, e, g, h => by unfold chkIt at h; cases h
  | .tin _ _, Γ, T, n, X, W, t, e, g, h => by unfold chkIt at h; cases h
  | .bin _ _ _, Γ, T, n, X, W, t, e, g, h => by unfold chkIt at h; cases h
  | .cmp _ _ _, Γ, T, n, X, W, t, e, g, h => by unfold chkIt at h; cases h
  | .chain _ _ _ _ _, Γ, T, n, X, W, t, e, g, h => by unfold chkIt at h; cases h
  | .isN _, Γ, T, n, X, W, t, e, g, h => by unfold chkIt at h; cases h
  | .notN _, Γ, T, n, X, W, t, e, g, h => by unfold chkIt at h; cases h
  | .isB _ _, Γ, T, n, X, W, t, e, g, h => by unfold chkIt at h; cases h
  | .notB _ _, Γ, T, n, X, W, t, e, g, h => by unfold chkIt at h; cases h
  | .and _, Γ, T, n, X, W, t, e, g, h => by unfold chkIt at h; cases h
  | .or _, Γ, T, n, X, W, t, e, g, h => by unfold chkIt at h; cases h
  | .not _, Γ, T, n, X, W, t, e, g, h => by unfold chkIt at h; cases h
  | .ix _ _, Γ, T, n, X, W, t, e, g, h => by unfold chkIt at h; cases h
  | .slL _ _, Γ, T, n, X, W, t, e, g, h => by unfold chkIt at h; cases h
  | .slH _ _, Γ, T, n, X, W, t, e, g, h => by unfold chkIt at h; cases h
  | .slB _ _ _, Γ, T, n, X, W, t, e, g, h => by unfold chkIt at h; cases h
  | .rev _, Γ, T, n, X, W, t, e, g, h => by unfold chkIt at h; cases h
  | .bi _ _, Γ, T, n, X, W, t, e, g, h => by unfold chkIt at h; cases h
  | .max2 _ _, Γ, T, n, X, W, t, e, g, h => by unfold chkIt at h; cases h
  | .min2 _ _, Γ, T, n, X, W, t, e, g, h => by unfold chkIt at h; cases h
  | .isi _ _, Γ, T, n, X, W, t, e, g, h => by unfold chkIt at h; cases h
  | .mt _ _ _, Γ, T, n, X, W, t, e, g, h => by unfold chkIt at h; cases h
  | .upper _, Γ, T, n, X, W, t, e, g, h => by unfold chkIt at h; cases h
  | .call _ _, Γ, T, n, X, W, t, e, g, h => by unfold chkIt at h; cases h
  | .lam _ _, Γ, T, n, X, W, t, e, g, h => by unfold chkIt at h; cases h
  | .comp _ _ _ _ _ _, Γ, T, n, X, W, t, e, g, h => by unfold chkIt at h; cases h
  | .dkeys _, Γ, T, n, X, W, t, e, g, h => by unfold chkIt at h; cases h
end
end Ev

/-! EvStm: states of a def's run, readings of statements. -/
namespace Ev
open PySem PySem.Spec PyProof.Rows L2
/-- a state within a def's run that began at H0, where O0 was others' own -/
structure Sta (K : PySem.W.Frag) (T : Tab) (O0 : List Addr) (H0 : Hp) (O : List Addr) (σ : L2.St) (H : Hp) (ρ : Ev.Env) : Prop where
  rel : Rel K T O σ H ρ
  sub : ∀ a ∈ O0, a ∈ O
  new : ∀ a ∈ O, a ∉ O0 → ∀ o, H0 a = some o → ∃ ps, o = .tbl ps
  ext : Ext T H0 H
  own : ∀ (i : Nat) (s : Sl) (a : Addr), ρ[i]? = some s → isOw s = true → σ[i]? = some (some (V.ref a)) → a ∉ O0
/-- what is frozen stays -/
abbrev Lk (O : List Addr) (H : Hp) (O' : List Addr) (H' : Hp) : Prop := ExtN (Hm O H) (Hm O' H')
def PostS (X : Cx) (C : Cfg) (W : Nat → Hp → Prop) (O0 : List Addr) (H0 : Hp) (O : List Addr) (H : Hp) (D : Ends) : R Out → Prop
  | .ok (.nx ρ') => ∀ O' σ' H', Sta X.K C.T O0 H0 O' σ' H' ρ' → Lk O H O' H' → D.nx σ' H'
  | .ok (.ct ρ') => ∀ O' σ' H', Sta X.K C.T O0 H0 O' σ' H' ρ' → Lk O H O' H' → D.ct σ' H'
  | .ok (.rt d) => ∀ v H', Ext C.T H0 H' → Rep X.K (Hm O0 H') v d → D.rt v H'
  | .ex c => ∀ H', Ext C.T H0 H' → W c H'
  | .no => False
def rdS (X : Cx) (C : Cfg) (W : Nat → Hp → Prop) (O0 : List Addr) (H0 : Hp) (f : Ev.Env → R Out) : TS := fun D σ H => ∃ O ρ, Sta X.K C.T O0 H0 O σ H ρ ∧ PostS X C W O0 H0 O H D (f ρ)
section
variable {X : Cx} {C : Cfg} {W : Nat → Hp → Prop} {O0 O O' : List Addr} {H0 H H' : Hp} {D D' : Ends} {σ : L2.St} {ρ ρ' : Ev.Env} {K : PySem.W.Frag} {T : Tab}
theorem PostS.lk {r : R Out} (p : PostS X C W O0 H0 O H D r) (l : Lk O H O' H') : PostS X C W O0 H0 O' H' D r := by
  cases r with
  | ok o => cases o with
    | nx ρ' => exact fun O2 σ2 H2 s l2 => p O2 σ2 H2 s (l.trans l2)
    | ct ρ' => exact fun O2 σ2 H2 s l2 => p O2 σ2 H2 s (l.trans l2)
    | rt d => exact p
  | ex c => exact p
  | no => exact p
theorem Sta.step (s : Sta K T O0 H0 O σ H ρ) (e : Ext T H H') : Sta K T O0 H0 O σ H' ρ := ⟨s.rel.ext e, s.sub, s.new, s.ext.trans e, s.own⟩
theorem Sta.lk (s : Sta K T O0 H0 O σ H ρ) (e : Ext T H H') : Lk O H O H' := e.1.hm
/-- an expression within a statement -/
theorem PostS.toG {α : Type} {r : R α} {f : α → R Out} (e : Ext C.T H0 H) (p : PostS X C W O0 H0 O H D (r.bind f)) : PostG C W H (fun a H' => PostS X C W O0 H0 O H' D (f a)) r := by
  cases r with
  | ok a => exact fun H' e' => PostS.lk (r := f a) p e'.1.hm
  | ex c => exact fun H' e' => p H' (e.trans e')
  | no => exact p
theorem Sta.setSh (s : Sta K T O0 H0 O σ H ρ) (i : Nat) {v : V} {d : Ev.D} (h : Rep K (Hm O H) v d) : Sta K T O0 H0 O (σ.set i (some v)) H (ρ.set i (.sh d)) where
  rel := s.rel.setSh i h
  sub := s.sub
  new := s.new
  ext := s.ext
  own := fun j s' a h1 h2 h3 => by
    rw [List.getElem?_set] at h1 h3
    by_cases q : i = j
    · subst q
      rw [if_pos rfl] at h1
      split at h1
      · have := Option.some.inj h1
        subst this
        cases h2
      · cases h1
    · rw [if_neg q] at h1 h3
      exact s.own j s' a h1 h2 h3
theorem Sta.setUn (s : Sta K T O0 H0 O σ H ρ) (i : Nat) (v : Option V) : Sta K T O0 H0 O (σ.set i v) H (ρ.set i .un) where
  rel := s.rel.setUn i v
  sub := s.sub
  new := s.new
  ext := s.ext
  own := fun j s' a h1 h2 h3 => by
    rw [List.getElem?_set] at h1 h3
    by_cases q : i = j
    · subst q
      rw [if_pos rfl] at h1
      split at h1
      · have := Option.some.inj h1
        subst this
        cases h2
      · cases h1
    · rw [if_neg q] at h1 h3
      exact s.own j s' a h1 h2 h3
theorem Rel.setOwn (r : Rel K T O σ H ρ) (i : Nat) {p : Addr} {x : Sl} (hO : p ∈ O) (ho : Own K O H p x) (hx : isOw x = true) (hn : ∀ (j : Nat) (s : Sl), j ≠ i → ρ[j]? = some s → isOw s = true → σ[j]? ≠ some (some (V.ref p))) :
    Rel K T O (σ.set i (some (.ref p))) H (ρ.set i x) where
  len := by rw [List.length_set, List.length_set]; exact r.len
  sh := fun j e hj => by
    rw [List.getElem?_set] at hj ⊢
    by_cases q : i = j
    · subst q
      rw [if_pos rfl] at hj
      split at hj
      · have := Option.some.inj hj
        subst this
        cases hx
      · cases hj
    · rw [if_neg q] at hj ⊢
      exact r.sh j e hj
  ow := fun j s hj ho' => by
    rw [List.getElem?_set] at hj ⊢
    by_cases q : i = j
    · subst q
      rw [if_pos rfl] at hj ⊢
      split at hj
      · rename_i hl
        have := Option.some.inj hj
        subst this
        rw [if_pos (by rw [← r.len]; exact hl)]
        exact ⟨p, rfl, hO, ho⟩
      · cases hj
    · rw [if_neg q] at hj ⊢
      exact r.ow j s hj ho'
  ne := fun j k s s' a hjk hj ho1 hk ho2 e => by
    rw [List.getElem?_set] at hj hk e ⊢
    by_cases q : i = j
    · subst q
      rw [if_neg hjk] at hk ⊢
      rw [if_pos rfl] at e
      split at e
      · have := V.ref.inj (Option.some.inj (Option.some.inj e))
        subst this
        exact hn k s' (Ne.symm hjk) hk ho2
      · cases e
    · rw [if_neg q] at hj e
      by_cases q' : i = k
      · subst q'
        rw [if_pos rfl]
        split
        · intro z
          have := V.ref.inj (Option.some.inj (Option.some.inj z))
          subst this
          exact hn j s hjk hj ho1 e
        · intro z; cases z
      · rw [if_neg q'] at hk ⊢
        exact r.ne j k s s' a hjk hj ho1 hk ho2 e
  tr := r.tr
  tab := r.tab
/-- a new list or dict of one's own -/
theorem Sta.setOw (s : Sta K T O0 H0 O σ H ρ) (i : Nat) {p : Addr} {o : HO} {x : Sl} (hp : H p = none) (m : MutO o) (hx : isOw x = true) (ho : Own K (p :: O) (upd H p o) p x) : Sta K T O0 H0 (p :: O) (σ.set i (some (.ref p))) (upd H p o) (ρ.set i x) := by
  have e : Ext T H (upd H p o) := Ext.new hp
  have tr : TrO (p :: O) (upd H p o) := fun b hb => by
    rcases List.mem_cons.mp hb with z | z
    · subst z
      refine ⟨o, upd_same, fun ps q => ?_⟩
      rcases m with ⟨_, rfl⟩ | ⟨_, rfl⟩ <;> cases q
    · exact (s.rel.ext e).tr b z
  have hfr : p ∉ O := s.rel.fresh hp
  have r1 : Rel K T (p :: O) σ (upd H p o) ρ := s.rel.grow e tr (fun a h => List.mem_cons_of_mem _ h) fun b hb hn => by
    rcases List.mem_cons.mp hb with z | z
    · rw [z]; exact hp
    · exact absurd z hn
  refine ⟨r1.setOwn i List.mem_cons_self ho hx fun j s' _ h1 h2 h3 => ?_, fun a h => List.mem_cons_of_mem _ (s.sub a h), fun a h h' o' h0 => ?_, s.ext.trans e, fun j s' a h1 h2 h3 => ?_⟩
  · obtain ⟨a, e1, e2, _⟩ := s.rel.ow j s' h1 h2
    rw [h3] at e1
    have := V.ref.inj (Option.some.inj (Option.some.inj e1))
    subst this
    exact hfr e2
  · rcases List.mem_cons.mp h with z | z
    · subst z
      by_cases ht : ∃ ps, o' = .tbl ps
      · exact ht
      · have := s.ext.1 a o' h0 fun ps q => ht ⟨ps, q⟩
        rw [hp] at this; cases this
    · exact s.new a z h' o' h0
  · rw [List.getElem?_set] at h1 h3
    by_cases q : i = j
    · subst q
      rw [if_pos rfl] at h3
      split at h3
      · have := V.ref.inj (Option.some.inj (Option.some.inj h3))
        subst this
        exact fun z => hfr (s.sub _ z)
      · cases h3
    · rw [if_neg q] at h1 h3
      exact s.own j s' a h1 h2 h3
theorem lk_new {p : Addr} {o : HO} (hp : H p = none) : Lk O H (p :: O) (upd H p o) := (ExtN.new hp).grow fun b hb hn => by
  rcases List.mem_cons.mp hb with z | z
  · rw [z]; exact hp
  · exact absurd z hn
/-- one's own list or dict changed -/
theorem Sta.mut (s : Sta K T O0 H0 O σ H ρ) (i : Nat) {a : Addr} {o o' : HO} {x y : Sl} (hi : ρ[i]? = some y) (hy : isOw y = true) (ha : σ[i]? = some (some (.ref a))) (h : H a = some o) (m : MutO o) (m' : MutO o') (hx : isOw x = true) (ho : Own K O (upd H a o') a x) :
    Sta K T O0 H0 O σ (upd H a o') (ρ.set i x) := by
  obtain ⟨a', e1, hO, hown⟩ := s.rel.ow i y hi hy
  rw [ha] at e1
  have := V.ref.inj (Option.some.inj (Option.some.inj e1))
  subst this
  have hn := s.own i y a hi hy ha
  have hh : Hm O (upd H a o') = Hm O H := hm_upd hO
  have hlt : i < ρ.length := by
    rcases Nat.lt_or_ge i ρ.length with z | z
    · exact z
    · rw [List.getElem?_eq_none z] at hi; cases hi
  have r1 : Rel K T O σ (upd H a o') (ρ.set i x) := by
    refine ⟨by rw [List.length_set]; exact s.rel.len, fun j d hj => ?_, fun j z hj hz => ?_, fun j k z z' b hjk hj hz hk hz' e => ?_, trO_upd s.rel.tr m', tabs_mut s.rel.tab h m⟩
    · rw [List.getElem?_set] at hj
      by_cases q : i = j
      · subst q
        rw [if_pos rfl, if_pos hlt] at hj
        have := Option.some.inj hj
        subst this
        cases hx
      · rw [if_neg q] at hj
        rw [hh]
        exact s.rel.sh j d hj
    · rw [List.getElem?_set] at hj
      by_cases q : i = j
      · subst q
        rw [if_pos rfl, if_pos hlt] at hj
        have := Option.some.inj hj
        subst this
        exact ⟨a, ha, hO, ho⟩
      · rw [if_neg q] at hj
        obtain ⟨b, h1, h2, h3⟩ := s.rel.ow j z hj hz
        have hba : b ≠ a := fun e => by
          subst e
          exact s.rel.ne i j y z b q hi hy hj hz ha h1
        refine ⟨b, h1, h2, ?_⟩
        cases z with
        | ow ds => obtain ⟨vs, h4, h5⟩ := h3; exact ⟨vs, by rw [upd_ne hba]; exact h4, by rw [hh]; exact h5⟩
        | od ks ds => obtain ⟨kvs, h4, h5⟩ := h3; exact ⟨kvs, by rw [upd_ne hba]; exact h4, by rw [hh]; exact h5⟩
        | un => cases hz
        | sh d => cases hz
    · have back : ∀ (j : Nat) (z : Sl), (ρ.set i x)[j]? = some z → isOw z = true → ∃ z0, ρ[j]? = some z0 ∧ isOw z0 = true := fun j z hj hz => by
        rw [List.getElem?_set] at hj
        by_cases q : i = j
        · subst q; exact ⟨y, hi, hy⟩
        · rw [if_neg q] at hj; exact ⟨z, hj, hz⟩
      obtain ⟨z0, h1, h2⟩ := back j z hj hz
      obtain ⟨z1, h3, h4⟩ := back k z' hk hz'
      exact s.rel.ne j k z0 z1 b hjk h1 h2 h3 h4 e
  refine ⟨r1, s.sub, s.new, ⟨fun b ob hb n => ?_, fun t => tabs_mut (s.ext.2 t) h m⟩, fun j z b h1 h2 h3 => ?_⟩
  · have hb2 := s.ext.1 b ob hb n
    have : b ≠ a := fun e => by
      subst e
      obtain ⟨ps, q⟩ := s.new b hO hn ob hb
      exact n ps q
    rw [upd_ne this]; exact hb2
  · rw [List.getElem?_set] at h1
    by_cases q : i = j
    · subst q
      rw [ha] at h3
      have := V.ref.inj (Option.some.inj (Option.some.inj h3))
      subst this
      exact hn
    · rw [if_neg q] at h1
      exact s.own j z b h1 h2 h3
theorem lk_mut {a : Addr} {o : HO} (h : a ∈ O) : Lk O H O (upd H a o) := by
  show ExtN (Hm O H) (Hm O (upd H a o))
  rw [hm_upd h]
  exact LamX.ExtN.refl _
/-- one's own list is frozen -/
theorem Sta.frz (s : Sta K T O0 H0 O σ H ρ) (i : Nat) {xs : List Ev.D} (hi : ρ[i]? = some (.ow xs)) : ∃ O', Sta K T O0 H0 O' σ H (ρ.set i (.sh (.lst xs))) ∧ Lk O H O' H := by
  obtain ⟨a, ha, hO, vs, hv, hr⟩ := s.rel.ow i _ hi rfl
  have hn := s.own i _ a hi rfl ha
  have hsub : ∀ b ∈ O.filter (fun b => decide (b ≠ a)), b ∈ O := fun b hb => (List.mem_filter.mp hb).1
  have less : ExtN (Hm O H) (Hm (O.filter fun b => decide (b ≠ a)) H) := ExtN.hmLess hsub
  refine ⟨O.filter fun b => decide (b ≠ a), ⟨⟨by rw [List.length_set]; exact s.rel.len, fun j d hj => ?_, fun j z hj hz => ?_, fun j k z z' b hjk hj hz hk hz' e => ?_, fun b hb => s.rel.tr b (hsub b hb), s.rel.tab⟩, fun b hb => ?_, fun b hb => s.new b (hsub b hb), s.ext, fun j z b h1 h2 h3 => ?_⟩, less⟩
  · rw [List.getElem?_set] at hj
    by_cases q : i = j
    · subst q
      rw [if_pos rfl] at hj
      split at hj
      · have := Sl.sh.inj (Option.some.inj hj)
        subst this
        exact ⟨_, ha, .lst (.inl (.inl (Hm_of (by simp) hv))) (hr.ext less)⟩
      · cases hj
    · rw [if_neg q] at hj
      obtain ⟨v, h1, h2⟩ := s.rel.sh j d hj
      exact ⟨v, h1, h2.ext less⟩
  · rw [List.getElem?_set] at hj
    by_cases q : i = j
    · subst q
      rw [if_pos rfl] at hj
      split at hj
      · have := Option.some.inj hj
        subst this
        cases hz
      · cases hj
    · rw [if_neg q] at hj
      obtain ⟨b, h1, h2, h3⟩ := s.rel.ow j z hj hz
      have hba : b ≠ a := fun e => by
        subst e
        exact s.rel.ne i j _ z b q hi rfl hj hz ha h1
      refine ⟨b, h1, List.mem_filter.mpr ⟨h2, decide_eq_true hba⟩, ?_⟩
      cases z with
      | ow ds => obtain ⟨vs, h4, h5⟩ := h3; exact ⟨vs, h4, h5.ext less⟩
      | od ks ds => obtain ⟨kvs, h4, h5⟩ := h3; exact ⟨kvs, h4, h5.ext less⟩
      | un => cases hz
      | sh d => cases hz
  · have back : ∀ (j : Nat) (z : Sl), (ρ.set i (.sh (.lst xs)))[j]? = some z → isOw z = true → ρ[j]? = some z := fun j z hj hz => by
      rw [List.getElem?_set] at hj
      by_cases q : i = j
      · subst q
        rw [if_pos rfl] at hj
        split at hj
        · have := Option.some.inj hj
          subst this
          cases hz
        · cases hj
      · rw [if_neg q] at hj; exact hj
    exact s.rel.ne j k z z' b hjk (back j z hj hz) hz (back k z' hk hz') hz' e
  · exact List.mem_filter.mpr ⟨s.sub b hb, decide_eq_true fun e => hn (e ▸ hb)⟩
  · rw [List.getElem?_set] at h1
    by_cases q : i = j
    · subst q
      rw [if_pos rfl] at h1
      split at h1
      · have := Option.some.inj h1
        subst this
        cases h2
      · cases h1
    · rw [if_neg q] at h1
      exact s.own j z b h1 h2 h3
end
end Ev

/-! EvStm2: what our tree comes to, the text comes to: statements. -/
namespace Ev
open PySem PySem.Spec PyProof.Rows L2
theorem no_star : ∀ {vs : List Expr}, (∀ v ∈ vs, plainF v = true) → (vs.any fun | .Starred .. => true | _ => false) = false
  | [], _ => rfl
  | v :: vs, h => by
    rw [List.any_cons, no_star fun u hu => h u (List.mem_cons_of_mem _ hu), Bool.or_false]
    have := h v List.mem_cons_self
    cases v <;> first | rfl | exact absurd this Bool.false_ne_true
theorem swapped2 {x y : Str} {px py pt : Pos} {kt k2 : Nat} {pt2 : Pos} {a b : Expr} {env : PySem.Env} (hbk : env.blockKind = .function) (hx : env.kindOf x = some .local) (hy : env.kindOf y = some .local) (hl : (py.line == px.line) = true) (hne : x ≠ y)
    (hf : [a, b].all (foldedForSure 8) = false) (hc : [a, b].all (constantsAlone 8) = false) (hp : ∀ v ∈ [a, b], plainF v = true) :
    swappedStores [.Tuple [.Name x px, .Name y py] kt pt] (.Tuple [a, b] k2 pt2) env = pure (some [x, y]) := by
  have hst := no_star hp
  have he : (x :: [y]).eraseDups.length = 2 := by
    have : (y == x) = false := beq_eq_false_iff_ne.mpr (Ne.symm hne)
    simp [List.eraseDups_cons, this]
  unfold swappedStores
  simp only [hbk, hx, hy, hf, hc, hl, hst, he, List.filterMap_cons, List.filterMap_nil, List.length_cons, List.length_nil, List.head?_cons, Option.map_some, Option.getD_some, Expr.pos, beq_self_eq_true, Bool.and_self, if_true, List.length]
  rw [if_neg (by decide), if_neg (fun h => by
    have h' : ([a, b].any fun | .Starred .. => true | _ => false) = true := h
    rw [hst] at h'
    cases h')]
  rfl
theorem swapped3 {x y z : Str} {px py pz pt : Pos} {kt k2 : Nat} {pt2 : Pos} {a b c : Expr} {env : PySem.Env} (hbk : env.blockKind = .function) (hx : env.kindOf x = some .local) (hy : env.kindOf y = some .local) (hz : env.kindOf z = some .local) (hl : (py.line == px.line) = true) (hl2 : (pz.line == px.line) = true) (hne : x ≠ y) (hne2 : x ≠ z) (hne3 : y ≠ z)
    (hf : [a, b, c].all (foldedForSure 8) = false) (hc : [a, b, c].all (constantsAlone 8) = false) (hp : ∀ v ∈ [a, b, c], plainF v = true) :
    swappedStores [.Tuple [.Name x px, .Name y py, .Name z pz] kt pt] (.Tuple [a, b, c] k2 pt2) env = pure (some [x, y, z]) := by
  have hst := no_star hp
  have he : (x :: [y, z]).eraseDups.length = 3 := by
    have e1 : (y == x) = false := beq_eq_false_iff_ne.mpr (Ne.symm hne)
    have e2 : (z == x) = false := beq_eq_false_iff_ne.mpr (Ne.symm hne2)
    have e3 : (z == y) = false := beq_eq_false_iff_ne.mpr (Ne.symm hne3)
    simp [List.eraseDups_cons, e1, e2, e3]
  unfold swappedStores
  simp only [hbk, hx, hy, hz, hf, hc, hl, hl2, hst, he, List.filterMap_cons, List.filterMap_nil, List.length_cons, List.length_nil, List.head?_cons, Option.map_some, Option.getD_some, Expr.pos, beq_self_eq_true, Bool.and_self, if_true, List.length]
  rw [if_neg (by decide), if_neg (fun h => by
    have h' : ([a, b, c].any fun | .Starred .. => true | _ => false) = true := h
    rw [hst] at h'
    cases h')]
  rfl
structure GoodS (C : Cfg) (Γ : Gam) (T : Tbl) (n : Nat) (X : Cx) (W : Nat → Hp → Prop) : Prop extends Good C Γ T n X W where
  hp : PassesOwn (model X.prog X.w) X.A X.env X.xe
  bk : X.env.blockKind = .function
section
variable {X : Cx} {C : Cfg} {Γ : Gam} {T : Tbl} {n : Nat} {W : Nat → Hp → Prop} {O0 O O' : List Addr} {H0 H H' : Hp} {σ : L2.St} {ρ ρ' : Ev.Env} {e e1 e2 t : Expr} {f f1 f2 : Ev.Env → R D} {pos py spos p apos cpos tpos : Pos}
/-- an expression, then what follows -/
theorem stE {D : Ends} {k : Ev.D → R Out} {Z : V → Hp → Prop} (s : Sta X.K C.T O0 H0 O σ H ρ) (p : PostS X C W O0 H0 O H D ((f ρ).bind k))
    (z : ∀ d v H1, Sta X.K C.T O0 H0 O σ H1 ρ → Lk O H O H1 → Rep X.K (Hm O H1) v d → PostS X C W O0 H0 O H1 D (k d) → Z v H1) : rdE X C W f σ H Z :=
  ⟨O, ρ, s.rel, (p.toG s.ext).imp fun d H1 e1 q v rv => z d v H1 (s.step e1) e1.1.hm rv q⟩
theorem swaps_no (h : isComp e = false) (t : Option Expr) (l : Nat) (env : PySem.Env) : swapsWith e t l env = pure false := by
  cases e <;> first | rfl | cases h
theorem swapped_no (h : isTup e = false) (es : List Expr) (k : Nat) (p : Pos) (env : PySem.Env) : swappedStores [.Tuple es k p] e env = pure none := by
  cases e <;> first | rfl | cases h
theorem ps_setE {i : Nat} {y : Str} (g : GoodS C Γ T n X W) (hy : storeOk Γ i y = true) (hs : swapsWith e (some (.Name y py)) pos.line X.env = pure false) (h1 : PE X e (rdE X C W f)) :
    PS X (.Assign [.Name y py] e pos) (rdS X C W O0 H0 fun ρ => (f ρ).bind fun d => .ok (.nx (ρ.set i (.sh d)))) := by
  unfold storeOk at hy
  rw [Bool.and_eq_true, decide_eq_true_eq] at hy
  obtain ⟨h2, h3⟩ := g.st y hy.2
  refine psW (ps_set g.nd (by rw [g.N]; exact hy.1) h2 h1 hs h3) fun D σ H q => ?_
  obtain ⟨O, ρ, s, p⟩ := q
  exact stE s p fun d v H1 s1 l1 rv p1 => p1 O _ H1 (s1.setSh i rv) (LamX.ExtN.refl _)
theorem ps_ownE {i : Nat} {y : Str} {es : List Expr} {fs : List (Ev.Env → R D)} (g : GoodS C Γ T n X W) (hy : storeOk Γ i y = true) (h : SAs X C W es fs) :
    PS X (.Assign [.Name y py] (.List es p) pos) (rdS X C W O0 H0 fun ρ => (allF fs ρ).bind fun ds => if ds.length ≤ LIM then .ok (.nx (ρ.set i (.ow ds))) else .no) := by
  unfold storeOk at hy
  rw [Bool.and_eq_true, decide_eq_true_eq] at hy
  obtain ⟨h2, h3⟩ := g.st y hy.2
  refine psW (ps_set g.nd (by rw [g.N]; exact hy.1) h2 (pe_lst (sa_pa h)) (swaps_no rfl _ _ _) h3) fun D σ H q => ?_
  obtain ⟨O, ρ, s, p⟩ := q
  refine ⟨O, ρ, s.rel, (p.toG s.ext).imp fun ds H1 e1 p1 vs rv => ?_⟩
  split at p1
  · rename_i hl
    refine ⟨by rw [rv.length]; exact lim_le hl, fun a ha => ?_⟩
    have s1 := s.step e1
    have hfr : a ∉ O := s1.rel.fresh ha
    refine p1 (a :: O) _ _ (s1.setOw i ha (.inl ⟨_, rfl⟩) rfl ⟨vs, upd_same, ?_⟩) (lk_new ha)
    rw [hm_upd List.mem_cons_self]
    exact rv.ext (ExtN.grow (LamX.ExtN.refl _) fun b hb hn => by
      rcases List.mem_cons.mp hb with z | z
      · rw [z]; exact ha
      · exact absurd z hn)
  · exact p1.elim
theorem ps_dnewE {i : Nat} {y : Str} (g : GoodS C Γ T n X W) (hy : storeOk Γ i y = true) :
    PS X (.Assign [.Name y py] (.Dict [] [] p) pos) (rdS X C W O0 H0 fun ρ => .ok (.nx (ρ.set i (.od [] [])))) := by
  unfold storeOk at hy
  rw [Bool.and_eq_true, decide_eq_true_eq] at hy
  obtain ⟨h2, h3⟩ := g.st y hy.2
  refine psW (ps_set g.nd (by rw [g.N]; exact hy.1) h2 pe_dnewK (swaps_no rfl _ _ _) h3) fun D σ H q => ?_
  obtain ⟨O, ρ, s, p⟩ := q
  intro a ha
  exact p (a :: O) _ _ (s.setOw i ha (.inr ⟨_, rfl⟩) rfl ⟨[], upd_same, rfl, .nil, List.nodup_nil⟩) (lk_new ha)
theorem sta_gs {Q : L2.St → Hp → Prop} : ∀ (is : List Nat) (ds : List D) (vs : List V) (σ : L2.St) (ρ ρ' : Ev.Env), setAll ρ is ds = .ok ρ' → Sta X.K C.T O0 H0 O σ H ρ → Reps X.K (Hm O H) vs ds →
    (∀ σ', Sta X.K C.T O0 H0 O σ' H ρ' → Q σ' H) → gs is vs σ H Q
  | [], [], vs, σ, ρ, ρ', h, r, rv, q => by
    cases rv
    cases h
    exact ⟨rfl, q σ r⟩
  | [], _ :: _, _, _, _, _, h, _, _, _ => by cases h
  | _ :: _, [], _, _, _, _, h, _, _, _ => by cases h
  | i :: is, d :: ds, vs, σ, ρ, ρ', h, r, rv, q => by
    cases rv with
    | cons r1 r2 => exact ⟨_, _, rfl, sta_gs is ds _ _ (ρ.set i (.sh d)) ρ' h (r.setSh i r1) r2 q⟩
theorem setAll_len : ∀ (is : List Nat) (ds : List D) (ρ ρ' : Ev.Env), setAll ρ is ds = .ok ρ' → ds.length = is.length
  | [], [], _, _, _ => rfl
  | [], _ :: _, _, _, h => by cases h
  | _ :: _, [], _, _, h => by cases h
  | i :: is, d :: ds, ρ, ρ', h => by rw [List.length_cons, List.length_cons, setAll_len is ds _ _ h]
theorem sta_tg {is : List Nat} {many : Bool} {d : D} {v : V} {Q : L2.St → Hp → Prop} (hs : many = false → ∃ i, is = [i]) (h : store is many d ρ = .ok ρ') (s : Sta X.K C.T O0 H0 O σ H ρ) (rv : Rep X.K (Hm O H) v d)
    (q : ∀ σ', Sta X.K C.T O0 H0 O σ' H ρ' → Q σ' H) : tgG X.K is many v σ H Q := by
  cases many with
  | false =>
    obtain ⟨i, rfl⟩ := hs rfl
    have h : setAll ρ [i] [d] = .ok ρ' := h
    obtain ⟨a, b, e, q'⟩ := sta_gs [i] [d] [v] σ ρ ρ' h s (.cons rv .nil) q
    cases e
    exact q'.2
  | true =>
    cases d with
    | tup ds =>
      cases rv with
      | tup h1 h2 => exact ⟨_, _, rfl, sqT_ext ExtN.hmTop h1, by rw [h2.length]; exact setAll_len is ds ρ ρ' h, sta_gs is ds _ σ ρ ρ' h s h2 q⟩
    | _ => cases h
theorem store_ex (is : List Nat) (many : Bool) (d : D) (ρ : Ev.Env) : NoEx (store is many d ρ) := by
  have : ∀ (is : List Nat) (ds : List D) (ρ : Ev.Env), NoEx (setAll ρ is ds) := by
    intro is
    induction is with
    | nil => intro ds ρ; cases ds with
      | nil => exact noEx_ok _
      | cons => exact noEx_no
    | cons i is ih => intro ds ρ; cases ds with
      | nil => exact noEx_no
      | cons d ds => exact ih ds _
  cases many with
  | false => exact this is [d] ρ
  | true => cases d <;> first | exact noEx_no | exact this _ _ _
theorem ps_unpE {is : List Nat} {es : List Expr} {k : Nat} (g : GoodS C Γ T n X W) (ht : chkTg Γ is true (.Tuple es k tpos) = true) (hc : isComp e = false) (htp : isTup e = false) (h1 : PE X e (rdE X C W f)) :
    PS X (.Assign [.Tuple es k tpos] e pos) (rdS X C W O0 H0 fun ρ => (f ρ).bind fun d => (store is true d ρ).bind fun ρ' => .ok (.nx ρ')) := by
  refine psW (ps_asg h1 (pg_tg g.toGood0 ht) (by exact swaps_no hc (some (.Tuple es k tpos)) pos.line X.env) (swapped_no htp _ _ _ _) rfl) fun D σ H q => ?_
  obtain ⟨O, ρ, s, p⟩ := q
  refine stE s p fun d v H1 s1 l1 rv p1 => ?_
  cases hst : store is true d ρ with
  | no => rw [hst] at p1; exact p1.elim
  | ex c => exact absurd hst (store_ex is true d ρ c)
  | ok ρ' =>
    rw [hst] at p1
    exact sta_tg (fun z => by cases z) hst s1 rv fun σ' s' => p1 O σ' H1 s' (LamX.ExtN.refl _)
theorem ps_par2E {i j : Nat} {x y : Str} {px py : Pos} {kt k2 : Nat} {pt2 : Pos} {a b : Expr} {fs : List (Ev.Env → R D)} (g : GoodS C Γ T n X W) (hi : Γ.N[i]? = some x) (hj : Γ.N[j]? = some y) (hij : i ≠ j) (hx : Γ.sc.lookup x = some .local) (hy : Γ.sc.lookup y = some .local) (hne : x ≠ y) (hl : (py.line == px.line) = true)
    (hf : [a, b].all (foldedForSure 8) = false) (hc : [a, b].all (constantsAlone 8) = false) (hp : ∀ v ∈ [a, b], plainF v = true) (h : SAs X C W [a, b] fs) :
    PS X (.Assign [.Tuple [.Name x px, .Name y py] kt p] (.Tuple [a, b] k2 pt2) pos) (rdS X C W O0 H0 fun ρ => (allF fs ρ).bind fun ds => (setAll ρ [i, j] ds).bind fun ρ' => .ok (.nx ρ')) := by
  refine psW (ps_par g.calm g.nd (by rw [g.N]; exact hi) (by rw [g.N]; exact hj) hij (g.lo x hx) (g.lo y hy) (sa_pa h) (swapped2 g.bk (g.lo x hx) (g.lo y hy) hl hne hf hc hp) rfl) fun D σ H q => ?_
  obtain ⟨O, ρ, s, p⟩ := q
  refine ⟨O, ρ, s.rel, (p.toG s.ext).imp fun ds H1 e1 p1 vs rv => ?_⟩
  match ds, rv, p1 with
  | [d, e], .cons r1 (.cons r2 .nil), p1 => exact ⟨_, _, rfl, p1 O _ H1 (((s.step e1).setSh i r1).setSh j r2) (LamX.ExtN.refl _)⟩
  | [], _, p1 => exact p1.elim
  | [_], _, p1 => exact p1.elim
  | _ :: _ :: _ :: _, _, p1 => exact p1.elim
theorem ps_par3E {i j l : Nat} {x y z : Str} {px py pz : Pos} {kt k2 : Nat} {pt2 : Pos} {a b c : Expr} {fs : List (Ev.Env → R D)} (g : GoodS C Γ T n X W) (hi : Γ.N[i]? = some x) (hj : Γ.N[j]? = some y) (hl0 : Γ.N[l]? = some z) (hij : i ≠ j) (hil : i ≠ l) (hjl : j ≠ l) (hx : Γ.sc.lookup x = some .local) (hy : Γ.sc.lookup y = some .local) (hz : Γ.sc.lookup z = some .local)
    (hne : x ≠ y) (hne2 : x ≠ z) (hne3 : y ≠ z) (hl : (py.line == px.line) = true) (hl2 : (pz.line == px.line) = true)
    (hf : [a, b, c].all (foldedForSure 8) = false) (hc : [a, b, c].all (constantsAlone 8) = false) (hp : ∀ v ∈ [a, b, c], plainF v = true) (h : SAs X C W [a, b, c] fs) :
    PS X (.Assign [.Tuple [.Name x px, .Name y py, .Name z pz] kt p] (.Tuple [a, b, c] k2 pt2) pos) (rdS X C W O0 H0 fun ρ => (allF fs ρ).bind fun ds => (setAll ρ [i, j, l] ds).bind fun ρ' => .ok (.nx ρ')) := by
  refine psW (ps_par3 g.calm g.nd (by rw [g.N]; exact hi) (by rw [g.N]; exact hj) (by rw [g.N]; exact hl0) hij hil hjl (g.lo x hx) (g.lo y hy) (g.lo z hz) (sa_pa h) (swapped3 g.bk (g.lo x hx) (g.lo y hy) (g.lo z hz) hl hl2 hne hne2 hne3 hf hc hp) rfl) fun D σ H q => ?_
  obtain ⟨O, ρ, s, p⟩ := q
  refine ⟨O, ρ, s.rel, (p.toG s.ext).imp fun ds H1 e1 p1 vs rv => ?_⟩
  match ds, rv, p1 with
  | [d, e, f], .cons r1 (.cons r2 (.cons r3 .nil)), p1 => exact ⟨_, _, _, rfl, p1 O _ H1 ((((s.step e1).setSh i r1).setSh j r2).setSh l r3) (LamX.ExtN.refl _)⟩
  | [], _, p1 => exact p1.elim
  | [_], _, p1 => exact p1.elim
  | [_, _], _, p1 => exact p1.elim
  | _ :: _ :: _ :: _ :: _, _, p1 => exact p1.elim
theorem ps_keyE {i : Nat} {y : Str} (g : GoodS C Γ T n X W) (hy : nameOk Γ i y = true) (hc : isComp e = false) (h1 : PE X e1 (rdB X C W f1)) (h2 : PE X e (rdE X C W f)) :
    PS X (.Assign [.Subscript (.Name y py) e1 p] e pos) (rdS X C W O0 H0 fun ρ => (f ρ).bind fun d => match ρ[i]? with
      | some (.od ks vs) => (f1 ρ).bind fun a => (asS a).bind fun x => if ks.length < LIM then .ok (.nx (ρ.set i (.od (putK ks x) (putV ks vs x d)))) else .no
      | _ => .no) := by
  refine psW (ps_dput g.hu1 (pe_v g.toGood0 hy) h1 h2 (swaps_no hc _ _ _)) fun D σ H q => ?_
  obtain ⟨O, ρ, s, p⟩ := q
  refine stE s p fun d v H1 s1 l1 rv p1 => ?_
  split at p1
  · rename_i ks vs hi
    obtain ⟨a, kvs, e1, hO, e4, hk⟩ := od_at s1.rel hi
    refine ⟨_, e1, ?_⟩
    refine ⟨O, ρ, s1.rel, (p1.toG s1.ext).imp fun a' H2 e2 p2 x rx => ?_⟩
    cases a' with
    | str z =>
      have hz := rx.str
      subst hz
      have p2 : PostS X C W O0 H0 O H2 D (if ks.length < LIM then .ok (.nx (ρ.set i (.od (putK ks z) (putV ks vs z d)))) else .no) := p2
      split at p2
      · rename_i hl
        have s2 := s1.step e2
        have e4' : H2 a = some (.dK kvs) := e2.1 _ _ e4 (fun ps z => by cases z)
        refine ⟨a, _, rfl, .inl ⟨kvs, keyOf z, e4', rfl, by rw [kv_len hk]; have := lim_le (Nat.le_refl LIM); omega, rfl⟩, ?_⟩
        refine p2 O σ _ (s2.mut i hi rfl e1 e4' (.inr ⟨_, rfl⟩) (.inr ⟨_, rfl⟩) rfl ⟨_, upd_same, ?_⟩) (lk_mut hO)
        rw [hm_upd hO]
        exact kv_put (hk.ext e2.1.hm) (rv.ext e2.1.hm)
      · exact p2.elim
    | _ => exact p2.elim
  · exact p1.elim
theorem ps_appE {i : Nat} {y m : Str} (g : GoodS C Γ T n X W) (hm : m = ("append" : Str)) (hy : nameOk Γ i y = true) (hl : (apos.endLine == cpos.line) = true) (h1 : PE X e1 (rdE X C W f1)) (p1 : plainF e1 = true) :
    PS X (.Expr (.Call (.Attribute (.Name y py) m apos) [e1] [] cpos) pos) (rdS X C W O0 H0 fun ρ => match ρ[i]? with
      | some (.ow xs) => (f1 ρ).bind fun d => if xs.length < LIM then .ok (.nx (ρ.set i (.ow (xs ++ [d])))) else .no
      | _ => .no) := by
  subst hm
  refine psW (ps_expr (pe_bm PySem.F.plainAttrs_list PySem.F.slot_list_append PySem.F.type_list_append mt_append (pe_v g.toGood0 hy) (pa_cons h1 pa_nil (star_cons p1 [] X.env)) rfl (few1 p1 _) hl (star_cons p1 [] X.env) rfl) rfl) fun D σ H q => ?_
  obtain ⟨O, ρ, s, p⟩ := q
  dsimp only at p
  split at p
  · rename_i xs hi
    obtain ⟨a, ha, hO, vs, hv, hr⟩ := s.rel.ow i _ hi rfl
    refine ⟨_, ha, .inl ⟨rfl, vs, .inl (.inl hv)⟩, ?_⟩
    refine stE s p fun d v H1 s1 l1 rv p1 => ?_
    split at p1
    · rename_i hlt
      obtain ⟨a', ha', hO', vs', hv', hr'⟩ := s1.rel.ow i _ hi rfl
      rw [ha] at ha'
      have := V.ref.inj (Option.some.inj (Option.some.inj ha'))
      subst this
      have hln := hr'.length
      have := lim_le (Nat.le_refl LIM)
      refine ⟨a, vs', v, rfl, rfl, hv', by omega, ?_⟩
      refine p1 O σ _ (s1.mut i hi rfl ha hv' (.inl ⟨_, rfl⟩) (.inl ⟨_, rfl⟩) rfl ⟨_, upd_same, ?_⟩) (lk_mut hO)
      rw [hm_upd hO]
      exact hr'.app (.cons rv .nil)
    · exact p1.elim
  · exact p.elim
theorem list_extendW (l : Addr) (items : Array Value) (n : Nat) (b : Addr) (items2 : Array Value) (n2 : Nat) (sl : Array (Option Value)) (hc0 : ¬(!items.isEmpty && Builtin.List.listTooLong (items.size + items2.size)) = true) (hc1 : items.size ≤ sizeLine) (hs2 : items.size + items2.size ≤ sizeLine + 1) :
    Meets (Builtin.«list.extend» ⟨[.ref l, .ref b], []⟩) (fun _ R s => s.heap.get? l = some { cls := .type "list", dict := none, data := .seq items n, slots := #[] } ∧ s.heap.get? b = some { cls := .type "list", dict := none, data := .seq items2 n2, slots := sl } ∧ R (.ok (.ret Value.none)) { s with heap := s.heap.update l (Obj.mapSeq fun x => x ++ items2), toks := s.toks }) :=
  .of_wp fun prog w A R s h => by
    obtain ⟨hp, g, d, tk, os⟩ := s; obtain ⟨hl, hb, h⟩ := h; have f1 := AutoSeq1.idx_int; have f2 := AutoSeq1.sub_tuple_tuple; have f3 := AutoSeq1.sub_list_list; have f4 := AutoSeq1.sub_tuple_list; have f5 := AutoSeq1.sub_list_tuple;
    have hz' : (items ++ items2).size ≤ sizeLine + 1 := by rw [Array.size_append]; exact hs2
    wp_walk using (wpAny_updateSeq hl rfl (hz := hc1) (_hz' := hz')), wpAny_loadPart' hl, wpAny_loadPart' hb; exact ⟨_, rfl, h⟩
theorem mt_extendW : MtM X "list.extend" (fun x vs H Q => ∃ l b xs zs, x = .ref l ∧ vs = [.ref b] ∧ H l = some (.lst xs) ∧ SqL X.K H b zs ∧ xs.length + zs.length ≤ sizeLine ∧ Q .non (upd H l (.lst (xs ++ zs)))) := by
  intro pins s σ H x vs v us Q I rx rv h
  obtain ⟨l, b, xs, zs, rfl, rfl, hH, hB, hz, q⟩ := h
  cases rx
  obtain ⟨u, rfl, ru⟩ := rv.one
  cases ru
  obtain ⟨z, its, n, r, hl, e⟩ := I.lstM hH
  obtain ⟨z2, its2, n2, sl2, r2, hl2, e2⟩ := Inv.rdL I hB
  have hsz : its.toArray.size + its2.toArray.size ≤ sizeLine := by rw [List.size_toArray, List.size_toArray]; omega
  have hlong : ¬ (!its.toArray.isEmpty && Builtin.List.listTooLong (its.toArray.size + its2.toArray.size)) = true := by
    rw [notLongL hsz, Bool.and_false]
    exact Bool.false_ne_true
  refine call_meets PySem.F.slot_list_extend ⟨_, e, rfl⟩ PySem.F.entry_list_extend (PySem.F.args_list_extend_2 _ _)
    (list_extendW l its.toArray n b its2.toArray n2 sl2 hlong (by rw [List.size_toArray]; omega) (by omega)) ⟨e, e2, ?_⟩
  refine ⟨.non, _, I.lset (its' := its ++ its2) hH e (by simp) (r.append r2) ?_, rfl, q⟩
  rw [List.length_append]
  omega
theorem ps_extE {i : Nat} {y m : Str} (g : GoodS C Γ T n X W) (hm : m = ("extend" : Str)) (hy : nameOk Γ i y = true) (hl : (apos.endLine == cpos.line) = true) (h1 : PE X e1 (rdE X C W f1)) (p1 : plainF e1 = true) :
    PS X (.Expr (.Call (.Attribute (.Name y py) m apos) [e1] [] cpos) pos) (rdS X C W O0 H0 fun ρ => match ρ[i]? with
      | some (.ow xs) => (f1 ρ).bind fun d => (match d with
        | .lst ys => if xs.length + ys.length ≤ LIM then .ok (.nx (ρ.set i (.ow (xs ++ ys)))) else .no
        | _ => .no)
      | _ => .no) := by
  subst hm
  refine psW (ps_expr (pe_bm PySem.F.plainAttrs_list PySem.F.slot_list_extend PySem.F.type_list_extend mt_extendW (pe_v g.toGood0 hy) (pa_cons h1 pa_nil (star_cons p1 [] X.env)) rfl (few1 p1 _) hl (star_cons p1 [] X.env) rfl) rfl) fun D σ H q => ?_
  obtain ⟨O, ρ, s, p⟩ := q
  dsimp only at p
  split at p
  · rename_i xs hi
    obtain ⟨a, ha, hO, vs, hv, hr⟩ := s.rel.ow i _ hi rfl
    refine ⟨_, ha, .inl ⟨rfl, vs, .inl (.inl hv)⟩, ?_⟩
    refine stE s p fun d v H1 s1 l1 rv p1 => ?_
    cases d with
    | lst ys =>
      dsimp only at p1
      split at p1
      · rename_i hlt
        obtain ⟨a', ha', hO', vs', hv', hr'⟩ := s1.rel.ow i _ hi rfl
        rw [ha] at ha'
        have := V.ref.inj (Option.some.inj (Option.some.inj ha'))
        subst this
        cases rv with
        | lst h2 h3 =>
          have hln := hr'.length
          have hln2 := h3.length
          have := lim_le (Nat.le_refl LIM)
          refine ⟨a, _, vs', _, rfl, rfl, hv', sqL_ext ExtN.hmTop h2, by omega, ?_⟩
          refine p1 O σ _ (s1.mut i hi rfl ha hv' (.inl ⟨_, rfl⟩) (.inl ⟨_, rfl⟩) rfl ⟨_, upd_same, ?_⟩) (lk_mut hO)
          rw [hm_upd hO]
          exact hr'.app h3
      · exact p1.elim
    | _ => exact p1.elim
  · exact p.elim
theorem ps_dropE (g : GoodS C Γ T n X W) (hc : isComp e = false) (h1 : PE X e (rdE X C W f)) : PS X (.Expr e pos) (rdS X C W O0 H0 fun ρ => (f ρ).bind fun _ => .ok (.nx ρ)) := by
  refine psW (ps_expr h1 (swaps_no hc _ _ _)) fun D σ H q => ?_
  obtain ⟨O, ρ, s, p⟩ := q
  exact stE s p fun d v H1 s1 l1 rv p1 => p1 O σ H1 s1 (LamX.ExtN.refl _)
theorem ps_retE (g : GoodS C Γ T n X W) (h1 : PE X e (rdE X C W f)) : PS X (.Return (some e) pos) (rdS X C W O0 H0 fun ρ => (f ρ).bind fun d => .ok (.rt d)) := by
  refine psW (ps_ret h1) fun D σ H q => ?_
  obtain ⟨O, ρ, s, p⟩ := q
  exact stE s p fun d v H1 s1 l1 rv p1 => p1 v H1 s1.ext (rv.ext (ExtN.hmLess s1.sub))
theorem ps_contE : PS X (.Continue pos) (rdS X C W O0 H0 fun ρ => .ok (.ct ρ)) := psW ps_continue fun D σ H q => by
  obtain ⟨O, ρ, s, p⟩ := q
  exact p O σ H s (LamX.ExtN.refl _)
theorem ps_ifE {a b : List Stmt} {fa fb : Ev.Env → R Out} {c : Expr} {fc : Ev.Env → R Bool} (hc : PT X c (rdT X C W fc)) (ha : PSs X a (rdS X C W O0 H0 fa)) (hb : PSs X b (rdS X C W O0 H0 fb)) :
    PS X (.If c a b pos) (rdS X C W O0 H0 fun ρ => (fc ρ).bind fun t => if t then fa ρ else fb ρ) := by
  refine psW (ps_if hc ha hb) fun D σ H q => ?_
  obtain ⟨O, ρ, s, p⟩ := q
  refine ⟨O, ρ, s.rel, (p.toG s.ext).imp fun t H1 e1 p1 => ?_⟩
  cases t with
  | true => exact ⟨O, ρ, s.step e1, p1⟩
  | false => exact ⟨O, ρ, s.step e1, p1⟩
theorem pss_nilE : PSs X [] (rdS X C W O0 H0 fun ρ => .ok (.nx ρ)) := pssW pss_nil fun D σ H q => by
  obtain ⟨O, ρ, s, p⟩ := q
  exact p O σ H s (LamX.ExtN.refl _)
theorem pss_consE {st : Stmt} {rest : List Stmt} {fa fb : Ev.Env → R Out} (ha : PS X st (rdS X C W O0 H0 fa)) (hb : PSs X rest (rdS X C W O0 H0 fb)) :
    PSs X (st :: rest) (rdS X C W O0 H0 fun ρ => (fa ρ).bind fun o => match o with | .nx ρ' => fb ρ' | .rt d => .ok (.rt d) | .ct ρ' => .ok (.ct ρ')) := by
  refine pssW (pss_cons ha hb) fun D σ H q => ?_
  obtain ⟨O, ρ, s, p⟩ := q
  refine ⟨O, ρ, s, ?_⟩
  dsimp only at p
  cases hf : fa ρ with
  | no => rw [hf] at p; exact p.elim
  | ex c => rw [hf] at p; exact p
  | ok o =>
    rw [hf] at p
    cases o with
    | nx ρ' => exact fun O' σ' H' s' l' => ⟨O', ρ', s', PostS.lk (r := fb ρ') p l'⟩
    | rt d => exact p
    | ct ρ' => exact p
/-! ### loops -/
theorem ps_forE {is : List Nat} {many : Bool} {body : List Stmt} {fi : Ev.Env → R (List D)} {fb : Ev.Env → R Out} {it : Expr} (g : GoodS C Γ T n X W) (ht : chkTg Γ is many t = true) (hi : PI X t it (rdI X C W fi)) (hp : plainF it = true) (hb : PSs X body (rdS X C W O0 H0 fb)) :
    PS X (.For t it body [] pos) (rdS X C W O0 H0 fun ρ => (fi ρ).bind fun ds => loopD (fun d ρ1 => (store is many d ρ1).bind fun ρ2 => fb ρ2) ds ρ) := by
  refine psW (ps_for g.hp g.calm hi (pg_tg g.toGood0 ht) hb (folded_pure hp X.env)) fun D σ H q => ?_
  obtain ⟨O, ρ, s, p⟩ := q
  refine ⟨O, ρ, s.rel, (p.toG s.ext).imp fun ds H1 e1 p1 J wk => ?_⟩
  refine ⟨fun i m σ' H' => m = ds.length - i ∧ i ≤ ds.length ∧ ∃ O' ρ', Sta X.K C.T O0 H0 O' σ' H' ρ' ∧ Lk O H1 O' H' ∧ PostS X C W O0 H0 O' H' D (loopD (fun d ρ1 => (store is many d ρ1).bind fun ρ2 => fb ρ2) (ds.drop i) ρ'),
    ⟨_, rfl, Nat.zero_le _, O, ρ, s.step e1, LamX.ExtN.refl _, p1⟩, ?_⟩
  rintro i m σ' H' ⟨rfl, hile, O', ρ', s', l', p'⟩
  rcases Nat.lt_or_ge i ds.length with hlt | hge
  · right
    have hd : ds[i]? = some ds[i] := List.getElem?_eq_getElem hlt
    have hdrop : ds.drop i = ds[i] :: ds.drop (i + 1) := List.drop_eq_getElem_cons hlt
    rw [hdrop] at p'
    obtain ⟨go, yld⟩ := wk.step i ds[i] O' H' hd s'.rel.tr l'
    refine ⟨go, fun σ2 H2 => i + 1 ≤ ds.length ∧ ∃ O2 ρ2, Sta X.K C.T O0 H0 O2 σ2 H2 ρ2 ∧ Lk O H1 O2 H2 ∧ PostS X C W O0 H0 O2 H2 D (loopD (fun d ρ1 => (store is many d ρ1).bind fun ρ2 => fb ρ2) (ds.drop (i + 1)) ρ2),
      fun σ2 H2 ⟨h1, h2⟩ => ⟨ds.length - (i + 1), by omega, rfl, h1, h2⟩, fun x H2 y => ?_⟩
    obtain ⟨e2, rx⟩ := yld x H2 y
    have s2 := s'.step e2
    have p2 := PostS.lk p' e2.1.hm
    cases hst : store is many ds[i] ρ' with
    | no => rw [loopD, hst] at p2; exact p2.elim
    | ex c => exact absurd hst (store_ex is many ds[i] ρ' c)
    | ok ρ2 =>
      rw [loopD, hst] at p2
      refine sta_tg (tg_plain ht) hst s2 rx fun σ3 s3 => ⟨O', ρ2, s3, ?_⟩
      have l2 : Lk O H1 O' H2 := l'.trans e2.1.hm
      cases hf : fb ρ2 with
      | no => rw [bind_ok, hf] at p2; exact p2.elim
      | ex c => rw [bind_ok, hf] at p2; exact p2
      | ok o =>
        rw [bind_ok, hf] at p2
        cases o with
        | nx ρ3 => exact fun O4 σ4 H4 s4 l4 => ⟨hlt, O4, ρ3, s4, l2.trans l4, PostS.lk (r := loopD _ (ds.drop (i + 1)) ρ3) p2 l4⟩
        | ct ρ3 => exact fun O4 σ4 H4 s4 l4 => ⟨hlt, O4, ρ3, s4, l2.trans l4, PostS.lk (r := loopD _ (ds.drop (i + 1)) ρ3) p2 l4⟩
        | rt d => exact p2
  · left
    have : i = ds.length := Nat.le_antisymm hile hge
    subst this
    refine ⟨wk.stop O' H' s'.rel.tr l', ?_⟩
    rw [List.drop_length] at p'
    exact p' O' σ' H' s' (LamX.ExtN.refl _)
theorem ps_whileE {body : List Stmt} {fc : Ev.Env → R Bool} {fb : Ev.Env → R Out} {c : Expr} (g : GoodS C Γ T n X W) (hc : PT X c (rdT X C W fc)) (hb : PSs X body (rdS X C W O0 H0 fb)) (k : Nat) :
    PS X (.While c body [] pos) (rdS X C W O0 H0 fun ρ => loopW fc fb k ρ) := by
  refine psW (ps_while g.hp hc hb) fun D σ H q => ?_
  obtain ⟨O, ρ, s, p⟩ := q
  refine ⟨fun m σ' H' => ∃ O' ρ', Sta X.K C.T O0 H0 O' σ' H' ρ' ∧ PostS X C W O0 H0 O' H' D (loopW fc fb m ρ'), ⟨k, O, ρ, s, p⟩, ?_⟩
  rintro m σ' H' ⟨O', ρ', s', p'⟩
  cases m with
  | zero => exact p'.elim
  | succ m =>
    rw [loopW] at p'
    refine ⟨O', ρ', s'.rel, (p'.toG s'.ext).imp fun b H1 e1 p1 => ?_⟩
    have s1 := s'.step e1
    cases b with
    | false => exact p1 O' σ' H1 s1 (LamX.ExtN.refl _)
    | true =>
      refine ⟨fun σ2 H2 => ∃ O2 ρ2, Sta X.K C.T O0 H0 O2 σ2 H2 ρ2 ∧ PostS X C W O0 H0 O2 H2 D (loopW fc fb m ρ2), fun σ2 H2 h => ⟨m, Nat.lt_succ_self m, h⟩, O', ρ', s1, ?_⟩
      have p1 : PostS X C W O0 H0 O' H1 D ((fb ρ').bind fun o => match o with | .nx ρ' => loopW fc fb m ρ' | .ct ρ' => loopW fc fb m ρ' | .rt d => .ok (.rt d)) := p1
      cases hf : fb ρ' with
      | no => rw [hf] at p1; exact p1.elim
      | ex c => rw [hf] at p1; exact p1
      | ok o =>
        rw [hf] at p1
        cases o with
        | nx ρ3 => exact fun O4 σ4 H4 s4 l4 => ⟨O4, ρ3, s4, PostS.lk (r := loopW _ _ m ρ3) p1 l4⟩
        | ct ρ3 => exact fun O4 σ4 H4 s4 l4 => ⟨O4, ρ3, s4, PostS.lk (r := loopW _ _ m ρ3) p1 l4⟩
        | rt d => exact p1
end
end Ev

/-! EvDfr: a dict of a list of pairs. -/
namespace Ev
open PySem PySem.Spec PyProof.Rows L2
theorem boot_dict : bootBuiltins "dict" = some (.type "dict") := by decide +kernel
section
variable {K : PySem.W.Frag} {H Hx : Hp}
theorem pairs_rep (ext : ExtN H Hx) : ∀ {ds : List D} {xs : List V} {ks0 ks : List (List Nat)} {vs0 vs : List D} {acc : List (L2.Key × V)}, Reps K H xs ds → pairsD ds ks0 vs0 = .ok (ks, vs) → KvOk K H acc ks0 vs0 →
    ∃ (ps : List Addr) (kvs : List (L2.Key × V)), xs = ps.map V.ref ∧ Paired (fun p kv => SqT K Hx p [kV kv.1, kv.2]) ps kvs ∧ KvOk K H (mergeK acc kvs) ks vs
  | [], _, ks0, ks, vs0, vs, acc, r, h, ok => by
    cases r
    cases h
    exact ⟨[], [], rfl, .nil, ok⟩
  | d :: ds, _, ks0, ks, vs0, vs, acc, r, h, ok => by
    cases r with
    | cons r1 r2 =>
      unfold pairsD at h
      split at h
      · rename_i k v
        cases r1 with
        | tup s1 s2 =>
          cases s2 with
          | cons q1 q2 =>
            cases q2 with
            | cons q2 q3 =>
              cases q3
              cases q1
              rename_i a vv
              obtain ⟨ps, kvs, e1, e2, e3⟩ := pairs_rep ext r2 h (kv_put ok q2)
              exact ⟨a :: ps, (keyOf k, vv) :: kvs, by rw [e1]; rfl, .cons (sqT_ext ext s1) e2, e3⟩
      · cases h
end
theorem pairsD_ex : ∀ (ds : List D) (ks : List (List Nat)) (vs : List D) (c : Nat), pairsD ds ks vs ≠ .ex c
  | [], _, _, _, h => by cases h
  | d :: ds, ks, vs, c, h => by
    unfold pairsD at h
    split at h
    · exact pairsD_ex ds _ _ c h
    · cases h
/-- a list and nothing else -/
def lstOnly : D → R D
  | .lst ds => .ok (.lst ds)
  | _ => .no
section
variable {X : Cx} {C : Cfg} {Γ : Gam} {T : Tbl} {n : Nat} {W : Nat → Hp → Prop} {O0 O O' : List Addr} {H0 H H' : Hp} {σ : L2.St} {ρ ρ' : Ev.Env} {e e1 e2 t : Expr} {f f1 f2 : Ev.Env → R D} {pos py spos p apos cpos tpos : Pos}
theorem ps_dfromE {i : Nat} {y : Str} (g : GoodS C Γ T n X W) (hy : storeOk Γ i y = true) (hx : biOk Γ "dict" = true) (h1 : PE X e1 (rdE X C W f)) (p1 : plainF e1 = true) (hl : ∀ ρ d, f ρ = .ok d → ∃ ds, d = .lst ds) :
    PS X (.Assign [.Name y py] (.Call (.Name "dict" p) [e1] [] cpos) pos) (rdS X C W O0 H0 fun ρ => (f ρ).bind fun d => (dictD d).bind fun p => .ok (.nx (ρ.set i (.od p.1 p.2)))) := by
  unfold storeOk at hy
  rw [Bool.and_eq_true, decide_eq_true_eq] at hy
  obtain ⟨h2, h3⟩ := g.st y hy.2
  obtain ⟨hg, hm⟩ := bi_of g.toGood0 hx
  refine psW (ps_set g.nd (by rw [g.N]; exact hy.1) h2 (pe_callTy (call_dictP g.calm) hg hm boot_dict (pa_cons h1 pa_nil (star_cons p1 [] X.env)) (by decide +kernel) (by decide +kernel) (star_cons p1 [] X.env) rfl) (swaps_no rfl _ _ _) h3) fun D σ H q => ?_
  obtain ⟨O, ρ, s, p⟩ := q
  have ef : ∀ k : Ev.D → R Out, (f ρ).bind k = (f ρ).bind fun d => (lstOnly d).bind k := fun k => by
    cases hf : f ρ with
    | ok d => obtain ⟨ds, rfl⟩ := hl ρ d hf; rfl
    | _ => rfl
  have p : PostS X C W O0 H0 O H D ((f ρ).bind fun d => (dictD d).bind fun p => .ok (.nx (ρ.set i (.od p.1 p.2)))) := p
  rw [ef] at p
  refine stE s p fun d v H1 s1 l1 rv p1 => ?_
  cases d with
  | lst ds =>
    have p1 : PostS X C W O0 H0 O H1 D ((if ds.length ≤ LIM then pairsD ds [] [] else .no).bind fun p => .ok (.nx (ρ.set i (.od p.1 p.2)))) := p1
    split at p1
    · rename_i hlen
      cases hp : pairsD ds [] [] with
      | ok r =>
        obtain ⟨ks, vs⟩ := r
        rw [hp] at p1
        cases rv with
        | lst q1 q2 =>
          rename_i a xs
          obtain ⟨ps, kvs, e1, e2, e3⟩ := pairs_rep (Hx := H1) ExtN.hmTop q2 hp (acc := []) ⟨rfl, .nil, List.nodup_nil⟩
          refine ⟨a, ps, kvs, rfl, by rw [← e1]; exact sqL_ext ExtN.hmTop q1, e2, fun b hb => ?_⟩
          refine p1 (b :: O) _ _ (s1.setOw i hb (.inr ⟨_, rfl⟩) rfl ⟨mergeK [] kvs, upd_same, ?_⟩) (lk_new hb)
          rw [hm_upd List.mem_cons_self]
          exact e3.ext (ExtN.grow (LamX.ExtN.refl _) fun c hc hn => by
            rcases List.mem_cons.mp hc with z | z
            · rw [z]; exact hb
            · exact absurd z hn)
      | ex c => exact absurd hp (pairsD_ex ds [] [] c)
      | no => rw [hp] at p1; exact p1.elim
    · exact p1.elim
  | _ => exact p1.elim
end
end Ev

/-! EvStm3: the statements together. -/
namespace Ev
open PySem PySem.Spec PyProof.Rows L2
theorem comp_only {Γ : Gam} {elt : Expr} {gs : List Comprehension} {scope : Scope} {pos : Pos} : ∀ (x : E), chkE x Γ (.ListComp elt gs scope pos) = true → ∃ e tg many it c ws, x = .comp e tg many it c ws := fun x h => by
  cases x with
  | comp e tg many it c ws => exact ⟨_, _, _, _, _, _, rfl⟩
  | _ => exact absurd h (by first | exact Bool.false_ne_true | (rename_i f x; cases f <;> exact Bool.false_ne_true) | (unfold chkE chkK; exact Bool.false_ne_true))
section
variable {X : Cx} {C : Cfg} {Γ : Gam} {T : Tbl} {n : Nat} {W : Nat → Hp → Prop} {O0 : List Addr} {H0 : Hp}
theorem ps_setAll {i : Nat} {y : Str} {py pos : Pos} {e : Expr} (x : E) (g : GoodS C Γ T n X W) (hy : storeOk Γ i y = true) (hc : chkSetOk Γ y e = true) (hb : noB x = true) (hx : chkE x Γ e = true) :
    PS X (.Assign [.Name y py] e pos) (rdS X C W O0 H0 fun ρ => (eval x T ρ).bind fun d => .ok (.nx (ρ.set i (.sh d)))) := by
  have s := (snd x e g.toGood hx).1 hb
  cases hce : isComp e with
  | false => exact ps_setE g hy (swaps_no hce _ _ _) s.v
  | true =>
    cases e with
    | ListComp elt gs scope cpos =>
      cases hsb : (X.env.blockKind == .function && X.env.kindOf y == some .local && py.line == cpos.line && !(scope.names.any fun (n, k) => n == y && (k == .local || k == .cell))) with
      | false => exact ps_setE g hy (show (pure _ : Sem Bool) = pure false from congrArg pure hsb) s.v
      | true =>
      obtain ⟨e', tg, many, it, c, ws, rfl⟩ := comp_only x hx
      unfold chkE at hx
      split at hx
      · rename_i elt t iter ifs scope cpos he
        cases he
        simp only [Bool.and_eq_true, List.all_eq_true, List.contains_iff_mem] at hx
        obtain ⟨⟨⟨⟨⟨⟨h1, h2⟩, h3⟩, h4⟩, h5⟩, h6⟩, h7⟩ := hx
        have g' := g.toGood
        have hc' : ∀ X' W', Good0 C (Γ.blk scope) T n X' W' → PTs X' ifs (rdT X' C W' (evalC c T)) := fun X' W' g' => by
          cases ifs with
          | nil =>
            cases c with
            | nil =>
              have := pts_rd0 (C := C) (X := X') (W := W')
              rw [show (evalC .nil T) = (fun _ => R.ok true) from funext fun ρ => by rw [evalC]]
              exact this
            | cons => cases h6
          | cons a r =>
            cases r with
            | nil =>
              cases c with
              | nil => cases h6
              | cons e0 es0 =>
                unfold chkEs at h6
                rw [Bool.and_eq_true, Bool.and_eq_true] at h6
                have := ((snd e0 _ (g'.good rfl) h6.1.2).1 h6.1.1).t
                rw [show (evalC (.cons e0 es0) T) = (fun ρ => (eval e0 T ρ).bind asB) from funext fun ρ => by rw [evalC]]
                exact pts_rd1 this
            | cons => cases h6
        have hkl : X.env.scope.names.lookup y = some .local := by
          have hsb := hsb
          simp only [Bool.and_eq_true] at hsb
          exact eq_of_beq hsb.1.1.2
        unfold storeOk at hy
        rw [Bool.and_eq_true, decide_eq_true_eq] at hy
        have hsw : swapsWith (.ListComp elt [⟨t, iter, ifs, 0⟩] scope cpos) (some (.Name y py)) pos.line X.env = pure true := by
          show (pure _ : Sem Bool) = pure true
          exact congrArg pure hsb
        have := ps_lcSet (pos := cpos) (py := py) (spos := pos) g.toGood0 h1 h2 h3 (itC it _ _ g.toGood0 h5 fun z => sndIt it _ _ g.toGood z) (itPlainC it _ _ h5) (by rw [g.N]; exact hy.1) hkl hsw hc' fun X' W' g' => ((snd e' _ (g'.good rfl) h7).1 h4).v
        refine psW this fun D σ H q => ?_
        obtain ⟨O, ρ, s, p⟩ := q
        dsimp only at p
        rw [eval] at p
        exact stE s p fun d v H1 s1 l1 rv p1 => p1 O _ H1 (s1.setSh i rv) (LamX.ExtN.refl _)
      · cases hx
    | SetComp => cases hc
    | DictComp => cases hc
    | _ => cases hce
end
theorem parTg {Γ : Gam} {i : Nat} {t : Expr} (h : (match t with | .Name x _ => decide (Γ.N[i]? = some x) && (match Γ.sc.lookup x with | some .local => true | _ => false) | _ => false) = true) : ∃ x p, t = .Name x p ∧ Γ.N[i]? = some x ∧ Γ.sc.lookup x = some .local := by
  cases t with
  | Name x p =>
    rw [Bool.and_eq_true, decide_eq_true_eq] at h
    refine ⟨x, p, rfl, h.1, ?_⟩
    have h2 := h.2
    split at h2
    · assumption
    · cases h2
  | _ => cases h
theorem sas_plain {X : Cx} {C : Cfg} {W : Nat → Hp → Prop} {es : List Expr} {fs : List (Ev.Env → R D)} (h : SAs X C W es fs) : ∀ v ∈ es, plainF v = true := by
  induction h with
  | nil => intro v hv; cases hv
  | cons _ hp _ ih =>
    intro v hv
    rcases List.mem_cons.mp hv with rfl | z
    · exact hp
    · exact ih v z
theorem ps_parAll {C : Cfg} {Γ : Gam} {T : Tbl} {n : Nat} {X : Cx} {W : Nat → Hp → Prop} {O0 : List Addr} {H0 : Hp} {is : List Nat} {ts vs : List Expr} {kt k2 : Nat} {p p2 pos : Pos} {fs : List (Ev.Env → R D)} (g : GoodS C Γ T n X W) (h : SAs X C W vs fs)
    (h1 : chkParTg Γ is ts = true) (h2 : (is.length == vs.length) = true) (h3 : (is.length == 2 || is.length == 3) = true) (h4 : is.Nodup) (h5 : (namesOf ts).Nodup) (h6 : (ts.all fun t => t.pos.line == lineOf ts) = true) (h7 : vs.all (foldedForSure 8) = false) (h8 : vs.all (constantsAlone 8) = false) :
    PS X (.Assign [.Tuple ts kt p] (.Tuple vs k2 p2) pos) (rdS X C W O0 H0 fun ρ => (allF fs ρ).bind fun ds => (setAll ρ is ds).bind fun ρ' => .ok (.nx ρ')) := by
  unfold chkParTg at h1
  rw [Bool.and_eq_true] at h1
  obtain ⟨hlen, h1⟩ := h1
  have hp := sas_plain h
  match is, ts, vs, hlen, h2 with
  | [i, j], [t1, t2], [a, b], _, _ =>
    simp only [List.zip_cons_cons, List.zip_nil_right, List.all_cons, List.all_nil, Bool.and_true, Bool.and_eq_true] at h1
    obtain ⟨x, px, rfl, hx1, hx2⟩ := parTg h1.1
    obtain ⟨y, py, rfl, hy1, hy2⟩ := parTg h1.2
    have hij : i ≠ j := by simp at h4; exact h4
    have hne : x ≠ y := by
      have : [x, y].Nodup := h5
      simp at this; exact this
    have hl : (py.line == px.line) = true := by
      simp only [List.all_cons, List.all_nil, Bool.and_true, Bool.and_eq_true] at h6
      exact h6.2
    exact ps_par2E g hx1 hy1 hij hx2 hy2 hne hl h7 h8 hp h
  | [i, j, l], [t1, t2, t3], [a, b, c], _, _ =>
    simp only [List.zip_cons_cons, List.zip_nil_right, List.all_cons, List.all_nil, Bool.and_true, Bool.and_eq_true] at h1
    obtain ⟨x, px, rfl, hx1, hx2⟩ := parTg h1.1
    obtain ⟨y, py, rfl, hy1, hy2⟩ := parTg h1.2.1
    obtain ⟨z, pz, rfl, hz1, hz2⟩ := parTg h1.2.2
    have hij : (i ≠ j ∧ i ≠ l) ∧ j ≠ l := by simpa using h4
    have hne : (x ≠ y ∧ x ≠ z) ∧ y ≠ z := by
      have : [x, y, z].Nodup := h5
      simpa using this
    have hl : (py.line == px.line) = true ∧ (pz.line == px.line) = true := by
      simp only [List.all_cons, List.all_nil, Bool.and_true, Bool.and_eq_true] at h6
      exact ⟨h6.2.1, h6.2.2⟩
    exact ps_par3E g hx1 hy1 hz1 hij.1.1 hij.1.2 hij.2 hx2 hy2 hz2 hne.1.1 hne.1.2 hne.2 hl.1 hl.2 h7 h8 hp h
  | [], _, _, _, _ => cases h3
  | [_], _, _, _, _ => cases h3
  | _ :: _ :: _ :: _ :: _, _, _, _, _ => simp at h3
  | [_, _], [], _, hh, _ => cases hh
  | [_, _], [_], _, hh, _ => cases hh
  | [_, _], _ :: _ :: _ :: _, _, hh, _ => simp at hh
  | [_, _], [_, _], [], _, hh => cases hh
  | [_, _], [_, _], [_], _, hh => cases hh
  | [_, _], [_, _], _ :: _ :: _ :: _, _, hh => simp at hh
  | [_, _, _], [], _, hh, _ => cases hh
  | [_, _, _], [_], _, hh, _ => cases hh
  | [_, _, _], [_, _], _, hh, _ => cases hh
  | [_, _, _], _ :: _ :: _ :: _ :: _, _, hh, _ => simp at hh
  | [_, _, _], [_, _, _], [], _, hh => cases hh
  | [_, _, _], [_, _, _], [_], _, hh => cases hh
  | [_, _, _], [_, _, _], [_, _], _, hh => cases hh
  | [_, _, _], [_, _, _], _ :: _ :: _ :: _ :: _, _, hh => simp at hh
/-- raise x('..') -/
theorem ps_raiseE {X : Cx} {C : Cfg} {Γ : Gam} {T : Tbl} {n : Nat} {W : Nat → Hp → Prop} {O0 : List Addr} {H0 : Hp} {x m : Str} {c j : Nat} {p p2 pos rpos : Pos} (g : GoodS C Γ T n X W) (h : (glB Γ x && okName x && Γ.exc.contains (x, c)) = true) :
    PS X (.Raise (some (.Call (.Name x p) [.Constant (.str m) j p2] [] pos)) none rpos) (rdS X C W O0 H0 fun _ => .ex c) := by
  unfold okName at h
  simp only [Bool.and_eq_true, Bool.not_eq_true', List.contains_iff_mem] at h
  obtain ⟨a, hm, hk, hq, hr, hc⟩ := g.exc (x, c) h.2
  refine psW (ps_raise g.calm g.takes (pmk_own PySem.F.excBase_ValueError hq hm hk hr (g.gl x h.1.1) h.1.2.1)) fun D σ H q => ?_
  obtain ⟨O, ρ, s, p⟩ := q
  exact ⟨c, hc.symm, rfl, p H s.ext⟩
theorem isCmp_lst : ∀ (x : E) (T : Tbl), isCmp x = true → ∀ (ρ : Ev.Env) (d : D), eval x T ρ = .ok d → ∃ ds, d = .lst ds
  | .comp e tg many it c ws, T, _, ρ, d, h => by
    rw [eval] at h
    unfold noEx at h
    split at h
    · cases h
    · obtain ⟨ds, _, h⟩ := bind_eq_ok h
      split at h
      · obtain ⟨ys, _, h⟩ := bind_eq_ok h
        cases h
        exact ⟨_, rfl⟩
      · cases h
mutual
theorem sndS {C : Cfg} : ∀ (s' : S) {Γ : Gam} {T : Tbl} {n : Nat} {X : Cx} {W : Nat → Hp → Prop} {O0 : List Addr} {H0 : Hp} (st : Stmt), GoodS C Γ T n X W → chkS s' Γ st = true → PS X st (rdS X C W O0 H0 (exec s' T))
  | .set i x, Γ, T, n, X, W, O0, H0, st, g, h => by
    unfold chkS at h
    split at h
    · simp only [Bool.and_eq_true] at h
      rw [show exec (.set i x) T = _ from funext fun ρ => by rw [exec]]
      exact ps_setAll x g h.1.1.1 h.1.1.2 h.1.2 h.2
    · cases h
  | .own i es, Γ, T, n, X, W, O0, H0, st, g, h => by
    unfold chkS at h
    split at h
    · rw [Bool.and_eq_true] at h
      rw [show exec (.own i es) T = _ from funext fun ρ => by rw [exec, ← allF_of]]
      exact ps_ownE g h.1 (sndAs es _ g.toGood h.2)
    · cases h
  | .dnew i, Γ, T, n, X, W, O0, H0, st, g, h => by
    unfold chkS at h
    split at h
    · rw [show exec (.dnew i) T = _ from funext fun ρ => by rw [exec]]
      exact ps_dnewE g h
    · cases h
  | .ddisp _ _ _, Γ, T, n, X, W, O0, H0, st, g, h => by unfold chkS at h; cases h
  | .dfrom i x, Γ, T, n, X, W, O0, H0, st, g, h => by
    unfold chkS at h
    split at h
    · simp only [Bool.and_eq_true] at h
      obtain ⟨⟨⟨⟨⟨h1, h2⟩, h3⟩, h4⟩, h5⟩, h6⟩ := h
      have e := beq_iff_eq.mp h2
      subst e
      rw [show exec (.dfrom i x) T = _ from funext fun ρ => by rw [exec]]
      have s := (snd x _ g.toGood h6).1 h5
      exact ps_dfromE g h1 h3 s.v (chk_plain x _ h6) fun ρ d => isCmp_lst x T h4 ρ d
    · cases h
  | .mv _ _, Γ, T, n, X, W, O0, H0, st, g, h => by unfold chkS at h; cases h
  | .unp is x, Γ, T, n, X, W, O0, H0, st, g, h => by
    unfold chkS at h
    split at h
    · split at h
      · simp only [Bool.and_eq_true, Bool.not_eq_true'] at h
        obtain ⟨⟨⟨⟨h1, h2⟩, h3⟩, h4⟩, h5⟩ := h
        rw [show exec (.unp is x) T = _ from funext fun ρ => by rw [exec]]
        exact ps_unpE g h1 h2 h3 ((snd x _ g.toGood h5).1 h4).v
      · cases h
    · cases h
  | .par is es, Γ, T, n, X, W, O0, H0, st, g, h => by
    unfold chkS at h
    split at h
    · simp only [Bool.and_eq_true, Bool.not_eq_true', decide_eq_true_eq] at h
      obtain ⟨⟨⟨⟨⟨⟨⟨⟨h1, h2⟩, h3⟩, h4⟩, h5⟩, h6⟩, h7⟩, h8⟩, h9⟩ := h
      rw [show exec (.par is es) T = _ from funext fun ρ => by rw [exec, ← allF_of]]
      exact ps_parAll g (sndAs es _ g.toGood h9) h1 h2 h3 h4 h5 h6 h7 h8
    · cases h
  | .key i k v, Γ, T, n, X, W, O0, H0, st, g, h => by
    unfold chkS at h
    split at h
    · simp only [Bool.and_eq_true, Bool.not_eq_true'] at h
      obtain ⟨⟨⟨⟨h1, h2⟩, h3⟩, h4⟩, h5⟩ := h
      rw [show exec (.key i k v) T = _ from funext fun ρ => by rw [exec]]
      exact ps_keyE g h1 h2 (snd k _ g.toGood h4).2 ((snd v _ g.toGood h5).1 h3).v
    · cases h
  | .app i x, Γ, T, n, X, W, O0, H0, st, g, h => by
    unfold chkS at h
    split at h
    · simp only [Bool.and_eq_true] at h
      obtain ⟨⟨⟨⟨h1, h2⟩, h3⟩, h4⟩, h5⟩ := h
      rw [show exec (.app i x) T = _ from funext fun ρ => by rw [exec]]
      exact ps_appE g (eq_of_beq h2) h1 h3 ((snd x _ g.toGood h5).1 h4).v (chk_plain _ _ h5)
    · cases h
  | .ext i x, Γ, T, n, X, W, O0, H0, st, g, h => by
    unfold chkS at h
    split at h
    · simp only [Bool.and_eq_true] at h
      obtain ⟨⟨⟨⟨h1, h2⟩, h3⟩, h4⟩, h5⟩ := h
      rw [show exec (.ext i x) T = _ from funext fun ρ => by rw [exec]]
      exact ps_extE g (eq_of_beq h2) h1 h3 ((snd x _ g.toGood h5).1 h4).v (chk_plain _ _ h5)
    · cases h
  | .drop x, Γ, T, n, X, W, O0, H0, st, g, h => by
    unfold chkS at h
    split at h
    · simp only [Bool.and_eq_true, Bool.not_eq_true'] at h
      rw [show exec (.drop x) T = _ from funext fun ρ => by rw [exec]]
      exact ps_dropE g h.1.1 ((snd x _ g.toGood h.2).1 h.1.2).v
    · cases h
  | .ifs c a b, Γ, T, n, X, W, O0, H0, st, g, h => by
    unfold chkS at h
    split at h
    · simp only [Bool.and_eq_true] at h
      obtain ⟨⟨⟨h1, h2⟩, h3⟩, h4⟩ := h
      have := ps_ifE (pos := by assumption) ((snd c _ g.toGood h2).1 h1).t (sndSs a _ g h3) (sndSs b (O0 := O0) (H0 := H0) _ g h4)
      refine psW this fun D σ H q => ?_
      obtain ⟨O, ρ, s, p⟩ := q
      refine ⟨O, ρ, s, ?_⟩
      rw [exec] at p
      dsimp only
      cases hc : eval c T ρ with
      | ok d => rw [hc] at p; exact p
      | ex c => rw [hc] at p; exact p
      | no => rw [hc] at p; exact p
    · cases h
  | .for_ is many it body, Γ, T, n, X, W, O0, H0, st, g, h => by
    unfold chkS at h
    split at h
    · simp only [Bool.and_eq_true] at h
      obtain ⟨⟨h1, h2⟩, h3⟩ := h
      rw [show exec (.for_ is many it body) T = _ from funext fun ρ => by rw [exec]]
      exact ps_forE g h1 (sndIt it _ _ g.toGood h2) (itPlain it _ _ h2) (sndSs body _ g h3)
    · cases h
  | .whl k c body, Γ, T, n, X, W, O0, H0, st, g, h => by
    unfold chkS at h
    split at h
    · simp only [Bool.and_eq_true] at h
      obtain ⟨⟨h1, h2⟩, h3⟩ := h
      rw [show exec (.whl k c body) T = _ from funext fun ρ => by rw [exec]]
      exact ps_whileE g ((snd c _ g.toGood h2).1 h1).t (sndSs body _ g h3) k
    · cases h
  | .ret x, Γ, T, n, X, W, O0, H0, st, g, h => by
    unfold chkS at h
    split at h
    · rw [Bool.and_eq_true] at h
      rw [show exec (.ret x) T = _ from funext fun ρ => by rw [exec]]
      exact ps_retE g ((snd x _ g.toGood h.2).1 h.1).v
    · cases h
  | .raise c, Γ, T, n, X, W, O0, H0, st, g, h => by
    unfold chkS at h
    split at h
    · rw [show exec (.raise c) T = _ from funext fun ρ => by rw [exec]]
      exact ps_raiseE g h
    · cases h
  | .cont, Γ, T, n, X, W, O0, H0, st, g, h => by
    unfold chkS at h
    split at h
    · rw [show exec .cont T = _ from funext fun ρ => by rw [exec]]
      exact ps_contE
    · cases h
  | .frz _, Γ, T, n, X, W, O0, H0, st, g, h => by unfold chkS at h; cases h
theorem sndSs {C : Cfg} : ∀ (ss : Ss) {Γ : Gam} {T : Tbl} {n : Nat} {X : Cx} {W : Nat → Hp → Prop} {O0 : List Addr} {H0 : Hp} (xs : List Stmt), GoodS C Γ T n X W → chkSs ss Γ xs = true → PSs X xs (rdS X C W O0 H0 (execs ss T))
  | .nil, Γ, T, n, X, W, O0, H0, xs, g, h => by
    unfold chkSs at h
    cases xs with
    | nil =>
      rw [show execs .nil T = _ from funext fun ρ => by rw [execs]]
      exact pss_nilE
    | cons => cases h
  | .cons s ss, Γ, T, n, X, W, O0, H0, xs, g, h => by
    unfold chkSs at h
    split at h
    · rename_i i
      rw [Bool.and_eq_true] at h
      refine pssW (sndSs ss (O0 := O0) (H0 := H0) xs g h.2) fun D σ H q => ?_
      obtain ⟨O, ρ, st, p⟩ := q
      rw [execs, exec] at p
      split at p
      · rename_i ys hi
        obtain ⟨O', st', l'⟩ := st.frz i hi
        exact ⟨O', _, st', PostS.lk (r := execs ss T (ρ.set i (.sh (.lst ys)))) p l'⟩
      · exact p.elim
    · split at h
      · rename_i x r
        rw [Bool.and_eq_true] at h
        rw [show execs (.cons s ss) T = _ from funext fun ρ => by rw [execs]]
        exact pss_consE (sndS s _ g h.1) (sndSs ss _ g h.2)
      · cases h
end
end Ev

/-! EvTold: a def that calls what it is handed, and tells what was refused. -/
namespace Ev
open PySem PySem.Spec PyProof.Rows L2
abbrev P4 (l a b d : Nat) : Pos := ⟨l, a, l, d⟩
/-- isinstance(e, x) -/
def isE (x : Str) (p1 p2 p3 p4 : Pos) : Expr := .Call (.Name "isinstance" p1) [.Name "e" p2, .Name x p3] [] p4
/-- the clause's rows, the try beginning in row l -/
def toldSuite (l : Nat) : List Stmt :=
  [.Assign [.Name "_law_kinds" ⟨l + 3, 8, l + 3, 18⟩] (.List [isE "NoNumber" ⟨l + 3, 22, l + 3, 32⟩ ⟨l + 3, 33, l + 3, 34⟩ ⟨l + 3, 36, l + 3, 44⟩ ⟨l + 3, 22, l + 3, 45⟩, isE "Crossing" ⟨l + 3, 47, l + 3, 57⟩ ⟨l + 3, 58, l + 3, 59⟩ ⟨l + 3, 61, l + 3, 69⟩ ⟨l + 3, 47, l + 3, 70⟩,
      isE "NoFigure" ⟨l + 3, 72, l + 3, 82⟩ ⟨l + 3, 83, l + 3, 84⟩ ⟨l + 3, 86, l + 3, 94⟩ ⟨l + 3, 72, l + 3, 95⟩, isE "NoText" ⟨l + 3, 97, l + 3, 107⟩ ⟨l + 3, 108, l + 3, 109⟩ ⟨l + 3, 111, l + 3, 117⟩ ⟨l + 3, 97, l + 3, 118⟩] ⟨l + 3, 21, l + 3, 119⟩) ⟨l + 3, 8, l + 3, 119⟩,
   .Assign [.Name "_law_found" ⟨l + 4, 8, l + 4, 18⟩] (.Tuple [.Constant (.str "refused") 0 ⟨l + 4, 22, l + 4, 31⟩, .UnaryOp .USub (.Constant (.int 1) 0 ⟨l + 4, 34, l + 4, 35⟩) ⟨l + 4, 33, l + 4, 35⟩] 0 ⟨l + 4, 21, l + 4, 36⟩) ⟨l + 4, 8, l + 4, 36⟩,
   .If (.BoolOp .And [isE "ValueError" ⟨l + 5, 11, l + 5, 21⟩ ⟨l + 5, 22, l + 5, 23⟩ ⟨l + 5, 25, l + 5, 35⟩ ⟨l + 5, 11, l + 5, 36⟩,
       .Compare (.Call (.Attribute (.Name "_law_kinds" ⟨l + 5, 41, l + 5, 51⟩) "count" ⟨l + 5, 41, l + 5, 57⟩) [.Constant (.bool true) 0 ⟨l + 5, 58, l + 5, 62⟩] [] ⟨l + 5, 41, l + 5, 63⟩) [.Eq] [.Constant (.int 1) 0 ⟨l + 5, 67, l + 5, 68⟩] ⟨l + 5, 41, l + 5, 68⟩] ⟨l + 5, 11, l + 5, 68⟩)
     [.Assign [.Name "_law_found" ⟨l + 6, 12, l + 6, 22⟩] (.Tuple [.Constant (.str "refused") 0 ⟨l + 6, 26, l + 6, 35⟩, .Call (.Attribute (.Name "_law_kinds" ⟨l + 6, 37, l + 6, 47⟩) "index" ⟨l + 6, 37, l + 6, 53⟩) [.Constant (.bool true) 0 ⟨l + 6, 54, l + 6, 58⟩] [] ⟨l + 6, 37, l + 6, 59⟩] 0 ⟨l + 6, 25, l + 6, 60⟩) ⟨l + 6, 12, l + 6, 60⟩] [] ⟨l + 5, 8, l + 6, 60⟩]
def toldBody (l : Nat) : List Stmt :=
  [.Try [.Assign [.Name "_law_found" ⟨l + 1, 8, l + 1, 18⟩] (.Tuple [.Constant (.str "told") 0 ⟨l + 1, 22, l + 1, 28⟩, .Call (.Name "_law_deed" ⟨l + 1, 30, l + 1, 39⟩) [] [] ⟨l + 1, 30, l + 1, 41⟩] 0 ⟨l + 1, 21, l + 1, 42⟩) ⟨l + 1, 8, l + 1, 42⟩]
     [.ExceptHandler (some (.Name "DialError" ⟨l + 2, 11, l + 2, 20⟩)) (some "e") (toldSuite l) ⟨l + 2, 4, l + 6, 60⟩] [] [] ⟨l, 4, l + 6, 60⟩,
   .Return (some (.Name "_law_found" ⟨l + 7, 11, l + 7, 21⟩)) ⟨l + 7, 4, l + 7, 21⟩]
def toldNames : List (Str × NameKind) := [("_law_deed", .local), ("_law_found", .local), ("e", .local), ("_law_kinds", .local), ("DialError", .globalImplicit), ("isinstance", .globalImplicit), ("NoNumber", .globalImplicit), ("Crossing", .globalImplicit), ("NoFigure", .globalImplicit), ("NoText", .globalImplicit), ("ValueError", .globalImplicit)]
def toldSc : Scope := { kind := .function, names := toldNames, isGenerator := false, isCoroutine := false, more := [] }
def toldN : List Str := ["_law_deed", "_law_found", "e", "_law_kinds"]
/-- the four classes, and what is known of them -/
structure ToldK (C : Cfg) (K : PySem.W.Frag) (mg : Str → Option Value) (D : Addr) (x : Nat → Addr) : Prop where
  mD : mg "DialError" = some (.ref D)
  m0 : mg "NoNumber" = some (.ref (x 0))
  m1 : mg "Crossing" = some (.ref (x 1))
  m2 : mg "NoFigure" = some (.ref (x 2))
  m3 : mg "NoText" = some (.ref (x 3))
  mi : mg "isinstance" = none
  mV : mg "ValueError" = none
  em : ∀ i, i < 4 → PySem.W.exmOne K (.ref (x i)) (.ref D) = some true
  ec : ∀ i, i < 4 → ExcC K (x i)
  kit : ∀ i, i < 4 → ∀ j, j < 4 → PySem.W.kitOne K (.ref (x i)) (.ref (x j)) = some (decide (i = j))
  kv : ∀ i, i < 4 → PySem.W.kitOne K (.ref (x i)) (.type "ValueError") = some true
  cls : ∀ i, i < 4 → C.cls i = .ref (x i)
section
variable {X : Cx} {C : Cfg} {D : Addr} {x : Nat → Addr} {l : Nat}
/-- the context of the clause, as the def's names lie -/
structure ToldX (X : Cx) : Prop where
  N : X.N = toldN
  sc : X.env.scope.names = toldNames
  un : X.A.units + 64 < cLine
theorem ToldX.gl (t : ToldX X) {y : Str} (h : toldNames.lookup y = some .globalImplicit) : Gl X y := by
  show X.env.scope.names.lookup y = _
  rw [t.sc]; exact h
theorem ToldX.loc (t : ToldX X) {y : Str} (h : toldNames.lookup y = some .local) : X.env.scope.names.lookup y = some .local := by
  rw [t.sc]; exact h
theorem ToldX.nd (t : ToldX X) : X.N.Nodup := by rw [t.N]; decide +kernel
theorem ToldX.at (t : ToldX X) (i : Nat) {y : Str} (h : toldN[i]? = some y) : X.N[i]? = some y := by rw [t.N]; exact h
/-- isinstance(e, y), y a class of the four -/
theorem pe_isE {a : Addr} {i j : Nat} {y : Str} {p1 p2 p3 p4 : Pos} (tx : ToldX X) (hI : CallR X (.builtin "isinstance") (rIsE X.K (x i) a)) (mi : X.mg "isinstance" = none) (my : X.mg y = some (.ref (x j))) (hy : toldNames.lookup y = some .globalImplicit) (hd : (y == ("__debug__" : Str)) = false) {b : Bool} (hk : PySem.W.kitOne X.K (.ref (x i)) (.ref (x j)) = some b) :
    PE X (isE y p1 p2 p3 p4) (fun σ H Q => σ[2]? = some (some (.ref a)) ∧ Q (.bl b) H) := by
  refine peW (pe_callB hI (tx.gl (by decide +kernel)) mi (by decide +kernel) (pa_cons (pe_var (i := 2) (tx.at 2 (by decide +kernel)) (.inl (tx.loc (by decide +kernel)))) (pa_cons (pe_glob (v := .ref (x j)) (tx.gl hy) my rfl hd) pa_nil)) (by decide +kernel) (by decide +kernel)) fun σ H Q q => ?_
  exact ⟨.ref a, q.1, .ref (x j), .ref (x j), b, rfl, fun u h => h, hk, q.2⟩
theorem pe_isV {a : Addr} {i : Nat} {p1 p2 p3 p4 : Pos} (tx : ToldX X) (hI : CallR X (.builtin "isinstance") (rIsE X.K (x i) a)) (mi : X.mg "isinstance" = none) (my : X.mg "ValueError" = none) (hk : PySem.W.kitOne X.K (.ref (x i)) (.type "ValueError") = some true) :
    PE X (isE "ValueError" p1 p2 p3 p4) (fun σ H Q => σ[2]? = some (some (.ref a)) ∧ Q (.bl true) H) := by
  refine peW (pe_callB hI (tx.gl (by decide +kernel)) mi (by decide +kernel) (pa_cons (pe_var (i := 2) (tx.at 2 (by decide +kernel)) (.inl (tx.loc (by decide +kernel)))) (pa_cons (pe_bltn (v := .ty "ValueError") (tx.gl (by decide +kernel)) my (by decide +kernel) rfl) pa_nil)) (by decide +kernel) (by decide +kernel)) fun σ H Q q => ?_
  exact ⟨.ref a, q.1, .ty "ValueError", .type "ValueError", true, rfl, fun u h => h, hk, q.2⟩
theorem ToldX.ownX (t : ToldX X) {y : Str} (h : toldNames.lookup y = some .local) : X.fn y = true ∨ X.env.scope.names.lookup y = some .local := .inr (t.loc h)
/-- which of the four -/
def kindsD (i : Nat) : List Ev.D := [.bl (decide (i = 0)), .bl (decide (i = 1)), .bl (decide (i = 2)), .bl (decide (i = 3))]
def kindsV (i : Nat) : List V := [.bl (decide (i = 0)), .bl (decide (i = 1)), .bl (decide (i = 2)), .bl (decide (i = 3))]
theorem kinds_reps (K : PySem.W.Frag) (H : Hp) (i : Nat) : Reps K H (kindsV i) (kindsD i) := .cons (.bl _) (.cons (.bl _) (.cons (.bl _) (.cons (.bl _) .nil)))
theorem kinds_count (i : Nat) (h : i < 4) : mtD .count (.lst (kindsD i)) (.bl true) = .ok (.int 1) := by
  have : i = 0 ∨ i = 1 ∨ i = 2 ∨ i = 3 := by omega
  rcases this with rfl | rfl | rfl | rfl <;> rfl
theorem kinds_index (i : Nat) (h : i < 4) : mtD .index (.lst (kindsD i)) (.bl true) = .ok (.int (i : Nat)) := by
  have : i = 0 ∨ i = 1 ∨ i = 2 ∨ i = 3 := by omega
  rcases this with rfl | rfl | rfl | rfl <;> rfl
theorem trO_nil (H : Hp) : TrO [] H := fun a h => by simp at h
theorem told_suite {a : Addr} {i : Nat} (tx : ToldX X) (tk : ToldK C X.K X.mg D x) (hi : i < 4) (hI : CallR X (.builtin "isinstance") (rIsE X.K (x i) a)) :
    PSs X (toldSuite l) (fun E σ H => σ[2]? = some (some (.ref a)) ∧ σ.length = 4 ∧ ∀ k p H2, Ext C.T H H2 → H2 p = none → E.nx ((σ.set 3 (some (.ref k))).set 1 (some (.ref p))) (upd H2 p (.tup [.str "refused", .int (i : Nat)]))) := by
  have is0 := fun p1 p2 p3 p4 => pe_isE (p1 := p1) (p2 := p2) (p3 := p3) (p4 := p4) tx hI tk.mi tk.m0 (by decide +kernel) (by decide +kernel) (tk.kit i hi 0 (by decide))
  have is1 := fun p1 p2 p3 p4 => pe_isE (p1 := p1) (p2 := p2) (p3 := p3) (p4 := p4) tx hI tk.mi tk.m1 (by decide +kernel) (by decide +kernel) (tk.kit i hi 1 (by decide))
  have is2 := fun p1 p2 p3 p4 => pe_isE (p1 := p1) (p2 := p2) (p3 := p3) (p4 := p4) tx hI tk.mi tk.m2 (by decide +kernel) (by decide +kernel) (tk.kit i hi 2 (by decide))
  have is3 := fun p1 p2 p3 p4 => pe_isE (p1 := p1) (p2 := p2) (p3 := p3) (p4 := p4) tx hI tk.mi tk.m3 (by decide +kernel) (by decide +kernel) (tk.kit i hi 3 (by decide))
  have isV := fun p1 p2 p3 p4 => pe_isV (p1 := p1) (p2 := p2) (p3 := p3) (p4 := p4) tx hI tk.mi tk.mV (tk.kv i hi)
  have kinds : ∀ p, PE X (.Name "_law_kinds" p) (tVar 3) := fun p => pe_var (i := 3) (tx.at 3 (by decide +kernel)) (.inl (tx.loc (by decide +kernel))) (by decide +kernel) (by decide +kernel)
  have st1 := fun p1 p2 p3 => ps_set (pos := p1) (pos' := p2) (i := 3) (x := "_law_kinds") tx.nd (tx.at 3 (by decide +kernel)) (.inl (tx.loc (by decide +kernel)))
    (pe_lst (pos := p3) (pa_cons (is0 ⟨l + 3, 22, l + 3, 32⟩ ⟨l + 3, 33, l + 3, 34⟩ ⟨l + 3, 36, l + 3, 44⟩ ⟨l + 3, 22, l + 3, 45⟩) (pa_cons (is1 ⟨l + 3, 47, l + 3, 57⟩ ⟨l + 3, 58, l + 3, 59⟩ ⟨l + 3, 61, l + 3, 69⟩ ⟨l + 3, 47, l + 3, 70⟩) (pa_cons (is2 ⟨l + 3, 72, l + 3, 82⟩ ⟨l + 3, 83, l + 3, 84⟩ ⟨l + 3, 86, l + 3, 94⟩ ⟨l + 3, 72, l + 3, 95⟩) (pa_cons (is3 ⟨l + 3, 97, l + 3, 107⟩ ⟨l + 3, 108, l + 3, 109⟩ ⟨l + 3, 111, l + 3, 117⟩ ⟨l + 3, 97, l + 3, 118⟩) pa_nil)))))
    rfl (tx.ownX (by decide +kernel))
  have st2 := fun p1 p2 p3 p4 p5 p6 => ps_set (pos := p1) (pos' := p2) (i := 1) (x := "_law_found") tx.nd (tx.at 1 (by decide +kernel)) (.inl (tx.loc (by decide +kernel)))
    (pe_tup (pos := p3) (x1 := 0) (pa_cons (pe_str (x := "refused") (j := 0) (pos := p4)) (pa_cons (pe_un (pos := p5) un_neg (pe_int (i := 1) (j := 0) (pos := p6))) pa_nil))) rfl (tx.ownX (by decide +kernel))
  have cnt := fun p1 p2 p3 p4 (h : (p2.endLine == p3.line) = true) => pe_bm (name := "count") (apos := p2) (cpos := p3) PySem.F.plainAttrs_list PySem.F.slot_list_count PySem.F.type_list_count (mt_countD (T := C.T) tx.un) (kinds p1) (pa_cons (pe_bl (b := true) (j := 0) (pos := p4)) pa_nil) rfl rfl h rfl rfl
  have idx := fun p1 p2 p3 p4 (h : (p2.endLine == p3.line) = true) => pe_bm (name := "index") (apos := p2) (cpos := p3) PySem.F.plainAttrs_list PySem.F.slot_list_index PySem.F.type_list_index (mt_indexD (T := C.T) tx.un) (kinds p1) (pa_cons (pe_bl (b := true) (j := 0) (pos := p4)) pa_nil) rfl rfl h rfl rfl
  have tst := fun p1 p2 p3 p4 (h : (p2.endLine == p3.line) = true) p5 p6 => pt_cmpR (pos := p6) op_eq (cnt p1 p2 p3 p4 h) (pe_int (i := 1) (j := 0) (pos := p5)) (nomark _)
  have st3 := fun p1 p2 p3 p4 p5 p6 => ps_set (pos := p1) (pos' := p2) (i := 1) (x := "_law_found") tx.nd (tx.at 1 (by decide +kernel)) (.inl (tx.loc (by decide +kernel)))
    (pe_tup (pos := p3) (x1 := 0) (pa_cons (pe_str (x := "refused") (j := 0) (pos := p4)) (pa_cons (idx p5 ⟨l + 6, 37, l + 6, 53⟩ ⟨l + 6, 37, l + 6, 59⟩ p6 (beq_self_eq_true _)) pa_nil))) rfl (tx.ownX (by decide +kernel))
  refine pssW (pss_cons (st1 ⟨l + 3, 8, l + 3, 119⟩ ⟨l + 3, 8, l + 3, 18⟩ ⟨l + 3, 21, l + 3, 119⟩) (pss_cons (st2 ⟨l + 4, 8, l + 4, 36⟩ ⟨l + 4, 8, l + 4, 18⟩ ⟨l + 4, 21, l + 4, 36⟩ ⟨l + 4, 22, l + 4, 31⟩ ⟨l + 4, 33, l + 4, 35⟩ ⟨l + 4, 34, l + 4, 35⟩)
    (pss_one (ps_if (pos := ⟨l + 5, 8, l + 6, 60⟩) (PW.pt (pw_and (pt_val (isV ⟨l + 5, 11, l + 5, 21⟩ ⟨l + 5, 22, l + 5, 23⟩ ⟨l + 5, 25, l + 5, 35⟩ ⟨l + 5, 11, l + 5, 36⟩)) (pw_and1 (tst ⟨l + 5, 41, l + 5, 51⟩ ⟨l + 5, 41, l + 5, 57⟩ ⟨l + 5, 41, l + 5, 63⟩ ⟨l + 5, 58, l + 5, 62⟩ (beq_self_eq_true _) ⟨l + 5, 67, l + 5, 68⟩ ⟨l + 5, 41, l + 5, 68⟩))))
      (pss_one (st3 ⟨l + 6, 12, l + 6, 60⟩ ⟨l + 6, 12, l + 6, 22⟩ ⟨l + 6, 25, l + 6, 60⟩ ⟨l + 6, 26, l + 6, 35⟩ ⟨l + 6, 37, l + 6, 47⟩ ⟨l + 6, 54, l + 6, 58⟩)) pss_nil)))) fun E σ H q => ?_
  obtain ⟨h2, hl, q⟩ := q
  -- the kinds
  refine ⟨h2, h2, h2, h2, (show 4 ≤ sizeLine by decide), fun k hk => ?_⟩
  -- the first answer
  have len4 : ∀ v, (σ.set 3 v).length = 4 := fun v => by rw [List.length_set]; exact hl
  refine ⟨1, rfl, (show 2 ≤ sizeLine by decide), fun p1 hp1 => ?_⟩
  obtain ⟨H1, hH1⟩ : ∃ H1, H1 = upd (upd H k (.lst (kindsV i))) p1 (.tup [.str "refused", .int (-1)]) := ⟨_, rfl⟩
  have nkp : k ≠ p1 := ne_of_none (show upd H k (.lst (kindsV i)) k = some _ from upd_same) hp1
  have hk1 : H1 k = some (.lst (kindsV i)) := by rw [hH1, upd_ne nkp, upd_same]
  have e01 : Ext C.T H H1 := by
    rw [hH1]
    exact (Ext.new hk).trans (Ext.new hp1)
  obtain ⟨σ1, hσ1⟩ : ∃ σ1, σ1 = (σ.set 3 (some (V.ref k))).set 1 (some (.ref p1)) := ⟨_, rfl⟩
  have s2 : σ1[2]? = some (some (.ref a)) := by rw [hσ1]; simp [h2]
  have s3 : σ1[3]? = some (some (.ref k)) := by rw [hσ1]; simp [hl]
  have rk : RepB X.K [] H1 (.ref k) (.lst (kindsD i)) := ⟨k, kindsV i, rfl, .inl (.inl hk1), kinds_reps _ _ _⟩
  have rb : ∀ H, RepB X.K [] H (.bl true) (.bl true) := fun H => Rep.bl true
  have fin : ∀ (p : Addr) (H2 : Hp), Ext C.T H1 H2 → H2 p = none → E.nx (σ1.set 1 (some (.ref p))) (upd H2 p (.tup [.str "refused", .int (i : Nat)])) := fun p H2 e h => by
    have := q k p H2 (e01.trans e) h
    rw [hσ1, List.set_set]
    exact this
  have fi : ∀ (H2 : Hp), Ext C.T H1 H2 → ∀ (Q : List V → Hp → Prop), (∀ H', Ext C.T H2 H' → Q [.int (i : Nat)] H') → (tCons (tBM X.K "list" (RM X.K C.T (mtD .index)) (tVar 3) (tCons (tC (V.bl true)) tNil)) tNil) σ1 H2 Q := fun H2 e2 Q hQ => by
    have rk2 := rk.ext e2.1
    refine ⟨.ref k, s3, tyV_lst rk2, [], .lst (kindsD i), .bl true, .bl true, .int (i : Nat), rfl, trO_nil _, rk2, rb _, kinds_index i hi, fun v H' e rv => ?_⟩
    cases rv
    exact hQ H' e
  have ft : ∀ (Q : Bool → Hp → Prop), (∀ H', Ext C.T H1 H' → Q true H') → tTest (tOp rEq (tBM X.K "list" (RM X.K C.T (mtD .count)) (tVar 3) (tCons (tC (V.bl true)) tNil)) (tC (V.int 1))) σ1 H1 Q := fun Q hQ => by
    refine ⟨.ref k, s3, tyV_lst rk, [], .lst (kindsD i), .bl true, .bl true, .int 1, rfl, trO_nil _, rk, rb _, kinds_count i hi, fun v H' e rv => ?_⟩
    cases rv
    exact ⟨rfl, true, rfl, hQ H' e⟩
  have body : ∀ H2, Ext C.T H1 H2 → tAsg (tTup (tCons (tC (V.str "refused")) (tCons (tBM X.K "list" (RM X.K C.T (mtD .index)) (tVar 3) (tCons (tC (V.bl true)) tNil)) tNil))) (gName 1) E σ1 H2 := fun H2 e2 =>
    fi H2 e2 (fun xs H3 => (V.str "refused" :: xs).length ≤ sizeLine ∧ ∀ p, H3 p = none → E.nx (σ1.set 1 (some (.ref p))) (upd H3 p (.tup (V.str "refused" :: xs)))) fun H3 e3 => ⟨(show 2 ≤ sizeLine by decide), fun p hp => fin p _ (e2.trans e3) hp⟩
  subst hσ1
  subst hH1
  exact ⟨s2, true, rfl, ft _ fun H2 e2 => body H2 e2⟩
end
/-- told: the answer, or which of the four refused -/
def TTold (C : Cfg) (x : Nat → Addr) : (XK → Hp → VK → Prop) → Hp → VK → Prop := fun tl H Q =>
  tl (fun cls d H' => ∃ i, i < 4 ∧ cls = .ref (x i) ∧ d = none ∧ ∀ p H2, Ext C.T H' H2 → H2 p = none → Q (.ref p) (upd H2 p (.tup [.str "refused", .int (i : Nat)]))) H
    (fun v H' => ∀ p, H' p = none → Q (.ref p) (upd H' p (.tup [.str "told", v])))
theorem told_gives {X : Cx} {C : Cfg} {D : Addr} {x : Nat → Addr} {l : Nat} {g : Addr} {cdg : Value} {q : Str} (tk : ToldK C X.K X.mg D x) (hu : X.A.units + 96 < cLine) : LamX.GivesTo X toldN "_law_told" toldSc g cdg (toldBody l) "_law_deed" q (TTold C x) := by
  intro f c' s H Q tl act hc h
  have tx : ∀ (pn : List (Addr × Obj)) (xe : Value → Shared → Prop), ToldX ((cxOf C8.CX0 X.prog X.w X.K X.mg X.base toldN "_law_told" toldSc g cdg X.A X.stack s H C8.E0).tr pn xe) := fun pn xe => ⟨rfl, rfl, by show X.A.units + 3 + 64 < cLine; omega⟩
  have tx0 : ToldX (cxOf C8.CX0 X.prog X.w X.K X.mg X.base toldN "_law_told" toldSc g cdg X.A X.stack s H C8.E0).nox := ⟨rfl, rfl, by show X.A.units + 3 + 64 < cLine; omega⟩
  have txs : ∀ (a : Addr) (pn : List (Addr × Obj)), ToldX ((cxOf C8.CX0 X.prog X.w X.K X.mg X.base toldN "_law_told" toldSc g cdg X.A X.stack s H C8.E0).nox.suite a pn) := fun a pn => ⟨rfl, rfl, by show X.A.units + 3 + 64 < cLine; omega⟩
  let E1 : XK := fun cls d H' => ∃ i, i < 4 ∧ cls = .ref (x i) ∧ d = none ∧ ∀ p H2, Ext C.T H' H2 → H2 p = none → Q (.ref p) (upd H2 p (.tup [.str "refused", .int (i : Nat)]))
  let tb : WX → TS := fun W E σ H => ∃ Ech : XK, (∀ cls d σ' H', Ech cls d H' → W cls d σ' H') ∧ σ[0]? = some (some (.ref f)) ∧ H c' = some (LamX.CodeO c' q) ∧
    tl Ech H (fun v H1 => [V.str "told", v].length ≤ sizeLine ∧ ∀ p, H1 p = none → E.nx (σ.set 1 (some (.ref p))) (upd H1 p (.tup [.str "told", v])))
  let ts : Addr → Value → Option Addr → TS := fun a cls d E σ H => (∃ σ' : L2.St, σ = σ'.set 2 (some (.ref a))) ∧ ∃ i, i < 4 ∧ cls = .ref (x i) ∧ d = none ∧ ∀ σ2 p H2, σ2[1]? = some (some (V.ref p)) → Ext C.T H H2 → H2 p = none → E.nx σ2 (upd H2 p (.tup [.str "refused", .int (i : Nat)]))
  refine ⟨_, pss_cons (ps_try_as (X := (cxOf C8.CX0 X.prog X.w X.K X.mg X.base toldN "_law_told" toldSc g cdg X.A X.stack s H C8.E0).nox) (c := .ref D) (n := "e") (i := 2) (tb := tb) (ts := ts) (Wout := fun _ _ _ _ => False) rfl rfl tx0.nd (tx0.at 2 (by decide +kernel)) (tx0.loc (by decide +kernel)) ⟨tx0.gl (by decide +kernel), by decide +kernel, .inl tk.mD⟩ LamX.takes0
    (fun W pn xe hW _ => ⟨fun pins s' σ H' E I h' => ?_⟩) (fun a oe cls d pn hz hf => ⟨fun pins s' σ H' E I h' => ?_⟩)) (pss_one (ps_ret (pe_var (i := 1) (x := "_law_found") (tx0.at 1 (by decide +kernel)) (.inl (tx0.loc (by decide +kernel))) (by decide +kernel) (by decide +kernel)))), ?_⟩
  · obtain ⟨Ech, hE, h1, h2, h3⟩ := h'
    have hp := act W pn xe Ech ⟨l + 1, 30, l + 1, 39⟩ ⟨l + 1, 30, l + 1, 41⟩ hW hE
    have t := tx pn xe
    have st := ps_set (pos := ⟨l + 1, 8, l + 1, 42⟩) (pos' := ⟨l + 1, 8, l + 1, 18⟩) (i := 1) (x := "_law_found") t.nd (t.at 1 (by decide +kernel)) (.inl (t.loc (by decide +kernel)))
      (pe_tup (pos := ⟨l + 1, 21, l + 1, 42⟩) (x1 := 0) (pa_cons (pe_str (x := "told") (j := 0) (pos := ⟨l + 1, 22, l + 1, 28⟩)) (pa_cons hp pa_nil))) rfl (t.ownX (by decide +kernel))
    exact (pss_one st).run pins s' σ H' E I ⟨h1, h2, h3⟩
  · obtain ⟨⟨σ', rfl⟩, i, hi, rfl, rfl, q'⟩ := h'
    have hlen : (σ'.set 2 (some (V.ref a))).length = 4 := I.len
    have hlen' : σ'.length = 4 := by rw [List.length_set] at hlen; exact hlen
    refine (told_suite (C := C) (l := l) (txs a _) tk hi (call_isE (tk.ec i hi) hz hf)).run pins s' _ H' E I ⟨by simp [hlen'], hlen, fun k p H2 e hp => q' _ p H2 ?_ e hp⟩
    simp [hlen']
  · refine ⟨E1, fun cls d σ' H' ⟨i, hi, e1, e2, hq⟩ => ⟨true, by rw [e1]; exact tk.em i hi, fun _ a ha => ⟨⟨σ', rfl⟩, i, hi, e1, e2, fun σ2 p H2 h1 e hp => ⟨.ref p, ?_, hq p H2 e hp⟩⟩, fun z => (nomatch z)⟩, rfl, hc, ?_⟩
    · rw [List.getElem?_set_ne (by decide)]; exact h1
    · have e : (fun (v : V) (H1 : Hp) => [V.str "told", v].length ≤ sizeLine ∧ ∀ p, H1 p = none → tRet (tVar 1) { nx := fun _ H' => Q .non H', rt := Q } ((L2.start toldN [.ref f]).set 1 (some (.ref p))) (upd H1 p (.tup [.str "told", v]))) = (fun v H' => ∀ p, H' p = none → Q (.ref p) (upd H' p (.tup [.str "told", v]))) := by
        funext v H1
        refine propext ⟨fun ⟨_, z⟩ p hp => ?_, fun z => ⟨(show 2 ≤ sizeLine by decide), fun p hp => ⟨.ref p, rfl, z p hp⟩⟩⟩
        obtain ⟨u, h1, h2⟩ := z p hp
        have : u = V.ref p := by
          have h1 : some (some (V.ref p)) = some (some u) := h1
          exact (Option.some.inj (Option.some.inj h1)).symm
        rw [← this]; exact h2
      show tl E1 H (fun (v : V) (H1 : Hp) => [V.str "told", v].length ≤ sizeLine ∧ ∀ p, H1 p = none → tRet (tVar 1) { nx := fun _ H' => Q .non H', rt := Q } ((L2.start toldN [.ref f]).set 1 (some (.ref p))) (upd H1 p (.tup [.str "told", v])))
      rw [e]
      exact h
end Ev

/-! EvLam: x(lambda: e), x a def that calls what it is handed. -/
namespace Ev
open PySem PySem.Spec PyProof.Rows L2
/-- what is known of a def x that calls what it is handed -/
def LamAt (C : Cfg) (K : PySem.W.Frag) (mg : Str → Option Value) (x : Str) (g : Nat) : Prop :=
  ∃ (ga : Addr) (a : Str) (pg : Arguments) (bg : List Stmt) (sg : Scope) (Ng : List Str) (kV doc pm cdv ct oc : Value) (an od : Option Addr) (osl : Array (Option Value)) (E1 : VK → XK) (Qn : VK → VK),
    mg x = some (.ref ga) ∧ PySem.W.keepIn K (.ref ga) = true ∧ K.lookup ga = some ⟨oc, od, .func (PySem.W.fnOf x x pg bg sg .none kV doc pm an cdv ct), osl⟩ ∧ PySem.W.codeIn K cdv x = true ∧ L2.Binds K (PySem.W.fnOf x x pg bg sg .none kV doc pm an cdv ct) [a] [] ∧
    FnScope Ng [a] sg ∧ Ng[0]? = some a ∧ Vis sg a ∧ (a == ("__debug__" : Str)) = false ∧ (a == ("__classdict__" : Str)) = false ∧
    (∀ (X : Cx) (q : Str), X.K = K → X.mg = mg → X.A.units + 96 < cLine → LamX.GivesTo X Ng x sg ga cdv bg a q fun tl H Q => tl (E1 Q) H (Qn Q)) ∧
    ∀ (W : Nat → Hp → Prop) (O : List Addr) (H H1 : Hp) (Q : VK) (r : R D), PostG C W H (goodV K O Q) (toldD g r) → Ext C.T H H1 → TrO O H1 → PostG C (fun c H' => E1 Q (C.cls c) none H') H1 (goodV K O (Qn Q)) r
section
variable {C : Cfg} {Γ : Gam} {T : Tbl} {n : Nat} {X : Cx} {W : Nat → Hp → Prop}
theorem lamS_of (g : Good0 C Γ T n X W) {scope : Scope} (h : lamScope Γ scope = true) : LamX.LamS X.env.scope scope := by
  unfold lamScope at h
  simp only [Bool.and_eq_true, Bool.not_eq_true', decide_eq_true_eq, decide_eq_false_iff_not, List.all_eq_true, Bool.or_eq_true] at h
  obtain ⟨⟨⟨⟨h1, h2⟩, h3⟩, h4⟩, h5⟩ := h
  refine ⟨h1, h2, h3, fun y hy => (h5 y hy).1, fun y hy e => ?_⟩
  rcases (h5 y hy).2 with z | z
  · exact absurd e z
  · refine g.cf y.1 ?_
    split at z
    · exact .inl (by assumption)
    · exact .inr (by assumption)
    · cases z
theorem lamF_of (g : Good0 C Γ T (n + 2) X W) (hl : ∀ p ∈ Γ.lam, LamAt C X.K X.mg p.1 p.2)
    (hc : ∃ c P, X.env.code = .ref c ∧ LamX.TabB X.base X.mg c P ∧ (P, X.env.qual ++ "<lambda>") ∈ C.T ∧ ∀ p ∈ C.T, p.1 = P → p.2 = X.env.qual ++ "<lambda>")
    (hf : ∀ p ∈ Γ.fn, ∃ a fd ps, X.mg p.1 = some (.ref a) ∧ PySem.W.keepIn X.K (.ref a) = true ∧ Binds X.K fd ps [] ∧ FnOk X.prog X.w X.K X.mg X.base (L2.CX X.prog X.w) n a fd ps (spOf C X.K (T 2 p.2))) : LamF C Γ T (n + 2) X W := by
  intro gk x p lpos pos ps body scope f hok hps hsc hbody
  unfold lamOk okName at hok
  simp only [Bool.and_eq_true, Bool.not_eq_true', List.contains_iff_mem] at hok
  obtain ⟨⟨⟨hlm, hgl⟩, hx1, hx2⟩, hmem⟩ := hok
  obtain ⟨ga, a, pg, bg, sg, Ng, kV, doc, pm, cdv, ct, oc, an, od, osl, E1, Qn, m1, m2, m3, m4, m5, m6, m7, m8, m9, m10, hG, hR⟩ := hl (x, gk) hmem
  obtain ⟨c, P, c1, c2, c3, c4⟩ := hc
  have L := lamS_of g hsc
  have hps' : ps = ⟨[], [], none, [], [], none, []⟩ := by
    unfold noParams at hps
    split at hps
    · rfl
    · cases hps
  have un := g.room.un
  refine peW (LamX.pe_lamcall (T := C.T) (TT := fun tl H Q => tl (E1 Q) H (Qn Q)) (t := fun E => rdE X C (fun c H' => E (C.cls c) none H') f) (g.gl x hgl) m1 m2 m3 m4 m5 m6 m7 m8 (hG X _ rfl rfl (by omega)) c2 c1 c3 c4 g.room L (by rw [hps']; rfl) (fun q cl pm cv ctv => by rw [hps']; rfl) (fun A outer s H E fa c' hr => ?_) hx1 m9 m10) fun σ H Q q => ?_
  · have look : ∀ y k, scope.names.lookup y = some k → (LamX.lamCx X A outer s H E scope fa c').env.scope.names.lookup y = some k := fun y k h => h
    refine hbody (LamX.lamCx X A outer s H E scope fa c') (fun c H' => E (C.cls c) none H') {
      N := g.N, nd := g.nd, vis := fun y hy => ?_, st := fun y hy => ?_, gl := fun y hy => ?_, cf := fun y hy => hy, lo := fun y hy => hy, calm := rfl, room := hr, bi := g.bi, gd := g.gd, fn := hf, exc := g.exc,
      takes := (takes_of rfl rfl rfl rfl).imp fun cls d σ H' ⟨c, e1, e2, h⟩ => by rw [e1, e2]; exact h }
    · unfold visB at hy
      have hy : (match scope.names.lookup y with | some .local => true | some .cell => true | some .free => true | _ => false) = true := hy
      split at hy
      · rename_i e; exact .inl (look y _ e)
      · rename_i e; exact .inr (.inl (look y _ e))
      · rename_i e; exact .inr (.inr (look y _ e))
      · cases hy
    · unfold stB at hy
      have hy : (match scope.names.lookup y with | some .local => true | some .cell => false | _ => false) = true := hy
      split at hy
      · rename_i e; exact ⟨.inl (look y _ e), .inr (look y _ e)⟩
      · cases hy
      · cases hy
    · unfold glB at hy
      have hy : (match scope.names.lookup y with | some .globalImplicit => true | _ => false) = true := hy
      split at hy
      · rename_i e; exact look y _ e
      · cases hy
  · obtain ⟨O, ρ, r, pg⟩ := q
    refine ⟨r.tab, fun H1 e1 t1 => ⟨O, ρ, r.ext ⟨e1, fun _ => t1⟩, hR W O H H1 Q (f ρ) pg ⟨e1, fun _ => t1⟩ (r.ext ⟨e1, fun _ => t1⟩).tr⟩⟩
end
theorem told_scope : FnScope toldN ["_law_deed"] toldSc := C8.fnScope_by (by decide +kernel)
/-- told is such a def -/
theorem lam_told {C : Cfg} {K : PySem.W.Frag} {mg : Str → Option Value} {ga D : Addr} {x : Nat → Addr} {l : Nat} {pg : Arguments} {kV doc pm cdv ct oc : Value} {an od : Option Addr} {osl : Array (Option Value)} (tk : ToldK C K mg D x) (m1 : mg "_law_told" = some (.ref ga)) (m2 : PySem.W.keepIn K (.ref ga) = true)
    (m3 : K.lookup ga = some ⟨oc, od, .func (PySem.W.fnOf "_law_told" "_law_told" pg (toldBody l) toldSc .none kV doc pm an cdv ct), osl⟩) (m4 : PySem.W.codeIn K cdv "_law_told" = true)
    (m5 : L2.Binds K (PySem.W.fnOf "_law_told" "_law_told" pg (toldBody l) toldSc .none kV doc pm an cdv ct) ["_law_deed"] []) : LamAt C K mg "_law_told" 0 := by
  refine ⟨ga, "_law_deed", pg, toldBody l, toldSc, toldN, kV, doc, pm, cdv, ct, oc, an, od, osl,
    fun Q cls d H' => ∃ i, i < 4 ∧ cls = .ref (x i) ∧ d = none ∧ ∀ p H2, Ext C.T H' H2 → H2 p = none → Q (.ref p) (upd H2 p (.tup [.str "refused", .int (i : Nat)])),
    fun Q v H' => ∀ p, H' p = none → Q (.ref p) (upd H' p (.tup [.str "told", v])), m1, m2, m3, m4, m5, told_scope, by decide +kernel, .inl (by decide +kernel), by decide +kernel, by decide +kernel, ?_, ?_⟩
  · intro X q hK hmg hu
    subst hK
    subst hmg
    exact told_gives tk hu
  · intro W O H H1 Q r hp he tr
    cases r with
    | no => exact hp
    | ok d =>
      intro H' e' v rv p hn
      have hp : ∀ H', Ext C.T H H' → ∀ v, Rep K (Hm O H') v (.tup [.str [116, 111, 108, 100], d]) → Q v H' := hp
      refine hp _ ((he.trans e').trans (Ext.new hn)) _ ?_
      have tr' : TrO O H' := tr.ext e'.1
      exact new_tup tr' hn (.cons (.str [116, 111, 108, 100]) (.cons rv .nil))
    | ex c =>
      have hp : PostG C W H (goodV K O Q) (if c < 4 then .ok (.tup [.str [114, 101, 102, 117, 115, 101, 100], .int (c : Nat)]) else .no) := hp
      by_cases hc : c < 4
      · rw [if_pos hc] at hp
        have hp : ∀ H', Ext C.T H H' → ∀ v, Rep K (Hm O H') v (.tup [.str [114, 101, 102, 117, 115, 101, 100], .int (c : Nat)]) → Q v H' := hp
        intro H' e'
        refine ⟨c, hc, tk.cls c hc, rfl, fun p H2 e2 h2 => hp _ (((he.trans e').trans e2).trans (Ext.new h2)) _ ?_⟩
        have tr' : TrO O H2 := (tr.ext e'.1).ext e2.1
        exact new_tup tr' h2 (.cons (.str [114, 101, 102, 117, 115, 101, 100]) (.cons (.int _) .nil))
      · rw [if_neg hc] at hp; exact hp.elim
end Ev

/-! EvAll: all defs of a row keep to their trees. -/
namespace Ev
open PySem PySem.Spec PyProof.Rows L2
/-- a row's defs: tree, text, names -/
structure Txt where
  P : Prog
  nm : Nat → Str
  st : Nat → Stmt
  ps : Nat → List Str
  G : Nat → Gam
/-- the look at one def -/
def lookB (R : Txt) (f : Nat) : Bool := match R.P f with
  | some fn => chkSs fn.body (R.G f) (defBody (R.st f)) && ((R.ps f).length == fn.ps) && ((R.G f).N.length == fn.ns) && decide ((R.G f).sc = (defScope (R.st f)).names) && (R.G f).cs &&
      C8.scC (R.G f).N (R.ps f) (defScope (R.st f)) && (R.G f).fn.all (fun p => (R.nm p.2 == p.1) && (R.P p.2).isSome)
  | none => true
/-- what a row's head tells of a class of errors -/
def ExcOk (C : Cfg) (K : PySem.W.Frag) (mg : Str → Option Value) (p : Str × Nat) : Prop := ∃ a, mg p.1 = some (.ref a) ∧ PySem.W.keepIn K (.ref a) = true ∧ PySem.W.excIn K a bmVE "ValueError.__new__" = true ∧
  PySem.W.subIn K (.ref a) (.type "BaseException") = some true ∧ PySem.W.typeIn K (.ref a) = some (.type "type") ∧ C.cls p.2 = .ref a
/-- what a row's head tells of the defs -/
structure Facts (C : Cfg) (R : Txt) (P : Program) (w : World) (K : PySem.W.Frag) (mg : Str → Option Value) : Prop where
  look : ∀ f fn, R.P f = some fn → lookB R f = true
  fn : ∀ f fn, R.P f = some fn → ∃ a fd, mg (R.nm f) = some (.ref a) ∧ L2.Fun K (R.nm f) (R.nm f) (R.st f) a fd ∧ Binds K fd (R.ps f) []
  bi : ∀ f fn, R.P f = some fn → ∀ x ∈ (R.G f).bi, mg x = none
  gd : ∀ f fn, R.P f = some fn → ∀ p ∈ (R.G f).gd, ∃ u v, mg p.1 = some u ∧ RelV v u ∧ ∀ H, Rep K H v p.2
  exc : ∀ f fn, R.P f = some fn → ∀ p ∈ (R.G f).exc, ExcOk C K mg p
theorem rel_start {K : PySem.W.Frag} {T : Tab} {O : List Addr} {H : Hp} {vs : List V} {ds : List D} {N : List Str} (tr : TrO O H) (tb : LamX.Tabs T H) (r : Reps K (Hm O H) vs ds) : Rel K T O (L2.start N vs) H (ds.map .sh ++ List.replicate (N.length - ds.length) .un) where
  len := by unfold L2.start; simp [r.length]
  sh := fun i d h => by
    have hl := r.length
    rcases Nat.lt_or_ge i ds.length with z | z
    · rw [List.getElem?_append_left (by simpa using z), List.getElem?_map] at h
      cases hd : ds[i]? with
      | none => rw [hd] at h; cases h
      | some d' =>
        rw [hd] at h
        cases h
        obtain ⟨v, h1, h2⟩ := r.get hd
        refine ⟨v, ?_, h2⟩
        unfold L2.start
        rw [List.getElem?_append_left (by simp; omega), List.getElem?_map, h1]; rfl
    · rw [List.getElem?_append_right (by simpa using z)] at h
      have := List.mem_of_getElem? h
      rw [List.mem_replicate] at this
      cases this.2
  ow := fun i s h hs => by
    have := List.mem_of_getElem? h
    rw [List.mem_append] at this
    rcases this with z | z
    · obtain ⟨d, _, rfl⟩ := List.mem_map.mp z; cases hs
    · rw [List.mem_replicate] at z
      rw [z.2] at hs; cases hs
  ne := fun i j s s' a _ h hs _ _ _ => by
    have := List.mem_of_getElem? h
    rw [List.mem_append] at this
    rcases this with z | z
    · obtain ⟨d, _, rfl⟩ := List.mem_map.mp z; cases hs
    · rw [List.mem_replicate] at z
      rw [z.2] at hs; cases hs
  tr := tr
  tab := tb
theorem sta_start {K : PySem.W.Frag} {T : Tab} {O : List Addr} {H : Hp} {vs : List V} {ds : List D} {N : List Str} (tr : TrO O H) (tb : LamX.Tabs T H) (r : Reps K (Hm O H) vs ds) : Sta K T O H O (L2.start N vs) H (ds.map .sh ++ List.replicate (N.length - ds.length) .un) where
  rel := rel_start tr tb r
  sub := fun a h => h
  new := fun a h n => absurd h n
  ext := Ext.refl _ _
  own := fun i s a h hs => by
    have := List.mem_of_getElem? h
    rw [List.mem_append] at this
    rcases this with z | z
    · obtain ⟨d, _, rfl⟩ := List.mem_map.mp z; cases hs
    · rw [List.mem_replicate] at z
      rw [z.2] at hs; cases hs
/-- the name that lambdas of the def nm bear -/
def lamQ (nm : Str) : Str := (envOfC nm toldSc 0 0 .none).qual ++ "<lambda>"
/-- what a row's head tells of the defs in which lambdas stand -/
structure LamFacts (C : Cfg) (R : Txt) (K : PySem.W.Frag) (mg : Str → Option Value) (base : Heap) : Prop where
  lam : ∀ f fn, R.P f = some fn → (R.G f).lm = true → ∀ p ∈ (R.G f).lam, LamAt C K mg p.1 p.2
  code : ∀ f fn, R.P f = some fn → (R.G f).lm = true → ∀ a fd, mg (R.nm f) = some (.ref a) → L2.Fun K (R.nm f) (R.nm f) (R.st f) a fd → ∃ c P, fd.code = .ref c ∧ LamX.TabB base mg c P ∧ (P, lamQ (R.nm f)) ∈ C.T ∧ ∀ p ∈ C.T, p.1 = P → p.2 = lamQ (R.nm f)
theorem fun_okX {P : Program} {w : World} {K : PySem.W.Frag} {mg : Str → Option Value} {base : Heap} {x qual : Str} {st : Stmt} {f : Addr} {fd : FuncData} {N ps : List Str} {k : Nat} {sp : Sp} (F : Fun K x qual st f fd) (S : FnScope N ps (defScope st)) (len : ∀ vs H Q E, sp vs H Q E → vs.length = ps.length)
    (hbody : ∀ (cdv : Value) (A : Around) (outer : List PySem.Env) (s : Shared) (H : Hp) (vs : List V) (Q : VK) (E : XK), fd.code = cdv → Room k (A.deeper (envOfC qual (defScope st) s.heap.objs.size f cdv)) → sp vs H Q E →
      ∃ t, PSs (cxOf (L2.CX P w) P w K mg base N qual (defScope st) f cdv A outer s H E) (defBody st) t ∧ t { nx := fun _ H' => Q .non H', rt := Q } (L2.start N vs) H) : FnOk P w K mg base (L2.CX P w) (k + 1) f fd ps sp := by
  obtain ⟨oc, od, kV, doc, pm, an, cdv, ct, osl, rfl, lk, hcd⟩ := F.ex
  exact L2.fn_of lk hcd S len fun A outer s H vs Q E hr hsp => hbody cdv A outer s H vs Q E rfl hr hsp
theorem fn_no {P : Program} {w : World} {K : PySem.W.Frag} {mg : Str → Option Value} {base : Heap} {CX : CXT} (C : Cfg) (k : Nat) (a : Addr) (fd : FuncData) (ps : List Str) {op : List D → R D} (h : ∀ ds, op ds = .no) : FnOk P w K mg base CX k a fd ps (spOf C K op) :=
  ⟨fun vs H Q E h' => by obtain ⟨O, ds, _, _, _, p⟩ := h'; rw [h] at p; exact p.elim, fun A outer s H args us vs Q E _ _ _ _ h' => by obtain ⟨O, ds, _, _, _, p⟩ := h'; rw [h] at p; exact p.elim⟩
/-- all defs keep to their trees, n deep -/
def AllAt (C : Cfg) (R : Txt) (P : Program) (w : World) (K : PySem.W.Frag) (mg : Str → Option Value) (base : Heap) (n : Nat) : Prop := ∀ (f : Nat) (fn : Fn) (a : Addr) (fd : FuncData), R.P f = some fn → mg (R.nm f) = some (.ref a) → L2.Fun K (R.nm f) (R.nm f) (R.st f) a fd →
    FnOk P w K mg base (L2.CX P w) (n + 2) a fd (R.ps f) (spOf C K (tbl R.P n 0 f))
theorem all_succ {C : Cfg} {R : Txt} {P : Program} {w : World} {K : PySem.W.Frag} {mg : Str → Option Value} {base : Heap} (F : Facts C R P w K mg) (LF : LamFacts C R K mg base) (n : Nat) (ih : ∀ m, m ≤ n → AllAt C R P w K mg base m) : AllAt C R P w K mg base (n + 1) := by
    intro f fn a fd hf hm hF
    have lk := F.look f fn hf
    unfold lookB at lk
    rw [hf] at lk
    simp only [Bool.and_eq_true, beq_iff_eq, decide_eq_true_eq, Bool.not_eq_true', List.all_eq_true] at lk
    obtain ⟨⟨⟨⟨⟨⟨hchk, hps⟩, hns⟩, hsc⟩, hcs⟩, hS⟩, hfn⟩ := lk
    have S := C8.fnScope_by hS
    have hrun : ∀ ds, tbl R.P (n + 1) 0 f ds = runFn fn (tbl R.P n) ds := fun ds => run_succ R.P n f ds hf
    refine fun_okX hF S (fun vs H Q E h => ?_) fun cdv A outer s H vs Q E hcdv hr h => ?_
    · obtain ⟨O, ds, _, _, r, p⟩ := h
      rw [hrun] at p
      unfold runFn at p
      split at p
      · rename_i hl
        rw [r.length, hl, hps]
      · exact p.elim
    · obtain ⟨O, ds, tr, tb, r, p⟩ := h
      rw [hrun] at p
      unfold runFn at p
      split at p
      · rename_i hl
        let X := cxOf (L2.CX P w) P w K mg base (R.G f).N (R.nm f) (defScope (R.st f)) a cdv A outer s H E
        let W : Nat → Hp → Prop := fun c H' => E (C.cls c) none H'
        have g0 : Good0 C (R.G f) (tbl R.P n) (n + 2) X W := {
          N := rfl
          nd := S.nd
          vis := fun x hx => by
            unfold visB at hx
            rw [hsc] at hx
            split at hx
            · rename_i e; exact .inl e
            · rename_i e; exact .inr (.inl e)
            · rename_i e; exact .inr (.inr e)
            · cases hx
          st := fun x hx => by
            unfold stB at hx
            rw [hsc] at hx
            split at hx
            · rename_i e; exact ⟨.inl e, .inr e⟩
            · rename_i e; exact ⟨.inr e, .inl rfl⟩
            · cases hx
          gl := fun x hx => by
            unfold glB at hx
            rw [hsc] at hx
            split at hx
            · rename_i e; exact e
            · cases hx
          cf := fun x hx => by rw [hsc] at hx; exact hx
          lo := fun x hx => by rw [hsc] at hx; exact hx
          calm := rfl
          room := hr
          bi := F.bi f fn hf
          gd := F.gd f fn hf
          fn := fun p hp => by
            obtain ⟨h1, h2⟩ := hfn p hp
            obtain ⟨fn', h2⟩ := Option.isSome_iff_exists.mp h2
            obtain ⟨a', fd', m', F', b'⟩ := F.fn p.2 fn' h2
            rw [← h1]
            exact ⟨a', fd', R.ps p.2, m', F'.kp, b', ih n (Nat.le_refl _) p.2 fn' a' fd' h2 m' F'⟩
          exc := fun p hp => by
            obtain ⟨a, h1, h2, h3, h4, h5, h6⟩ := F.exc f fn hf p hp
            exact ⟨a, h1, h2, h3, raises_own h4 h5, h6⟩
          takes := (takes_of rfl rfl rfl rfl).imp fun cls d σ H' ⟨c, e1, e2, h⟩ => by rw [e1, e2]; exact h }
        have gl : Good C (R.G f) (tbl R.P n) (n + 2) X W := { g0 with
          lam := fun hlm => by
            obtain ⟨c, PP, hc, hT, hm1, hm2⟩ := LF.code f fn hf hlm a fd hm hF
            refine lamF_of g0 (LF.lam f fn hf hlm) ⟨c, PP, by rw [← hc, hcdv]; rfl, hT, hm1, hm2⟩ fun q hq => ?_
            obtain ⟨h1, h2⟩ := hfn q hq
            obtain ⟨fn', h2⟩ := Option.isSome_iff_exists.mp h2
            obtain ⟨a', fd', m', F', b'⟩ := F.fn q.2 fn' h2
            rw [← h1]
            refine ⟨a', fd', R.ps q.2, m', F'.kp, b', ?_⟩
            rcases n with _ | _ | m
            · exact fn_no C _ a' fd' _ fun ds => rfl
            · exact fn_no C _ a' fd' _ fun ds => rfl
            · exact ih m (by omega) q.2 fn' a' fd' h2 m' F' }
        have g : GoodS C (R.G f) (tbl R.P n) (n + 2) X W := { gl with
          hp := passes_of (X := X) (K := fun e s'' => L2.CX P w outer H s E e s'') rfl
          bk := by
            show (if (defScope (R.st f)).kind.isAnnotationScope = true then ScopeKind.function else (defScope (R.st f)).kind) = .function
            rw [S.kind]; rfl }
        refine ⟨rdS X C W O H (execs fn.body (tbl R.P n)), sndSs fn.body _ g hchk, O, _, sta_start tr tb r, ?_⟩
        have hns2 : fn.ns - fn.ps = (R.G f).N.length - ds.length := by rw [hns, hl]
        rw [hns2] at p
        cases he : execs fn.body (tbl R.P n) (ds.map .sh ++ List.replicate ((R.G f).N.length - ds.length) .un) with
        | no => rw [he] at p; exact p.elim
        | ex c => rw [he] at p; exact p
        | ok o =>
          rw [he] at p
          cases o with
          | nx ρ' => exact fun O' σ' H' s' _ => p H' s'.ext _ .non
          | ct ρ' => exact p.elim
          | rt d => exact fun v H' e rv => p H' e v rv
      · exact p.elim
theorem all_upto {C : Cfg} {R : Txt} {P : Program} {w : World} {K : PySem.W.Frag} {mg : Str → Option Value} {base : Heap} (F : Facts C R P w K mg) (LF : LamFacts C R K mg base) : ∀ n m, m ≤ n → AllAt C R P w K mg base m
  | 0, m, h => by
    obtain rfl : m = 0 := by omega
    exact fun f fn a fd hf hm hF => fn_no C _ a fd _ fun ds => rfl
  | n + 1, m, h => by
    rcases Nat.lt_or_ge n m with z | z
    · obtain rfl : m = n + 1 := by omega
      exact all_succ F LF n (all_upto F LF n)
    · exact all_upto F LF n m z
theorem all_ok {C : Cfg} {R : Txt} {P : Program} {w : World} {K : PySem.W.Frag} {mg : Str → Option Value} {base : Heap} (F : Facts C R P w K mg) (LF : LamFacts C R K mg base) (n f : Nat) (fn : Fn) (a : Addr) (fd : FuncData) (hf : R.P f = some fn) (hm : mg (R.nm f) = some (.ref a)) (hF : L2.Fun K (R.nm f) (R.nm f) (R.st f) a fd) :
    FnOk P w K mg base (L2.CX P w) (n + 2) a fd (R.ps f) (spOf C K (tbl R.P n 0 f)) := all_upto F LF n n (Nat.le_refl _) f fn a fd hf hm hF
end Ev

/-! EvRow: a row's defs as a list. -/
namespace Ev
open PySem PySem.Spec PyProof.Rows L2
structure Ent where
  id : Nat
  nm : Str
  fn : Fn
  st : Stmt
  ps : List Str
  G : Gam
def entOf (l : List Ent) (f : Nat) : Option Ent := l.find? fun e => e.id == f
def gam0 : Gam := ⟨[], [], true, [], [], [], false, [], []⟩
def txtOf (l : List Ent) : Txt where
  P := fun f => (entOf l f).map (·.fn)
  nm := fun f => ((entOf l f).map (·.nm)).getD ""
  st := fun f => ((entOf l f).map (·.st)).getD (.Pass ⟨0, 0, 0, 0⟩)
  ps := fun f => ((entOf l f).map (·.ps)).getD []
  G := fun f => ((entOf l f).map (·.G)).getD gam0
theorem txt_of {l : List Ent} {f : Nat} {fn : Fn} (h : (txtOf l).P f = some fn) : ∃ e ∈ l, e.id = f ∧ e.fn = fn ∧ (txtOf l).nm f = e.nm ∧ (txtOf l).st f = e.st ∧ (txtOf l).ps f = e.ps ∧ (txtOf l).G f = e.G := by
  have h : (entOf l f).map (·.fn) = some fn := h
  cases he : entOf l f with
  | none => rw [he] at h; cases h
  | some e =>
    rw [he] at h
    unfold entOf at he
    refine ⟨e, List.mem_of_find?_eq_some he, ?_, Option.some.inj h, ?_, ?_, ?_, ?_⟩
    · have := List.find?_some he
      exact beq_iff_eq.mp this
    all_goals (unfold txtOf entOf; dsimp only; rw [he]; rfl)
def lookAll (l : List Ent) : Bool := l.all fun e => lookB (txtOf l) e.id
/-- what the head tells of one def -/
def EntOk (K : PySem.W.Frag) (mg : Str → Option Value) (e : Ent) : Prop := ∃ a fd, mg e.nm = some (.ref a) ∧ L2.Fun K e.nm e.nm e.st a fd ∧ Binds K fd e.ps []
theorem facts_of {C : Cfg} {l : List Ent} {P : Program} {w : World} {K : PySem.W.Frag} {mg : Str → Option Value} (hl : lookAll l = true) (hf : ∀ e ∈ l, EntOk K mg e) (bs : List Str) (hbs : ∀ x ∈ bs, mg x = none) (hb : (l.all fun e => e.G.bi.all fun x => bs.contains x) = true)
    (hg : ∀ e ∈ l, ∀ p ∈ e.G.gd, ∃ u v, mg p.1 = some u ∧ RelV v u ∧ ∀ H, Rep K H v p.2) (hxc : ∀ e ∈ l, ∀ p ∈ e.G.exc, ExcOk C K mg p) : Facts C (txtOf l) P w K mg where
  look := fun f fn h => by
    obtain ⟨e, he, rfl, _⟩ := txt_of h
    exact List.all_eq_true.mp hl e he
  fn := fun f fn h => by
    obtain ⟨e, he, rfl, _, h1, h2, h3, _⟩ := txt_of h
    rw [h1, h2, h3]
    exact hf e he
  bi := fun f fn h x hx => by
    obtain ⟨e, he, rfl, _, _, _, _, h4⟩ := txt_of h
    rw [h4] at hx
    have := List.all_eq_true.mp (List.all_eq_true.mp hb e he) x hx
    exact hbs x (List.contains_iff_mem.mp this)
  gd := fun f fn h p hp => by
    obtain ⟨e, he, rfl, _, _, _, _, h4⟩ := txt_of h
    rw [h4] at hp
    exact hg e he p hp
  exc := fun f fn h p hp => by
    obtain ⟨e, he, rfl, _, _, _, _, h4⟩ := txt_of h
    rw [h4] at hp
    exact hxc e he p hp
theorem hm_nil (H : Hp) : Hm [] H = H := by
  funext b
  unfold Hm
  rw [if_neg (by simp)]
theorem lamFacts_of {C : Cfg} {l : List Ent} {K : PySem.W.Frag} {mg : Str → Option Value} {base : Heap} (hlam : ∀ e ∈ l, e.G.lm = true → ∀ p ∈ e.G.lam, LamAt C K mg p.1 p.2)
    (hcode : ∀ e ∈ l, e.G.lm = true → ∀ a fd, mg e.nm = some (.ref a) → L2.Fun K e.nm e.nm e.st a fd → ∃ c P, fd.code = .ref c ∧ LamX.TabB base mg c P ∧ (P, lamQ e.nm) ∈ C.T ∧ ∀ p ∈ C.T, p.1 = P → p.2 = lamQ e.nm) : LamFacts C (txtOf l) K mg base where
  lam := fun f fn h hl p hp => by
    obtain ⟨e, he, rfl, _, _, _, _, h4⟩ := txt_of h
    rw [h4] at hl hp
    exact hlam e he hl p hp
  code := fun f fn h hl a fd hm hF => by
    obtain ⟨e, he, rfl, _, h1, h2, h3, h4⟩ := txt_of h
    rw [h4] at hl
    rw [h1] at hm
    rw [h1, h2] at hF
    rw [h1]
    exact hcode e he hl a fd hm hF
theorem lamFacts_no {C : Cfg} {l : List Ent} {K : PySem.W.Frag} {mg : Str → Option Value} {base : Heap} (h : (l.all fun e => !e.G.lm) = true) : LamFacts C (txtOf l) K mg base := by
  have no : ∀ e ∈ l, e.G.lm = true → False := fun e he hl => by
    have := List.all_eq_true.mp h e he
    rw [hl] at this; cases this
  exact lamFacts_of (fun e he hl => (no e he hl).elim) fun e he hl => (no e he hl).elim
/-- classes of errors by their places -/
def cfgX (T : Tab) (l : List (Nat × Addr)) : Cfg := ⟨T, fun c => match l.lookup c with | some a => .ref a | none => .none⟩
theorem end_sp {C : Cfg} (hT : C.T = []) {K : PySem.W.Frag} {H : Hp} {a : Addr} {ns : List Int} {op : List D → R D} (h : op [.lst (ns.map .int)] = .ok (.bl true)) (hS : SqL K H a (ns.map V.int)) : spOf C K op [.ref a] H (fun v _ => v = .bl true) fun _ _ _ => False := by
  refine ⟨[], [.lst (ns.map .int)], fun a h => by simp at h, by rw [hT]; intro p hp; simp at hp, ?_, ?_⟩
  · rw [hm_nil]
    exact .cons (.lst hS (Reps.intsR ns)) .nil
  · rw [h]
    intro H' e v rv
    cases rv; rfl
theorem end_spT {C : Cfg} {K : PySem.W.Frag} {H : Hp} {a : Addr} {ns : List Int} {op : List D → R D} (hT : LamX.Tabs C.T H) (h : op [.lst (ns.map .int)] = .ok (.bl true)) (hS : SqL K H a (ns.map V.int)) : spOf C K op [.ref a] H (fun v _ => v = .bl true) fun _ _ _ => False := by
  refine ⟨[], [.lst (ns.map .int)], fun a h => by simp at h, hT, ?_, ?_⟩
  · rw [hm_nil]
    exact .cons (.lst hS (Reps.intsR ns)) .nil
  · rw [h]
    intro H' e v rv
    cases rv; rfl
end Ev

/-! EvSim: the evaluator by steps. -/
namespace Ev
@[simp] theorem eval_v (T : Tbl) (ρ : Env) : ∀ i, eval (E.v i) T ρ = ((match ρ[i]? with | some (.sh d) => .ok d | _ => .no)) := by intro i; rw [eval]; first | done | rfl
@[simp] theorem eval_b (T : Tbl) (ρ : Env) : ∀ i, eval (E.b i) T ρ = ((match ρ[i]? with | some (.sh d) => .ok d | some (.ow xs) => .ok (.lst xs) | _ => .no)) := by intro i; rw [eval]; first | done | rfl
@[simp] theorem eval_k (T : Tbl) (ρ : Env) : ∀ d, eval (E.k d) T ρ = (.ok d) := by intro d; rw [eval]; first | done | rfl
@[simp] theorem eval_tup (T : Tbl) (ρ : Env) : ∀ es, eval (E.tup es) T ρ = ((evals es T ρ).bind fun ds => if ds.length ≤ LIM then .ok (.tup ds) else .no) := by intro es; rw [eval]; first | done | rfl
@[simp] theorem eval_lst (T : Tbl) (ρ : Env) : ∀ es, eval (E.lst es) T ρ = ((evals es T ρ).bind fun ds => if ds.length ≤ LIM then .ok (.lst ds) else .no) := by intro es; rw [eval]; first | done | rfl
@[simp] theorem eval_dix (T : Tbl) (ρ : Env) : ∀ i x, eval (E.dix i x) T ρ = ((match ρ[i]? with | some (.od ks vs) => (eval x T ρ).bind fun a => (asS a).bind fun k => opt (dget ks vs k) | _ => .no)) := by intro i x; rw [eval]; first | done | rfl
@[simp] theorem eval_din (T : Tbl) (ρ : Env) : ∀ x i, eval (E.din x i) T ρ = ((eval x T ρ).bind fun a => (asS a).bind fun k => match ρ[i]? with | some (.od ks _) => .ok (.bl (ks.contains k)) | _ => .no) := by intro x i; rw [eval]; first | done | rfl
@[simp] theorem eval_dnin (T : Tbl) (ρ : Env) : ∀ x i, eval (E.dnin x i) T ρ = ((eval x T ρ).bind fun a => (asS a).bind fun k => match ρ[i]? with | some (.od ks _) => .ok (.bl (!ks.contains k)) | _ => .no) := by intro x i; rw [eval]; first | done | rfl
@[simp] theorem eval_dlen (T : Tbl) (ρ : Env) : ∀ i, eval (E.dlen i) T ρ = ((match ρ[i]? with | some (.od ks _) => .ok (.int ks.length) | _ => .no)) := by intro i; rw [eval]; first | done | rfl
@[simp] theorem eval_dne (T : Tbl) (ρ : Env) : ∀ i, eval (E.dne i) T ρ = ((match ρ[i]? with | some (.od ks _) => .ok (.bl (!ks.isEmpty)) | _ => .no)) := by intro i; rw [eval]; first | done | rfl
@[simp] theorem eval_dsort (T : Tbl) (ρ : Env) : ∀ i, eval (E.dsort i) T ρ = ((match ρ[i]? with | some (.od ks _) => sortD (ks.map .str) | _ => .no)) := by intro i; rw [eval]; first | done | rfl
@[simp] theorem eval_dget (T : Tbl) (ρ : Env) : ∀ i x z, eval (E.dget i x z) T ρ = ((match ρ[i]? with | some (.od ks vs) => (eval x T ρ).bind fun a => (eval z T ρ).bind fun c => getK ks vs a c | _ => .no)) := by intro i x z; rw [eval]; first | done | rfl
@[simp] theorem eval_tix (T : Tbl) (ρ : Env) : ∀ x y, eval (E.tix x y) T ρ = ((eval x T ρ).bind fun a => (dictD a).bind fun p => (eval y T ρ).bind fun b => (asS b).bind fun k => opt (dget p.1 p.2 k)) := by intro x y; rw [eval]; first | done | rfl
@[simp] theorem eval_tin (T : Tbl) (ρ : Env) : ∀ x y, eval (E.tin x y) T ρ = ((eval x T ρ).bind fun a => (asS a).bind fun k => (eval y T ρ).bind fun b => (dictD b).bind fun p => .ok (.bl (p.1.contains k))) := by intro x y; rw [eval]; first | done | rfl
@[simp] theorem eval_bin (T : Tbl) (ρ : Env) : ∀ o x y, eval (E.bin o x y) T ρ = ((eval x T ρ).bind fun a => (eval y T ρ).bind fun b => binD o a b) := by intro o x y; rw [eval]; first | done | rfl
@[simp] theorem eval_cmp (T : Tbl) (ρ : Env) : ∀ o x y, eval (E.cmp o x y) T ρ = ((eval x T ρ).bind fun a => (eval y T ρ).bind fun b => cmpD o a b) := by intro o x y; rw [eval]; first | done | rfl
@[simp] theorem eval_chain (T : Tbl) (ρ : Env) : ∀ o p x y z, eval (E.chain o p x y z) T ρ = ((eval x T ρ).bind fun a => (eval y T ρ).bind fun b => (cmpD o a b).bind fun r => (asB r).bind fun t => if t then (eval z T ρ).bind fun c => cmpD p b c else .ok (.bl false)) := by intro o p x y z; rw [eval]; first | done | rfl
@[simp] theorem eval_isN (T : Tbl) (ρ : Env) : ∀ x, eval (E.isN x) T ρ = ((eval x T ρ).bind fun a => .ok (.bl (isNone a))) := by intro x; rw [eval]; first | done | rfl
@[simp] theorem eval_notN (T : Tbl) (ρ : Env) : ∀ x, eval (E.notN x) T ρ = ((eval x T ρ).bind fun a => .ok (.bl (!isNone a))) := by intro x; rw [eval]; first | done | rfl
@[simp] theorem eval_isB (T : Tbl) (ρ : Env) : ∀ x b, eval (E.isB x b) T ρ = ((eval x T ρ).bind fun a => (asB a).bind fun c => .ok (.bl (c == b))) := by intro x b; rw [eval]; first | done | rfl
@[simp] theorem eval_notB (T : Tbl) (ρ : Env) : ∀ x b, eval (E.notB x b) T ρ = ((eval x T ρ).bind fun a => (asB a).bind fun c => .ok (.bl (!(c == b)))) := by intro x b; rw [eval]; first | done | rfl
@[simp] theorem eval_and (T : Tbl) (ρ : Env) : ∀ es, eval (E.and es) T ρ = ((evalAnd es T ρ).bind fun b => .ok (.bl b)) := by intro es; rw [eval]; first | done | rfl
@[simp] theorem eval_or (T : Tbl) (ρ : Env) : ∀ es, eval (E.or es) T ρ = ((evalOr es T ρ).bind fun b => .ok (.bl b)) := by intro es; rw [eval]; first | done | rfl
@[simp] theorem eval_not (T : Tbl) (ρ : Env) : ∀ x, eval (E.not x) T ρ = ((eval x T ρ).bind fun a => (asB a).bind fun t => .ok (.bl (!t))) := by intro x; rw [eval]; first | done | rfl
@[simp] theorem eval_ix (T : Tbl) (ρ : Env) : ∀ x y, eval (E.ix x y) T ρ = ((eval x T ρ).bind fun a => (eval y T ρ).bind fun b => ixD a b) := by intro x y; rw [eval]; first | done | rfl
@[simp] theorem eval_slL (T : Tbl) (ρ : Env) : ∀ x lo, eval (E.slL x lo) T ρ = ((eval x T ρ).bind fun a => (eval lo T ρ).bind fun b => (asI b).bind fun i => slD a (some i) none) := by intro x lo; rw [eval]; first | done | rfl
@[simp] theorem eval_slH (T : Tbl) (ρ : Env) : ∀ x hi, eval (E.slH x hi) T ρ = ((eval x T ρ).bind fun a => (eval hi T ρ).bind fun b => (asI b).bind fun i => slD a none (some i)) := by intro x hi; rw [eval]; first | done | rfl
@[simp] theorem eval_slB (T : Tbl) (ρ : Env) : ∀ x lo hi, eval (E.slB x lo hi) T ρ = ((eval x T ρ).bind fun a => (eval lo T ρ).bind fun b => (asI b).bind fun i => (eval hi T ρ).bind fun c => (asI c).bind fun j => slD a (some i) (some j)) := by intro x lo hi; rw [eval]; first | done | rfl
@[simp] theorem eval_rev (T : Tbl) (ρ : Env) : ∀ x, eval (E.rev x) T ρ = ((eval x T ρ).bind revD) := by intro x; rw [eval]; first | done | rfl
@[simp] theorem eval_bi (T : Tbl) (ρ : Env) : ∀ f x, eval (E.bi f x) T ρ = ((eval x T ρ).bind (biD f)) := by intro f x; rw [eval]; first | done | rfl
@[simp] theorem eval_max2 (T : Tbl) (ρ : Env) : ∀ x y, eval (E.max2 x y) T ρ = ((eval x T ρ).bind fun a => (eval y T ρ).bind fun b => max2 a b) := by intro x y; rw [eval]; first | done | rfl
@[simp] theorem eval_min2 (T : Tbl) (ρ : Env) : ∀ x y, eval (E.min2 x y) T ρ = ((eval x T ρ).bind fun a => (eval y T ρ).bind fun b => min2 a b) := by intro x y; rw [eval]; first | done | rfl
@[simp] theorem eval_isi (T : Tbl) (ρ : Env) : ∀ x t, eval (E.isi x t) T ρ = ((eval x T ρ).bind fun a => .ok (.bl (isiD t a))) := by intro x t; rw [eval]; first | done | rfl
@[simp] theorem eval_mt (T : Tbl) (ρ : Env) : ∀ m x y, eval (E.mt m x y) T ρ = ((eval x T ρ).bind fun a => if recv m a then (eval y T ρ).bind fun b => mtD m a b else .no) := by intro m x y; rw [eval]; first | done | rfl
@[simp] theorem eval_upper (T : Tbl) (ρ : Env) : ∀ x, eval (E.upper x) T ρ = ((eval x T ρ).bind upperD) := by intro x; rw [eval]; first | done | rfl
@[simp] theorem eval_call (T : Tbl) (ρ : Env) : ∀ f es, eval (E.call f es) T ρ = ((evals es T ρ).bind fun ds => T 0 f ds) := by intro f es; rw [eval]; first | done | rfl
@[simp] theorem eval_lam (T : Tbl) (ρ : Env) : ∀ g x, eval (E.lam g x) T ρ = (toldD g (eval x (fun j => T (j + 2)) ρ)) := by intro g x; rw [eval]; first | done | rfl
@[simp] theorem eval_comp (T : Tbl) (ρ : Env) : ∀ e tg many it c ws, eval (E.comp e tg many it c ws) T ρ = (noEx ((evalIt it T ρ).bind fun ds => if ds.length ≤ LIM then (mapF (fun d => (store tg many d (wipe ρ ws)).bind fun ρ1 => (evalC c T ρ1).bind fun t => if t then (eval e T ρ1).bind fun y => .ok (some y) else .ok none) ds).bind fun ys => .ok (.lst ys) else .no)) := by intro e tg many it c ws; rw [eval]; first | done | rfl
@[simp] theorem eval_val (T : Tbl) (ρ : Env) : ∀ u0, eval (E.val u0) T ρ = (.no) := by intro u0; rw [eval]; first | done | rfl
@[simp] theorem eval_dkeys (T : Tbl) (ρ : Env) : ∀ u0, eval (E.dkeys u0) T ρ = (.no) := by intro u0; rw [eval]; first | done | rfl
@[simp] theorem eval_rng1 (T : Tbl) (ρ : Env) : ∀ u0, eval (E.rng1 u0) T ρ = (.no) := by intro u0; rw [eval]; first | done | rfl
@[simp] theorem eval_rng2 (T : Tbl) (ρ : Env) : ∀ u0 u1, eval (E.rng2 u0 u1) T ρ = (.no) := by intro u0 u1; rw [eval]; first | done | rfl
@[simp] theorem eval_rngd (T : Tbl) (ρ : Env) : ∀ u0 u1, eval (E.rngd u0 u1) T ρ = (.no) := by intro u0 u1; rw [eval]; first | done | rfl
@[simp] theorem eval_enu (T : Tbl) (ρ : Env) : ∀ u0, eval (E.enu u0) T ρ = (.no) := by intro u0; rw [eval]; first | done | rfl
@[simp] theorem eval_zip (T : Tbl) (ρ : Env) : ∀ u0 u1, eval (E.zip u0 u1) T ρ = (.no) := by intro u0 u1; rw [eval]; first | done | rfl
@[simp] theorem evals_nil (T : Tbl) (ρ : Env) : evals (Es.nil) T ρ = (.ok []) := by rw [evals]; first | done | rfl
@[simp] theorem evals_cons (T : Tbl) (ρ : Env) : ∀ e es, evals (Es.cons e es) T ρ = ((eval e T ρ).bind fun d => (evals es T ρ).bind fun ds => .ok (d :: ds)) := by intro e es; rw [evals]; first | done | rfl
@[simp] theorem evalAnd_nil (T : Tbl) (ρ : Env) : evalAnd (Es.nil) T ρ = (.ok true) := by rw [evalAnd]; first | done | rfl
@[simp] theorem evalAnd_cons (T : Tbl) (ρ : Env) : ∀ e es, evalAnd (Es.cons e es) T ρ = ((eval e T ρ).bind fun a => (asB a).bind fun t => if t then evalAnd es T ρ else .ok false) := by intro e es; rw [evalAnd]; first | done | rfl
@[simp] theorem evalOr_nil (T : Tbl) (ρ : Env) : evalOr (Es.nil) T ρ = (.ok false) := by rw [evalOr]; first | done | rfl
@[simp] theorem evalOr_cons (T : Tbl) (ρ : Env) : ∀ e es, evalOr (Es.cons e es) T ρ = ((eval e T ρ).bind fun a => (asB a).bind fun t => if t then .ok true else evalOr es T ρ) := by intro e es; rw [evalOr]; first | done | rfl
@[simp] theorem evalC_nil (T : Tbl) (ρ : Env) : evalC (Es.nil) T ρ = (.ok true) := by rw [evalC]; first | done | rfl
@[simp] theorem evalC_cons (T : Tbl) (ρ : Env) : ∀ e u1, evalC (Es.cons e u1) T ρ = ((eval e T ρ).bind asB) := by intro e u1; rw [evalC]; first | done | rfl
@[simp] theorem evalIt_rng1 (T : Tbl) (ρ : Env) : ∀ x, evalIt (E.rng1 x) T ρ = ((eval x T ρ).bind fun a => (asI a).bind fun n => rngD 0 n) := by intro x; rw [evalIt]; first | done | rfl
@[simp] theorem evalIt_rng2 (T : Tbl) (ρ : Env) : ∀ x y, evalIt (E.rng2 x y) T ρ = ((eval x T ρ).bind fun a => (eval y T ρ).bind fun b => (asI a).bind fun i => (asI b).bind fun j => rngD i j) := by intro x y; rw [evalIt]; first | done | rfl
@[simp] theorem evalIt_rngd (T : Tbl) (ρ : Env) : ∀ x y, evalIt (E.rngd x y) T ρ = ((eval x T ρ).bind fun a => (eval y T ρ).bind fun b => (asI a).bind fun i => (asI b).bind fun j => rngB i j) := by intro x y; rw [evalIt]; first | done | rfl
@[simp] theorem evalIt_enu (T : Tbl) (ρ : Env) : ∀ x, evalIt (E.enu x) T ρ = ((eval x T ρ).bind enuD) := by intro x; rw [evalIt]; first | done | rfl
@[simp] theorem evalIt_zip (T : Tbl) (ρ : Env) : ∀ x y, evalIt (E.zip x y) T ρ = ((eval x T ρ).bind fun a => (eval y T ρ).bind fun b => match a, b with
    | .tup xs, .tup ys => .ok (zipL xs ys)
    | .lst xs, .lst ys => .ok (zipL xs ys)
    | .lst xs, .tup ys => .ok (zipL xs ys)
    | _, _ => .no) := by intro x y; rw [evalIt]; first | done | rfl
@[simp] theorem evalIt_val (T : Tbl) (ρ : Env) : ∀ e, evalIt (E.val e) T ρ = ((eval e T ρ).bind itD) := by intro e; rw [evalIt]; first | done | rfl
@[simp] theorem evalIt_dkeys (T : Tbl) (ρ : Env) : ∀ i, evalIt (E.dkeys i) T ρ = ((match ρ[i]? with | some (.ow xs) => .ok xs | _ => .no)) := by intro i; rw [evalIt]; first | done | rfl
@[simp] theorem exec_set (T : Tbl) (ρ : Env) : ∀ i e, exec (S.set i e) T ρ = ((eval e T ρ).bind fun d => .ok (.nx (ρ.set i (.sh d)))) := by intro i e; rw [exec]; first | done | rfl
@[simp] theorem exec_own (T : Tbl) (ρ : Env) : ∀ i es, exec (S.own i es) T ρ = ((evals es T ρ).bind fun ds => if ds.length ≤ LIM then .ok (.nx (ρ.set i (.ow ds))) else .no) := by intro i es; rw [exec]; first | done | rfl
@[simp] theorem exec_dnew (T : Tbl) (ρ : Env) : ∀ i, exec (S.dnew i) T ρ = (.ok (.nx (ρ.set i (.od [] [])))) := by intro i; rw [exec]; first | done | rfl
@[simp] theorem exec_ddisp (T : Tbl) (ρ : Env) : ∀ i ks es, exec (S.ddisp i ks es) T ρ = ((evals es T ρ).bind fun ds => if ks.length = ds.length ∧ ks.Nodup then .ok (.nx (ρ.set i (.od ks ds))) else .no) := by intro i ks es; rw [exec]; first | done | rfl
@[simp] theorem exec_dfrom (T : Tbl) (ρ : Env) : ∀ i e, exec (S.dfrom i e) T ρ = ((eval e T ρ).bind fun d => (dictD d).bind fun p => .ok (.nx (ρ.set i (.od p.1 p.2)))) := by intro i e; rw [exec]; first | done | rfl
@[simp] theorem exec_mv (T : Tbl) (ρ : Env) : ∀ i j, exec (S.mv i j) T ρ = ((match ρ[j]? with | some (.ow d) => .ok (.nx ((ρ.set j .un).set i (.ow d))) | _ => .no)) := by intro i j; rw [exec]; first | done | rfl
@[simp] theorem exec_unp (T : Tbl) (ρ : Env) : ∀ is e, exec (S.unp is e) T ρ = ((eval e T ρ).bind fun d => (store is true d ρ).bind fun ρ' => .ok (.nx ρ')) := by intro is e; rw [exec]; first | done | rfl
@[simp] theorem exec_par (T : Tbl) (ρ : Env) : ∀ is es, exec (S.par is es) T ρ = ((evals es T ρ).bind fun ds => (setAll ρ is ds).bind fun ρ' => .ok (.nx ρ')) := by intro is es; rw [exec]; first | done | rfl
@[simp] theorem exec_key (T : Tbl) (ρ : Env) : ∀ i k v, exec (S.key i k v) T ρ = ((eval v T ρ).bind fun d => match ρ[i]? with
    | some (.od ks vs) => (eval k T ρ).bind fun a => (asS a).bind fun x => if ks.length < LIM then .ok (.nx (ρ.set i (.od (putK ks x) (putV ks vs x d)))) else .no
    | _ => .no) := by intro i k v; rw [exec]; first | done | rfl
@[simp] theorem exec_app (T : Tbl) (ρ : Env) : ∀ i e, exec (S.app i e) T ρ = ((match ρ[i]? with
    | some (.ow xs) => (eval e T ρ).bind fun d => if xs.length < LIM then .ok (.nx (ρ.set i (.ow (xs ++ [d])))) else .no
    | _ => .no)) := by intro i e; rw [exec]; first | done | rfl
@[simp] theorem exec_ext (T : Tbl) (ρ : Env) : ∀ i e, exec (S.ext i e) T ρ = ((match ρ[i]? with
    | some (.ow xs) => (eval e T ρ).bind fun d => (match d with
      | .lst ys => if xs.length + ys.length ≤ LIM then .ok (.nx (ρ.set i (.ow (xs ++ ys)))) else .no
      | _ => .no)
    | _ => .no)) := by intro i e; rw [exec]; first | done | rfl
@[simp] theorem exec_drop (T : Tbl) (ρ : Env) : ∀ e, exec (S.drop e) T ρ = ((eval e T ρ).bind fun _ => .ok (.nx ρ)) := by intro e; rw [exec]; first | done | rfl
@[simp] theorem exec_ifs (T : Tbl) (ρ : Env) : ∀ c a b, exec (S.ifs c a b) T ρ = ((eval c T ρ).bind fun r => (asB r).bind fun t => if t then execs a T ρ else execs b T ρ) := by intro c a b; rw [exec]; first | done | rfl
@[simp] theorem exec_for_ (T : Tbl) (ρ : Env) : ∀ is many it body, exec (S.for_ is many it body) T ρ = ((evalIt it T ρ).bind fun ds => loopD (fun d ρ1 => (store is many d ρ1).bind fun ρ2 => execs body T ρ2) ds ρ) := by intro is many it body; rw [exec]; first | done | rfl
@[simp] theorem exec_whl (T : Tbl) (ρ : Env) : ∀ n c body, exec (S.whl n c body) T ρ = (loopW (fun ρ1 => (eval c T ρ1).bind asB) (fun ρ1 => execs body T ρ1) n ρ) := by intro n c body; rw [exec]; first | done | rfl
@[simp] theorem exec_ret (T : Tbl) (ρ : Env) : ∀ e, exec (S.ret e) T ρ = ((eval e T ρ).bind fun d => .ok (.rt d)) := by intro e; rw [exec]; first | done | rfl
@[simp] theorem exec_raise (T : Tbl) (ρ : Env) : ∀ c, exec (S.raise c) T ρ = (.ex c) := by intro c; rw [exec]; first | done | rfl
@[simp] theorem exec_cont (T : Tbl) (ρ : Env) : exec (S.cont) T ρ = (.ok (.ct ρ)) := by rw [exec]; first | done | rfl
@[simp] theorem exec_frz (T : Tbl) (ρ : Env) : ∀ i, exec (S.frz i) T ρ = ((match ρ[i]? with | some (.ow xs) => .ok (.nx (ρ.set i (.sh (.lst xs)))) | _ => .no)) := by intro i; rw [exec]; first | done | rfl
@[simp] theorem execs_nil (T : Tbl) (ρ : Env) : execs (Ss.nil) T ρ = (.ok (.nx ρ)) := by rw [execs]; first | done | rfl
@[simp] theorem execs_cons (T : Tbl) (ρ : Env) : ∀ s ss, execs (Ss.cons s ss) T ρ = ((exec s T ρ).bind fun o => match o with
    | .nx ρ' => execs ss T ρ'
    | .rt d => .ok (.rt d)
    | .ct ρ' => .ok (.ct ρ')) := by intro s ss; rw [execs]; first | done | rfl
end Ev

/-! EvSim2: operations by steps, loops by invariants. -/
namespace Ev
@[simp] theorem asI_int (i : Int) : asI (.int i) = .ok i := Eq.trans rfl rfl
@[simp] theorem asB_bl (b : Bool) : asB (.bl b) = .ok b := Eq.trans rfl rfl
@[simp] theorem asS_str (x : List Nat) : asS (.str x) = .ok x := Eq.trans rfl rfl
@[simp] theorem itD_tup (x : List D) : itD (.tup x) = .ok x := Eq.trans rfl rfl
@[simp] theorem itD_lst (x : List D) : itD (.lst x) = .ok x := Eq.trans rfl rfl
@[simp] theorem itD_str (x : List Nat) : itD (.str x) = .ok (x.map fun c => .str [c]) := Eq.trans rfl rfl
@[simp] theorem opt_some {α : Type} (a : α) : opt (some a) = .ok a := Eq.trans rfl rfl
@[simp] theorem bin_add : binD .add = addD := Eq.trans rfl rfl
@[simp] theorem bin_sub : binD .sub = subD := Eq.trans rfl rfl
@[simp] theorem bin_mul : binD .mul = mulD := Eq.trans rfl rfl
@[simp] theorem bin_fdiv : binD .fdiv = fdivD := Eq.trans rfl rfl
@[simp] theorem bin_mod : binD .mod = modD := Eq.trans rfl rfl
@[simp] theorem add_int (i j : Int) : addD (.int i) (.int j) = .ok (.int (i + j)) := Eq.trans rfl rfl
@[simp] theorem add_str (x y : List Nat) : addD (.str x) (.str y) = if x.length + y.length ≤ LIM then .ok (.str (x ++ y)) else .no := Eq.trans rfl rfl
@[simp] theorem add_tup (x y : List D) : addD (.tup x) (.tup y) = if x.length + y.length ≤ LIM then .ok (.tup (x ++ y)) else .no := Eq.trans rfl rfl
@[simp] theorem add_lst (x y : List D) : addD (.lst x) (.lst y) = if x.length + y.length ≤ LIM then .ok (.lst (x ++ y)) else .no := Eq.trans rfl rfl
@[simp] theorem sub_int (i j : Int) : subD (.int i) (.int j) = .ok (.int (i - j)) := Eq.trans rfl rfl
@[simp] theorem mul_int (i j : Int) : mulD (.int i) (.int j) = if (-BIG < i ∧ i < BIG) ∨ (-BIG < j ∧ j < BIG) then .ok (.int (i * j)) else .no := Eq.trans rfl rfl
@[simp] theorem fdiv_int (i j : Int) : fdivD (.int i) (.int j) = if 0 < j ∧ j < 1073741824 then .ok (.int (i / j)) else .no := Eq.trans rfl rfl
@[simp] theorem mod_int (i j : Int) : modD (.int i) (.int j) = if 0 < j then .ok (.int (i % j)) else .no := Eq.trans rfl rfl
@[simp] theorem cmp_eq : cmpD .eq = eqD := Eq.trans rfl rfl
@[simp] theorem cmp_ne : cmpD .ne = neD := Eq.trans rfl rfl
@[simp] theorem cmp_lt : cmpD .lt = ltR := Eq.trans rfl rfl
@[simp] theorem cmp_le : cmpD .le = leR := Eq.trans rfl rfl
@[simp] theorem cmp_gt : cmpD .gt = gtR := Eq.trans rfl rfl
@[simp] theorem cmp_ge : cmpD .ge = geR := Eq.trans rfl rfl
@[simp] theorem cmp_inn (x y : D) : cmpD .inn x y = (inD x y).bind fun b => .ok (.bl b) := Eq.trans rfl rfl
@[simp] theorem cmp_nin (x y : D) : cmpD .nin x y = (inD x y).bind fun b => .ok (.bl (!b)) := Eq.trans rfl rfl
@[simp] theorem lt_int (i j : Int) : ltR (.int i) (.int j) = .ok (.bl (decide (i < j))) := Eq.trans rfl rfl
@[simp] theorem le_int (i j : Int) : leR (.int i) (.int j) = .ok (.bl (decide (i ≤ j))) := by
  show R.ok (D.bl (!decide (j < i))) = _
  congr 2
  by_cases h : j < i
  · rw [decide_eq_true h, decide_eq_false (by omega)]; rfl
  · rw [decide_eq_false h, decide_eq_true (by omega)]; rfl
@[simp] theorem gt_int (i j : Int) : gtR (.int i) (.int j) = .ok (.bl (decide (j < i))) := Eq.trans rfl rfl
@[simp] theorem ge_int (i j : Int) : geR (.int i) (.int j) = .ok (.bl (decide (j ≤ i))) := by
  show R.ok (D.bl (!decide (i < j))) = _
  congr 2
  by_cases h : i < j
  · rw [decide_eq_true h, decide_eq_false (by omega)]; rfl
  · rw [decide_eq_false h, decide_eq_true (by omega)]; rfl
@[simp] theorem eq_int (i j : Int) : eqD (.int i) (.int j) = .ok (.bl (i == j)) := Eq.trans rfl rfl
@[simp] theorem ne_int (i j : Int) : neD (.int i) (.int j) = .ok (.bl (!(i == j))) := Eq.trans rfl rfl
@[simp] theorem eq_str (i j : List Nat) : eqD (.str i) (.str j) = .ok (.bl (i == j)) := Eq.trans rfl rfl
@[simp] theorem ne_str (i j : List Nat) : neD (.str i) (.str j) = .ok (.bl (!(i == j))) := Eq.trans rfl rfl
/-- things of small depth -/
theorem eqD_of {x y : D} (h : dep x ≤ 60) : eqD x y = .ok (.bl (eqv x y)) := if_pos (by omega)
theorem neD_of {x y : D} (h : dep x ≤ 60) : neD x y = .ok (.bl (!eqv x y)) := if_pos (by omega)
theorem eqD_of' {x y : D} (h : dep y ≤ 60) : eqD x y = .ok (.bl (eqv x y)) := if_pos (by omega)
theorem neD_of' {x y : D} (h : dep y ≤ 60) : neD x y = .ok (.bl (!eqv x y)) := if_pos (by omega)
@[simp] theorem len_tup (xs : List D) : biD .len (.tup xs) = .ok (.int xs.length) := Eq.trans rfl rfl
@[simp] theorem len_lst (xs : List D) : biD .len (.lst xs) = .ok (.int xs.length) := Eq.trans rfl rfl
@[simp] theorem len_str (x : List Nat) : biD .len (.str x) = if x.length ≤ LIM then .ok (.int x.length) else .no := Eq.trans rfl rfl
@[simp] theorem tuple_lst (xs : List D) : biD .tuple (.lst xs) = .ok (.tup xs) := Eq.trans rfl rfl
@[simp] theorem tuple_tup (xs : List D) : biD .tuple (.tup xs) = .ok (.tup xs) := Eq.trans rfl rfl
@[simp] theorem list_lst (xs : List D) : biD .list (.lst xs) = .ok (.lst xs) := Eq.trans rfl rfl
@[simp] theorem list_tup (xs : List D) : biD .list (.tup xs) = .ok (.lst xs) := Eq.trans rfl rfl
@[simp] theorem sorted_lst (xs : List D) : biD .sorted (.lst xs) = sortD xs := Eq.trans rfl rfl
@[simp] theorem sorted_tup (xs : List D) : biD .sorted (.tup xs) = sortD xs := Eq.trans rfl rfl
@[simp] theorem int_bl (b : Bool) : biD .int (.bl b) = .ok (.int (b2i b)) := Eq.trans rfl rfl
@[simp] theorem max2_int (i j : Int) : max2 (.int i) (.int j) = .ok (.int (if j > i then j else i)) := Eq.trans rfl rfl
@[simp] theorem min2_int (i j : Int) : min2 (.int i) (.int j) = .ok (.int (if j < i then j else i)) := Eq.trans rfl rfl
@[simp] theorem starts_str (x y : List Nat) : mtD .startswith (.str x) (.str y) = .ok (.bl (y.isPrefixOf x)) := Eq.trans rfl rfl
@[simp] theorem recv_starts (x : List Nat) : recv .startswith (.str x) = true := Eq.trans rfl rfl
@[simp] theorem recv_join (x : List Nat) : recv .join (.str x) = true := Eq.trans rfl rfl
@[simp] theorem isNone_non : isNone .non = true := Eq.trans rfl rfl
@[simp] theorem isNone_tup (x : List D) : isNone (.tup x) = false := Eq.trans rfl rfl
@[simp] theorem isNone_str (x : List Nat) : isNone (.str x) = false := Eq.trans rfl rfl
@[simp] theorem isNone_int (x : Int) : isNone (.int x) = false := Eq.trans rfl rfl
@[simp] theorem ix_tup (xs : List D) (i : Int) : ixD (.tup xs) (.int i) = opt (atI xs i) := Eq.trans rfl rfl
@[simp] theorem ix_lst (xs : List D) (i : Int) : ixD (.lst xs) (.int i) = opt (atI xs i) := Eq.trans rfl rfl
@[simp] theorem ix_str (x : List Nat) (i : Int) : ixD (.str x) (.int i) = if x.length ≤ LIM then (opt (atI x i)).bind fun c => .ok (.str [c]) else .no := Eq.trans rfl rfl
@[simp] theorem at0 {α : Type} (a : α) (xs : List α) : atI (a :: xs) 0 = some a := Eq.trans rfl rfl
@[simp] theorem at1 {α : Type} (a b : α) (xs : List α) : atI (a :: b :: xs) 1 = some b := Eq.trans rfl rfl
@[simp] theorem at2 {α : Type} (a b c : α) (xs : List α) : atI (a :: b :: c :: xs) 2 = some c := Eq.trans rfl rfl
@[simp] theorem atLast {α : Type} (xs : List α) (a : α) : atI (xs ++ [a]) (-1) = some a := by
  unfold atI
  rw [if_neg (by decide), if_pos (by simp; omega)]
  have : ((-1 : Int) + ((xs ++ [a]).length : Nat)).toNat = xs.length := by rw [List.length_append, List.length_singleton]; omega
  rw [this, List.getElem?_append_right (Nat.le_refl _), Nat.sub_self]
  rfl
theorem atI_nat {α : Type} (xs : List α) (n : Nat) : atI xs (n : Int) = xs[n]? := by
  unfold atI
  rw [if_pos (by omega), Int.toNat_natCast]
theorem atI_pos {α : Type} (xs : List α) (i : Int) (h : 0 ≤ i) : atI xs i = xs[i.toNat]? := if_pos h
@[simp] theorem sl_str (x : List Nat) (lo hi : Option Int) : slD (.str x) lo hi = if x.length ≤ LIM then .ok (.str (cut x lo hi)) else .no := Eq.trans rfl rfl
@[simp] theorem sl_tup (x : List D) (lo hi : Option Int) : slD (.tup x) lo hi = .ok (.tup (cut x lo hi)) := Eq.trans rfl rfl
@[simp] theorem sl_lst (x : List D) (lo hi : Option Int) : slD (.lst x) lo hi = .ok (.lst (cut x lo hi)) := Eq.trans rfl rfl
theorem cut_from {α : Type} (x : List α) (n : Nat) : cut x (some (n : Int)) none = x.drop n := by
  unfold cut sIx
  dsimp only
  rw [if_neg (by omega), Int.toNat_natCast]
  rcases Nat.le_total n x.length with h | h
  · rw [Nat.min_eq_left h, List.take_of_length_le (by rw [List.length_drop]; omega)]
  · rw [Nat.min_eq_right h, List.drop_of_length_le h, List.drop_of_length_le (Nat.le_refl _)]
    simp
theorem cut_to {α : Type} (x : List α) (n : Nat) : cut x none (some (n : Int)) = x.take n := by
  unfold cut sIx
  dsimp only
  rw [if_neg (by omega), Int.toNat_natCast, List.drop_zero, Nat.sub_zero]
  rcases Nat.le_total n x.length with h | h
  · rw [Nat.min_eq_left h]
  · rw [Nat.min_eq_right h, List.take_of_length_le (Nat.le_refl _), List.take_of_length_le h]
theorem cut_to' {α : Type} (x : List α) (i : Int) (h : 0 ≤ i) : cut x none (some i) = x.take i.toNat := by
  have := cut_to x i.toNat
  rwa [Int.toNat_of_nonneg h] at this
theorem cut_from' {α : Type} (x : List α) (i : Int) (h : 0 ≤ i) : cut x (some i) none = x.drop i.toNat := by
  have := cut_from x i.toNat
  rwa [Int.toNat_of_nonneg h] at this
@[simp] theorem evR_ok {α : Type} (a : α) : noEx (R.ok a) = .ok a := Eq.trans rfl rfl
@[simp] theorem setAll_nil (ρ : Env) : setAll ρ [] [] = .ok ρ := Eq.trans rfl rfl
@[simp] theorem setAll_cons (ρ : Env) (i : Nat) (is : List Nat) (d : D) (ds : List D) : setAll ρ (i :: is) (d :: ds) = setAll (ρ.set i (.sh d)) is ds := Eq.trans rfl rfl
@[simp] theorem store_one (ρ : Env) (is : List Nat) (d : D) : store is false d ρ = setAll ρ is [d] := Eq.trans rfl rfl
@[simp] theorem store_many (ρ : Env) (is : List Nat) (xs : List D) : store is true (.tup xs) ρ = setAll ρ is xs := Eq.trans rfl rfl
@[simp] theorem wipe_nil (ρ : Env) : wipe ρ [] = ρ := Eq.trans rfl rfl
@[simp] theorem wipe_cons (ρ : Env) (i : Nat) (is : List Nat) : wipe ρ (i :: is) = (wipe ρ is).set i .un := Eq.trans rfl rfl
@[simp] theorem mapF_nil (f : D → R (Option D)) : mapF f [] = .ok [] := Eq.trans rfl rfl
@[simp] theorem enuD_lst (xs : List D) : enuD (.lst xs) = .ok (enuL 0 xs) := Eq.trans rfl rfl
@[simp] theorem enuD_tup (xs : List D) : enuD (.tup xs) = .ok (enuL 0 xs) := Eq.trans rfl rfl
/-! ### loops -/
def foldE {α β : Type} (step : β → α → Except D β) : β → List α → Except D β
  | b, [] => .ok b
  | b, x :: xs => match step b x with
    | .ok b' => foldE step b' xs
    | .error d => .error d
/-- a loop by its own state; it may return -/
theorem loop_inv {α β : Type} {f : D → Env → R Out} (enc : α → D) (step : β → α → Except D β) (I : β → Env → Prop) : ∀ (xs : List α) (b : β) (ρ : Env), I b ρ →
    (∀ b a ρ, a ∈ xs → I b ρ → match step b a with
      | .ok b' => ∃ ρ', (f (enc a) ρ = .ok (.nx ρ') ∨ f (enc a) ρ = .ok (.ct ρ')) ∧ I b' ρ'
      | .error d => f (enc a) ρ = .ok (.rt d)) →
    match foldE step b xs with
      | .ok b' => ∃ ρ', loopD f (xs.map enc) ρ = .ok (.nx ρ') ∧ I b' ρ'
      | .error d => loopD f (xs.map enc) ρ = .ok (.rt d)
  | [], b, ρ, h, _ => ⟨ρ, rfl, h⟩
  | x :: xs, b, ρ, h, hs => by
    have h1 := hs b x ρ List.mem_cons_self h
    rw [foldE]
    cases hst : step b x with
    | error d =>
      rw [hst] at h1
      show loopD f (enc x :: xs.map enc) ρ = _
      rw [loopD, h1]; rfl
    | ok b' =>
      rw [hst] at h1
      obtain ⟨ρ', h2, h3⟩ := h1
      have ih := loop_inv enc step I xs b' ρ' h3 fun b a ρ ha => hs b a ρ (List.mem_cons_of_mem _ ha)
      have e : loopD f ((x :: xs).map enc) ρ = loopD f (xs.map enc) ρ' := by
        rw [List.map_cons, loopD]
        rcases h2 with h2 | h2 <;> (rw [h2]; rfl)
      rw [e]
      exact ih
/-- a loop that never returns -/
theorem loop_fold {α β : Type} {f : D → Env → R Out} (enc : α → D) (step : β → α → β) (I : β → Env → Prop) : ∀ (xs : List α) (b : β) (ρ : Env), I b ρ →
    (∀ b a ρ, a ∈ xs → I b ρ → ∃ ρ', (f (enc a) ρ = .ok (.nx ρ') ∨ f (enc a) ρ = .ok (.ct ρ')) ∧ I (step b a) ρ') →
    ∃ ρ', loopD f (xs.map enc) ρ = .ok (.nx ρ') ∧ I (xs.foldl step b) ρ'
  | [], b, ρ, h, _ => ⟨ρ, rfl, h⟩
  | x :: xs, b, ρ, h, hs => by
    obtain ⟨ρ', h2, h3⟩ := hs b x ρ List.mem_cons_self h
    obtain ⟨ρ2, h4, h5⟩ := loop_fold enc step I xs (step b x) ρ' h3 fun b a ρ ha => hs b a ρ (List.mem_cons_of_mem _ ha)
    refine ⟨ρ2, ?_, h5⟩
    rw [List.map_cons, loopD]
    rcases h2 with h2 | h2 <;> (rw [h2]; exact h4)
/-- a comprehension -/
theorem mapF_of {α : Type} {f : D → R (Option D)} (enc : α → D) (g : α → Option D) : ∀ (xs : List α), (∀ a ∈ xs, f (enc a) = .ok (g a)) → mapF f (xs.map enc) = .ok (xs.filterMap g)
  | [], _ => rfl
  | x :: xs, h => by
    rw [List.map_cons, mapF, h x List.mem_cons_self, bind_ok, mapF_of enc g xs fun a ha => h a (List.mem_cons_of_mem _ ha), bind_ok]
    cases hg : g x with
    | none => rw [List.filterMap_cons_none hg]
    | some y => rw [List.filterMap_cons_some hg]
/-- a def's call -/
theorem run_of {P : Prog} {m n f : Nat} {fn : Fn} {ds : List D} {r : R D} (hn : m + 1 ≤ n) (hP : P f = some fn) (h : ∀ k, m ≤ k → runFn fn (tbl P k) ds = r) : run P n f ds = r := by
  obtain ⟨k, rfl⟩ : ∃ k, n = k + 1 := ⟨n - 1, by omega⟩
  rw [run_succ P k f ds hP]
  exact h k (by omega)
theorem run_ex {P : Prog} {m n f : Nat} {fn : Fn} (ds : List D) (hn : m + 1 ≤ n) (hP : P f = some fn) : ∃ k, m ≤ k ∧ run P n f ds = runFn fn (tbl P k) ds := by
  obtain ⟨k, rfl⟩ : ∃ k, n = k + 1 := ⟨n - 1, by omega⟩
  exact ⟨k, by omega, run_succ P k f ds hP⟩
theorem tbl_run (P : Prog) (n f : Nat) (ds : List D) : tbl P n 0 f ds = run P n f ds := rfl
end Ev

/-! EvVia: a walk in stages. -/
namespace Ev
def tkS : Nat → Ss → Ss
  | 0, _ => .nil
  | _ + 1, .nil => .nil
  | n + 1, .cons s ss => .cons s (tkS n ss)
def drS : Nat → Ss → Ss
  | 0, ss => ss
  | _ + 1, .nil => .nil
  | n + 1, .cons _ ss => drS n ss
theorem execs_via : ∀ (n : Nat) {ss : Ss} {T : Tbl} {ρ ρ1 : Env} {r : R Out}, execs (tkS n ss) T ρ = .ok (.nx ρ1) → execs (drS n ss) T ρ1 = r → execs ss T ρ = r
  | 0, ss, T, ρ, ρ1, r, h, h2 => by
    unfold tkS at h
    rw [execs] at h
    cases h
    exact h2
  | n + 1, .nil, T, ρ, ρ1, r, h, h2 => by
    unfold tkS at h
    rw [execs] at h
    cases h
    exact h2
  | n + 1, .cons s ss, T, ρ, ρ1, r, h, h2 => by
    unfold tkS at h
    rw [execs] at h ⊢
    cases he : exec s T ρ with
    | ok o =>
      rw [he] at h
      cases o with
      | nx ρ' => exact execs_via n h h2
      | rt d => cases h
      | ct ρ' => cases h
    | ex c => rw [he] at h; cases h
    | no => rw [he] at h; cases h
end Ev

/-! TAll: the trees of all defs (printed by gen.py). -/
namespace Ev
def t_are_figures : Fn := ⟨3, 4, .cons (.ret (.and (.cons (.isi (.v 0) .str) (.cons (.chain .le .le (.v 1) (.bi .len (.v 0)) (.v 2)) (.cons (.bi .all (.comp (.cmp .inn (.v 3) (.k (.str [48, 49, 50, 51, 52, 53, 54, 55, 56, 57]))) [3] false (.val (.v 0)) (.nil) [3])) (.nil)))))) (.nil)⟩
abbrev H_are_figures (P : Prog) : Prop := P 0 = some t_are_figures
def t_is_number : Fn := ⟨1, 1, .cons (.ret (.call 0 (.cons (.v 0) (.cons (.k (.int 1)) (.cons (.k (.int 12)) (.nil)))))) (.nil)⟩
abbrev H_is_number (P : Prog) : Prop := P 1 = some t_is_number ∧ H_are_figures P
def t_is_word : Fn := ⟨1, 2, .cons (.ret (.and (.cons (.isi (.v 0) .str) (.cons (.chain .le .le (.k (.int 1)) (.bi .len (.v 0)) (.k (.int 4))) (.cons (.bi .all (.comp (.cmp .inn (.v 1) (.k (.str [97, 98, 99, 100, 101, 102, 103, 104, 105, 106, 107, 108, 109, 110, 111, 112, 113, 114, 115, 116, 117, 118, 119, 120, 121, 122]))) [1] false (.val (.v 0)) (.nil) [1])) (.nil)))))) (.nil)⟩
abbrev H_is_word (P : Prog) : Prop := P 2 = some t_is_word
def t_is_rule : Fn := ⟨1, 1, .cons (.ifs (.or (.cons (.not (.isi (.v 0) .tuple)) (.cons (.cmp .ne (.bi .len (.v 0)) (.k (.int 3))) (.cons (.not (.call 0 (.cons (.ix (.v 0) (.k (.int 0))) (.cons (.k (.int 0)) (.cons (.k (.int 12)) (.nil)))))) (.nil))))) (.cons (.ret (.k (.bl false))) (.nil)) (.nil)) (.cons (.ifs (.or (.cons (.not (.isi (.ix (.v 0) (.k (.int 1))) .int)) (.cons (.isi (.ix (.v 0) (.k (.int 1))) .bool) (.cons (.not (.isi (.ix (.v 0) (.k (.int 2))) .str)) (.nil))))) (.cons (.ret (.k (.bl false))) (.nil)) (.nil)) (.cons (.ifs (.cmp .eq (.ix (.v 0) (.k (.int 1))) (.k (.int 0))) (.cons (.ret (.cmp .eq (.ix (.v 0) (.k (.int 2))) (.k (.str [])))) (.nil)) (.nil)) (.cons (.ret (.and (.cons (.chain .le .le (.max2 (.k (.int 1)) (.bi .len (.ix (.v 0) (.k (.int 0))))) (.ix (.v 0) (.k (.int 1))) (.k (.int 12))) (.cons (.call 2 (.cons (.ix (.v 0) (.k (.int 2))) (.nil))) (.nil))))) (.nil))))⟩
abbrev H_is_rule (P : Prog) : Prop := P 3 = some t_is_rule ∧ H_are_figures P ∧ H_is_word P
def t_is_table : Fn := ⟨1, 4, .cons (.ifs (.or (.cons (.not (.isi (.v 0) .tuple)) (.cons (.cmp .gt (.bi .len (.v 0)) (.k (.int 30))) (.cons (.not (.bi .all (.comp (.call 3 (.cons (.v 3) (.nil))) [3] false (.val (.v 0)) (.nil) [3]))) (.nil))))) (.cons (.ret (.k (.bl false))) (.nil)) (.nil)) (.cons (.ret (.bi .all (.comp (.cmp .lt (.ix (.v 1) (.k (.int 0))) (.ix (.v 2) (.k (.int 0)))) [1, 2] true (.zip (.slH (.v 0) (.k (.int (-1)))) (.slL (.v 0) (.k (.int 1)))) (.nil) [1, 2]))) (.nil))⟩
abbrev H_is_table (P : Prog) : Prop := P 4 = some t_is_table ∧ H_is_rule P
def t_cell_at : Fn := ⟨2, 2, .cons (.ifs (.cmp .lt (.v 1) (.bi .len (.v 0))) (.cons (.ret (.ix (.v 0) (.v 1))) (.nil)) (.nil)) (.cons (.ret (.k (.int 0))) (.nil))⟩
abbrev H_cell_at (P : Prog) : Prop := P 5 = some t_cell_at
def t_mixed : Fn := ⟨2, 3, .cons (.set 2 (.bin .mod (.bin .mul (.bin .add (.bin .add (.call 5 (.cons (.v 0) (.cons (.v 1) (.nil)))) (.bin .mul (.k (.int 7919)) (.v 1))) (.k (.int 1))) (.k (.int 48271))) (.k (.int 2147483647)))) (.cons (.ret (.bin .mod (.bin .add (.bin .add (.bin .mul (.v 2) (.v 2)) (.bin .mul (.k (.int 7)) (.v 2))) (.v 1)) (.k (.int 2147483629)))) (.nil))⟩
abbrev H_mixed (P : Prog) : Prop := P 6 = some t_mixed ∧ H_cell_at P
def t_drawn : Fn := ⟨2, 3, .cons (.set 2 (.bin .mod (.bin .mul (.bin .add (.bin .add (.v 0) (.bin .mul (.k (.int 104729)) (.v 1))) (.k (.int 17))) (.k (.int 69621))) (.k (.int 2147483647)))) (.cons (.ret (.bin .mod (.bin .add (.bin .add (.bin .mul (.v 2) (.v 2)) (.bin .mul (.k (.int 3)) (.v 2))) (.v 1)) (.k (.int 2147483629)))) (.nil))⟩
abbrev H_drawn (P : Prog) : Prop := P 7 = some t_drawn
def b_figures_0 : Ss := .cons (.set 2 (.bin .add (.v 2) (.ix (.k (.str [48, 49, 50, 51, 52, 53, 54, 55, 56, 57])) (.bin .mod (.bin .fdiv (.call 7 (.cons (.v 0) (.cons (.v 3) (.nil)))) (.k (.int 16))) (.ix (.tup (.cons (.k (.int 2)) (.cons (.k (.int 3)) (.cons (.k (.int 10)) (.nil))))) (.bin .mod (.bin .fdiv (.v 0) (.k (.int 16))) (.k (.int 3)))))))) (.nil)
def t_figures : Fn := ⟨2, 4, .cons (.set 2 (.k (.str []))) (.cons (.for_ [3] false (.rng1 (.bin .mod (.v 0) (.bin .add (.v 1) (.k (.int 1))))) b_figures_0) (.cons (.ret (.v 2)) (.nil)))⟩
abbrev H_figures (P : Prog) : Prop := P 8 = some t_figures ∧ H_drawn P
def t_rule : Fn := ⟨1, 4, .cons (.set 1 (.call 8 (.cons (.v 0) (.cons (.ix (.tup (.cons (.k (.int 2)) (.cons (.k (.int 4)) (.cons (.k (.int 7)) (.nil))))) (.bin .mod (.bin .fdiv (.v 0) (.k (.int 16384))) (.k (.int 3)))) (.nil))))) (.cons (.set 2 (.bin .fdiv (.call 7 (.cons (.v 0) (.cons (.k (.int 40)) (.nil)))) (.k (.int 16)))) (.cons (.ifs (.cmp .eq (.bin .mod (.v 2) (.k (.int 5))) (.k (.int 0))) (.cons (.ret (.tup (.cons (.v 1) (.cons (.k (.int 0)) (.cons (.k (.str [])) (.nil)))))) (.nil)) (.nil)) (.cons (.set 3 (.bin .add (.max2 (.k (.int 1)) (.bi .len (.v 1))) (.bin .mod (.bin .fdiv (.v 2) (.k (.int 8))) (.ix (.tup (.cons (.k (.int 2)) (.cons (.k (.int 4)) (.cons (.k (.int 12)) (.nil))))) (.bin .mod (.bin .fdiv (.v 2) (.k (.int 128))) (.k (.int 3))))))) (.cons (.ret (.tup (.cons (.v 1) (.cons (.min2 (.k (.int 12)) (.v 3)) (.cons (.ix (.tup (.cons (.k (.str [97])) (.cons (.k (.str [98])) (.cons (.k (.str [99, 100])) (.cons (.k (.str [104, 111, 109, 101])) (.nil)))))) (.bin .mod (.bin .fdiv (.v 2) (.k (.int 512))) (.k (.int 4)))) (.nil)))))) (.nil)))))⟩
abbrev H_rule (P : Prog) : Prop := P 9 = some t_rule ∧ H_figures P ∧ H_drawn P
def b_table_0 : Ss := .cons (.set 4 (.call 9 (.cons (.call 7 (.cons (.v 0) (.cons (.bin .add (.k (.int 50)) (.v 3)) (.nil)))) (.nil)))) (.cons (.key 2 (.ix (.v 4) (.k (.int 0))) (.v 4)) (.nil))
def t_table : Fn := ⟨2, 6, .cons (.dnew 2) (.cons (.for_ [3] false (.rng1 (.bin .mod (.v 0) (.bin .add (.v 1) (.k (.int 1))))) b_table_0) (.cons (.ret (.bi .tuple (.comp (.dix 2 (.v 5)) [5] false (.val (.dsort 2)) (.nil) [5]))) (.nil)))⟩
abbrev H_table (P : Prog) : Prop := P 10 = some t_table ∧ H_rule P ∧ H_drawn P
def t_number : Fn := ⟨2, 4, .cons (.set 2 (.k (.str []))) (.cons (.ifs (.and (.cons (.cmp .ne (.v 1) (.tup (.nil))) (.cons (.cmp .gt (.bin .mod (.bin .fdiv (.v 0) (.k (.int 16))) (.k (.int 3))) (.k (.int 0))) (.nil)))) (.cons (.set 2 (.slH (.ix (.ix (.v 1) (.bin .mod (.bin .fdiv (.v 0) (.k (.int 64))) (.bi .len (.v 1)))) (.k (.int 0))) (.bin .mod (.bin .fdiv (.v 0) (.k (.int 1024))) (.k (.int 8))))) (.nil)) (.nil)) (.cons (.set 3 (.bin .add (.v 2) (.call 8 (.cons (.call 7 (.cons (.v 0) (.cons (.k (.int 3)) (.nil)))) (.cons (.k (.int 6)) (.nil)))))) (.cons (.ret (.slH (.bin .add (.v 3) (.k (.str [48]))) (.max2 (.k (.int 1)) (.min2 (.k (.int 12)) (.bi .len (.v 3)))))) (.nil))))⟩
abbrev H_number (P : Prog) : Prop := P 11 = some t_number ∧ H_figures P ∧ H_drawn P
def t_spoilt : Fn := ⟨3, 6, .cons (.ifs (.and (.cons (.cmp .gt (.v 2) (.k (.int 0))) (.cons (.isi (.v 0) .tuple) (.cons (.cmp .gt (.bi .len (.v 0)) (.k (.int 0))) (.cons (.cmp .gt (.bin .mod (.v 1) (.k (.int 6))) (.k (.int 0))) (.nil)))))) (.cons (.set 4 (.bin .mod (.bin .fdiv (.v 1) (.k (.int 6))) (.bi .len (.v 0)))) (.cons (.set 5 (.call 12 (.cons (.ix (.v 0) (.v 4)) (.cons (.bin .fdiv (.call 7 (.cons (.v 1) (.cons (.v 2) (.nil)))) (.k (.int 4))) (.cons (.bin .sub (.v 2) (.k (.int 1))) (.nil)))))) (.cons (.ret (.bin .add (.bin .add (.slH (.v 0) (.v 4)) (.tup (.cons (.v 5) (.nil)))) (.slL (.v 0) (.bin .add (.v 4) (.k (.int 1)))))) (.nil)))) (.nil)) (.cons (.ifs (.and (.cons (.isi (.v 0) .tuple) (.cons (.cmp .gt (.bi .len (.v 0)) (.k (.int 0))) (.cons (.cmp .eq (.bin .mod (.bin .fdiv (.v 1) (.k (.int 6))) (.k (.int 2))) (.k (.int 0))) (.nil))))) (.cons (.ret (.ix (.lst (.cons (.bi .list (.v 0)) (.cons (.slH (.v 0) (.k (.int (-1)))) (.cons (.bin .add (.v 0) (.slL (.v 0) (.k (.int (-1))))) (.cons (.slL (.v 0) (.k (.int 1))) (.cons (.rev (.v 0)) (.cons (.tup (.nil)) (.nil)))))))) (.bin .mod (.bin .fdiv (.v 1) (.k (.int 12))) (.k (.int 6))))) (.nil)) (.nil)) (.cons (.ifs (.and (.cons (.isi (.v 0) .str) (.cons (.cmp .eq (.bin .mod (.bin .fdiv (.v 1) (.k (.int 6))) (.k (.int 2))) (.k (.int 0))) (.nil)))) (.cons (.ret (.ix (.lst (.cons (.bin .add (.v 0) (.k (.str [97]))) (.cons (.slL (.v 0) (.k (.int 1))) (.cons (.bin .add (.v 0) (.k (.str [49]))) (.cons (.upper (.v 0)) (.cons (.bin .mul (.v 0) (.k (.int 2))) (.cons (.rev (.v 0)) (.nil)))))))) (.bin .mod (.bin .fdiv (.v 1) (.k (.int 12))) (.k (.int 6))))) (.nil)) (.nil)) (.cons (.ifs (.and (.cons (.isi (.v 0) .int) (.cons (.cmp .eq (.bin .mod (.bin .fdiv (.v 1) (.k (.int 6))) (.k (.int 2))) (.k (.int 0))) (.nil)))) (.cons (.ret (.ix (.lst (.cons (.bi .str (.v 0)) (.cons (.bin .sub (.k (.int 0)) (.v 0)) (.cons (.bin .add (.v 0) (.k (.int 1))) (.cons (.cmp .eq (.v 0) (.k (.int 1))) (.cons (.bin .sub (.v 0) (.k (.int 1))) (.cons (.bin .add (.v 0) (.k (.int 60))) (.nil)))))))) (.bin .mod (.bin .fdiv (.v 1) (.k (.int 12))) (.k (.int 6))))) (.nil)) (.nil)) (.cons (.set 3 (.lst (.cons (.k (.non)) (.cons (.k (.bl true)) (.cons (.k (.bl false)) (.cons (.k (.int 0)) (.cons (.k (.int 1)) (.cons (.k (.int 7)) (.cons (.k (.int 12)) (.cons (.k (.int 13)) (.cons (.k (.int (-1))) (.cons (.k (.int 5)) (.cons (.k (.int 2)) (.cons (.k (.str [])) (.cons (.k (.str [97])) (.cons (.k (.str [49, 50])) (.cons (.k (.str [120, 49])) (.cons (.k (.str [97, 98, 99, 100, 101])) (.cons (.k (.str [104, 111, 109, 101])) (.cons (.tup (.nil)) (.cons (.lst (.nil)) (.cons (.tup (.cons (.k (.str [49])) (.cons (.k (.int 2)) (.cons (.k (.str [97])) (.nil))))) (.nil))))))))))))))))))))))) (.cons (.ret (.ix (.v 3) (.bin .mod (.bin .fdiv (.v 1) (.k (.int 6))) (.k (.int 20))))) (.nil))))))⟩
abbrev H_spoilt (P : Prog) : Prop := P 12 = some t_spoilt ∧ H_drawn P
def t_are_figures1 : Fn := ⟨3, 4, .cons (.ifs (.or (.cons (.not (.isi (.v 0) .str)) (.cons (.not (.chain .le .le (.v 1) (.bi .len (.v 0)) (.v 2))) (.nil)))) (.cons (.ret (.k (.bl false))) (.nil)) (.nil)) (.cons (.ret (.cmp .eq (.comp (.v 3) [3] false (.val (.v 0)) (.cons (.not (.chain .le .le (.k (.str [48])) (.v 3) (.k (.str [57])))) .nil) [3]) (.lst (.nil)))) (.nil))⟩
abbrev H_are_figures1 (P : Prog) : Prop := P 13 = some t_are_figures1
def b_is_table1_0 : Ss := .cons (.ifs (.or (.cons (.not (.isi (.v 1) .tuple)) (.cons (.cmp .ne (.bi .len (.v 1)) (.k (.int 3))) (.cons (.not (.call 13 (.cons (.ix (.v 1) (.k (.int 0))) (.cons (.k (.int 0)) (.cons (.k (.int 12)) (.nil)))))) (.nil))))) (.cons (.ret (.k (.bl false))) (.nil)) (.nil)) (.cons (.unp [5, 6, 7] (.v 1)) (.cons (.ifs (.or (.cons (.not (.isi (.v 6) .int)) (.cons (.isi (.v 6) .bool) (.cons (.not (.isi (.v 7) .str)) (.nil))))) (.cons (.ret (.k (.bl false))) (.nil)) (.nil)) (.cons (.set 3 (.and (.cons (.cmp .eq (.v 6) (.k (.int 0))) (.cons (.cmp .eq (.v 7) (.k (.str []))) (.nil))))) (.cons (.set 4 (.and (.cons (.chain .le .le (.k (.int 1)) (.bi .len (.v 7)) (.k (.int 4))) (.cons (.cmp .eq (.comp (.v 8) [8] false (.val (.v 7)) (.cons (.not (.chain .le .le (.k (.str [97])) (.v 8) (.k (.str [122])))) .nil) [8]) (.lst (.nil))) (.nil))))) (.cons (.ifs (.and (.cons (.not (.v 3)) (.cons (.not (.and (.cons (.chain .le .le (.k (.int 1)) (.v 6) (.k (.int 12))) (.cons (.cmp .le (.bi .len (.v 5)) (.v 6)) (.cons (.v 4) (.nil)))))) (.nil)))) (.cons (.ret (.k (.bl false))) (.nil)) (.nil)) (.nil))))))
def t_is_table1 : Fn := ⟨1, 9, .cons (.ifs (.or (.cons (.not (.isi (.v 0) .tuple)) (.cons (.cmp .gt (.bi .len (.v 0)) (.k (.int 30))) (.nil)))) (.cons (.ret (.k (.bl false))) (.nil)) (.nil)) (.cons (.for_ [1] false (.val (.v 0)) b_is_table1_0) (.cons (.set 2 (.comp (.ix (.v 1) (.k (.int 0))) [1] false (.val (.v 0)) (.nil) [1])) (.cons (.ret (.cmp .eq (.v 2) (.bi .srtset (.v 2)))) (.nil))))⟩
abbrev H_is_table1 (P : Prog) : Prop := P 14 = some t_is_table1 ∧ H_are_figures1 P
def t_edges : Fn := ⟨1, 6, .cons (.set 1 (.bin .mod (.v 0) (.k (.int 3)))) (.cons (.set 2 (.bi .tuple (.comp (.tup (.cons (.bi .str (.bin .add (.k (.int 10)) (.v 5))) (.cons (.k (.int 5)) (.cons (.k (.str [97])) (.nil))))) [5] false (.rng1 (.bin .add (.k (.int 29)) (.v 1))) (.nil) [5]))) (.cons (.set 3 (.bi .tuple (.lst (.cons (.tup (.cons (.bin .mul (.k (.str [49])) (.bin .add (.k (.int 10)) (.v 1))) (.cons (.bin .add (.bin .add (.k (.int 9)) (.bin .mod (.bin .fdiv (.v 0) (.k (.int 4))) (.k (.int 4)))) (.bin .fdiv (.v 1) (.k (.int 2)))) (.cons (.k (.str [97])) (.nil))))) (.nil))))) (.cons (.set 4 (.lst (.cons (.v 2) (.cons (.v 3) (.cons (.tup (.cons (.tup (.cons (.bin .mul (.k (.str [49])) (.bin .add (.k (.int 11)) (.v 1))) (.cons (.k (.int 12)) (.cons (.k (.str [97, 98])) (.nil))))) (.nil))) (.cons (.tup (.cons (.tup (.cons (.k (.str [])) (.cons (.v 1) (.cons (.k (.str [97])) (.nil))))) (.nil))) (.nil))))))) (.cons (.set 4 (.bin .add (.v 4) (.lst (.cons (.tup (.cons (.tup (.cons (.k (.str [])) (.cons (.bin .add (.k (.int 11)) (.v 1)) (.cons (.k (.str [97])) (.nil))))) (.nil))) (.cons (.tup (.cons (.tup (.cons (.k (.str [49, 50])) (.cons (.k (.int 0)) (.cons (.slL (.k (.str [97])) (.v 1)) (.nil))))) (.nil))) (.cons (.tup (.cons (.tup (.cons (.k (.str [49, 50])) (.cons (.bin .add (.k (.int 1)) (.v 1)) (.cons (.k (.str [97])) (.nil))))) (.nil))) (.nil))))))) (.cons (.set 4 (.bin .add (.v 4) (.lst (.cons (.tup (.cons (.tup (.cons (.k (.str [])) (.cons (.k (.int 4)) (.cons (.bin .add (.slL (.k (.str [97, 98, 99, 100])) (.v 1)) (.k (.str [101]))) (.nil))))) (.nil))) (.cons (.tup (.cons (.tup (.cons (.k (.str [])) (.cons (.k (.int 4)) (.cons (.k (.str [])) (.nil))))) (.nil))) (.cons (.tup (.cons (.tup (.cons (.k (.str [49, 97])) (.cons (.k (.int 4)) (.cons (.k (.str [97])) (.nil))))) (.nil))) (.nil))))))) (.cons (.ret (.bin .add (.v 4) (.lst (.cons (.bin .mul (.tup (.cons (.tup (.cons (.k (.str [49])) (.cons (.k (.int 0)) (.cons (.k (.str [])) (.nil))))) (.nil))) (.v 1)) (.nil))))) (.nil)))))))⟩
abbrev H_edges (P : Prog) : Prop := P 15 = some t_edges
def b_law_k01_0 : Ss := .cons (.set 6 (.call 4 (.cons (.v 5) (.nil)))) (.cons (.ifs (.or (.cons (.not (.isi (.v 6) .bool)) (.cons (.cmp .ne (.v 6) (.call 14 (.cons (.v 5) (.nil)))) (.nil)))) (.cons (.ret (.k (.bl false))) (.nil)) (.nil)) (.nil))
def b_law_k01_1 : Ss := .cons (.set 6 (.call 1 (.cons (.v 5) (.nil)))) (.cons (.ifs (.or (.cons (.not (.isi (.v 6) .bool)) (.cons (.cmp .ne (.v 6) (.call 13 (.cons (.v 5) (.cons (.k (.int 1)) (.cons (.k (.int 12)) (.nil)))))) (.nil)))) (.cons (.ret (.k (.bl false))) (.nil)) (.nil)) (.nil))
def t_law_k01 : Fn := ⟨1, 7, .cons (.set 1 (.call 6 (.cons (.v 0) (.cons (.k (.int 0)) (.nil))))) (.cons (.set 2 (.call 10 (.cons (.call 6 (.cons (.v 0) (.cons (.k (.int 1)) (.nil)))) (.cons (.k (.int 30)) (.nil))))) (.cons (.set 3 (.call 11 (.cons (.call 6 (.cons (.v 0) (.cons (.k (.int 2)) (.nil)))) (.cons (.v 2) (.nil))))) (.cons (.ifs (.or (.cons (.notB (.call 4 (.cons (.v 2) (.nil))) true) (.cons (.notB (.call 1 (.cons (.v 3) (.nil))) true) (.nil)))) (.cons (.ret (.k (.bl false))) (.nil)) (.nil)) (.cons (.set 4 (.v 2)) (.cons (.ifs (.cmp .gt (.bin .mod (.v 1) (.k (.int 3))) (.k (.int 0))) (.cons (.set 4 (.call 12 (.cons (.v 4) (.cons (.call 6 (.cons (.v 0) (.cons (.k (.int 3)) (.nil)))) (.cons (.bin .mod (.bin .fdiv (.v 1) (.k (.int 4))) (.k (.int 4))) (.nil)))))) (.cons (.set 3 (.call 12 (.cons (.v 3) (.cons (.call 6 (.cons (.v 0) (.cons (.k (.int 4)) (.nil)))) (.cons (.k (.int 0)) (.nil)))))) (.nil))) (.nil)) (.cons (.for_ [5] false (.val (.bin .add (.call 15 (.cons (.call 6 (.cons (.v 0) (.cons (.k (.int 5)) (.nil)))) (.nil))) (.lst (.cons (.v 4) (.cons (.v 3) (.nil)))))) b_law_k01_0) (.cons (.for_ [5] false (.val (.tup (.cons (.v 3) (.cons (.bin .mul (.k (.str [49])) (.bin .add (.k (.int 11)) (.bin .mod (.v 1) (.k (.int 3))))) (.cons (.k (.str [])) (.cons (.k (.str [49, 50, 97])) (.cons (.k (.int 12)) (.cons (.k (.non)) (.cons (.tup (.cons (.k (.str [49])) (.nil))) (.cons (.v 4) (.nil))))))))))) b_law_k01_1) (.cons (.ret (.k (.bl true))) (.nil)))))))))⟩
abbrev H_law_k01 (P : Prog) : Prop := P 16 = some t_law_k01 ∧ H_mixed P ∧ H_table P ∧ H_number P ∧ H_is_number P ∧ H_is_table P ∧ H_spoilt P ∧ H_edges P ∧ H_is_table1 P ∧ H_are_figures1 P
def b_places_in_0 : Ss := .cons (.set 2 (.bin .add (.v 2) (.call 17 (.cons (.v 4) (.cons (.bin .add (.v 1) (.tup (.cons (.v 3) (.nil)))) (.nil)))))) (.nil)
def t_places_in : Fn := ⟨2, 5, .cons (.set 2 (.lst (.cons (.v 1) (.nil)))) (.cons (.ifs (.isi (.v 0) .tuple) (.cons (.for_ [3, 4] true (.enu (.v 0)) b_places_in_0) (.nil)) (.nil)) (.cons (.ret (.v 2)) (.nil)))⟩
abbrev H_places_in (P : Prog) : Prop := P 17 = some t_places_in
def t_otherwise : Fn := ⟨2, 3, .cons (.ifs (.isi (.v 0) .tuple) (.cons (.set 2 (.lst (.cons (.bi .list (.v 0)) (.cons (.bi .list (.v 0)) (.cons (.bin .add (.v 0) (.slH (.v 0) (.k (.int 1)))) (.nil)))))) (.cons (.ret (.ix (.bin .add (.v 2) (.lst (.cons (.slL (.v 0) (.k (.int 1))) (.cons (.lst (.cons (.v 0) (.nil))) (.nil))))) (.bin .mod (.v 1) (.k (.int 5))))) (.nil))) (.nil)) (.cons (.ifs (.isi (.v 0) .bool) (.cons (.ret (.ix (.lst (.cons (.bi .int (.v 0)) (.cons (.k (.non)) (.cons (.bi .str (.v 0)) (.nil))))) (.bin .mod (.v 1) (.k (.int 3))))) (.nil)) (.nil)) (.cons (.ifs (.isi (.v 0) .int) (.cons (.set 2 (.lst (.cons (.k (.bl true)) (.cons (.k (.non)) (.cons (.bi .str (.v 0)) (.cons (.tup (.cons (.v 0) (.nil))) (.nil))))))) (.cons (.ret (.ix (.bin .add (.v 2) (.lst (.cons (.bin .sub (.k (.int (-1))) (.v 0)) (.nil)))) (.bin .mod (.v 1) (.k (.int 5))))) (.nil))) (.nil)) (.cons (.ret (.ix (.lst (.cons (.k (.non)) (.cons (.tup (.cons (.v 0) (.nil))) (.cons (.lst (.cons (.v 0) (.nil))) (.cons (.k (.str [])) (.cons (.k (.int 0)) (.nil))))))) (.bin .mod (.v 1) (.k (.int 5))))) (.nil))))⟩
abbrev H_otherwise (P : Prog) : Prop := P 19 = some t_otherwise
def b_rule_for_0 : Ss := .cons (.ifs (.and (.cons (.mt .startswith (.v 1) (.ix (.v 3) (.k (.int 0)))) (.cons (.or (.cons (.isN (.v 2)) (.cons (.cmp .gt (.bi .len (.ix (.v 3) (.k (.int 0)))) (.bi .len (.ix (.v 2) (.k (.int 0))))) (.nil)))) (.nil)))) (.cons (.set 2 (.v 3)) (.nil)) (.nil)) (.nil)
def t_rule_for : Fn := ⟨2, 4, .cons (.set 2 (.k (.non))) (.cons (.for_ [3] false (.val (.v 0)) b_rule_for_0) (.cons (.ret (.v 2)) (.nil)))⟩
abbrev H_rule_for (P : Prog) : Prop := P 23 = some t_rule_for
def t_judged : Fn := ⟨2, 2, .cons (.ifs (.isN (.v 0)) (.cons (.ret (.tup (.cons (.k (.str [110, 111, 110, 101])) (.nil)))) (.nil)) (.nil)) (.cons (.ifs (.cmp .eq (.ix (.v 0) (.k (.int 1))) (.k (.int 0))) (.cons (.ret (.tup (.cons (.k (.str [99, 108, 111, 115, 101, 100])) (.nil)))) (.nil)) (.nil)) (.cons (.ifs (.cmp .lt (.v 1) (.ix (.v 0) (.k (.int 1)))) (.cons (.ret (.tup (.cons (.k (.str [109, 111, 114, 101])) (.cons (.bin .sub (.ix (.v 0) (.k (.int 1))) (.v 1)) (.nil))))) (.nil)) (.nil)) (.cons (.ifs (.cmp .eq (.v 1) (.ix (.v 0) (.k (.int 1)))) (.cons (.ret (.tup (.cons (.k (.str [103, 111, 111, 100])) (.cons (.ix (.v 0) (.k (.int 2))) (.nil))))) (.nil)) (.nil)) (.cons (.ret (.tup (.cons (.k (.str [108, 111, 110, 103])) (.nil)))) (.nil)))))⟩
abbrev H_judged (P : Prog) : Prop := P 24 = some t_judged
def t_says : Fn := ⟨2, 2, .cons (.ret (.call 24 (.cons (.call 23 (.cons (.v 0) (.cons (.v 1) (.nil)))) (.cons (.bi .len (.v 1)) (.nil))))) (.nil)⟩
abbrev H_says (P : Prog) : Prop := P 25 = some t_says ∧ H_judged P ∧ H_rule_for P
def t_dialled : Fn := ⟨2, 3, .cons (.ret (.bi .tuple (.comp (.call 25 (.cons (.v 0) (.cons (.slH (.v 1) (.v 2)) (.nil)))) [2] false (.rng2 (.k (.int 1)) (.bin .add (.bi .len (.v 1)) (.k (.int 1)))) (.nil) [2]))) (.nil)⟩
abbrev H_dialled (P : Prog) : Prop := P 26 = some t_dialled ∧ H_says P
def t_words_of : Fn := ⟨1, 2, .cons (.ret (.bi .tuple (.bi .srtset (.comp (.ix (.v 1) (.k (.int 2))) [1] false (.val (.v 0)) (.cons (.cmp .gt (.ix (.v 1) (.k (.int 1))) (.k (.int 0))) .nil) [1])))) (.nil)⟩
abbrev H_words_of (P : Prog) : Prop := P 27 = some t_words_of
def b_rule_for1_0 : Ss := .cons (.ifs (.cmp .eq (.ix (.v 3) (.k (.int 0))) (.slH (.v 1) (.v 2))) (.cons (.ret (.v 3)) (.nil)) (.nil)) (.nil)
def b_rule_for1_1 : Ss := .cons (.for_ [3] false (.val (.v 0)) b_rule_for1_0) (.nil)
def t_rule_for1 : Fn := ⟨2, 4, .cons (.for_ [2] false (.rngd (.bi .len (.v 1)) (.k (.int (-1)))) b_rule_for1_1) (.cons (.ret (.k (.non))) (.nil))⟩
abbrev H_rule_for1 (P : Prog) : Prop := P 28 = some t_rule_for1
def t_says1 : Fn := ⟨2, 4, .cons (.set 2 (.call 28 (.cons (.v 0) (.cons (.v 1) (.nil))))) (.cons (.ifs (.isN (.v 2)) (.cons (.ret (.tup (.cons (.k (.str [110, 111, 110, 101])) (.nil)))) (.nil)) (.nil)) (.cons (.ifs (.cmp .eq (.ix (.v 2) (.k (.int 1))) (.k (.int 0))) (.cons (.ret (.tup (.cons (.k (.str [99, 108, 111, 115, 101, 100])) (.nil)))) (.nil)) (.nil)) (.cons (.set 3 (.bin .sub (.ix (.v 2) (.k (.int 1))) (.bi .len (.v 1)))) (.cons (.ifs (.cmp .gt (.v 3) (.k (.int 0))) (.cons (.ret (.tup (.cons (.k (.str [109, 111, 114, 101])) (.cons (.v 3) (.nil))))) (.nil)) (.nil)) (.cons (.ret (.ix (.lst (.cons (.tup (.cons (.k (.str [108, 111, 110, 103])) (.nil))) (.cons (.tup (.cons (.k (.str [103, 111, 111, 100])) (.cons (.ix (.v 2) (.k (.int 2))) (.nil)))) (.nil)))) (.bi .int (.cmp .eq (.v 3) (.k (.int 0)))))) (.nil))))))⟩
abbrev H_says1 (P : Prog) : Prop := P 29 = some t_says1 ∧ H_rule_for1 P
def b_law_k10_0 : Ss := .cons (.ifs (.and (.cons (.cmp .gt (.v 5) (.k (.int 0))) (.cons (.cmp .nin (.v 6) (.b 2)) (.nil)))) (.cons (.app 2 (.v 6)) (.nil)) (.nil)) (.nil)
def b_law_k10_1 : Ss := .cons (.set 7 (.call 11 (.cons (.call 6 (.cons (.v 0) (.cons (.bin .add (.k (.int 1)) (.v 3)) (.nil)))) (.cons (.v 1) (.nil))))) (.cons (.ifs (.or (.cons (.cmp .ne (.call 23 (.cons (.v 1) (.cons (.v 7) (.nil)))) (.call 28 (.cons (.v 1) (.cons (.v 7) (.nil))))) (.cons (.cmp .ne (.call 25 (.cons (.v 1) (.cons (.v 7) (.nil)))) (.call 29 (.cons (.v 1) (.cons (.v 7) (.nil))))) (.nil)))) (.cons (.ret (.k (.bl false))) (.nil)) (.nil)) (.cons (.set 8 (.bi .tuple (.comp (.call 29 (.cons (.v 1) (.cons (.slH (.v 7) (.v 5)) (.nil)))) [5] false (.rng2 (.k (.int 1)) (.bin .add (.bi .len (.v 7)) (.k (.int 1)))) (.nil) [5]))) (.cons (.ifs (.or (.cons (.cmp .ne (.call 26 (.cons (.v 1) (.cons (.v 7) (.nil)))) (.v 8)) (.cons (.cmp .ne (.bi .repr (.call 26 (.cons (.v 1) (.cons (.v 7) (.nil))))) (.bi .repr (.v 8))) (.nil)))) (.cons (.ret (.k (.bl false))) (.nil)) (.nil)) (.nil))))
def t_law_k10 : Fn := ⟨1, 9, .cons (.set 1 (.call 10 (.cons (.call 6 (.cons (.v 0) (.cons (.k (.int 0)) (.nil)))) (.cons (.k (.int 16)) (.nil))))) (.cons (.own 2 (.nil)) (.cons (.for_ [4, 5, 6] true (.val (.v 1)) b_law_k10_0) (.cons (.frz 2) (.cons (.ifs (.cmp .ne (.call 27 (.cons (.v 1) (.nil))) (.bi .tuple (.bi .sorted (.v 2)))) (.cons (.ret (.k (.bl false))) (.nil)) (.nil)) (.cons (.for_ [3] false (.rng1 (.k (.int 6))) b_law_k10_1) (.cons (.ret (.k (.bl true))) (.nil)))))))⟩
abbrev H_law_k10 (P : Prog) : Prop := P 30 = some t_law_k10 ∧ H_table P ∧ H_mixed P ∧ H_words_of P ∧ H_number P ∧ H_says P ∧ H_says1 P ∧ H_rule_for P ∧ H_rule_for1 P ∧ H_dialled P
def b_power_0 : Ss := .cons (.set 1 (.bin .mul (.k (.int 10)) (.v 1))) (.nil)
def t_power : Fn := ⟨1, 3, .cons (.set 1 (.k (.int 1))) (.cons (.for_ [2] false (.rng1 (.v 0)) b_power_0) (.cons (.ret (.v 1)) (.nil)))⟩
abbrev H_power (P : Prog) : Prop := P 31 = some t_power
def b_tops_below_0 : Ss := .cons (.ifs (.not (.bi .any (.comp (.mt .startswith (.v 3) (.v 5)) [5] false (.dkeys 2) (.nil) [5]))) (.cons (.app 2 (.v 3)) (.nil)) (.nil)) (.nil)
def t_tops_below : Fn := ⟨2, 6, .cons (.own 2 (.nil)) (.cons (.for_ [3] false (.val (.bi .sorted (.comp (.ix (.v 4) (.k (.int 0))) [4] false (.val (.v 0)) (.cons (.and (.cons (.mt .startswith (.ix (.v 4) (.k (.int 0))) (.v 1)) (.cons (.cmp .ne (.ix (.v 4) (.k (.int 0))) (.v 1)) (.nil)))) .nil) [4]))) b_tops_below_0) (.cons (.frz 2) (.cons (.ret (.v 2)) (.nil))))⟩
abbrev H_tops_below (P : Prog) : Prop := P 32 = some t_tops_below
def b_count_of_0 : Ss := .cons (.ifs (.mt .startswith (.v 4) (.v 6)) (.cons (.ret (.k (.int 0))) (.nil)) (.nil)) (.cons (.ifs (.and (.cons (.mt .startswith (.v 6) (.v 4)) (.cons (.cmp .le (.bi .len (.v 6)) (.v 2)) (.nil)))) (.cons (.set 5 (.bin .sub (.v 5) (.call 31 (.cons (.bin .sub (.v 2) (.bi .len (.v 6))) (.nil))))) (.nil)) (.nil)) (.nil))
def t_count_of : Fn := ⟨4, 7, .cons (.ifs (.and (.cons (.not (.mt .startswith (.v 1) (.v 3))) (.cons (.not (.mt .startswith (.v 3) (.v 1))) (.nil)))) (.cons (.ret (.k (.int 0))) (.nil)) (.nil)) (.cons (.set 4 (.v 1)) (.cons (.ifs (.cmp .gt (.bi .len (.v 3)) (.bi .len (.v 1))) (.cons (.set 4 (.v 3)) (.nil)) (.nil)) (.cons (.ifs (.cmp .gt (.bi .len (.v 4)) (.v 2)) (.cons (.ret (.k (.int 0))) (.nil)) (.nil)) (.cons (.set 5 (.call 31 (.cons (.bin .sub (.v 2) (.bi .len (.v 4))) (.nil)))) (.cons (.for_ [6] false (.val (.call 32 (.cons (.v 0) (.cons (.v 1) (.nil))))) b_count_of_0) (.cons (.ret (.v 5)) (.nil)))))))⟩
abbrev H_count_of (P : Prog) : Prop := P 33 = some t_count_of ∧ H_power P ∧ H_tops_below P
def t_many_from : Fn := ⟨3, 4, .cons (.ret (.bi .sum (.comp (.call 33 (.cons (.v 0) (.cons (.ix (.v 3) (.k (.int 0))) (.cons (.ix (.v 3) (.k (.int 1))) (.cons (.v 2) (.nil)))))) [3] false (.val (.v 0)) (.cons (.and (.cons (.cmp .gt (.ix (.v 3) (.k (.int 1))) (.k (.int 0))) (.cons (.cmp .eq (.ix (.v 3) (.k (.int 2))) (.v 1)) (.nil)))) .nil) [3]))) (.nil)⟩
abbrev H_many_from (P : Prog) : Prop := P 34 = some t_many_from ∧ H_count_of P
def t_many : Fn := ⟨2, 2, .cons (.ret (.call 34 (.cons (.v 0) (.cons (.v 1) (.cons (.k (.str [])) (.nil)))))) (.nil)⟩
abbrev H_many (P : Prog) : Prop := P 35 = some t_many ∧ H_many_from P
def t_live : Fn := ⟨2, 3, .cons (.ret (.bi .any (.comp (.cmp .gt (.call 34 (.cons (.v 0) (.cons (.v 2) (.cons (.v 1) (.nil))))) (.k (.int 0))) [2] false (.val (.call 27 (.cons (.v 0) (.nil)))) (.nil) [2]))) (.nil)⟩
abbrev H_live (P : Prog) : Prop := P 36 = some t_live ∧ H_words_of P ∧ H_many_from P
def t_nexts : Fn := ⟨2, 3, .cons (.ret (.mt .join (.k (.str [])) (.comp (.v 2) [2] false (.val (.k (.str [48, 49, 50, 51, 52, 53, 54, 55, 56, 57]))) (.cons (.call 36 (.cons (.v 0) (.cons (.bin .add (.v 1) (.v 2)) (.nil)))) .nil) [2]))) (.nil)⟩
abbrev H_nexts (P : Prog) : Prop := P 37 = some t_nexts ∧ H_live P
def t_is_good : Fn := ⟨3, 3, .cons (.ret (.cmp .eq (.call 25 (.cons (.v 0) (.cons (.v 2) (.nil)))) (.tup (.cons (.k (.str [103, 111, 111, 100])) (.cons (.v 1) (.nil)))))) (.nil)⟩
abbrev H_is_good (P : Prog) : Prop := P 38 = some t_is_good ∧ H_says P
def b_step_from_0 : Ss := .cons (.set 5 (.call 34 (.cons (.v 0) (.cons (.v 1) (.cons (.bin .add (.v 2) (.v 4)) (.nil)))))) (.cons (.ifs (.cmp .lt (.v 3) (.v 5)) (.cons (.ret (.tup (.cons (.bin .add (.v 2) (.v 4)) (.cons (.v 3) (.nil))))) (.nil)) (.nil)) (.cons (.set 3 (.bin .sub (.v 3) (.v 5))) (.nil)))
def t_step_from : Fn := ⟨4, 6, .cons (.for_ [4] false (.val (.k (.str [48, 49, 50, 51, 52, 53, 54, 55, 56, 57]))) b_step_from_0) (.cons (.raise 0) (.nil))⟩
abbrev H_step_from (P : Prog) : Prop := P 39 = some t_step_from ∧ H_many_from P
def b_nth_0 : Ss := .cons (.ifs (.and (.cons (.cmp .ne (.v 3) (.k (.str []))) (.cons (.call 38 (.cons (.v 0) (.cons (.v 1) (.cons (.v 3) (.nil))))) (.nil)))) (.cons (.set 2 (.bin .sub (.v 2) (.k (.int 1)))) (.nil)) (.nil)) (.cons (.unp [3, 2] (.call 39 (.cons (.v 0) (.cons (.v 1) (.cons (.v 3) (.cons (.v 2) (.nil))))))) (.nil))
def t_nth : Fn := ⟨3, 4, .cons (.ifs (.cmp .ge (.v 2) (.call 35 (.cons (.v 0) (.cons (.v 1) (.nil))))) (.cons (.raise 0) (.nil)) (.nil)) (.cons (.set 3 (.k (.str []))) (.cons (.whl 1000000000 (.or (.cons (.cmp .gt (.v 2) (.k (.int 0))) (.cons (.cmp .eq (.v 3) (.k (.str []))) (.cons (.not (.call 38 (.cons (.v 0) (.cons (.v 1) (.cons (.v 3) (.nil)))))) (.nil))))) b_nth_0) (.cons (.ret (.v 3)) (.nil))))⟩
abbrev H_nth (P : Prog) : Prop := P 40 = some t_nth ∧ H_many P ∧ H_is_good P ∧ H_step_from P
def t_first_ones : Fn := ⟨3, 4, .cons (.ret (.bi .tuple (.comp (.call 40 (.cons (.v 0) (.cons (.v 1) (.cons (.v 3) (.nil))))) [3] false (.rng1 (.min2 (.v 2) (.call 35 (.cons (.v 0) (.cons (.v 1) (.nil)))))) (.nil) [3]))) (.nil)⟩
abbrev H_first_ones (P : Prog) : Prop := P 41 = some t_first_ones ∧ H_many P ∧ H_nth P
def b_small_0 : Ss := .cons (.set 4 (.bin .add (.v 4) (.ix (.k (.str [48, 49, 50, 57])) (.bin .mod (.bin .fdiv (.call 7 (.cons (.v 3) (.cons (.v 5) (.nil)))) (.k (.int 16))) (.k (.int 4)))))) (.nil)
def b_small_1 : Ss := .cons (.set 3 (.call 7 (.cons (.v 0) (.cons (.bin .add (.k (.int 60)) (.v 2)) (.nil))))) (.cons (.set 4 (.k (.str []))) (.cons (.for_ [5] false (.rng1 (.bin .mod (.bin .fdiv (.v 3) (.k (.int 16))) (.k (.int 4)))) b_small_0) (.cons (.ifs (.and (.cons (.dne 1) (.cons (.cmp .gt (.bin .mod (.bin .fdiv (.v 3) (.k (.int 4096))) (.k (.int 3))) (.k (.int 0))) (.nil)))) (.cons (.set 8 (.ix (.dsort 1) (.bin .mod (.bin .fdiv (.v 3) (.k (.int 16384))) (.dlen 1)))) (.cons (.set 4 (.slH (.bin .add (.v 8) (.ix (.k (.str [48, 49, 50, 57])) (.bin .mod (.bin .fdiv (.v 3) (.k (.int 131072))) (.k (.int 4))))) (.k (.int 3)))) (.nil))) (.nil)) (.cons (.set 6 (.bin .add (.max2 (.k (.int 1)) (.bi .len (.v 4))) (.bin .mod (.bin .fdiv (.v 3) (.k (.int 64))) (.k (.int 3))))) (.cons (.set 7 (.tup (.cons (.v 4) (.cons (.v 6) (.cons (.ix (.tup (.cons (.k (.str [97])) (.cons (.k (.str [97])) (.cons (.k (.str [98])) (.cons (.k (.str [99, 100])) (.nil)))))) (.bin .mod (.bin .fdiv (.v 3) (.k (.int 256))) (.k (.int 4)))) (.nil)))))) (.cons (.ifs (.cmp .eq (.bin .mod (.bin .fdiv (.v 3) (.k (.int 1024))) (.k (.int 4))) (.k (.int 0))) (.cons (.set 7 (.tup (.cons (.v 4) (.cons (.k (.int 0)) (.cons (.k (.str [])) (.nil)))))) (.nil)) (.nil)) (.cons (.ifs (.cmp .lt (.v 6) (.k (.int 4))) (.cons (.key 1 (.v 4) (.v 7)) (.nil)) (.nil)) (.nil))))))))
def t_small : Fn := ⟨1, 9, .cons (.dnew 1) (.cons (.for_ [2] false (.rng1 (.bin .mod (.v 0) (.k (.int 6)))) b_small_1) (.cons (.ret (.bi .tuple (.comp (.dix 1 (.v 4)) [4] false (.val (.dsort 1)) (.nil) [4]))) (.nil)))⟩
abbrev H_small (P : Prog) : Prop := P 43 = some t_small ∧ H_drawn P
def b_all_0 : Ss := .cons (.ext 4 (.comp (.bin .add (.v 5) (.v 6)) [6] false (.val (.k (.str [48, 49, 50, 51, 52, 53, 54, 55, 56, 57]))) (.nil) [6])) (.nil)
def b_all_1 : Ss := .cons (.own 4 (.nil)) (.cons (.for_ [5] false (.val (.v 2)) b_all_0) (.cons (.frz 4) (.cons (.set 2 (.v 4)) (.cons (.set 1 (.bin .add (.v 1) (.v 2))) (.nil)))))
def t_all : Fn := ⟨1, 7, .cons (.set 1 (.lst (.nil))) (.cons (.set 2 (.lst (.cons (.k (.str [])) (.nil)))) (.cons (.for_ [3] false (.rng1 (.v 0)) b_all_1) (.cons (.ret (.v 1)) (.nil))))⟩
abbrev H_all (P : Prog) : Prop := P 44 = some t_all
def b_parent_of_0 : Ss := .cons (.ifs (.and (.cons (.mt .startswith (.ix (.v 1) (.k (.int 0))) (.ix (.v 3) (.k (.int 0)))) (.cons (.cmp .ne (.ix (.v 1) (.k (.int 0))) (.ix (.v 3) (.k (.int 0)))) (.nil)))) (.cons (.ifs (.or (.cons (.isN (.v 2)) (.cons (.cmp .gt (.bi .len (.ix (.v 3) (.k (.int 0)))) (.bi .len (.ix (.v 2) (.k (.int 0))))) (.nil)))) (.cons (.set 2 (.v 3)) (.nil)) (.nil)) (.nil)) (.nil)) (.nil)
def t_parent_of : Fn := ⟨2, 4, .cons (.set 2 (.k (.non))) (.cons (.for_ [3] false (.val (.v 0)) b_parent_of_0) (.cons (.ret (.v 2)) (.nil)))⟩
abbrev H_parent_of (P : Prog) : Prop := P 46 = some t_parent_of
def t_goods_by : Fn := ⟨3, 3, .cons (.ifs (.or (.cons (.isN (.v 2)) (.cons (.cmp .eq (.ix (.v 2) (.k (.int 1))) (.k (.int 0))) (.cons (.cmp .eq (.call 33 (.cons (.v 0) (.cons (.v 1) (.cons (.ix (.v 2) (.k (.int 1))) (.cons (.v 1) (.nil)))))) (.k (.int 0))) (.nil))))) (.cons (.ret (.k (.non))) (.nil)) (.nil)) (.cons (.ret (.slL (.v 2) (.k (.int 1)))) (.nil))⟩
abbrev H_goods_by (P : Prog) : Prop := P 47 = some t_goods_by ∧ H_count_of P
def t_is_idle : Fn := ⟨2, 2, .cons (.ret (.cmp .eq (.call 47 (.cons (.v 0) (.cons (.ix (.v 1) (.k (.int 0))) (.cons (.v 1) (.nil))))) (.call 47 (.cons (.v 0) (.cons (.ix (.v 1) (.k (.int 0))) (.cons (.call 46 (.cons (.v 0) (.cons (.v 1) (.nil)))) (.nil))))))) (.nil)⟩
abbrev H_is_idle (P : Prog) : Prop := P 48 = some t_is_idle ∧ H_goods_by P ∧ H_parent_of P
def t_idle : Fn := ⟨1, 2, .cons (.ret (.bi .tuple (.comp (.v 1) [1] false (.val (.v 0)) (.cons (.call 48 (.cons (.v 0) (.cons (.v 1) (.nil)))) .nil) [1]))) (.nil)⟩
abbrev H_idle (P : Prog) : Prop := P 49 = some t_idle ∧ H_is_idle P
def b_lean_0 : Ss := .cons (.ifs (.call 48 (.cons (.v 1) (.cons (.v 2) (.nil)))) (.cons (.set 1 (.bi .tuple (.comp (.v 3) [3] false (.val (.v 1)) (.cons (.cmp .ne (.v 3) (.v 2)) .nil) [3]))) (.nil)) (.nil)) (.nil)
def t_lean : Fn := ⟨1, 4, .cons (.set 1 (.v 0)) (.cons (.for_ [2] false (.val (.rev (.v 0))) b_lean_0) (.cons (.ret (.v 1)) (.nil)))⟩
abbrev H_lean (P : Prog) : Prop := P 50 = some t_lean ∧ H_is_idle P
def b_goods_0 : Ss := .cons (.set 4 (.call 29 (.cons (.v 0) (.cons (.v 3) (.nil))))) (.cons (.ifs (.cmp .eq (.ix (.v 4) (.k (.int 0))) (.k (.str [103, 111, 111, 100]))) (.cons (.app 2 (.tup (.cons (.v 3) (.cons (.ix (.v 4) (.k (.int 1))) (.nil))))) (.nil)) (.nil)) (.nil))
def t_goods : Fn := ⟨2, 5, .cons (.own 2 (.nil)) (.cons (.for_ [3] false (.val (.v 1)) b_goods_0) (.cons (.frz 2) (.cons (.ret (.v 2)) (.nil))))⟩
abbrev H_goods (P : Prog) : Prop := P 51 = some t_goods ∧ H_says1 P
def b_law_k12_0 : Ss := .cons (.set 7 (.bi .tuple (.comp (.v 8) [8] false (.val (.v 1)) (.cons (.cmp .ne (.v 8) (.v 5)) .nil) [8]))) (.cons (.ifs (.cmp .eq (.call 51 (.cons (.v 7) (.cons (.v 2) (.nil)))) (.v 3)) (.cons (.app 4 (.v 5)) (.nil)) (.nil)) (.nil))
def b_law_k12_1 : Ss := .cons (.set 7 (.bi .tuple (.comp (.v 8) [8] false (.val (.v 6)) (.cons (.cmp .ne (.v 8) (.v 5)) .nil) [8]))) (.cons (.ifs (.cmp .eq (.call 51 (.cons (.v 7) (.cons (.v 2) (.nil)))) (.v 3)) (.cons (.set 6 (.v 7)) (.nil)) (.nil)) (.nil))
def t_law_k12 : Fn := ⟨1, 9, .cons (.set 1 (.call 43 (.cons (.call 6 (.cons (.v 0) (.cons (.k (.int 0)) (.nil)))) (.nil)))) (.cons (.set 2 (.call 44 (.cons (.k (.int 3)) (.nil)))) (.cons (.set 3 (.call 51 (.cons (.v 1) (.cons (.v 2) (.nil))))) (.cons (.own 4 (.nil)) (.cons (.for_ [5] false (.val (.v 1)) b_law_k12_0) (.cons (.frz 4) (.cons (.ifs (.cmp .ne (.call 49 (.cons (.v 1) (.nil))) (.bi .tuple (.v 4))) (.cons (.ret (.k (.bl false))) (.nil)) (.nil)) (.cons (.set 6 (.v 1)) (.cons (.for_ [5] false (.val (.rev (.v 1))) b_law_k12_1) (.cons (.ret (.cmp .eq (.call 50 (.cons (.v 1) (.nil))) (.v 6))) (.nil))))))))))⟩
abbrev H_law_k12 (P : Prog) : Prop := P 52 = some t_law_k12 ∧ H_small P ∧ H_mixed P ∧ H_all P ∧ H_goods P ∧ H_idle P ∧ H_lean P
def b_law_k13_0 : Ss := .cons (.ifs (.or (.cons (.cmp .nin (.ix (.v 10) (.v 11)) (.call 37 (.cons (.v 1) (.cons (.slH (.v 10) (.v 11)) (.nil))))) (.cons (.not (.call 36 (.cons (.v 1) (.cons (.slH (.v 10) (.v 11)) (.nil))))) (.nil)))) (.cons (.ret (.k (.bl false))) (.nil)) (.nil)) (.nil)
def b_law_k13_1 : Ss := .cons (.set 7 (.call 35 (.cons (.v 1) (.cons (.v 4) (.nil))))) (.cons (.ifs (.cmp .ne (.call 35 (.cons (.v 3) (.cons (.v 4) (.nil)))) (.v 7)) (.cons (.ret (.k (.bl false))) (.nil)) (.nil)) (.cons (.set 8 (.call 41 (.cons (.v 1) (.cons (.v 4) (.cons (.k (.int 7)) (.nil)))))) (.cons (.ifs (.or (.cons (.cmp .ne (.bi .len (.v 8)) (.min2 (.k (.int 7)) (.v 7))) (.cons (.cmp .ne (.bi .list (.v 8)) (.bi .srtset (.v 8))) (.cons (.cmp .ne (.call 41 (.cons (.v 3) (.cons (.v 4) (.cons (.k (.int 7)) (.nil))))) (.v 8)) (.nil))))) (.cons (.ret (.k (.bl false))) (.nil)) (.nil)) (.cons (.ifs (.cmp .ne (.comp (.v 10) [10] false (.val (.v 8)) (.cons (.or (.cons (.cmp .ne (.call 25 (.cons (.v 1) (.cons (.v 10) (.nil)))) (.tup (.cons (.k (.str [103, 111, 111, 100])) (.cons (.v 4) (.nil))))) (.cons (.cmp .ne (.call 25 (.cons (.v 3) (.cons (.v 10) (.nil)))) (.tup (.cons (.k (.str [103, 111, 111, 100])) (.cons (.v 4) (.nil))))) (.nil)))) .nil) [10]) (.lst (.nil))) (.cons (.ret (.k (.bl false))) (.nil)) (.nil)) (.cons (.ifs (.cmp .gt (.v 7) (.k (.int 0))) (.cons (.set 9 (.bin .mod (.v 2) (.v 7))) (.cons (.set 10 (.call 40 (.cons (.v 1) (.cons (.v 4) (.cons (.v 9) (.nil)))))) (.cons (.ifs (.or (.cons (.cmp .ne (.call 25 (.cons (.v 1) (.cons (.v 10) (.nil)))) (.tup (.cons (.k (.str [103, 111, 111, 100])) (.cons (.v 4) (.nil))))) (.cons (.cmp .ne (.call 40 (.cons (.v 3) (.cons (.v 4) (.cons (.v 9) (.nil))))) (.v 10)) (.nil)))) (.cons (.ret (.k (.bl false))) (.nil)) (.nil)) (.cons (.ifs (.or (.cons (.and (.cons (.cmp .lt (.v 9) (.k (.int 7))) (.cons (.cmp .ne (.ix (.v 8) (.v 9)) (.v 10)) (.nil)))) (.cons (.and (.cons (.cmp .ge (.v 9) (.k (.int 7))) (.cons (.not (.cmp .gt (.v 10) (.ix (.v 8) (.k (.int 6))))) (.nil)))) (.nil)))) (.cons (.ret (.k (.bl false))) (.nil)) (.nil)) (.cons (.ifs (.and (.cons (.cmp .lt (.bin .add (.v 9) (.k (.int 1))) (.v 7)) (.cons (.not (.cmp .gt (.call 40 (.cons (.v 1) (.cons (.v 4) (.cons (.bin .add (.v 9) (.k (.int 1))) (.nil))))) (.v 10))) (.nil)))) (.cons (.ret (.k (.bl false))) (.nil)) (.nil)) (.cons (.for_ [11] false (.rng1 (.bi .len (.v 10))) b_law_k13_0) (.nil))))))) (.nil)) (.nil))))))
def t_law_k13 : Fn := ⟨1, 14, .cons (.set 1 (.call 10 (.cons (.call 6 (.cons (.v 0) (.cons (.k (.int 0)) (.nil)))) (.cons (.k (.int 9)) (.nil))))) (.cons (.set 2 (.call 6 (.cons (.v 0) (.cons (.k (.int 1)) (.nil))))) (.cons (.set 3 (.call 50 (.cons (.v 1) (.nil)))) (.cons (.ifs (.or (.cons (.cmp .ne (.call 49 (.cons (.v 3) (.nil))) (.tup (.nil))) (.cons (.cmp .ne (.call 50 (.cons (.v 3) (.nil))) (.v 3)) (.cons (.cmp .ne (.comp (.v 13) [13] false (.val (.v 3)) (.cons (.cmp .nin (.v 13) (.v 1)) .nil) [13]) (.lst (.nil))) (.nil))))) (.cons (.ret (.k (.bl false))) (.nil)) (.nil)) (.cons (.ifs (.cmp .ne (.cmp .eq (.call 49 (.cons (.v 1) (.nil))) (.tup (.nil))) (.cmp .eq (.v 3) (.v 1))) (.cons (.ret (.k (.bl false))) (.nil)) (.nil)) (.cons (.for_ [4] false (.val (.call 27 (.cons (.v 1) (.nil)))) b_law_k13_1) (.cons (.set 5 (.call 11 (.cons (.call 6 (.cons (.v 0) (.cons (.k (.int 2)) (.nil)))) (.cons (.v 1) (.nil))))) (.cons (.set 6 (.call 37 (.cons (.v 1) (.cons (.v 5) (.nil))))) (.cons (.ifs (.or (.cons (.cmp .ne (.call 36 (.cons (.v 1) (.cons (.v 5) (.nil)))) (.or (.cons (.cmp .ne (.v 6) (.k (.str []))) (.cons (.cmp .eq (.ix (.call 25 (.cons (.v 1) (.cons (.v 5) (.nil)))) (.k (.int 0))) (.k (.str [103, 111, 111, 100]))) (.nil))))) (.cons (.cmp .ne (.bi .list (.v 6)) (.bi .srtset (.v 6))) (.nil)))) (.cons (.ret (.k (.bl false))) (.nil)) (.nil)) (.cons (.ret (.cmp .eq (.comp (.v 12) [12] false (.val (.k (.str [48, 49, 50, 51, 52, 53, 54, 55, 56, 57]))) (.cons (.cmp .ne (.call 36 (.cons (.v 1) (.cons (.bin .add (.v 5) (.v 12)) (.nil)))) (.cmp .inn (.v 12) (.v 6))) .nil) [12]) (.lst (.nil)))) (.nil))))))))))⟩
abbrev H_law_k13 (P : Prog) : Prop := P 53 = some t_law_k13 ∧ H_table P ∧ H_mixed P ∧ H_lean P ∧ H_idle P ∧ H_words_of P ∧ H_many P ∧ H_first_ones P ∧ H_says P ∧ H_nth P ∧ H_live P ∧ H_nexts P ∧ H_number P
def t_turned : Fn := ⟨2, 3, .cons (.ret (.mt .join (.k (.str [])) (.comp (.ix (.v 1) (.bi .int (.v 2))) [2] false (.val (.v 0)) (.nil) [2]))) (.nil)⟩
abbrev H_turned (P : Prog) : Prop := P 54 = some t_turned
def b_law_k14_0 : Ss := .cons (.set 8 (.call 11 (.cons (.call 7 (.cons (.v 2) (.cons (.v 6) (.nil)))) (.cons (.v 1) (.nil))))) (.cons (.set 9 (.call 54 (.cons (.v 8) (.cons (.v 3) (.nil))))) (.cons (.ifs (.cmp .ne (.call 25 (.cons (.v 5) (.cons (.v 9) (.nil)))) (.call 25 (.cons (.v 1) (.cons (.v 8) (.nil))))) (.cons (.ret (.k (.bl false))) (.nil)) (.nil)) (.cons (.ifs (.cmp .ne (.call 26 (.cons (.v 5) (.cons (.v 9) (.nil)))) (.call 26 (.cons (.v 1) (.cons (.v 8) (.nil))))) (.cons (.ret (.k (.bl false))) (.nil)) (.nil)) (.cons (.set 10 (.slH (.v 8) (.bin .sub (.bi .len (.v 8)) (.k (.int 1))))) (.cons (.set 11 (.call 54 (.cons (.v 10) (.cons (.v 3) (.nil))))) (.cons (.ifs (.cmp .ne (.call 36 (.cons (.v 5) (.cons (.v 11) (.nil)))) (.call 36 (.cons (.v 1) (.cons (.v 10) (.nil))))) (.cons (.ret (.k (.bl false))) (.nil)) (.nil)) (.cons (.ifs (.cmp .ne (.bi .sorted (.call 37 (.cons (.v 5) (.cons (.v 11) (.nil))))) (.bi .sorted (.call 54 (.cons (.call 37 (.cons (.v 1) (.cons (.v 10) (.nil)))) (.cons (.v 3) (.nil)))))) (.cons (.ret (.k (.bl false))) (.nil)) (.nil)) (.nil))))))))
def b_law_k14_1 : Ss := .cons (.ifs (.cmp .ne (.call 35 (.cons (.v 5) (.cons (.v 7) (.nil)))) (.call 35 (.cons (.v 1) (.cons (.v 7) (.nil))))) (.cons (.ret (.k (.bl false))) (.nil)) (.nil)) (.nil)
def t_law_k14 : Fn := ⟨1, 14, .cons (.set 1 (.call 10 (.cons (.call 6 (.cons (.v 0) (.cons (.k (.int 0)) (.nil)))) (.cons (.k (.int 8)) (.nil))))) (.cons (.set 2 (.call 6 (.cons (.v 0) (.cons (.k (.int 1)) (.nil))))) (.cons (.set 3 (.ix (.tup (.cons (.k (.str [49, 50, 51, 52, 53, 54, 55, 56, 57, 48])) (.cons (.k (.str [57, 56, 55, 54, 53, 52, 51, 50, 49, 48])) (.cons (.k (.str [48, 49, 51, 50, 52, 53, 55, 54, 57, 56])) (.cons (.k (.str [53, 54, 55, 56, 57, 48, 49, 50, 51, 52])) (.nil)))))) (.bin .mod (.v 2) (.k (.int 4))))) (.cons (.set 4 (.comp (.tup (.cons (.call 54 (.cons (.v 12) (.cons (.v 3) (.nil)))) (.cons (.v 13) (.cons (.v 7) (.nil))))) [12, 13, 7] true (.val (.v 1)) (.nil) [7, 12, 13])) (.cons (.set 5 (.bi .tuple (.bi .sorted (.v 4)))) (.cons (.for_ [6] false (.rng1 (.k (.int 6))) b_law_k14_0) (.cons (.for_ [7] false (.val (.call 27 (.cons (.v 1) (.nil)))) b_law_k14_1) (.cons (.ret (.cmp .eq (.call 27 (.cons (.v 5) (.nil))) (.call 27 (.cons (.v 1) (.nil))))) (.nil))))))))⟩
abbrev H_law_k14 (P : Prog) : Prop := P 55 = some t_law_k14 ∧ H_table P ∧ H_mixed P ∧ H_turned P ∧ H_number P ∧ H_drawn P ∧ H_says P ∧ H_dialled P ∧ H_live P ∧ H_nexts P ∧ H_words_of P ∧ H_many P
def b_law_k15_0 : Ss := .cons (.set 10 (.call 11 (.cons (.call 7 (.cons (.v 2) (.cons (.v 5) (.nil)))) (.cons (.v 4) (.nil))))) (.cons (.ifs (.cmp .eq (.bin .mod (.v 5) (.k (.int 2))) (.k (.int 0))) (.cons (.set 10 (.slH (.bin .add (.v 7) (.v 10)) (.k (.int 12)))) (.nil)) (.nil)) (.cons (.set 11 (.call 23 (.cons (.v 1) (.cons (.v 10) (.nil))))) (.cons (.set 12 (.call 25 (.cons (.v 1) (.cons (.v 10) (.nil))))) (.cons (.ifs (.and (.cons (.cmp .eq (.slH (.v 10) (.bi .len (.v 7))) (.v 7)) (.cons (.or (.cons (.isN (.v 11)) (.cons (.cmp .lt (.bi .len (.ix (.v 11) (.k (.int 0)))) (.bi .len (.v 7))) (.nil)))) (.nil)))) (.cons (.set 13 (.bin .sub (.v 8) (.bi .len (.v 10)))) (.cons (.set 12 (.tup (.cons (.k (.str [109, 111, 114, 101])) (.cons (.v 13) (.nil))))) (.cons (.ifs (.cmp .eq (.v 8) (.k (.int 0))) (.cons (.set 12 (.tup (.cons (.k (.str [99, 108, 111, 115, 101, 100])) (.nil)))) (.nil)) (.cons (.ifs (.cmp .eq (.v 13) (.k (.int 0))) (.cons (.set 12 (.tup (.cons (.k (.str [103, 111, 111, 100])) (.cons (.v 9) (.nil))))) (.nil)) (.cons (.ifs (.cmp .lt (.v 13) (.k (.int 0))) (.cons (.set 12 (.tup (.cons (.k (.str [108, 111, 110, 103])) (.nil)))) (.nil)) (.nil)) (.nil))) (.nil))) (.cons (.set 11 (.v 3)) (.nil))))) (.nil)) (.cons (.ifs (.or (.cons (.cmp .ne (.call 25 (.cons (.v 4) (.cons (.v 10) (.nil)))) (.v 12)) (.cons (.cmp .ne (.call 23 (.cons (.v 4) (.cons (.v 10) (.nil)))) (.v 11)) (.nil)))) (.cons (.ret (.k (.bl false))) (.nil)) (.nil)) (.nil))))))
def t_law_k15 : Fn := ⟨1, 15, .cons (.set 1 (.call 10 (.cons (.call 6 (.cons (.v 0) (.cons (.k (.int 0)) (.nil)))) (.cons (.k (.int 7)) (.nil))))) (.cons (.set 2 (.call 6 (.cons (.v 0) (.cons (.k (.int 1)) (.nil))))) (.cons (.set 3 (.call 9 (.cons (.v 2) (.nil)))) (.cons (.set 1 (.bi .tuple (.comp (.v 14) [14] false (.val (.v 1)) (.cons (.cmp .ne (.ix (.v 14) (.k (.int 0))) (.ix (.v 3) (.k (.int 0)))) .nil) [14]))) (.cons (.set 4 (.bi .tuple (.bi .sorted (.bin .add (.v 1) (.tup (.cons (.v 3) (.nil))))))) (.cons (.unp [7, 8, 9] (.v 3)) (.cons (.for_ [5] false (.rng1 (.k (.int 8))) b_law_k15_0) (.cons (.set 6 (.bin .add (.bi .list (.call 27 (.cons (.v 1) (.nil)))) (.bin .mul (.lst (.cons (.v 9) (.nil))) (.bi .int (.cmp .ne (.v 9) (.k (.str []))))))) (.cons (.ret (.cmp .eq (.call 27 (.cons (.v 4) (.nil))) (.bi .tuple (.bi .srtset (.v 6))))) (.nil)))))))))⟩
abbrev H_law_k15 (P : Prog) : Prop := P 56 = some t_law_k15 ∧ H_table P ∧ H_mixed P ∧ H_rule P ∧ H_number P ∧ H_drawn P ∧ H_rule_for P ∧ H_says P ∧ H_words_of P
def b_law_k16_0 : Ss := .cons (.par [5, 6] (.cons (.ix (.v 3) (.bin .sub (.v 4) (.k (.int 1)))) (.cons (.ix (.v 3) (.v 4)) (.nil)))) (.cons (.ifs (.cmp .ne (.call 23 (.cons (.v 1) (.cons (.slH (.v 2) (.v 4)) (.nil)))) (.call 23 (.cons (.v 1) (.cons (.slH (.v 2) (.bin .add (.v 4) (.k (.int 1)))) (.nil))))) (.cons (.cont) (.nil)) (.nil)) (.cons (.ifs (.cmp .eq (.ix (.v 5) (.k (.int 0))) (.k (.str [109, 111, 114, 101]))) (.cons (.set 7 (.tup (.cons (.k (.str [109, 111, 114, 101])) (.cons (.bin .sub (.ix (.v 5) (.k (.int 1))) (.k (.int 1))) (.nil))))) (.cons (.ifs (.cmp .eq (.ix (.v 5) (.k (.int 1))) (.k (.int 1))) (.cons (.set 7 (.tup (.cons (.k (.str [103, 111, 111, 100])) (.cons (.ix (.call 23 (.cons (.v 1) (.cons (.v 2) (.nil)))) (.k (.int 2))) (.nil))))) (.cons (.ifs (.cmp .ne (.call 23 (.cons (.v 1) (.cons (.v 2) (.nil)))) (.call 23 (.cons (.v 1) (.cons (.slH (.v 2) (.bin .add (.v 4) (.k (.int 1)))) (.nil))))) (.cons (.set 7 (.v 6)) (.nil)) (.nil)) (.nil))) (.nil)) (.cons (.ifs (.or (.cons (.cmp .ne (.v 6) (.v 7)) (.cons (.cmp .nin (.ix (.v 6) (.k (.int 0))) (.tup (.cons (.k (.str [109, 111, 114, 101])) (.cons (.k (.str [103, 111, 111, 100])) (.nil))))) (.nil)))) (.cons (.ret (.k (.bl false))) (.nil)) (.nil)) (.nil)))) (.cons (.ifs (.and (.cons (.cmp .inn (.ix (.v 5) (.k (.int 0))) (.tup (.cons (.k (.str [103, 111, 111, 100])) (.cons (.k (.str [108, 111, 110, 103])) (.nil))))) (.cons (.cmp .ne (.v 6) (.tup (.cons (.k (.str [108, 111, 110, 103])) (.nil)))) (.nil)))) (.cons (.ret (.k (.bl false))) (.nil)) (.cons (.ifs (.and (.cons (.cmp .inn (.ix (.v 5) (.k (.int 0))) (.tup (.cons (.k (.str [110, 111, 110, 101])) (.cons (.k (.str [99, 108, 111, 115, 101, 100])) (.nil))))) (.cons (.cmp .ne (.v 6) (.v 5)) (.nil)))) (.cons (.ret (.k (.bl false))) (.nil)) (.nil)) (.nil))) (.nil))) (.nil)))
def t_law_k16 : Fn := ⟨1, 8, .cons (.set 1 (.call 10 (.cons (.call 6 (.cons (.v 0) (.cons (.k (.int 0)) (.nil)))) (.cons (.k (.int 8)) (.nil))))) (.cons (.set 2 (.call 11 (.cons (.call 6 (.cons (.v 0) (.cons (.k (.int 1)) (.nil)))) (.cons (.v 1) (.nil))))) (.cons (.set 3 (.call 26 (.cons (.v 1) (.cons (.v 2) (.nil))))) (.cons (.ifs (.cmp .ne (.v 3) (.bi .tuple (.comp (.call 25 (.cons (.v 1) (.cons (.slH (.v 2) (.v 4)) (.nil)))) [4] false (.rng2 (.k (.int 1)) (.bin .add (.bi .len (.v 2)) (.k (.int 1)))) (.nil) [4]))) (.cons (.ret (.k (.bl false))) (.nil)) (.nil)) (.cons (.for_ [4] false (.rng2 (.k (.int 1)) (.bi .len (.v 2))) b_law_k16_0) (.cons (.ret (.cmp .eq (.bi .len (.v 3)) (.bi .len (.v 2)))) (.nil))))))⟩
abbrev H_law_k16 (P : Prog) : Prop := P 57 = some t_law_k16 ∧ H_table P ∧ H_mixed P ∧ H_number P ∧ H_dialled P ∧ H_says P ∧ H_rule_for P
def b_law_k17_0 : Ss := .cons (.set 7 (.bin .add (.v 3) (.v 6))) (.cons (.ifs (.cmp .ne (.call 36 (.cons (.v 1) (.cons (.v 7) (.nil)))) (.cmp .inn (.v 6) (.v 5))) (.cons (.ret (.k (.bl false))) (.nil)) (.nil)) (.cons (.ifs (.and (.cons (.cmp .nin (.v 6) (.v 5)) (.cons (.cmp .ne (.call 37 (.cons (.v 1) (.cons (.v 7) (.nil)))) (.k (.str []))) (.nil)))) (.cons (.ret (.k (.bl false))) (.nil)) (.nil)) (.nil)))
def b_law_k17_1 : Ss := .cons (.set 5 (.call 37 (.cons (.v 1) (.cons (.v 3) (.nil))))) (.cons (.ifs (.cmp .ne (.bi .list (.v 5)) (.bi .srtset (.v 5))) (.cons (.ret (.k (.bl false))) (.nil)) (.nil)) (.cons (.for_ [6] false (.val (.k (.str [48, 49, 50, 51, 52, 53, 54, 55, 56, 57]))) b_law_k17_0) (.cons (.ifs (.cmp .eq (.v 5) (.k (.str []))) (.cons (.ifs (.cmp .eq (.v 3) (.k (.str []))) (.cons (.ret (.isB (.call 36 (.cons (.v 1) (.cons (.k (.str [])) (.nil)))) false)) (.nil)) (.nil)) (.cons (.ret (.and (.cons (.isB (.call 36 (.cons (.v 1) (.cons (.v 3) (.nil)))) true) (.cons (.cmp .eq (.ix (.call 25 (.cons (.v 1) (.cons (.v 3) (.nil)))) (.k (.int 0))) (.k (.str [103, 111, 111, 100]))) (.nil))))) (.nil))) (.nil)) (.cons (.ifs (.notB (.call 36 (.cons (.v 1) (.cons (.v 3) (.nil)))) true) (.cons (.ret (.k (.bl false))) (.nil)) (.nil)) (.cons (.set 3 (.bin .add (.v 3) (.ix (.v 5) (.bin .mod (.bin .fdiv (.call 7 (.cons (.v 2) (.cons (.v 4) (.nil)))) (.k (.int 16))) (.bi .len (.v 5)))))) (.nil))))))
def t_law_k17 : Fn := ⟨1, 8, .cons (.set 1 (.call 10 (.cons (.call 6 (.cons (.v 0) (.cons (.k (.int 0)) (.nil)))) (.cons (.k (.int 8)) (.nil))))) (.cons (.set 2 (.call 6 (.cons (.v 0) (.cons (.k (.int 1)) (.nil))))) (.cons (.set 3 (.k (.str []))) (.cons (.for_ [4] false (.rng1 (.k (.int 14))) b_law_k17_1) (.cons (.ret (.k (.bl false))) (.nil)))))⟩
abbrev H_law_k17 (P : Prog) : Prop := P 58 = some t_law_k17 ∧ H_table P ∧ H_mixed P ∧ H_nexts P ∧ H_live P ∧ H_says P ∧ H_drawn P
def b_part_0 : Ss := .cons (.ifs (.cmp .ne (.v 3) (.v 1)) (.cons (.app 2 (.tup (.cons (.v 3) (.cons (.k (.int 0)) (.cons (.k (.str [])) (.nil)))))) (.nil)) (.nil)) (.nil)
def t_part : Fn := ⟨2, 6, .cons (.own 2 (.nil)) (.cons (.for_ [3] false (.val (.k (.str [48, 49, 50, 51, 52, 53, 54, 55, 56, 57]))) b_part_0) (.cons (.frz 2) (.cons (.set 4 (.comp (.v 5) [5] false (.val (.v 0)) (.cons (.or (.cons (.cmp .eq (.ix (.v 5) (.k (.int 0))) (.k (.str []))) (.cons (.cmp .eq (.ix (.ix (.v 5) (.k (.int 0))) (.k (.int 0))) (.v 1)) (.nil)))) .nil) [5])) (.cons (.ret (.bi .tuple (.bi .sorted (.bin .add (.v 2) (.v 4))))) (.nil)))))⟩
abbrev H_part (P : Prog) : Prop := P 59 = some t_part
def b_law_k18_0 : Ss := .cons (.set 4 (.call 35 (.cons (.v 1) (.cons (.v 3) (.nil))))) (.cons (.set 5 (.comp (.call 35 (.cons (.call 59 (.cons (.v 1) (.cons (.v 8) (.nil)))) (.cons (.v 3) (.nil)))) [8] false (.val (.k (.str [48, 49, 50, 51, 52, 53, 54, 55, 56, 57]))) (.nil) [8])) (.cons (.ifs (.or (.cons (.isi (.v 4) .bool) (.cons (.cmp .ne (.v 4) (.bi .sum (.v 5))) (.nil)))) (.cons (.ret (.k (.bl false))) (.nil)) (.nil)) (.cons (.ifs (.cmp .ne (.lam 0 (.call 40 (.cons (.v 1) (.cons (.v 3) (.cons (.v 4) (.nil)))))) (.tup (.cons (.k (.str [114, 101, 102, 117, 115, 101, 100])) (.cons (.k (.int 0)) (.nil))))) (.cons (.ret (.k (.bl false))) (.nil)) (.nil)) (.cons (.ifs (.cmp .ne (.lam 0 (.call 40 (.cons (.v 1) (.cons (.v 3) (.cons (.bin .add (.v 4) (.bin .mod (.v 2) (.k (.int 99)))) (.nil)))))) (.tup (.cons (.k (.str [114, 101, 102, 117, 115, 101, 100])) (.cons (.k (.int 0)) (.nil))))) (.cons (.ret (.k (.bl false))) (.nil)) (.nil)) (.cons (.ifs (.cmp .gt (.v 4) (.k (.int 0))) (.cons (.set 7 (.call 40 (.cons (.v 1) (.cons (.v 3) (.cons (.bin .sub (.v 4) (.k (.int 1))) (.nil)))))) (.cons (.ifs (.or (.cons (.cmp .ne (.call 25 (.cons (.v 1) (.cons (.v 7) (.nil)))) (.tup (.cons (.k (.str [103, 111, 111, 100])) (.cons (.v 3) (.nil))))) (.cons (.cmp .ne (.call 41 (.cons (.v 1) (.cons (.v 3) (.cons (.k (.int 1)) (.nil))))) (.tup (.cons (.call 40 (.cons (.v 1) (.cons (.v 3) (.cons (.k (.int 0)) (.nil))))) (.nil)))) (.nil)))) (.cons (.ret (.k (.bl false))) (.nil)) (.nil)) (.cons (.set 8 (.ix (.v 7) (.k (.int 0)))) (.cons (.ifs (.or (.cons (.cmp .eq (.ix (.v 5) (.bi .int (.v 8))) (.k (.int 0))) (.cons (.cmp .ne (.bi .sum (.slL (.v 5) (.bin .add (.bi .int (.v 8)) (.k (.int 1))))) (.k (.int 0))) (.nil)))) (.cons (.ret (.k (.bl false))) (.nil)) (.nil)) (.nil))))) (.nil)) (.cons (.set 6 (.call 41 (.cons (.v 1) (.cons (.v 3) (.cons (.k (.int 12)) (.nil)))))) (.cons (.ifs (.cmp .ne (.comp (.v 9) [9, 10] true (.enu (.v 6)) (.cons (.cmp .ne (.call 40 (.cons (.v 1) (.cons (.v 3) (.cons (.v 9) (.nil))))) (.v 10)) .nil) [9, 10]) (.lst (.nil))) (.cons (.ret (.k (.bl false))) (.nil)) (.nil)) (.nil))))))))
def t_law_k18 : Fn := ⟨1, 11, .cons (.set 1 (.call 10 (.cons (.call 6 (.cons (.v 0) (.cons (.k (.int 0)) (.nil)))) (.cons (.k (.int 6)) (.nil))))) (.cons (.set 2 (.call 6 (.cons (.v 0) (.cons (.k (.int 1)) (.nil))))) (.cons (.for_ [3] false (.val (.call 27 (.cons (.v 1) (.nil)))) b_law_k18_0) (.cons (.ret (.and (.cons (.cmp .eq (.call 35 (.cons (.v 1) (.cons (.k (.str [122, 122])) (.nil)))) (.k (.int 0))) (.cons (.cmp .eq (.call 41 (.cons (.v 1) (.cons (.k (.str [122, 122])) (.cons (.k (.int 5)) (.nil))))) (.tup (.nil))) (.nil))))) (.nil))))⟩
abbrev H_law_k18 (P : Prog) : Prop := P 60 = some t_law_k18 ∧ H_table P ∧ H_mixed P ∧ H_words_of P ∧ H_many P ∧ H_part P ∧ H_nth P ∧ H_first_ones P ∧ H_says P
def t_goes_on : Fn := ⟨2, 3, .cons (.ret (.bi .any (.comp (.and (.cons (.mt .startswith (.ix (.v 2) (.k (.int 0))) (.v 1)) (.cons (.cmp .ne (.ix (.v 2) (.k (.int 0))) (.v 1)) (.nil)))) [2] false (.val (.v 0)) (.nil) [2]))) (.nil)⟩
abbrev H_goes_on (P : Prog) : Prop := P 61 = some t_goes_on
def b_next_layer_0 : Ss := .cons (.set 7 (.bin .add (.v 5) (.v 6))) (.cons (.ifs (.or (.cons (.call 61 (.cons (.v 0) (.cons (.v 7) (.nil)))) (.cons (.call 61 (.cons (.v 1) (.cons (.v 7) (.nil)))) (.nil)))) (.cons (.app 3 (.v 7)) (.nil)) (.cons (.set 8 (.tup (.cons (.call 23 (.cons (.v 0) (.cons (.v 7) (.nil)))) (.cons (.call 23 (.cons (.v 1) (.cons (.v 7) (.nil)))) (.nil))))) (.cons (.ifs (.dnin (.v 8) 4) (.cons (.key 4 (.v 8) (.k (.bl true))) (.cons (.app 3 (.v 7)) (.nil))) (.nil)) (.nil)))) (.nil))
def b_next_layer_1 : Ss := .cons (.for_ [6] false (.val (.k (.str [48, 49, 50, 51, 52, 53, 54, 55, 56, 57]))) b_next_layer_0) (.nil)
def t_next_layer : Fn := ⟨3, 9, .cons (.own 3 (.nil)) (.cons (.dnew 4) (.cons (.for_ [5] false (.val (.v 2)) b_next_layer_1) (.cons (.frz 3) (.cons (.ret (.v 3)) (.nil)))))⟩
abbrev H_next_layer (P : Prog) : Prop := P 62 = some t_next_layer ∧ H_goes_on P ∧ H_rule_for P
def t_are_clashing : Fn := ⟨2, 2, .cons (.ret (.and (.cons (.cmp .eq (.ix (.v 0) (.k (.int 0))) (.k (.str [103, 111, 111, 100]))) (.cons (.cmp .eq (.ix (.v 1) (.k (.int 0))) (.k (.str [103, 111, 111, 100]))) (.cons (.cmp .ne (.v 0) (.v 1)) (.nil)))))) (.nil)⟩
abbrev H_are_clashing (P : Prog) : Prop := P 66 = some t_are_clashing
def t_near : Fn := ⟨2, 7, .cons (.ifs (.or (.cons (.cmp .eq (.v 0) (.tup (.nil))) (.cons (.cmp .eq (.bin .mod (.v 1) (.k (.int 5))) (.k (.int 0))) (.nil)))) (.cons (.ret (.call 43 (.cons (.bin .fdiv (.v 1) (.k (.int 5))) (.nil)))) (.nil)) (.nil)) (.cons (.set 2 (.bin .mod (.bin .fdiv (.v 1) (.k (.int 8))) (.bi .len (.v 0)))) (.cons (.unp [3, 4, 5] (.ix (.v 0) (.v 2))) (.cons (.ifs (.cmp .eq (.bin .mod (.v 1) (.k (.int 5))) (.k (.int 1))) (.cons (.ret (.bin .add (.slH (.v 0) (.v 2)) (.slL (.v 0) (.bin .add (.v 2) (.k (.int 1)))))) (.nil)) (.nil)) (.cons (.ifs (.and (.cons (.cmp .eq (.bin .mod (.v 1) (.k (.int 5))) (.k (.int 2))) (.cons (.cmp .gt (.v 4) (.k (.int 0))) (.nil)))) (.cons (.ret (.bin .add (.bin .add (.slH (.v 0) (.v 2)) (.tup (.cons (.tup (.cons (.v 3) (.cons (.v 4) (.cons (.ix (.tup (.cons (.k (.str [97])) (.cons (.k (.str [98])) (.cons (.k (.str [99, 100])) (.nil))))) (.bin .mod (.bin .fdiv (.v 1) (.k (.int 64))) (.k (.int 3)))) (.nil))))) (.nil)))) (.slL (.v 0) (.bin .add (.v 2) (.k (.int 1)))))) (.nil)) (.nil)) (.cons (.ifs (.and (.cons (.cmp .eq (.bin .mod (.v 1) (.k (.int 5))) (.k (.int 3))) (.cons (.cmp .le (.max2 (.k (.int 1)) (.bi .len (.v 3))) (.bin .mod (.bin .fdiv (.v 1) (.k (.int 64))) (.k (.int 4)))) (.nil)))) (.cons (.set 6 (.tup (.cons (.v 3) (.cons (.bin .mod (.bin .fdiv (.v 1) (.k (.int 64))) (.k (.int 4))) (.cons (.bin .add (.v 5) (.bin .mul (.k (.str [97])) (.bi .int (.cmp .eq (.v 5) (.k (.str [])))))) (.nil)))))) (.cons (.ret (.bin .add (.bin .add (.slH (.v 0) (.v 2)) (.tup (.cons (.v 6) (.nil)))) (.slL (.v 0) (.bin .add (.v 2) (.k (.int 1)))))) (.nil))) (.nil)) (.cons (.ret (.v 0)) (.nil)))))))⟩
abbrev H_near (P : Prog) : Prop := P 68 = some t_near ∧ H_small P
def b_has_as_many_0 : Ss := .cons (.ifs (.cmp .ne (.call 35 (.cons (.v 0) (.cons (.v 2) (.nil)))) (.call 35 (.cons (.v 1) (.cons (.v 2) (.nil))))) (.cons (.ret (.k (.bl false))) (.nil)) (.nil)) (.nil)
def t_has_as_many : Fn := ⟨2, 3, .cons (.for_ [2] false (.val (.bin .add (.call 27 (.cons (.v 0) (.nil))) (.call 27 (.cons (.v 1) (.nil))))) b_has_as_many_0) (.cons (.ret (.k (.bl true))) (.nil))⟩
abbrev H_has_as_many (P : Prog) : Prop := P 70 = some t_has_as_many ∧ H_words_of P ∧ H_many P
def b_fits_0 : Ss := .cons (.set 4 (.call 25 (.cons (.v 0) (.cons (.v 2) (.nil))))) (.cons (.ifs (.or (.cons (.cmp .ne (.cmp .eq (.ix (.v 4) (.k (.int 0))) (.k (.str [103, 111, 111, 100]))) (.notN (.v 3))) (.cons (.and (.cons (.notN (.v 3)) (.cons (.cmp .ne (.ix (.v 4) (.k (.int 1))) (.v 3)) (.nil)))) (.nil)))) (.cons (.ret (.k (.bl false))) (.nil)) (.nil)) (.nil))
def t_fits : Fn := ⟨2, 5, .cons (.for_ [2, 3] true (.val (.v 1)) b_fits_0) (.cons (.ret (.k (.bl true))) (.nil))⟩
abbrev H_fits (P : Prog) : Prop := P 74 = some t_fits ∧ H_says P
def b_told_ones_0 : Ss := .cons (.set 4 (.bin .add (.v 4) (.ix (.k (.str [48, 49])) (.bin .mod (.bin .fdiv (.call 7 (.cons (.v 3) (.cons (.v 5) (.nil)))) (.k (.int 16))) (.k (.int 2)))))) (.nil)
def b_told_ones_1 : Ss := .cons (.set 3 (.call 7 (.cons (.v 0) (.cons (.bin .add (.k (.int 70)) (.v 2)) (.nil))))) (.cons (.set 4 (.k (.str []))) (.cons (.for_ [5] false (.rng1 (.bin .add (.k (.int 1)) (.bin .mod (.bin .fdiv (.v 3) (.k (.int 16))) (.ix (.tup (.cons (.k (.int 2)) (.cons (.k (.int 3)) (.nil)))) (.bin .mod (.bin .fdiv (.v 0) (.k (.int 64))) (.k (.int 2))))))) b_told_ones_0) (.cons (.key 1 (.v 4) (.ix (.tup (.cons (.k (.non)) (.cons (.k (.str [97])) (.cons (.k (.str [98])) (.cons (.k (.str [97])) (.nil)))))) (.bin .mod (.bin .fdiv (.v 3) (.k (.int 128))) (.k (.int 4))))) (.nil))))
def t_told_ones : Fn := ⟨1, 7, .cons (.dnew 1) (.cons (.for_ [2] false (.rng1 (.bin .mod (.v 0) (.k (.int 5)))) b_told_ones_1) (.cons (.ret (.bi .tuple (.comp (.tup (.cons (.v 6) (.cons (.dix 1 (.v 6)) (.nil)))) [6] false (.val (.dsort 1)) (.nil) [6]))) (.nil)))⟩
abbrev H_told_ones (P : Prog) : Prop := P 76 = some t_told_ones ∧ H_drawn P
def b_fits1_0 : Ss := .cons (.set 4 (.call 29 (.cons (.v 0) (.cons (.v 2) (.nil))))) (.cons (.ifs (.or (.cons (.and (.cons (.isN (.v 3)) (.cons (.cmp .eq (.ix (.v 4) (.k (.int 0))) (.k (.str [103, 111, 111, 100]))) (.nil)))) (.cons (.and (.cons (.notN (.v 3)) (.cons (.cmp .ne (.v 4) (.tup (.cons (.k (.str [103, 111, 111, 100])) (.cons (.v 3) (.nil))))) (.nil)))) (.nil)))) (.cons (.ret (.k (.bl false))) (.nil)) (.nil)) (.nil))
def t_fits1 : Fn := ⟨2, 5, .cons (.for_ [2, 3] true (.val (.v 1)) b_fits1_0) (.cons (.ret (.k (.bl true))) (.nil))⟩
abbrev H_fits1 (P : Prog) : Prop := P 77 = some t_fits1 ∧ H_says1 P
def b_tables_0 : Ss := .cons (.ifs (.or (.cons (.cmp .eq (.v 7) (.k (.int 0))) (.cons (.cmp .le (.bi .len (.v 5)) (.v 7)) (.nil)))) (.cons (.app 3 (.bin .add (.tup (.cons (.tup (.cons (.v 5) (.cons (.v 7) (.cons (.v 8) (.nil))))) (.nil))) (.v 6))) (.nil)) (.nil)) (.nil)
def b_tables_1 : Ss := .cons (.for_ [7, 8] true (.val (.v 1)) b_tables_0) (.nil)
def b_tables_2 : Ss := .cons (.for_ [6] false (.val (.call 78 (.cons (.slL (.v 0) (.bin .add (.v 4) (.k (.int 1)))) (.cons (.v 1) (.cons (.bin .sub (.v 2) (.k (.int 1))) (.nil)))))) b_tables_1) (.nil)
def t_tables : Fn := ⟨3, 9, .cons (.ifs (.cmp .eq (.v 2) (.k (.int 0))) (.cons (.ret (.lst (.cons (.tup (.nil)) (.nil)))) (.nil)) (.nil)) (.cons (.own 3 (.nil)) (.cons (.for_ [4, 5] true (.enu (.v 0)) b_tables_2) (.cons (.frz 3) (.cons (.ret (.v 3)) (.nil)))))⟩
abbrev H_tables (P : Prog) : Prop := P 78 = some t_tables
def b_sample_0 : Ss := .cons (.set 7 (.bin .mod (.bin .fdiv (.v 0) (.k (.int 128))) (.k (.int 3)))) (.cons (.set 5 (.bin .add (.v 5) (.ix (.k (.str [48, 49, 50, 51, 52, 53, 54, 55, 56, 57])) (.bin .mod (.bin .fdiv (.call 7 (.cons (.v 4) (.cons (.v 6) (.nil)))) (.k (.int 16))) (.ix (.tup (.cons (.k (.int 2)) (.cons (.k (.int 3)) (.cons (.k (.int 10)) (.nil))))) (.v 7)))))) (.nil))
def b_sample_1 : Ss := .cons (.set 4 (.call 7 (.cons (.v 0) (.cons (.bin .add (.k (.int 70)) (.v 3)) (.nil))))) (.cons (.set 5 (.k (.str []))) (.cons (.for_ [6] false (.rng1 (.bin .add (.k (.int 1)) (.bin .mod (.bin .fdiv (.v 4) (.k (.int 16))) (.ix (.tup (.cons (.k (.int 3)) (.cons (.k (.int 5)) (.nil)))) (.bin .mod (.bin .fdiv (.v 0) (.k (.int 64))) (.k (.int 2))))))) b_sample_0) (.cons (.key 2 (.v 5) (.ix (.tup (.cons (.k (.non)) (.cons (.k (.str [97])) (.cons (.k (.str [97])) (.cons (.k (.str [98])) (.cons (.k (.str [99, 100])) (.nil))))))) (.bin .mod (.bin .fdiv (.v 4) (.k (.int 128))) (.k (.int 5))))) (.nil))))
def t_sample : Fn := ⟨2, 9, .cons (.dnew 2) (.cons (.for_ [3] false (.rng1 (.bin .mod (.v 0) (.bin .add (.v 1) (.k (.int 1))))) b_sample_1) (.cons (.ret (.bi .tuple (.comp (.tup (.cons (.v 8) (.cons (.dix 2 (.v 8)) (.nil)))) [8] false (.val (.dsort 2)) (.nil) [8]))) (.nil)))⟩
abbrev H_sample (P : Prog) : Prop := P 80 = some t_sample ∧ H_drawn P
def t_with : Fn := ⟨3, 5, .cons (.dfrom 3 (.v 0)) (.cons (.key 3 (.v 1) (.v 2)) (.cons (.ret (.bi .tuple (.comp (.tup (.cons (.v 4) (.cons (.dix 3 (.v 4)) (.nil)))) [4] false (.val (.dsort 3)) (.nil) [4]))) (.nil)))⟩
abbrev H_with (P : Prog) : Prop := P 84 = some t_with
def b_behind_0 : Ss := .cons (.ifs (.cmp .gt (.v 4) (.k (.int 0))) (.cons (.set 4 (.bin .add (.v 4) (.bi .len (.v 1)))) (.nil)) (.nil)) (.cons (.set 2 (.bin .add (.v 2) (.tup (.cons (.tup (.cons (.bin .add (.v 1) (.v 3)) (.cons (.v 4) (.cons (.v 5) (.nil))))) (.nil))))) (.nil))
def t_behind : Fn := ⟨2, 6, .cons (.set 2 (.tup (.nil))) (.cons (.for_ [3, 4, 5] true (.val (.v 0)) b_behind_0) (.cons (.ret (.v 2)) (.nil)))⟩
abbrev H_behind (P : Prog) : Prop := P 86 = some t_behind
def b_crossing_0 : Ss := .cons (.ifs (.mt .startswith (.v 4) (.v 3)) (.cons (.ret (.tup (.cons (.v 3) (.cons (.v 4) (.nil))))) (.nil)) (.nil)) (.nil)
def b_crossing_1 : Ss := .cons (.for_ [4] false (.val (.slL (.v 1) (.bin .add (.v 2) (.k (.int 1))))) b_crossing_0) (.nil)
def t_crossing : Fn := ⟨1, 7, .cons (.set 1 (.comp (.v 5) [5, 6] true (.val (.v 0)) (.nil) [5, 6])) (.cons (.for_ [2, 3] true (.enu (.v 1)) b_crossing_1) (.cons (.ret (.k (.non))) (.nil)))⟩
abbrev H_crossing (P : Prog) : Prop := P 90 = some t_crossing
def t_need_apart : Fn := ⟨1, 1, .cons (.ifs (.notN (.call 90 (.cons (.v 0) (.nil)))) (.cons (.raise 1) (.nil)) (.nil)) (.nil)⟩
abbrev H_need_apart (P : Prog) : Prop := P 91 = some t_need_apart ∧ H_crossing P
def b_joined_0 : Ss := .cons (.set 1 (.bin .add (.v 1) (.call 86 (.cons (.v 3) (.cons (.v 2) (.nil)))))) (.nil)
def t_joined : Fn := ⟨1, 4, .cons (.drop (.call 91 (.cons (.v 0) (.nil)))) (.cons (.set 1 (.tup (.nil))) (.cons (.for_ [2, 3] true (.val (.v 0)) b_joined_0) (.cons (.ret (.bi .tuple (.bi .sorted (.v 1)))) (.nil))))⟩
abbrev H_joined (P : Prog) : Prop := P 92 = some t_joined ∧ H_need_apart P ∧ H_behind P
def b_home_0 : Ss := .cons (.ifs (.mt .startswith (.v 1) (.v 2)) (.cons (.ret (.tup (.cons (.v 2) (.cons (.slL (.v 1) (.bi .len (.v 2))) (.nil))))) (.nil)) (.nil)) (.nil)
def t_home : Fn := ⟨2, 4, .cons (.drop (.call 91 (.cons (.v 0) (.nil)))) (.cons (.for_ [2, 3] true (.val (.v 0)) b_home_0) (.cons (.ret (.k (.non))) (.nil)))⟩
abbrev H_home (P : Prog) : Prop := P 93 = some t_home ∧ H_need_apart P
def t_overlaid : Fn := ⟨2, 4, .cons (.set 2 (.comp (.ix (.v 3) (.k (.int 0))) [3] false (.val (.v 1)) (.nil) [3])) (.cons (.ret (.bi .tuple (.bi .sorted (.bin .add (.v 1) (.bi .tuple (.comp (.v 3) [3] false (.val (.v 0)) (.cons (.cmp .nin (.ix (.v 3) (.k (.int 0))) (.v 2)) .nil) [3])))))) (.nil))⟩
abbrev H_overlaid (P : Prog) : Prop := P 94 = some t_overlaid
def b_lands_0 : Ss := .cons (.set 4 (.bin .add (.v 4) (.ix (.k (.str [48, 49, 50, 51, 52, 53, 54, 55, 56, 57])) (.bin .mod (.bin .fdiv (.call 7 (.cons (.v 3) (.cons (.v 5) (.nil)))) (.k (.int 16))) (.ix (.tup (.cons (.k (.int 3)) (.cons (.k (.int 10)) (.nil)))) (.bin .mod (.bin .fdiv (.v 0) (.k (.int 16))) (.k (.int 2)))))))) (.nil)
def b_lands_1 : Ss := .cons (.set 3 (.call 7 (.cons (.v 0) (.cons (.bin .add (.k (.int 80)) (.v 2)) (.nil))))) (.cons (.set 4 (.k (.str []))) (.cons (.for_ [5] false (.rng1 (.bin .add (.k (.int 1)) (.bin .mod (.bin .fdiv (.v 3) (.k (.int 16))) (.k (.int 4))))) b_lands_0) (.cons (.key 1 (.v 4) (.call 10 (.cons (.call 7 (.cons (.v 0) (.cons (.bin .add (.k (.int 90)) (.v 2)) (.nil)))) (.cons (.k (.int 4)) (.nil))))) (.nil))))
def t_lands : Fn := ⟨1, 6, .cons (.dnew 1) (.cons (.for_ [2] false (.rng1 (.bin .mod (.v 0) (.k (.int 5)))) b_lands_1) (.cons (.ret (.bi .tuple (.comp (.tup (.cons (.v 4) (.cons (.dix 1 (.v 4)) (.nil)))) [4] false (.val (.dsort 1)) (.nil) [4]))) (.nil)))⟩
abbrev H_lands (P : Prog) : Prop := P 95 = some t_lands ∧ H_drawn P ∧ H_table P
def b_behind1_0 : Ss := .cons (.app 2 (.tup (.cons (.bin .add (.v 1) (.v 3)) (.cons (.bin .add (.v 4) (.bin .mul (.bi .len (.v 1)) (.bi .int (.cmp .gt (.v 4) (.k (.int 0)))))) (.cons (.v 5) (.nil)))))) (.nil)
def t_behind1 : Fn := ⟨2, 6, .cons (.own 2 (.nil)) (.cons (.for_ [3, 4, 5] true (.val (.v 0)) b_behind1_0) (.cons (.frz 2) (.cons (.ret (.bi .tuple (.v 2))) (.nil))))⟩
abbrev H_behind1 (P : Prog) : Prop := P 96 = some t_behind1
def b_law_k40_0 : Ss := .cons (.ifs (.and (.cons (.cmp .ne (.v 9) (.v 10)) (.cons (.cmp .eq (.slH (.v 10) (.bi .len (.v 9))) (.v 9)) (.nil)))) (.cons (.app 3 (.tup (.cons (.v 9) (.cons (.v 10) (.nil))))) (.nil)) (.nil)) (.nil)
def b_law_k40_1 : Ss := .cons (.for_ [10, 17] true (.val (.v 1)) b_law_k40_0) (.nil)
def b_law_k40_2 : Ss := .cons (.set 5 (.bin .add (.v 5) (.call 96 (.cons (.v 16) (.cons (.v 15) (.nil)))))) (.nil)
def b_law_k40_3 : Ss := .cons (.ifs (.cmp .eq (.slH (.v 6) (.bi .len (.v 15))) (.v 15)) (.cons (.set 7 (.tup (.cons (.v 15) (.cons (.slL (.v 6) (.bi .len (.v 15))) (.nil))))) (.nil)) (.nil)) (.nil)
def b_law_k40_4 : Ss := .cons (.key 12 (.ix (.v 13) (.k (.int 0))) (.v 13)) (.nil)
def t_law_k40 : Fn := ⟨1, 19, .cons (.set 1 (.call 95 (.cons (.call 6 (.cons (.v 0) (.cons (.k (.int 0)) (.nil)))) (.nil)))) (.cons (.set 2 (.call 6 (.cons (.v 0) (.cons (.k (.int 1)) (.nil))))) (.cons (.own 3 (.nil)) (.cons (.for_ [9, 14] true (.val (.v 1)) b_law_k40_1) (.cons (.frz 3) (.cons (.set 4 (.ix (.bin .add (.bi .sorted (.v 3)) (.lst (.cons (.k (.non)) (.nil)))) (.k (.int 0)))) (.cons (.ifs (.cmp .ne (.call 90 (.cons (.v 1) (.nil))) (.v 4)) (.cons (.ret (.k (.bl false))) (.nil)) (.nil)) (.cons (.set 5 (.tup (.nil))) (.cons (.for_ [15, 16] true (.val (.v 1)) b_law_k40_2) (.cons (.set 6 (.bin .add (.ix (.k (.str [48, 49, 50, 51, 52, 53, 54, 55, 56, 57])) (.bin .mod (.v 2) (.k (.int 10)))) (.call 8 (.cons (.v 2) (.cons (.k (.int 9)) (.nil)))))) (.cons (.ifs (.and (.cons (.cmp .ne (.v 1) (.tup (.nil))) (.cons (.cmp .gt (.bin .mod (.bin .fdiv (.v 2) (.k (.int 16))) (.k (.int 3))) (.k (.int 0))) (.nil)))) (.cons (.set 6 (.bin .add (.ix (.ix (.v 1) (.bin .mod (.bin .fdiv (.v 2) (.k (.int 64))) (.bi .len (.v 1)))) (.k (.int 0))) (.v 6))) (.nil)) (.nil)) (.cons (.set 7 (.k (.non))) (.cons (.for_ [15, 16] true (.val (.v 1)) b_law_k40_3) (.cons (.own 8 (.cons (.lam 0 (.call 92 (.cons (.v 1) (.nil)))) (.nil))) (.cons (.app 8 (.lam 0 (.call 93 (.cons (.v 1) (.cons (.v 6) (.nil)))))) (.cons (.frz 8) (.cons (.ifs (.notN (.v 4)) (.cons (.ifs (.cmp .ne (.v 8) (.lst (.cons (.tup (.cons (.k (.str [114, 101, 102, 117, 115, 101, 100])) (.cons (.k (.int 1)) (.nil)))) (.cons (.tup (.cons (.k (.str [114, 101, 102, 117, 115, 101, 100])) (.cons (.k (.int 1)) (.nil)))) (.nil))))) (.cons (.ret (.k (.bl false))) (.nil)) (.nil)) (.nil)) (.cons (.ifs (.cmp .ne (.v 8) (.lst (.cons (.tup (.cons (.k (.str [116, 111, 108, 100])) (.cons (.bi .tuple (.bi .sorted (.v 5))) (.nil)))) (.cons (.tup (.cons (.k (.str [116, 111, 108, 100])) (.cons (.v 7) (.nil)))) (.nil))))) (.cons (.ret (.k (.bl false))) (.nil)) (.nil)) (.nil))) (.cons (.set 9 (.call 10 (.cons (.call 6 (.cons (.v 0) (.cons (.k (.int 2)) (.nil)))) (.cons (.k (.int 6)) (.nil))))) (.cons (.set 10 (.call 10 (.cons (.call 6 (.cons (.v 0) (.cons (.k (.int 3)) (.nil)))) (.cons (.k (.int 6)) (.nil))))) (.cons (.set 11 (.slH (.v 6) (.bin .mod (.bin .fdiv (.v 2) (.k (.int 256))) (.k (.int 4))))) (.cons (.ifs (.cmp .ne (.call 86 (.cons (.v 9) (.cons (.v 11) (.nil)))) (.call 96 (.cons (.v 9) (.cons (.v 11) (.nil))))) (.cons (.ret (.k (.bl false))) (.nil)) (.nil)) (.cons (.dfrom 12 (.comp (.tup (.cons (.ix (.v 13) (.k (.int 0))) (.cons (.v 13) (.nil)))) [13] false (.val (.v 9)) (.nil) [13])) (.cons (.for_ [13] false (.val (.v 10)) b_law_k40_4) (.cons (.ret (.cmp .eq (.call 94 (.cons (.v 9) (.cons (.v 10) (.nil)))) (.bi .tuple (.comp (.dix 12 (.v 18)) [18] false (.val (.dsort 12)) (.nil) [18])))) (.nil))))))))))))))))))))))))⟩
abbrev H_law_k40 (P : Prog) : Prop := P 97 = some t_law_k40 ∧ H_lands P ∧ H_mixed P ∧ H_crossing P ∧ H_behind1 P ∧ H_figures P ∧ H_joined P ∧ H_home P ∧ H_table P ∧ H_behind P ∧ H_overlaid P
def b_law_k41_0 : Ss := .cons (.set 13 (.call 11 (.cons (.call 7 (.cons (.v 1) (.cons (.v 9) (.nil)))) (.cons (.v 12) (.nil))))) (.cons (.ifs (.or (.cons (.cmp .ne (.call 25 (.cons (.v 4) (.cons (.bin .add (.v 11) (.v 13)) (.nil)))) (.call 25 (.cons (.v 12) (.cons (.v 13) (.nil))))) (.cons (.cmp .ne (.call 93 (.cons (.v 3) (.cons (.bin .add (.v 11) (.v 13)) (.nil)))) (.tup (.cons (.v 11) (.cons (.v 13) (.nil))))) (.nil)))) (.cons (.ret (.k (.bl false))) (.nil)) (.nil)) (.nil))
def b_law_k41_1 : Ss := .cons (.for_ [9] false (.rng1 (.k (.int 3))) b_law_k41_0) (.nil)
def b_law_k41_2 : Ss := .cons (.ifs (.cmp .ne (.call 35 (.cons (.v 4) (.cons (.v 5) (.nil)))) (.bi .sum (.comp (.call 35 (.cons (.v 12) (.cons (.v 5) (.nil)))) [11, 12] true (.val (.v 3)) (.nil) [11, 12]))) (.cons (.ret (.k (.bl false))) (.nil)) (.nil)) (.nil)
def b_law_k41_3 : Ss := .cons (.set 13 (.call 11 (.cons (.call 7 (.cons (.v 1) (.cons (.bin .add (.k (.int 10)) (.v 9)) (.nil)))) (.cons (.ix (.tup (.cons (.v 6) (.cons (.v 7) (.nil)))) (.bin .mod (.v 9) (.k (.int 2)))) (.nil))))) (.cons (.set 14 (.lst (.cons (.call 23 (.cons (.v 6) (.cons (.v 13) (.nil)))) (.cons (.call 23 (.cons (.v 7) (.cons (.v 13) (.nil)))) (.nil))))) (.cons (.ifs (.and (.cons (.notN (.ix (.v 14) (.k (.int 1)))) (.cons (.or (.cons (.isN (.ix (.v 14) (.k (.int 0)))) (.cons (.cmp .ge (.bi .len (.ix (.ix (.v 14) (.k (.int 1))) (.k (.int 0)))) (.bi .len (.ix (.ix (.v 14) (.k (.int 0))) (.k (.int 0))))) (.nil)))) (.nil)))) (.cons (.ifs (.cmp .ne (.call 25 (.cons (.v 8) (.cons (.v 13) (.nil)))) (.call 25 (.cons (.v 7) (.cons (.v 13) (.nil))))) (.cons (.ret (.k (.bl false))) (.nil)) (.nil)) (.nil)) (.cons (.ifs (.cmp .ne (.call 25 (.cons (.v 8) (.cons (.v 13) (.nil)))) (.call 25 (.cons (.v 6) (.cons (.v 13) (.nil))))) (.cons (.ret (.k (.bl false))) (.nil)) (.nil)) (.nil))) (.nil)))
def t_law_k41 : Fn := ⟨1, 15, .cons (.set 1 (.call 6 (.cons (.v 0) (.cons (.k (.int 0)) (.nil))))) (.cons (.set 2 (.ix (.tup (.cons (.tup (.cons (.k (.str [48])) (.cons (.k (.str [49])) (.cons (.k (.str [50, 48])) (.cons (.k (.str [50, 49])) (.nil)))))) (.cons (.tup (.cons (.k (.str [52, 52])) (.cons (.k (.str [52, 53])) (.cons (.k (.str [55])) (.cons (.k (.str [57, 48, 48])) (.nil)))))) (.cons (.tup (.cons (.k (.str [51])) (.nil))) (.cons (.tup (.cons (.k (.str [49, 50, 51, 52])) (.cons (.k (.str [49, 50, 51, 53])) (.cons (.k (.str [57, 57])) (.nil))))) (.nil)))))) (.bin .mod (.v 1) (.k (.int 4))))) (.cons (.set 3 (.bi .tuple (.comp (.tup (.cons (.v 11) (.cons (.call 10 (.cons (.call 6 (.cons (.v 0) (.cons (.bin .add (.k (.int 1)) (.v 9)) (.nil)))) (.cons (.k (.int 6)) (.nil)))) (.nil)))) [9, 11] true (.enu (.v 2)) (.nil) [9, 11]))) (.cons (.ifs (.notN (.call 90 (.cons (.v 3) (.nil)))) (.cons (.ret (.k (.bl false))) (.nil)) (.nil)) (.cons (.set 4 (.call 92 (.cons (.v 3) (.nil)))) (.cons (.for_ [11, 12] true (.val (.v 3)) b_law_k41_1) (.cons (.ifs (.or (.cons (.notN (.call 93 (.cons (.v 3) (.cons (.k (.str [53, 53])) (.nil))))) (.cons (.cmp .ne (.call 25 (.cons (.v 4) (.cons (.k (.str [53, 53, 53, 53])) (.nil)))) (.tup (.cons (.k (.str [110, 111, 110, 101])) (.nil)))) (.cons (.cmp .ne (.call 93 (.cons (.v 3) (.cons (.ix (.v 2) (.k (.int 0))) (.nil)))) (.tup (.cons (.ix (.v 2) (.k (.int 0))) (.cons (.k (.str [])) (.nil))))) (.nil))))) (.cons (.ret (.k (.bl false))) (.nil)) (.nil)) (.cons (.for_ [5] false (.val (.tup (.cons (.k (.str [97])) (.cons (.k (.str [98])) (.cons (.k (.str [99, 100])) (.cons (.k (.str [104, 111, 109, 101])) (.nil))))))) b_law_k41_2) (.cons (.set 6 (.ix (.ix (.v 3) (.k (.int 0))) (.k (.int 1)))) (.cons (.set 7 (.ix (.ix (.v 3) (.k (.int (-1)))) (.k (.int 1)))) (.cons (.set 8 (.call 94 (.cons (.v 6) (.cons (.v 7) (.nil))))) (.cons (.ifs (.or (.cons (.cmp .ne (.call 94 (.cons (.v 6) (.cons (.tup (.nil)) (.nil)))) (.v 6)) (.cons (.cmp .ne (.call 94 (.cons (.tup (.nil)) (.cons (.v 6) (.nil)))) (.v 6)) (.cons (.cmp .ne (.call 94 (.cons (.v 6) (.cons (.v 6) (.nil)))) (.v 6)) (.cons (.cmp .ne (.call 86 (.cons (.v 6) (.cons (.k (.str [])) (.nil)))) (.v 6)) (.nil)))))) (.cons (.ret (.k (.bl false))) (.nil)) (.nil)) (.cons (.for_ [9] false (.rng1 (.k (.int 5))) b_law_k41_3) (.cons (.set 10 (.bin .add (.call 27 (.cons (.v 6) (.nil))) (.call 27 (.cons (.v 7) (.nil))))) (.cons (.ifs (.cmp .ne (.comp (.v 5) [5] false (.val (.call 27 (.cons (.v 8) (.nil)))) (.cons (.cmp .nin (.v 5) (.v 10)) .nil) [5]) (.lst (.nil))) (.cons (.ret (.k (.bl false))) (.nil)) (.nil)) (.cons (.ret (.cmp .eq (.call 86 (.cons (.call 86 (.cons (.v 6) (.cons (.k (.str [49, 50])) (.nil)))) (.cons (.k (.str [51])) (.nil)))) (.call 86 (.cons (.v 6) (.cons (.k (.str [51, 49, 50])) (.nil)))))) (.nil))))))))))))))))⟩
abbrev H_law_k41 (P : Prog) : Prop := P 98 = some t_law_k41 ∧ H_mixed P ∧ H_table P ∧ H_crossing P ∧ H_joined P ∧ H_number P ∧ H_drawn P ∧ H_home P ∧ H_says P ∧ H_many P ∧ H_overlaid P ∧ H_behind P ∧ H_rule_for P ∧ H_words_of P
def t_law_k42 : Fn := ⟨1, 10, .cons (.set 1 (.call 10 (.cons (.call 6 (.cons (.v 0) (.cons (.k (.int 0)) (.nil)))) (.cons (.k (.int 6)) (.nil))))) (.cons (.set 2 (.call 10 (.cons (.call 6 (.cons (.v 0) (.cons (.k (.int 1)) (.nil)))) (.cons (.k (.int 6)) (.nil))))) (.cons (.set 3 (.call 68 (.cons (.v 1) (.cons (.call 6 (.cons (.v 0) (.cons (.k (.int 2)) (.nil)))) (.nil))))) (.cons (.set 4 (.call 6 (.cons (.v 0) (.cons (.k (.int 3)) (.nil))))) (.cons (.ifs (.cmp .ne (.call 94 (.cons (.call 94 (.cons (.v 1) (.cons (.v 2) (.nil)))) (.cons (.v 3) (.nil)))) (.call 94 (.cons (.v 1) (.cons (.call 94 (.cons (.v 2) (.cons (.v 3) (.nil)))) (.nil))))) (.cons (.ret (.k (.bl false))) (.nil)) (.nil)) (.cons (.par [7, 8] (.cons (.ix (.tup (.cons (.k (.str [48])) (.cons (.k (.str [52, 52])) (.cons (.k (.str [57, 57, 57])) (.cons (.k (.str [])) (.nil)))))) (.bin .mod (.v 4) (.k (.int 4)))) (.cons (.ix (.tup (.cons (.k (.str [49])) (.cons (.k (.str [55])) (.cons (.k (.str [50, 48])) (.cons (.k (.str [])) (.nil)))))) (.bin .mod (.bin .fdiv (.v 4) (.k (.int 4))) (.k (.int 4)))) (.nil)))) (.cons (.set 5 (.call 94 (.cons (.v 1) (.cons (.v 2) (.nil))))) (.cons (.ifs (.cmp .ne (.call 86 (.cons (.v 5) (.cons (.v 7) (.nil)))) (.call 94 (.cons (.call 86 (.cons (.v 1) (.cons (.v 7) (.nil)))) (.cons (.call 86 (.cons (.v 2) (.cons (.v 7) (.nil)))) (.nil))))) (.cons (.ret (.k (.bl false))) (.nil)) (.nil)) (.cons (.ifs (.or (.cons (.cmp .ne (.call 86 (.cons (.call 86 (.cons (.v 1) (.cons (.v 7) (.nil)))) (.cons (.v 8) (.nil)))) (.call 86 (.cons (.v 1) (.cons (.bin .add (.v 8) (.v 7)) (.nil))))) (.cons (.cmp .ne (.call 86 (.cons (.v 1) (.cons (.k (.str [])) (.nil)))) (.v 1)) (.nil)))) (.cons (.ret (.k (.bl false))) (.nil)) (.nil)) (.cons (.ifs (.or (.cons (.cmp .ne (.v 5) (.call 94 (.cons (.v 5) (.cons (.v 2) (.nil))))) (.cons (.cmp .ne (.call 94 (.cons (.v 2) (.cons (.v 5) (.nil)))) (.v 5)) (.cons (.cmp .ne (.call 94 (.cons (.tup (.nil)) (.cons (.v 2) (.nil)))) (.v 2)) (.nil))))) (.cons (.ret (.k (.bl false))) (.nil)) (.nil)) (.cons (.set 6 (.comp (.ix (.v 9) (.k (.int 0))) [9] false (.val (.v 5)) (.nil) [9])) (.cons (.ifs (.cmp .ne (.v 6) (.bi .srtset (.comp (.ix (.v 9) (.k (.int 0))) [9] false (.val (.bin .add (.v 1) (.v 2))) (.nil) [9]))) (.cons (.ret (.k (.bl false))) (.nil)) (.nil)) (.cons (.ret (.cmp .eq (.call 27 (.cons (.call 86 (.cons (.v 1) (.cons (.v 7) (.nil)))) (.nil))) (.call 27 (.cons (.v 1) (.nil))))) (.nil)))))))))))))⟩
abbrev H_law_k42 (P : Prog) : Prop := P 99 = some t_law_k42 ∧ H_table P ∧ H_mixed P ∧ H_near P ∧ H_overlaid P ∧ H_behind P ∧ H_words_of P
def b_law_k43_0 : Ss := .cons (.ifs (.cmp .ne (.cmp .eq (.v 6) (.tup (.cons (.k (.str [114, 101, 102, 117, 115, 101, 100])) (.cons (.k (.int 1)) (.nil))))) (.notN (.v 2))) (.cons (.ret (.k (.bl false))) (.nil)) (.nil)) (.nil)
def b_law_k43_1 : Ss := .cons (.set 8 (.bin .add (.v 8) (.comp (.tup (.cons (.v 9) (.cons (.v 17) (.nil)))) [17] false (.val (.v 7)) (.cons (.and (.cons (.cmp .lt (.v 9) (.v 17)) (.cons (.cmp .eq (.slH (.v 17) (.bi .len (.v 9))) (.v 9)) (.nil)))) .nil) [17]))) (.nil)
def b_law_k43_2 : Ss := .cons (.set 12 (.bin .add (.slH (.v 1) (.v 10)) (.slL (.v 1) (.bin .add (.v 10) (.k (.int 1)))))) (.cons (.set 13 (.comp (.v 9) [9] false (.val (.v 8)) (.cons (.cmp .nin (.ix (.v 11) (.k (.int 0))) (.v 9)) .nil) [9])) (.cons (.ifs (.cmp .ne (.isN (.call 90 (.cons (.v 12) (.nil)))) (.cmp .eq (.v 13) (.lst (.nil)))) (.cons (.ret (.k (.bl false))) (.nil)) (.nil)) (.cons (.ifs (.isN (.v 2)) (.cons (.set 14 (.call 86 (.cons (.ix (.v 11) (.k (.int 1))) (.cons (.ix (.v 11) (.k (.int 0))) (.nil))))) (.cons (.ifs (.cmp .ne (.bi .tuple (.bi .sorted (.bin .add (.call 92 (.cons (.v 12) (.nil))) (.v 14)))) (.call 92 (.cons (.v 1) (.nil)))) (.cons (.ret (.k (.bl false))) (.nil)) (.nil)) (.cons (.ifs (.or (.cons (.cmp .ne (.call 93 (.cons (.v 1) (.cons (.bin .add (.ix (.v 11) (.k (.int 0))) (.v 3)) (.nil)))) (.tup (.cons (.ix (.v 11) (.k (.int 0))) (.cons (.v 3) (.nil))))) (.cons (.notN (.call 93 (.cons (.v 12) (.cons (.ix (.v 11) (.k (.int 0))) (.nil))))) (.nil)))) (.cons (.ret (.k (.bl false))) (.nil)) (.nil)) (.nil)))) (.nil)) (.nil))))
def t_law_k43 : Fn := ⟨1, 18, .cons (.set 1 (.call 95 (.cons (.call 6 (.cons (.v 0) (.cons (.k (.int 0)) (.nil)))) (.nil)))) (.cons (.set 2 (.call 90 (.cons (.v 1) (.nil)))) (.cons (.set 3 (.bin .add (.call 8 (.cons (.call 6 (.cons (.v 0) (.cons (.k (.int 1)) (.nil)))) (.cons (.k (.int 6)) (.nil)))) (.k (.str [49])))) (.cons (.set 4 (.lam 0 (.call 92 (.cons (.v 1) (.nil))))) (.cons (.set 5 (.lam 0 (.call 93 (.cons (.v 1) (.cons (.v 3) (.nil)))))) (.cons (.for_ [6] false (.val (.tup (.cons (.v 4) (.cons (.v 5) (.nil))))) b_law_k43_0) (.cons (.set 7 (.comp (.v 15) [15, 16] true (.val (.v 1)) (.nil) [15, 16])) (.cons (.set 8 (.lst (.nil))) (.cons (.for_ [9] false (.val (.v 7)) b_law_k43_1) (.cons (.ifs (.cmp .ne (.v 2) (.ix (.bin .add (.bi .sorted (.v 8)) (.lst (.cons (.k (.non)) (.nil)))) (.k (.int 0)))) (.cons (.ret (.k (.bl false))) (.nil)) (.nil)) (.cons (.for_ [10, 11] true (.enu (.v 1)) b_law_k43_2) (.cons (.ret (.and (.cons (.isN (.call 90 (.cons (.tup (.nil)) (.nil)))) (.cons (.cmp .eq (.call 92 (.cons (.tup (.nil)) (.nil))) (.tup (.nil))) (.cons (.isN (.call 93 (.cons (.tup (.nil)) (.cons (.v 3) (.nil))))) (.nil)))))) (.nil))))))))))))⟩
abbrev H_law_k43 (P : Prog) : Prop := P 100 = some t_law_k43 ∧ H_lands P ∧ H_mixed P ∧ H_crossing P ∧ H_figures P ∧ H_joined P ∧ H_home P ∧ H_behind P
def t_rows_text : Fn := ⟨1, 2, .cons (.ret (.mt .join (.k (.str [])) (.comp (.bin .add (.mt .join (.k (.str [32])) (.v 1)) (.k (.str [10]))) [1] false (.val (.v 0)) (.nil) [1]))) (.nil)⟩
abbrev H_rows_text (P : Prog) : Prop := P 109 = some t_rows_text
def t_rule_words : Fn := ⟨1, 4, .cons (.unp [1, 2, 3] (.v 0)) (.cons (.ifs (.cmp .eq (.v 1) (.k (.str []))) (.cons (.set 1 (.k (.str [42]))) (.nil)) (.nil)) (.cons (.ifs (.cmp .eq (.v 2) (.k (.int 0))) (.cons (.ret (.lst (.cons (.v 1) (.cons (.bi .str (.v 2)) (.nil))))) (.nil)) (.nil)) (.cons (.ret (.lst (.cons (.v 1) (.cons (.bi .str (.v 2)) (.cons (.v 3) (.nil)))))) (.nil))))⟩
abbrev H_rule_words (P : Prog) : Prop := P 110 = some t_rule_words
def t_table_text : Fn := ⟨1, 2, .cons (.ret (.call 109 (.cons (.comp (.call 110 (.cons (.v 1) (.nil))) [1] false (.val (.v 0)) (.nil) [1]) (.nil)))) (.nil)⟩
abbrev H_table_text (P : Prog) : Prop := P 111 = some t_table_text ∧ H_rows_text P ∧ H_rule_words P
def b_sample_text_0 : Ss := .cons (.ifs (.isN (.v 3)) (.cons (.set 3 (.k (.str [45]))) (.nil)) (.nil)) (.cons (.app 1 (.lst (.cons (.v 2) (.cons (.v 3) (.nil))))) (.nil))
def t_sample_text : Fn := ⟨1, 4, .cons (.own 1 (.nil)) (.cons (.for_ [2, 3] true (.val (.v 0)) b_sample_text_0) (.cons (.frz 1) (.cons (.ret (.call 109 (.cons (.v 1) (.nil)))) (.nil))))⟩
abbrev H_sample_text (P : Prog) : Prop := P 112 = some t_sample_text ∧ H_rows_text P
def t_need : Fn := ⟨1, 1, .cons (.ifs (.not (.v 0)) (.cons (.raise 3) (.nil)) (.nil)) (.nil)⟩
abbrev H_need (P : Prog) : Prop := P 113 = some t_need
def t_rows_of : Fn := ⟨1, 3, .cons (.set 1 (.mt .split (.v 0) (.k (.str [10])))) (.cons (.drop (.call 113 (.cons (.cmp .eq (.ix (.v 1) (.k (.int (-1)))) (.k (.str []))) (.nil)))) (.cons (.ret (.comp (.mt .split (.v 2) (.k (.str [32]))) [2] false (.val (.slH (.v 1) (.k (.int (-1))))) (.nil) [2])) (.nil)))⟩
abbrev H_rows_of (P : Prog) : Prop := P 114 = some t_rows_of ∧ H_need P
def t_rule_of : Fn := ⟨1, 3, .cons (.drop (.call 113 (.cons (.and (.cons (.chain .le .le (.k (.int 2)) (.bi .len (.v 0)) (.k (.int 3))) (.cons (.chain .le .le (.k (.int 1)) (.bi .len (.ix (.v 0) (.k (.int 1)))) (.k (.int 2))) (.cons (.bi .all (.comp (.cmp .inn (.v 2) (.k (.str [48, 49, 50, 51, 52, 53, 54, 55, 56, 57]))) [2] false (.val (.ix (.v 0) (.k (.int 1)))) (.nil) [2])) (.nil))))) (.nil)))) (.cons (.set 1 (.ix (.v 0) (.k (.int 0)))) (.cons (.ifs (.cmp .eq (.v 1) (.k (.str [42]))) (.cons (.set 1 (.k (.str []))) (.nil)) (.nil)) (.cons (.ret (.tup (.cons (.v 1) (.cons (.bi .int (.ix (.v 0) (.k (.int 1)))) (.cons (.ix (.bin .add (.v 0) (.lst (.cons (.k (.str [])) (.nil)))) (.k (.int 2))) (.nil)))))) (.nil))))⟩
abbrev H_rule_of (P : Prog) : Prop := P 115 = some t_rule_of ∧ H_need P
def t_read_table : Fn := ⟨1, 3, .cons (.set 1 (.bi .tuple (.comp (.call 115 (.cons (.v 2) (.nil))) [2] false (.val (.call 114 (.cons (.v 0) (.nil)))) (.nil) [2]))) (.cons (.drop (.call 113 (.cons (.and (.cons (.call 4 (.cons (.v 1) (.nil))) (.cons (.cmp .eq (.call 111 (.cons (.v 1) (.nil))) (.v 0)) (.nil)))) (.nil)))) (.cons (.ret (.v 1)) (.nil)))⟩
abbrev H_read_table (P : Prog) : Prop := P 116 = some t_read_table ∧ H_rows_of P ∧ H_rule_of P ∧ H_need P ∧ H_table_text P ∧ H_is_table P
def t_pair_of : Fn := ⟨1, 1, .cons (.drop (.call 113 (.cons (.and (.cons (.cmp .eq (.bi .len (.v 0)) (.k (.int 2))) (.cons (.call 1 (.cons (.ix (.v 0) (.k (.int 0))) (.nil))) (.nil)))) (.nil)))) (.cons (.ifs (.cmp .eq (.ix (.v 0) (.k (.int 1))) (.k (.str [45]))) (.cons (.ret (.tup (.cons (.ix (.v 0) (.k (.int 0))) (.cons (.k (.non)) (.nil))))) (.nil)) (.nil)) (.cons (.drop (.call 113 (.cons (.call 2 (.cons (.ix (.v 0) (.k (.int 1))) (.nil))) (.nil)))) (.cons (.ret (.tup (.cons (.ix (.v 0) (.k (.int 0))) (.cons (.ix (.v 0) (.k (.int 1))) (.nil))))) (.nil))))⟩
abbrev H_pair_of (P : Prog) : Prop := P 117 = some t_pair_of ∧ H_need P ∧ H_is_number P ∧ H_is_word P
def t_read_sample : Fn := ⟨1, 5, .cons (.set 1 (.bi .tuple (.comp (.call 117 (.cons (.v 2) (.nil))) [2] false (.val (.call 114 (.cons (.v 0) (.nil)))) (.nil) [2]))) (.cons (.drop (.call 113 (.cons (.and (.cons (.cmp .le (.bi .len (.v 1)) (.k (.int 16))) (.cons (.bi .all (.comp (.cmp .lt (.ix (.v 3) (.k (.int 0))) (.ix (.v 4) (.k (.int 0)))) [3, 4] true (.zip (.slH (.v 1) (.k (.int (-1)))) (.slL (.v 1) (.k (.int 1)))) (.nil) [3, 4])) (.nil)))) (.nil)))) (.cons (.ret (.v 1)) (.nil)))⟩
abbrev H_read_sample (P : Prog) : Prop := P 118 = some t_read_sample ∧ H_rows_of P ∧ H_pair_of P ∧ H_need P
def b_law_k60_0 : Ss := .cons (.set 3 (.bin .add (.bin .add (.bin .add (.bin .add (.bin .add (.v 3) (.ix (.lst (.cons (.v 8) (.cons (.k (.str [42])) (.nil)))) (.bi .int (.cmp .eq (.v 8) (.k (.str [])))))) (.k (.str [32]))) (.bi .str (.v 9))) (.ix (.lst (.cons (.bin .add (.k (.str [32])) (.v 10)) (.cons (.k (.str [])) (.nil)))) (.bi .int (.cmp .eq (.v 9) (.k (.int 0)))))) (.k (.str [10])))) (.nil)
def b_law_k60_1 : Ss := .cons (.set 4 (.bin .add (.bin .add (.bin .add (.bin .add (.v 4) (.v 7)) (.k (.str [32]))) (.ix (.lst (.cons (.v 10) (.cons (.k (.str [45])) (.nil)))) (.bi .int (.isN (.v 10))))) (.k (.str [10])))) (.nil)
def t_law_k60 : Fn := ⟨1, 13, .cons (.set 1 (.call 10 (.cons (.call 6 (.cons (.v 0) (.cons (.k (.int 0)) (.nil)))) (.cons (.k (.int 12)) (.nil))))) (.cons (.set 2 (.call 80 (.cons (.call 6 (.cons (.v 0) (.cons (.k (.int 1)) (.nil)))) (.cons (.k (.int 12)) (.nil))))) (.cons (.set 3 (.k (.str []))) (.cons (.for_ [8, 9, 10] true (.val (.v 1)) b_law_k60_0) (.cons (.set 4 (.k (.str []))) (.cons (.for_ [7, 10] true (.val (.v 2)) b_law_k60_1) (.cons (.ifs (.or (.cons (.cmp .ne (.call 111 (.cons (.v 1) (.nil))) (.v 3)) (.cons (.cmp .ne (.call 112 (.cons (.v 2) (.nil))) (.v 4)) (.nil)))) (.cons (.ret (.k (.bl false))) (.nil)) (.nil)) (.cons (.ifs (.or (.cons (.cmp .ne (.bi .repr (.call 116 (.cons (.v 3) (.nil)))) (.bi .repr (.v 1))) (.cons (.cmp .ne (.bi .repr (.call 118 (.cons (.v 4) (.nil)))) (.bi .repr (.v 2))) (.nil)))) (.cons (.ret (.k (.bl false))) (.nil)) (.nil)) (.cons (.set 5 (.call 10 (.cons (.call 6 (.cons (.v 0) (.cons (.k (.int 2)) (.nil)))) (.cons (.k (.int 3)) (.nil))))) (.cons (.set 6 (.call 80 (.cons (.call 6 (.cons (.v 0) (.cons (.k (.int 3)) (.nil)))) (.cons (.k (.int 3)) (.nil))))) (.cons (.set 7 (.call 6 (.cons (.v 0) (.cons (.k (.int 4)) (.nil))))) (.cons (.ifs (.cmp .ne (.v 1) (.tup (.nil))) (.cons (.set 11 (.bin .mod (.v 7) (.bi .len (.v 1)))) (.cons (.set 5 (.ix (.tup (.cons (.v 5) (.cons (.bin .add (.slH (.v 1) (.v 11)) (.slL (.v 1) (.bin .add (.v 11) (.k (.int 1))))) (.nil)))) (.bin .mod (.bin .fdiv (.v 7) (.k (.int 64))) (.k (.int 2))))) (.nil))) (.nil)) (.cons (.ifs (.cmp .ne (.v 2) (.tup (.nil))) (.cons (.set 11 (.bin .mod (.v 7) (.bi .len (.v 2)))) (.cons (.set 12 (.tup (.cons (.ix (.ix (.v 2) (.v 11)) (.k (.int 0))) (.cons (.ix (.tup (.cons (.k (.str [97])) (.cons (.k (.non)) (.cons (.k (.str [98])) (.nil))))) (.bin .mod (.bin .fdiv (.v 7) (.k (.int 256))) (.k (.int 3)))) (.nil))))) (.cons (.set 6 (.ix (.tup (.cons (.v 6) (.cons (.bin .add (.bin .add (.slH (.v 2) (.v 11)) (.tup (.cons (.v 12) (.nil)))) (.slL (.v 2) (.bin .add (.v 11) (.k (.int 1))))) (.nil)))) (.bin .mod (.bin .fdiv (.v 7) (.k (.int 1024))) (.k (.int 2))))) (.nil)))) (.nil)) (.cons (.ifs (.or (.cons (.cmp .ne (.cmp .eq (.call 111 (.cons (.v 5) (.nil))) (.v 3)) (.cmp .eq (.v 5) (.v 1))) (.cons (.cmp .ne (.call 116 (.cons (.call 111 (.cons (.v 5) (.nil))) (.nil))) (.v 5)) (.nil)))) (.cons (.ret (.k (.bl false))) (.nil)) (.nil)) (.cons (.ret (.and (.cons (.cmp .eq (.cmp .eq (.call 112 (.cons (.v 6) (.nil))) (.v 4)) (.cmp .eq (.v 6) (.v 2))) (.cons (.cmp .eq (.call 118 (.cons (.call 112 (.cons (.v 6) (.nil))) (.nil))) (.v 6)) (.nil))))) (.nil)))))))))))))))⟩
abbrev H_law_k60 (P : Prog) : Prop := P 119 = some t_law_k60 ∧ H_table P ∧ H_mixed P ∧ H_sample P ∧ H_sample_text P ∧ H_table_text P ∧ H_read_sample P ∧ H_read_table P
def t_changed : Fn := ⟨2, 4, .cons (.set 2 (.bin .mod (.bin .fdiv (.v 1) (.k (.int 16))) (.bin .add (.bi .len (.v 0)) (.k (.int 1))))) (.cons (.set 3 (.ix (.k (.str [48, 49, 50, 57, 97, 98, 42, 45, 32, 10, 122])) (.bin .mod (.bin .fdiv (.v 1) (.k (.int 4096))) (.k (.int 11))))) (.cons (.ifs (.cmp .eq (.bin .mod (.v 1) (.k (.int 4))) (.k (.int 0))) (.cons (.ret (.bin .add (.bin .add (.slH (.v 0) (.v 2)) (.v 3)) (.slL (.v 0) (.v 2)))) (.nil)) (.nil)) (.cons (.ifs (.cmp .eq (.bin .mod (.v 1) (.k (.int 4))) (.k (.int 1))) (.cons (.ret (.bin .add (.slH (.v 0) (.v 2)) (.slL (.v 0) (.bin .add (.v 2) (.k (.int 1)))))) (.nil)) (.nil)) (.cons (.ifs (.cmp .eq (.bin .mod (.v 1) (.k (.int 4))) (.k (.int 2))) (.cons (.ret (.bin .add (.bin .add (.slH (.v 0) (.v 2)) (.v 3)) (.slL (.v 0) (.bin .add (.v 2) (.k (.int 1)))))) (.nil)) (.nil)) (.cons (.ret (.bin .add (.slH (.v 0) (.v 2)) (.slL (.v 0) (.bin .add (.v 2) (.bin .mod (.bin .fdiv (.v 1) (.k (.int 64))) (.k (.int 9))))))) (.nil))))))⟩
abbrev H_changed (P : Prog) : Prop := P 120 = some t_changed
def b_is_sample_0 : Ss := .cons (.ifs (.or (.cons (.not (.call 1 (.cons (.v 2) (.nil)))) (.cons (.and (.cons (.notN (.v 3)) (.cons (.not (.chain .le .le (.k (.int 1)) (.bi .len (.v 3)) (.k (.int 4)))) (.nil)))) (.nil)))) (.cons (.ret (.k (.bl false))) (.nil)) (.nil)) (.nil)
def t_is_sample : Fn := ⟨1, 5, .cons (.set 1 (.comp (.ix (.v 4) (.k (.int 0))) [4] false (.val (.v 0)) (.nil) [4])) (.cons (.ifs (.or (.cons (.not (.isi (.v 0) .tuple)) (.cons (.cmp .gt (.bi .len (.v 0)) (.k (.int 16))) (.cons (.cmp .ne (.v 1) (.bi .srtset (.v 1))) (.nil))))) (.cons (.ret (.k (.bl false))) (.nil)) (.nil)) (.cons (.for_ [2, 3] true (.val (.v 0)) b_is_sample_0) (.cons (.ret (.k (.bl true))) (.nil))))⟩
abbrev H_is_sample (P : Prog) : Prop := P 121 = some t_is_sample ∧ H_is_number P
def b_law_k61_0 : Ss := .cons (.set 2 (.call 120 (.cons (.v 2) (.cons (.call 6 (.cons (.v 0) (.cons (.bin .add (.k (.int 3)) (.v 4)) (.nil)))) (.nil))))) (.cons (.set 3 (.call 120 (.cons (.v 3) (.cons (.call 6 (.cons (.v 0) (.cons (.bin .add (.k (.int 5)) (.v 4)) (.nil)))) (.nil))))) (.nil))
def b_law_k61_1 : Ss := .cons (.set 11 (.lam 0 (.call 116 (.cons (.v 10) (.nil))))) (.cons (.ifs (.cmp .eq (.ix (.v 11) (.k (.int 0))) (.k (.str [116, 111, 108, 100]))) (.cons (.ifs (.or (.cons (.not (.call 4 (.cons (.ix (.v 11) (.k (.int 1))) (.nil)))) (.cons (.cmp .ne (.call 111 (.cons (.ix (.v 11) (.k (.int 1))) (.nil))) (.v 10)) (.nil)))) (.cons (.ret (.k (.bl false))) (.nil)) (.nil)) (.nil)) (.cons (.ifs (.cmp .ne (.v 11) (.tup (.cons (.k (.str [114, 101, 102, 117, 115, 101, 100])) (.cons (.k (.int 3)) (.nil))))) (.cons (.ret (.k (.bl false))) (.nil)) (.nil)) (.nil))) (.cons (.set 11 (.lam 0 (.call 118 (.cons (.v 10) (.nil))))) (.cons (.ifs (.cmp .eq (.ix (.v 11) (.k (.int 0))) (.k (.str [116, 111, 108, 100]))) (.cons (.ifs (.or (.cons (.not (.call 121 (.cons (.ix (.v 11) (.k (.int 1))) (.nil)))) (.cons (.cmp .ne (.call 112 (.cons (.ix (.v 11) (.k (.int 1))) (.nil))) (.v 10)) (.nil)))) (.cons (.ret (.k (.bl false))) (.nil)) (.nil)) (.nil)) (.cons (.ifs (.cmp .ne (.v 11) (.tup (.cons (.k (.str [114, 101, 102, 117, 115, 101, 100])) (.cons (.k (.int 3)) (.nil))))) (.cons (.ret (.k (.bl false))) (.nil)) (.nil)) (.nil))) (.nil))))
def t_law_k61 : Fn := ⟨1, 12, .cons (.set 1 (.call 6 (.cons (.v 0) (.cons (.k (.int 0)) (.nil))))) (.cons (.set 2 (.call 111 (.cons (.call 10 (.cons (.call 6 (.cons (.v 0) (.cons (.k (.int 1)) (.nil)))) (.cons (.k (.int 6)) (.nil)))) (.nil)))) (.cons (.set 3 (.call 112 (.cons (.call 80 (.cons (.call 6 (.cons (.v 0) (.cons (.k (.int 2)) (.nil)))) (.cons (.k (.int 6)) (.nil)))) (.nil)))) (.cons (.for_ [4] false (.rng1 (.bin .mod (.v 1) (.k (.int 3)))) b_law_k61_0) (.cons (.set 5 (.tup (.cons (.k (.str [])) (.cons (.k (.str [10])) (.cons (.k (.str [42, 32, 48, 10])) (.cons (.k (.str [42, 32, 51, 32, 97, 10])) (.cons (.k (.str [32, 51, 32, 97, 10])) (.cons (.k (.str [49, 50, 32, 49, 32, 97, 10])) (.cons (.k (.str [49, 50, 32, 48, 50, 32, 97, 10])) (.cons (.k (.str [49, 50, 32, 48, 32, 97, 10])) (.nil))))))))))) (.cons (.set 5 (.bin .add (.v 5) (.tup (.cons (.k (.str [49, 50, 32, 50, 10])) (.cons (.k (.str [49, 32, 51, 32, 97, 10, 48, 32, 51, 32, 97, 10])) (.nil)))))) (.cons (.set 5 (.bin .add (.v 5) (.tup (.cons (.k (.str [48, 32, 51, 32, 97, 10, 49, 32, 51, 32, 97, 10])) (.cons (.k (.str [49, 32, 45, 10])) (.cons (.k (.str [42, 32, 45, 10])) (.cons (.k (.str [49, 32, 97, 10, 49, 32, 98, 10])) (.cons (.k (.str [49, 32, 97, 10, 50, 32, 98, 10])) (.nil))))))))) (.cons (.set 5 (.bin .add (.v 5) (.tup (.cons (.k (.str [49, 50, 32, 49, 51, 32, 97, 10])) (.cons (.k (.str [49, 32, 97, 98, 99, 100, 101, 10])) (.cons (.k (.str [49, 32, 51, 32, 97])) (.nil))))))) (.cons (.set 6 (.mt .join (.k (.str [])) (.comp (.bin .add (.bi .str (.bin .add (.k (.int 10)) (.v 4))) (.k (.str [32, 97, 10]))) [4] false (.rng1 (.bin .add (.k (.int 15)) (.bin .mod (.v 1) (.k (.int 3))))) (.nil) [4]))) (.cons (.ifs (.cmp .ne (.cmp .eq (.ix (.lam 0 (.call 118 (.cons (.v 6) (.nil)))) (.k (.int 0))) (.k (.str [116, 111, 108, 100]))) (.cmp .lt (.bin .mod (.v 1) (.k (.int 3))) (.k (.int 2)))) (.cons (.ret (.k (.bl false))) (.nil)) (.nil)) (.cons (.set 7 (.tup (.cons (.k (.int 0)) (.cons (.k (.int 2)) (.cons (.k (.int 3)) (.cons (.k (.int 10)) (.nil))))))) (.cons (.set 8 (.tup (.cons (.k (.int 0)) (.cons (.k (.int 11)) (.cons (.k (.int 14)) (.nil)))))) (.cons (.set 9 (.bin .mod (.bin .fdiv (.v 1) (.k (.int 8))) (.k (.int 18)))) (.cons (.ifs (.cmp .ne (.cmp .eq (.ix (.lam 0 (.call 116 (.cons (.ix (.v 5) (.v 9)) (.nil)))) (.k (.int 0))) (.k (.str [116, 111, 108, 100]))) (.cmp .inn (.v 9) (.v 7))) (.cons (.ret (.k (.bl false))) (.nil)) (.nil)) (.cons (.ifs (.cmp .ne (.cmp .eq (.ix (.lam 0 (.call 118 (.cons (.ix (.v 5) (.v 9)) (.nil)))) (.k (.int 0))) (.k (.str [116, 111, 108, 100]))) (.cmp .inn (.v 9) (.v 8))) (.cons (.ret (.k (.bl false))) (.nil)) (.nil)) (.cons (.for_ [10] false (.val (.tup (.cons (.v 2) (.cons (.v 3) (.cons (.ix (.v 5) (.v 9)) (.nil)))))) b_law_k61_1) (.cons (.ret (.k (.bl true))) (.nil)))))))))))))))))⟩
abbrev H_law_k61 (P : Prog) : Prop := P 122 = some t_law_k61 ∧ H_mixed P ∧ H_table_text P ∧ H_table P ∧ H_sample_text P ∧ H_sample P ∧ H_changed P ∧ H_read_sample P ∧ H_read_table P ∧ H_is_table P ∧ H_is_sample P
def b_law_k63_0 : Ss := .cons (.ifs (.cmp .ne (.call 116 (.cons (.bin .add (.v 8) (.k (.str [10]))) (.nil))) (.tup (.cons (.v 9) (.nil)))) (.cons (.ret (.k (.bl false))) (.nil)) (.nil)) (.nil)
def b_law_k63_1 : Ss := .cons (.ifs (.cmp .ne (.call 118 (.cons (.bin .add (.v 8) (.k (.str [10]))) (.nil))) (.tup (.cons (.v 10) (.nil)))) (.cons (.ret (.k (.bl false))) (.nil)) (.nil)) (.nil)
def t_law_k63 : Fn := ⟨1, 11, .cons (.set 1 (.call 10 (.cons (.call 6 (.cons (.v 0) (.cons (.k (.int 0)) (.nil)))) (.cons (.k (.int 9)) (.nil))))) (.cons (.set 2 (.call 80 (.cons (.call 6 (.cons (.v 0) (.cons (.k (.int 1)) (.nil)))) (.cons (.k (.int 9)) (.nil))))) (.cons (.set 3 (.call 6 (.cons (.v 0) (.cons (.k (.int 2)) (.nil))))) (.cons (.par [6, 7] (.cons (.bin .mod (.v 3) (.bin .add (.bi .len (.v 1)) (.k (.int 1)))) (.cons (.bin .mod (.bin .fdiv (.v 3) (.k (.int 16))) (.bin .add (.bi .len (.v 2)) (.k (.int 1)))) (.nil)))) (.cons (.set 4 (.call 111 (.cons (.v 1) (.nil)))) (.cons (.ifs (.or (.cons (.cmp .ne (.v 4) (.bin .add (.call 111 (.cons (.slH (.v 1) (.v 6)) (.nil))) (.call 111 (.cons (.slL (.v 1) (.v 6)) (.nil))))) (.cons (.cmp .ne (.call 111 (.cons (.tup (.nil)) (.nil))) (.k (.str []))) (.nil)))) (.cons (.ret (.k (.bl false))) (.nil)) (.nil)) (.cons (.for_ [8, 9] true (.zip (.mt .split (.v 4) (.k (.str [10]))) (.v 1)) b_law_k63_0) (.cons (.set 5 (.call 112 (.cons (.v 2) (.nil)))) (.cons (.ifs (.or (.cons (.cmp .ne (.v 5) (.bin .add (.call 112 (.cons (.slH (.v 2) (.v 7)) (.nil))) (.call 112 (.cons (.slL (.v 2) (.v 7)) (.nil))))) (.cons (.cmp .ne (.call 112 (.cons (.tup (.nil)) (.nil))) (.k (.str []))) (.nil)))) (.cons (.ret (.k (.bl false))) (.nil)) (.nil)) (.cons (.for_ [8, 10] true (.zip (.mt .split (.v 5) (.k (.str [10]))) (.v 2)) b_law_k63_1) (.cons (.ifs (.or (.cons (.cmp .ne (.bi .len (.mt .split (.v 4) (.k (.str [10])))) (.bin .add (.bi .len (.v 1)) (.k (.int 1)))) (.cons (.cmp .ne (.bi .len (.mt .split (.v 5) (.k (.str [10])))) (.bin .add (.bi .len (.v 2)) (.k (.int 1)))) (.nil)))) (.cons (.ret (.k (.bl false))) (.nil)) (.nil)) (.cons (.ret (.and (.cons (.cmp .eq (.call 116 (.cons (.k (.str [])) (.nil))) (.tup (.nil))) (.cons (.cmp .eq (.call 118 (.cons (.k (.str [])) (.nil))) (.tup (.nil))) (.nil))))) (.nil))))))))))))⟩
abbrev H_law_k63 (P : Prog) : Prop := P 126 = some t_law_k63 ∧ H_table P ∧ H_mixed P ∧ H_sample P ∧ H_table_text P ∧ H_read_table P ∧ H_sample_text P ∧ H_read_sample P
def t_bent : Fn := ⟨2, 10, .cons (.set 2 (.bin .mod (.v 1) (.bin .add (.bi .len (.v 0)) (.k (.int 1))))) (.cons (.set 3 (.ix (.k (.str [48, 49, 50, 57, 32, 42, 45, 97, 98, 122, 10])) (.bin .mod (.bin .fdiv (.v 1) (.k (.int 512))) (.k (.int 11))))) (.cons (.set 4 (.mt .split (.v 0) (.k (.str [10])))) (.cons (.set 5 (.bin .mod (.bin .fdiv (.v 1) (.k (.int 16384))) (.bi .len (.v 4)))) (.cons (.par [8, 9] (.cons (.slH (.v 0) (.v 2)) (.cons (.slL (.v 0) (.bin .add (.v 2) (.k (.int 1)))) (.nil)))) (.cons (.own 6 (.cons (.bin .add (.bin .add (.v 8) (.v 3)) (.slL (.v 0) (.v 2))) (.cons (.bin .add (.v 8) (.v 9)) (.cons (.bin .add (.bin .add (.v 8) (.v 3)) (.v 9)) (.nil))))) (.cons (.set 7 (.bin .add (.bin .add (.slH (.v 4) (.v 5)) (.slB (.v 4) (.v 5) (.bin .add (.v 5) (.k (.int 1))))) (.slL (.v 4) (.v 5)))) (.cons (.app 6 (.mt .join (.k (.str [10])) (.v 7))) (.cons (.app 6 (.mt .join (.k (.str [10])) (.bin .add (.slH (.v 4) (.v 5)) (.slL (.v 4) (.bin .add (.v 5) (.k (.int 1))))))) (.cons (.frz 6) (.cons (.ret (.ix (.v 6) (.bin .mod (.bin .fdiv (.v 1) (.k (.int 1048576))) (.k (.int 5))))) (.nil)))))))))))⟩
abbrev H_bent (P : Prog) : Prop := P 127 = some t_bent
def t_read : Fn := ⟨2, 2, .cons (.ifs (.cmp .eq (.v 0) (.k (.int 0))) (.cons (.ret (.call 116 (.cons (.v 1) (.nil)))) (.nil)) (.nil)) (.cons (.ret (.call 118 (.cons (.v 1) (.nil)))) (.nil))⟩
abbrev H_read (P : Prog) : Prop := P 128 = some t_read ∧ H_read_table P ∧ H_read_sample P
def t_good : Fn := ⟨3, 3, .cons (.ifs (.cmp .eq (.v 0) (.k (.int 0))) (.cons (.ret (.and (.cons (.isB (.call 4 (.cons (.v 1) (.nil))) true) (.cons (.cmp .eq (.call 111 (.cons (.v 1) (.nil))) (.v 2)) (.nil))))) (.nil)) (.nil)) (.cons (.ret (.and (.cons (.isi (.v 1) .tuple) (.cons (.call 121 (.cons (.v 1) (.nil))) (.cons (.cmp .eq (.call 112 (.cons (.v 1) (.nil))) (.v 2)) (.nil)))))) (.nil))⟩
abbrev H_good (P : Prog) : Prop := P 129 = some t_good ∧ H_table_text P ∧ H_is_table P ∧ H_sample_text P ∧ H_is_sample P
def b_law_k64_0 : Ss := .cons (.set 3 (.call 127 (.cons (.v 3) (.cons (.bin .fdiv (.call 7 (.cons (.v 1) (.cons (.v 4) (.nil)))) (.k (.int 4))) (.nil))))) (.cons (.set 5 (.lam 0 (.call 128 (.cons (.v 2) (.cons (.v 3) (.nil)))))) (.cons (.ifs (.cmp .eq (.ix (.v 5) (.k (.int 0))) (.k (.str [114, 101, 102, 117, 115, 101, 100]))) (.cons (.ifs (.cmp .ne (.v 5) (.tup (.cons (.k (.str [114, 101, 102, 117, 115, 101, 100])) (.cons (.k (.int 3)) (.nil))))) (.cons (.ret (.k (.bl false))) (.nil)) (.nil)) (.nil)) (.cons (.ifs (.not (.call 129 (.cons (.v 2) (.cons (.ix (.v 5) (.k (.int 1))) (.cons (.v 3) (.nil)))))) (.cons (.ret (.k (.bl false))) (.nil)) (.nil)) (.nil))) (.nil)))
def t_law_k64 : Fn := ⟨1, 6, .cons (.set 1 (.call 6 (.cons (.v 0) (.cons (.k (.int 0)) (.nil))))) (.cons (.set 2 (.bin .mod (.v 1) (.k (.int 2)))) (.cons (.set 3 (.call 112 (.cons (.call 80 (.cons (.call 6 (.cons (.v 0) (.cons (.k (.int 1)) (.nil)))) (.cons (.k (.int 6)) (.nil)))) (.nil)))) (.cons (.ifs (.cmp .eq (.v 2) (.k (.int 0))) (.cons (.set 3 (.call 111 (.cons (.call 10 (.cons (.call 6 (.cons (.v 0) (.cons (.k (.int 2)) (.nil)))) (.cons (.k (.int 6)) (.nil)))) (.nil)))) (.nil)) (.nil)) (.cons (.for_ [4] false (.rng1 (.bin .add (.k (.int 1)) (.bin .mod (.bin .fdiv (.v 1) (.k (.int 4))) (.k (.int 3))))) b_law_k64_0) (.cons (.ret (.k (.bl true))) (.nil))))))⟩
abbrev H_law_k64 (P : Prog) : Prop := P 130 = some t_law_k64 ∧ H_mixed P ∧ H_sample_text P ∧ H_sample P ∧ H_table_text P ∧ H_table P ∧ H_bent P ∧ H_drawn P ∧ H_read P ∧ H_good P
end Ev

/-! M1: rules, what is said. -/
namespace Ev
structure Ru where
  p : List Nat
  s : Int
  w : List Nat
  deriving DecidableEq
def rD (r : Ru) : D := .tup [.str r.p, .int r.s, .str r.w]
def tD (t : List Ru) : D := .tup (t.map rD)
def oD : Option Ru → D
  | none => .non
  | some r => rD r
def better (x : List Nat) (b : Option Ru) (r : Ru) : Option Ru :=
  if r.p.isPrefixOf x && (match b with | none => true | some c => decide (c.p.length < r.p.length)) then some r else b
def ruleFor (t : List Ru) (x : List Nat) : Option Ru := t.foldl (better x) none
/-- no text is too long -/
def Small (t : List Ru) : Prop := ∀ r ∈ t, r.p.length ≤ LIM
theorem better_or (x : List Nat) (b : Option Ru) (r : Ru) : better x b r = some r ∨ better x b r = b := by
  unfold better
  generalize (r.p.isPrefixOf x && _) = c
  cases c
  · exact .inr rfl
  · exact .inl rfl
theorem ruleFor_mem_aux (x : List Nat) : ∀ (t : List Ru) (b : Option Ru) (r : Ru), t.foldl (better x) b = some r → r ∈ t ∨ b = some r
  | [], b, r, h => .inr h
  | a :: t, b, r, h => by
    rcases ruleFor_mem_aux x t (better x b a) r h with z | z
    · exact .inl (List.mem_cons_of_mem _ z)
    · rcases better_or x b a with e | e
      · rw [e] at z; cases z; exact .inl List.mem_cons_self
      · rw [e] at z; exact .inr z
theorem ruleFor_mem {t : List Ru} {x : List Nat} {r : Ru} (h : ruleFor t x = some r) : r ∈ t := by
  rcases ruleFor_mem_aux x t none r h with z | z
  · exact z
  · cases z
theorem run_rule_for {P : Prog} (hP : H_rule_for P) {n : Nat} (hn : 1 ≤ n) {t : List Ru} {x : List Nat} (ht : Small t) : run P n 23 [tD t, .str x] = .ok (oD (ruleFor t x)) := by
  refine run_of hn hP fun k hk => ?_
  have key := loop_fold (f := fun d ρ1 => execs b_rule_for_0 (tbl P k) (ρ1.set 3 (.sh d))) rD (better x)
    (fun b ρ => ∃ z, ρ = [.sh (tD t), .sh (.str x), .sh (oD b), z] ∧ ∀ c, b = some c → c.p.length ≤ LIM) t none [.sh (tD t), .sh (.str x), .sh .non, .un] ⟨_, rfl, by simp⟩ ?_
  · obtain ⟨ρ', h1, z, rfl, -⟩ := key
    simp [runFn, t_rule_for, tD] at h1 ⊢
    rw [h1]
    simp [ruleFor]
  · rintro b r ρ hr ⟨z, rfl, hb⟩
    have hrl := ht r hr
    cases hp : r.p.isPrefixOf x with
    | false => simp [b_rule_for_0, rD, hp, better]; exact hb
    | true =>
      cases b with
      | none => simp [b_rule_for_0, rD, hp, better, oD]; exact hrl
      | some c =>
        have hc := hb c rfl
        by_cases hl : c.p.length < r.p.length
        · simp [b_rule_for_0, rD, hp, better, oD, hrl, hc, hl]
        · simp [b_rule_for_0, rD, hp, better, oD, hrl, hc, hl]
def cNone : List Nat := [110, 111, 110, 101]
def cClosed : List Nat := [99, 108, 111, 115, 101, 100]
def cMore : List Nat := [109, 111, 114, 101]
def cGood : List Nat := [103, 111, 111, 100]
def cLong : List Nat := [108, 111, 110, 103]
inductive Say where | none | closed | more (k : Int) | good (w : List Nat) | long
  deriving DecidableEq
def sD : Say → D
  | .none => .tup [.str cNone]
  | .closed => .tup [.str cClosed]
  | .more k => .tup [.str cMore, .int k]
  | .good w => .tup [.str cGood, .str w]
  | .long => .tup [.str cLong]
def judged (o : Option Ru) (n : Int) : Say := match o with
  | Option.none => .none
  | some r => if r.s = 0 then .closed else if n < r.s then .more (r.s - n) else if n = r.s then .good r.w else .long
theorem run_judged {P : Prog} (hP : H_judged P) {n : Nat} (hn : 1 ≤ n) (o : Option Ru) (m : Int) : run P n 24 [oD o, .int m] = .ok (sD (judged o m)) := by
  refine run_of hn hP fun k hk => ?_
  cases o with
  | none => simp [runFn, t_judged, oD, judged, sD, LIM, cNone]
  | some r =>
    by_cases h0 : r.s = 0
    · simp [runFn, t_judged, oD, rD, judged, sD, LIM, cClosed, h0]
    · by_cases h1 : m < r.s
      · simp [runFn, t_judged, oD, rD, judged, sD, LIM, cMore, h0, h1]
      · by_cases h2 : m = r.s
        · simp [runFn, t_judged, oD, rD, judged, sD, LIM, cGood, h0, h1, h2]
        · simp [runFn, t_judged, oD, rD, judged, sD, LIM, cLong, h0, h1, h2]
def says (t : List Ru) (x : List Nat) : Say := judged (ruleFor t x) x.length
theorem run_says {P : Prog} (hP : H_says P) {n : Nat} (hn : 2 ≤ n) {t : List Ru} {x : List Nat} (ht : Small t) (hx : x.length ≤ LIM) : run P n 25 [tD t, .str x] = .ok (sD (says t x)) := by
  obtain ⟨h1, h2, h3⟩ := hP
  refine run_of hn h1 fun k hk => ?_
  simp [runFn, t_says, tbl_run, hx]
  first
    | rw [run_rule_for h2 (by omega) ht]
    | rw [run_rule_for h3 (by omega) ht]
  simp
  first
    | rw [run_judged h2 (by omega)]
    | rw [run_judged h3 (by omega)]
  rfl
end Ev

/-! M2: what is drawn. -/
namespace Ev
def cellAt (ns : List Int) (k : Nat) : Int := (ns[k]?).getD 0
def scr (ns : List Int) : D := .lst (ns.map .int)
theorem run_cell_at {P : Prog} (hP : H_cell_at P) {n : Nat} (hn : 1 ≤ n) (ns : List Int) (k : Nat) : run P n 5 [scr ns, .int (k : Int)] = .ok (.int (cellAt ns k)) := by
  refine run_of hn hP fun m hm => ?_
  by_cases h : k < ns.length
  · have e : ns[k]? = some ns[k] := List.getElem?_eq_getElem h
    simp [runFn, t_cell_at, scr, h, atI_nat, e, cellAt]
  · have e : ns[k]? = none := List.getElem?_eq_none (by omega)
    simp [runFn, t_cell_at, scr, h, cellAt, e]
theorem big_lit (z : Int) (h : -BIG < z ∧ z < BIG) (i : Int) : mulD (.int i) (.int z) = .ok (.int (i * z)) := if_pos (.inr h)
theorem big_lit' (z : Int) (h : -BIG < z ∧ z < BIG) (i : Int) : mulD (.int z) (.int i) = .ok (.int (z * i)) := if_pos (.inl h)
def TOP : Int := 2147483629
/-- a drawn number -/
def Dr (z : Int) : Prop := 0 ≤ z ∧ z < 2147483629
theorem run_mixed {P : Prog} (hP : H_mixed P) {n : Nat} (hn : 2 ≤ n) (ns : List Int) (k : Nat) : ∃ z, run P n 6 [scr ns, .int (k : Int)] = .ok (.int z) ∧ Dr z := by
  obtain ⟨h1, h2⟩ := hP
  obtain ⟨a, ha⟩ : ∃ a, a = (cellAt ns k + 7919 * (k : Int) + 1) * 48271 % 2147483647 := ⟨_, rfl⟩
  have e1 : (-BIG < a ∧ a < BIG) := by
    have h1 := Int.emod_nonneg ((cellAt ns k + 7919 * (k : Int) + 1) * 48271) (b := 2147483647) (by decide)
    have h2 := Int.emod_lt_of_pos ((cellAt ns k + 7919 * (k : Int) + 1) * 48271) (b := 2147483647) (by decide)
    unfold BIG; omega
  refine ⟨(a * a + 7 * a + (k : Int)) % 2147483629, ?_, Int.emod_nonneg _ (by decide), Int.emod_lt_of_pos _ (by decide)⟩
  refine run_of hn h1 fun m hm => ?_
  simp [runFn, t_mixed, tbl_run, run_cell_at h2 (show 1 ≤ m by omega), -mul_int, big_lit' 7919 (by decide), big_lit 48271 (by decide), big_lit' 7 (by decide)]
  rw [← ha, big_lit a e1]
  simp
theorem run_drawn {P : Prog} (hP : H_drawn P) {n : Nat} (hn : 1 ≤ n) (z k : Int) : ∃ y, run P n 7 [.int z, .int k] = .ok (.int y) ∧ Dr y := by
  obtain ⟨a, ha⟩ : ∃ a, a = (z + 104729 * k + 17) * 69621 % 2147483647 := ⟨_, rfl⟩
  have e1 : (-BIG < a ∧ a < BIG) := by
    have h1 := Int.emod_nonneg ((z + 104729 * k + 17) * 69621) (b := 2147483647) (by decide)
    have h2 := Int.emod_lt_of_pos ((z + 104729 * k + 17) * 69621) (b := 2147483647) (by decide)
    unfold BIG; omega
  refine ⟨(a * a + 3 * a + k) % 2147483629, ?_, Int.emod_nonneg _ (by decide), Int.emod_lt_of_pos _ (by decide)⟩
  refine run_of hn hP fun m hm => ?_
  simp [runFn, t_drawn, -mul_int, big_lit' 104729 (by decide), big_lit 69621 (by decide), big_lit' 3 (by decide)]
  rw [← ha, big_lit a e1]
  simp
/-! ### figures -/
def Digs (x : List Nat) : Prop := ∀ c ∈ x, 48 ≤ c ∧ c ≤ 57
theorem Digs.app {x y : List Nat} (h : Digs x) (h' : Digs y) : Digs (x ++ y) := fun c hc => by
  rcases List.mem_append.mp hc with z | z
  · exact h c z
  · exact h' c z
theorem Digs.sub {x y : List Nat} (h : Digs y) (s : ∀ c ∈ x, c ∈ y) : Digs x := fun c hc => h c (s c hc)
/-- one of three, by a remainder -/
theorem pick3 {α : Type} (a b c : α) (z : Int) : ∃ u ∈ [a, b, c], atI [a, b, c] (z % 3) = some u := by
  have h1 := Int.emod_nonneg z (b := 3) (by decide)
  have h2 := Int.emod_lt_of_pos z (b := 3) (by decide)
  have : z % 3 = 0 ∨ z % 3 = 1 ∨ z % 3 = 2 := by omega
  rcases this with e | e | e <;> rw [e]
  · exact ⟨a, by simp, rfl⟩
  · exact ⟨b, by simp, rfl⟩
  · exact ⟨c, by simp, rfl⟩
theorem pick4 {α : Type} (a b c d : α) (z : Int) : ∃ u ∈ [a, b, c, d], atI [a, b, c, d] (z % 4) = some u := by
  have h1 := Int.emod_nonneg z (b := 4) (by decide)
  have h2 := Int.emod_lt_of_pos z (b := 4) (by decide)
  have : z % 4 = 0 ∨ z % 4 = 1 ∨ z % 4 = 2 ∨ z % 4 = 3 := by omega
  rcases this with e | e | e | e <;> rw [e]
  · exact ⟨a, by simp, rfl⟩
  · exact ⟨b, by simp, rfl⟩
  · exact ⟨c, by simp, rfl⟩
  · exact ⟨d, by simp, rfl⟩
def figs : List Nat := [48, 49, 50, 51, 52, 53, 54, 55, 56, 57]
theorem fig_at (i : Int) (h0 : 0 ≤ i) (h1 : i < 10) : ∃ c, atI figs i = some c ∧ 48 ≤ c ∧ c ≤ 57 := by
  have : i = 0 ∨ i = 1 ∨ i = 2 ∨ i = 3 ∨ i = 4 ∨ i = 5 ∨ i = 6 ∨ i = 7 ∨ i = 8 ∨ i = 9 := by omega
  rcases this with e | e | e | e | e | e | e | e | e | e <;> (rw [e]; exact ⟨_, rfl, by decide, by decide⟩)
theorem loop_any0 {α : Type} {f : D → Env → R Out} (enc : α → D) (I : Nat → Env → Prop) : ∀ (xs pre : List α) (ρ : Env), I pre.length ρ →
    (∀ i a ρ, (pre ++ xs)[i]? = some a → I i ρ → ∃ ρ', (f (enc a) ρ = .ok (.nx ρ') ∨ f (enc a) ρ = .ok (.ct ρ')) ∧ I (i + 1) ρ') →
    ∃ ρ', loopD f (xs.map enc) ρ = .ok (.nx ρ') ∧ I (pre ++ xs).length ρ'
  | [], pre, ρ, h, _ => ⟨ρ, rfl, by rw [List.append_nil]; exact h⟩
  | x :: xs, pre, ρ, h, hs => by
    obtain ⟨ρ', h2, h3⟩ := hs pre.length x ρ (by simp) h
    have e : pre ++ x :: xs = (pre ++ [x]) ++ xs := by simp
    rw [e] at hs ⊢
    obtain ⟨ρ2, h4, h5⟩ := loop_any0 enc I xs (pre ++ [x]) ρ' (by rw [List.length_append, List.length_singleton]; exact h3) hs
    refine ⟨ρ2, ?_, h5⟩
    rw [List.map_cons, loopD]
    rcases h2 with h2 | h2 <;> (rw [h2]; exact h4)
theorem loop_any {α : Type} {f : D → Env → R Out} (enc : α → D) (I : Nat → Env → Prop) (xs : List α) (ρ : Env) (h : I 0 ρ)
    (hs : ∀ i a ρ, xs[i]? = some a → I i ρ → ∃ ρ', (f (enc a) ρ = .ok (.nx ρ') ∨ f (enc a) ρ = .ok (.ct ρ')) ∧ I (i + 1) ρ') :
    ∃ ρ', loopD f (xs.map enc) ρ = .ok (.nx ρ') ∧ I xs.length ρ' := loop_any0 enc I xs [] ρ h hs
theorem range_at {m i a : Nat} (h : (List.range m)[i]? = some a) : i < m ∧ a = i := by
  have h1 : i < m := by
    rcases Nat.lt_or_ge i m with z | z
    · exact z
    · rw [List.getElem?_eq_none (by simpa using z)] at h; cases h
  rw [List.getElem?_range h1] at h
  cases h
  exact ⟨h1, rfl⟩
theorem rng_nat (m : Int) (h : -MID ≤ m ∧ m < MID) : rngD 0 m = .ok ((List.range m.toNat).map fun (k : Nat) => .int (k : Int)) := by
  unfold rngD
  rw [if_pos ⟨by decide, by decide, h.1, h.2⟩, Int.sub_zero]
  unfold rngL
  congr 2
  funext k
  simp
theorem run_figures {P : Prog} (hP : H_figures P) {n : Nat} (hn : 2 ≤ n) (z most : Int) (h0 : 0 ≤ most) (h1 : most ≤ 1000) : ∃ x, run P n 8 [.int z, .int most] = .ok (.str x) ∧ Digs x ∧ (x.length : Int) ≤ most := by
  obtain ⟨hf, hd⟩ := hP
  have hm0 := Int.emod_nonneg z (b := most + 1) (by omega)
  have hm1 := Int.emod_lt_of_pos z (b := most + 1) (by omega)
  obtain ⟨k, hk, e⟩ := run_ex [.int z, .int most] hn hf
  rw [e]
  have key := loop_any (f := fun d ρ1 => execs b_figures_0 (tbl P k) (ρ1.set 3 (.sh d))) (fun (k : Nat) => D.int (k : Int))
    (fun i ρ => ∃ x u, ρ = [.sh (.int z), .sh (.int most), .sh (.str x), u] ∧ Digs x ∧ x.length = i) (List.range (z % (most + 1)).toNat) [.sh (.int z), .sh (.int most), .sh (.str []), .un]
    ⟨[], _, rfl, (by intro c hc; cases hc), rfl⟩ ?_
  · obtain ⟨ρ', h3, x, u, rfl, h4, h5⟩ := key
    rw [List.length_range] at h5
    refine ⟨x, ?_, h4, by omega⟩
    simp [runFn, t_figures, show 0 < most + 1 by omega, rng_nat (z % (most + 1)) (by unfold MID; omega)]
    rw [h3]
    simp
  · rintro i a ρ ha ⟨x, u, rfl, h4, h5⟩
    obtain ⟨hi, rfl⟩ := range_at ha
    obtain ⟨y, hy, hy0, hy1⟩ := run_drawn hd hk z a
    have fin : ∀ m : Int, 0 < m → m ≤ 10 → ∃ c, atI [48, 49, 50, 51, 52, 53, 54, 55, 56, 57] (y / 16 % m) = some c ∧ 48 ≤ c ∧ c ≤ 57 := fun m h h' => by
      have h7 := Int.emod_nonneg (y / 16) (b := m) (by omega)
      have h8 := Int.emod_lt_of_pos (y / 16) (b := m) h
      exact fig_at _ h7 (by omega)
    obtain ⟨c, hc2, hc1⟩ := pick3 (D.int 2) (.int 3) (.int 10) (z / 16)
    have hlim : x.length + 1 ≤ LIM := by unfold LIM; omega
    have lim3 : 3 ≤ LIM := by decide
    have lim10 : 10 ≤ LIM := by decide
    have dg : ∀ c, 48 ≤ c ∧ c ≤ 57 → Digs (x ++ [c]) := fun c hc => h4.app fun d hd => by
      have := List.mem_singleton.mp hd
      rw [this]; exact hc
    simp at hc2
    rcases hc2 with rfl | rfl | rfl
    · obtain ⟨c, h9, h10⟩ := fin 2 (by decide) (by decide)
      refine ⟨[.sh (.int z), .sh (.int most), .sh (.str (x ++ [c])), .sh (.int (a : Int))], .inl ?_, x ++ [c], _, rfl, dg c h10, by simp [h5]⟩
      simp [b_figures_0, tbl_run, hy, hc1, h9, hlim, lim3, lim10]
    · obtain ⟨c, h9, h10⟩ := fin 3 (by decide) (by decide)
      refine ⟨[.sh (.int z), .sh (.int most), .sh (.str (x ++ [c])), .sh (.int (a : Int))], .inl ?_, x ++ [c], _, rfl, dg c h10, by simp [h5]⟩
      simp [b_figures_0, tbl_run, hy, hc1, h9, hlim, lim3, lim10]
    · obtain ⟨c, h9, h10⟩ := fin 10 (by decide) (by decide)
      refine ⟨[.sh (.int z), .sh (.int most), .sh (.str (x ++ [c])), .sh (.int (a : Int))], .inl ?_, x ++ [c], _, rfl, dg c h10, by simp [h5]⟩
      simp [b_figures_0, tbl_run, hy, hc1, h9, hlim, lim3, lim10]
/-! ### rules -/
def Word (w : List Nat) : Prop := w ≠ [] ∧ w.length ≤ 4 ∧ ∀ c ∈ w, 97 ≤ c ∧ c ≤ 122
/-- the words that are drawn -/
def menu : List (List Nat) := [[97], [98], [99, 100], [104, 111, 109, 101]]
structure GoodRu (r : Ru) : Prop where
  digs : Digs r.p
  len : r.p.length ≤ 12
  s0 : 0 ≤ r.s
  s12 : r.s ≤ 12
  cl : r.s = 0 → r.w = []
  le : r.s ≠ 0 → (r.p.length : Int) ≤ r.s
  w : r.s ≠ 0 → Word r.w
  mn : r.s ≠ 0 → r.w ∈ menu
theorem run_rule {P : Prog} (hP : H_rule P) {n : Nat} (hn : 3 ≤ n) (z : Int) : ∃ r, run P n 9 [.int z] = .ok (rD r) ∧ GoodRu r := by
  obtain ⟨h0, hf, hd⟩ := hP
  obtain ⟨k, hk, e⟩ := run_ex [.int z] hn h0
  rw [e]
  obtain ⟨c, hc2, hc1⟩ := pick3 (D.int 2) (.int 4) (.int 7) (z / 16384)
  obtain ⟨m, rfl, hm0, hm7⟩ : ∃ m, c = D.int m ∧ 0 ≤ m ∧ m ≤ 7 := by
    simp at hc2
    rcases hc2 with rfl | rfl | rfl
    · exact ⟨_, rfl, by decide, by decide⟩
    · exact ⟨_, rfl, by decide, by decide⟩
    · exact ⟨_, rfl, by decide, by decide⟩
  obtain ⟨x, hx, hxd, hxl⟩ := run_figures hf hk z m hm0 (by omega)
  obtain ⟨y, hy, hy0, hy1⟩ := run_drawn hd (show 1 ≤ k by omega) z 40
  have lim3 : 3 ≤ LIM := by decide
  have lim4 : 4 ≤ LIM := by decide
  have hlx : x.length ≤ LIM := by unfold LIM; omega
  by_cases h5 : y / 16 % 5 = 0
  · refine ⟨⟨x, 0, []⟩, ?_, hxd, by show x.length ≤ 12; omega, Int.le_refl 0, (show (0 : Int) ≤ 12 by decide), fun _ => rfl, fun h => absurd rfl h, fun h => absurd rfl h, fun h => absurd rfl h⟩
    simp [runFn, t_rule, tbl_run, hc1, hx, hy, h5, rD, lim3]
  · obtain ⟨d, hd2, hd1⟩ := pick3 (D.int 2) (.int 4) (.int 12) (y / 16 / 128)
    obtain ⟨u, rfl, hu⟩ : ∃ u, d = D.int u ∧ 0 < u := by
      simp at hd2
      rcases hd2 with rfl | rfl | rfl
      · exact ⟨_, rfl, by decide⟩
      · exact ⟨_, rfl, by decide⟩
      · exact ⟨_, rfl, by decide⟩
    obtain ⟨w, hw2, hw1⟩ := pick4 (D.str [97]) (.str [98]) (.str [99, 100]) (.str [104, 111, 109, 101]) (y / 16 / 512)
    obtain ⟨v, rfl, hv, hmn⟩ : ∃ v, w = D.str v ∧ Word v ∧ v ∈ menu := by
      simp at hw2
      rcases hw2 with rfl | rfl | rfl | rfl
      · exact ⟨_, rfl, ⟨by decide, by decide, by decide⟩, by decide⟩
      · exact ⟨_, rfl, ⟨by decide, by decide, by decide⟩, by decide⟩
      · exact ⟨_, rfl, ⟨by decide, by decide, by decide⟩, by decide⟩
      · exact ⟨_, rfl, ⟨by decide, by decide, by decide⟩, by decide⟩
    obtain ⟨sz, hsz⟩ : ∃ sz : Int, sz = (if (x.length : Int) > 1 then (x.length : Int) else 1) + y / 16 / 8 % u := ⟨_, rfl⟩
    have hmod := Int.emod_nonneg (y / 16 / 8) (b := u) (by omega)
    have hge : 1 ≤ sz ∧ (x.length : Int) ≤ sz := by
      rw [hsz]
      split <;> omega
    obtain ⟨s, hs⟩ : ∃ s : Int, s = if sz < 12 then sz else 12 := ⟨_, rfl⟩
    have hsr : 1 ≤ s ∧ s ≤ 12 ∧ (x.length : Int) ≤ s := by
      rw [hs]
      split <;> omega
    refine ⟨⟨x, s, v⟩, ?_, hxd, by show x.length ≤ 12; omega, by show 0 ≤ s; omega, hsr.2.1, fun h => absurd h (by show s ≠ 0; omega), fun _ => hsr.2.2, fun _ => hv, fun _ => hmn⟩
    have e5 : (y / 16 % 5 == 0) = false := beq_eq_false_iff_ne.mpr h5
    simp [runFn, t_rule, tbl_run, hc1, hx, hy, h5, rD, lim3, lim4, hlx, hd1, hw1, hu]
    rw [hs, hsz]
/-! ### tables -/
theorem leStr (x y : List Nat) : leD (.str x) (.str y) = decide (x ≤ y) := by
  unfold leD ltD ltN
  dsimp only
  by_cases h : y < x
  · rw [decide_eq_true h, decide_eq_false (fun z => absurd h (List.not_lt.mpr z))]; rfl
  · rw [decide_eq_false h, decide_eq_true (List.not_lt.mp h)]; rfl
def leR2 (a b : Ru) : Bool := decide (a.p ≤ b.p)
def sortR (t : List Ru) : List Ru := t.mergeSort leR2
theorem sortR_pw (t : List Ru) : (sortR t).Pairwise fun a b => leR2 a b = true := by
  refine List.pairwise_mergeSort (fun a b c h1 h2 => ?_) (fun a b => ?_) t
  · unfold leR2 at *
    rw [decide_eq_true_eq] at *
    exact List.le_trans h1 h2
  · unfold leR2
    rcases List.le_total a.p b.p with z | z
    · rw [decide_eq_true z]; rfl
    · rw [decide_eq_true z, Bool.or_true]
theorem sortR_perm (t : List Ru) : (sortR t).Perm t := List.mergeSort_perm _ _
theorem sortR_keys (t : List Ru) : (t.map fun r => D.str r.p).mergeSort leD = (sortR t).map fun r => D.str r.p :=
  (List.map_mergeSort (f := fun r : Ru => D.str r.p) (s := leD) (r := leR2) fun a _ b _ => (leStr a.p b.p).symm).symm
theorem sortD_strs (ts : List (List Nat)) (h : ts.length ≤ LIM) : sortD (ts.map D.str) = .ok (.lst ((ts.map D.str).mergeSort leD)) := by
  unfold sortD
  refine if_pos ⟨by rw [List.length_map]; exact h, ?_, ?_, ?_⟩
  · unfold allAlike
    rw [List.all_eq_true]
    intro x hx
    rw [List.all_eq_true]
    intro y hy
    obtain ⟨a, _, rfl⟩ := List.mem_map.mp hx
    obtain ⟨b, _, rfl⟩ := List.mem_map.mp hy
    rfl
  · rw [List.all_eq_true]
    intro x hx
    obtain ⟨a, _, rfl⟩ := List.mem_map.mp hx
    rfl
  · rw [List.all_eq_true]
    intro x hx
    obtain ⟨a, _, rfl⟩ := List.mem_map.mp hx
    rfl
def putR : List Ru → Ru → List Ru
  | [], r => [r]
  | a :: t, r => if a.p = r.p then r :: t else a :: putR t r
theorem putR_keys : ∀ (t : List Ru) (r : Ru), putK (t.map Ru.p) r.p = (putR t r).map Ru.p
  | [], r => rfl
  | a :: t, r => by
    rw [List.map_cons, putK, putR]
    by_cases h : a.p = r.p
    · rw [if_pos h, if_pos h, List.map_cons, h]
    · rw [if_neg h, if_neg h, List.map_cons, putR_keys t r]
theorem putR_vals (r : Ru) : ∀ t : List Ru, putV (t.map Ru.p) (t.map rD) r.p (rD r) = (putR t r).map rD
  | [] => rfl
  | a :: t => by
    rw [List.map_cons, List.map_cons, putV, putR]
    by_cases h : a.p = r.p
    · rw [if_pos h, if_pos h, List.map_cons]
    · rw [if_neg h, if_neg h, List.map_cons, putR_vals r t]
theorem putR_mem {r a : Ru} : ∀ {t : List Ru}, a ∈ putR t r → a ∈ t ∨ a = r
  | [], h => .inr (List.mem_singleton.mp h)
  | b :: t, h => by
    rw [putR] at h
    split at h
    · rcases List.mem_cons.mp h with z | z
      · exact .inr z
      · exact .inl (List.mem_cons_of_mem _ z)
    · rcases List.mem_cons.mp h with z | z
      · exact .inl (z ▸ List.mem_cons_self)
      · rcases putR_mem z with z | z
        · exact .inl (List.mem_cons_of_mem _ z)
        · exact .inr z
theorem putR_keymem {r : Ru} {x : List Nat} : ∀ {t : List Ru}, x ∈ (putR t r).map Ru.p → x ∈ t.map Ru.p ∨ x = r.p := fun {t} h => by
  obtain ⟨a, ha, rfl⟩ := List.mem_map.mp h
  rcases putR_mem ha with z | z
  · exact .inl (List.mem_map.mpr ⟨a, z, rfl⟩)
  · exact .inr (by rw [z])
theorem putR_nodup (r : Ru) : ∀ {t : List Ru}, (t.map Ru.p).Nodup → ((putR t r).map Ru.p).Nodup
  | [], _ => by simp [putR]
  | a :: t, h => by
    rw [List.map_cons, List.nodup_cons] at h
    rw [putR]
    split
    · rename_i e
      rw [List.map_cons, List.nodup_cons, ← e]
      exact h
    · rename_i e
      rw [List.map_cons, List.nodup_cons]
      refine ⟨fun z => ?_, putR_nodup r h.2⟩
      rcases putR_keymem z with z | z
      · exact h.1 z
      · exact e z
theorem putR_len (r : Ru) : ∀ t : List Ru, (putR t r).length ≤ t.length + 1
  | [] => by simp [putR]
  | a :: t => by
    rw [putR]
    split
    · simp
    · rw [List.length_cons, List.length_cons]
      exact Nat.succ_le_succ (putR_len r t)
theorem dget_map (t : List Ru) (nd : (t.map Ru.p).Nodup) (r : Ru) (h : r ∈ t) : dget (t.map Ru.p) (t.map rD) r.p = some (rD r) := by
  induction t with
  | nil => cases h
  | cons a t ih =>
    rw [List.map_cons, List.nodup_cons] at nd
    unfold dget at ih ⊢
    rw [List.map_cons, List.map_cons, List.zip_cons_cons, List.lookup_cons]
    rcases List.mem_cons.mp h with z | z
    · subst z; simp
    · have : (r.p == a.p) = false := beq_eq_false_iff_ne.mpr fun e => nd.1 (e ▸ List.mem_map.mpr ⟨r, z, rfl⟩)
      rw [this]
      exact ih nd.2 z
structure GTab (t : List Ru) : Prop where
  ru : ∀ r ∈ t, GoodRu r
  pw : t.Pairwise fun a b => a.p < b.p
theorem GTab.small {t : List Ru} (g : GTab t) : Small t := fun r h => by
  have := (g.ru r h).len
  unfold LIM; omega
theorem GTab.nil : GTab [] := ⟨(by intro r h; cases h), .nil⟩
theorem sortR_good {t : List Ru} (h : ∀ r ∈ t, GoodRu r) (nd : (t.map Ru.p).Nodup) : GTab (sortR t) := by
  refine ⟨fun r hr => h r ((sortR_perm t).mem_iff.mp hr), ?_⟩
  have h1 := sortR_pw t
  have h2 : ((sortR t).map Ru.p).Nodup := ((sortR_perm t).map Ru.p).nodup_iff.mpr nd
  have h3 : (sortR t).Pairwise fun a b => a.p ≠ b.p := List.pairwise_map.mp h2
  refine (h1.and h3).imp fun {a b} ⟨z1, z2⟩ => ?_
  unfold leR2 at z1
  rw [decide_eq_true_eq] at z1
  by_cases z : a.p < b.p
  · exact z
  · exact absurd (List.le_antisymm z1 (List.not_lt.mp z)) z2
theorem run_table {P : Prog} (hP : H_table P) {n : Nat} (hn : 4 ≤ n) (z most : Int) (h0 : 0 ≤ most) (h1 : most ≤ 100) : ∃ t, run P n 10 [.int z, .int most] = .ok (tD t) ∧ GTab t ∧ (t.length : Int) ≤ most := by
  obtain ⟨hT, hR, hd⟩ := hP
  have hm0 := Int.emod_nonneg z (b := most + 1) (by omega)
  have hm1 := Int.emod_lt_of_pos z (b := most + 1) (by omega)
  obtain ⟨k, hk, e⟩ := run_ex [.int z, .int most] hn hT
  rw [e]
  have key := loop_any (f := fun d ρ1 => execs b_table_0 (tbl P k) (ρ1.set 3 (.sh d))) (fun (k : Nat) => D.int (k : Int))
    (fun i ρ => ∃ (t : List Ru) (u v : Sl), ρ = [.sh (.int z), .sh (.int most), .od (t.map Ru.p) (t.map rD), u, v, .un] ∧ (∀ r ∈ t, GoodRu r) ∧ (t.map Ru.p).Nodup ∧ t.length ≤ i) (List.range (z % (most + 1)).toNat)
    [.sh (.int z), .sh (.int most), .od [] [], .un, .un, .un] ⟨[], _, _, rfl, (by intro r h; cases h), List.nodup_nil, Nat.le_refl _⟩ ?_
  · obtain ⟨ρ', h3, t, u, v, rfl, h4, h5, h6⟩ := key
    rw [List.length_range] at h6
    have hlim : t.length ≤ LIM := by unfold LIM; omega
    refine ⟨sortR t, ?_, sortR_good h4 h5, by rw [(sortR_perm t).length_eq]; omega⟩
    have es : sortD (List.map (D.str ∘ Ru.p) t) = .ok (.lst ((sortR t).map fun r => D.str r.p)) := by
      rw [← sortR_keys]
      have := sortD_strs (t.map Ru.p) (by rw [List.length_map]; exact hlim)
      rw [List.map_map] at this
      exact this
    simp [runFn, t_table, show 0 < most + 1 by omega, rng_nat (z % (most + 1)) (by unfold MID; omega)]
    rw [h3]
    simp [es, (sortR_perm t).length_eq, hlim]
    rw [mapF_of (fun r : Ru => D.str r.p) (fun r => some (rD r)) (sortR t) fun r hr => by
      simp [dget_map t h5 r ((sortR_perm t).mem_iff.mp hr)]]
    simp [tD]
  · rintro i a ρ ha ⟨t, u, v, rfl, h4, h5, h6⟩
    obtain ⟨hi, rfl⟩ := range_at ha
    obtain ⟨y, hy, hy0, hy1⟩ := run_drawn hd (show 1 ≤ k by omega) z (50 + (a : Int))
    obtain ⟨r, hr, hg⟩ := run_rule hR hk y
    have hlim : t.length < LIM := by unfold LIM; omega
    refine ⟨[.sh (.int z), .sh (.int most), .od ((putR t r).map Ru.p) ((putR t r).map rD), .sh (.int (a : Int)), .sh (rD r), .un], .inl ?_, putR t r, _, _, rfl, fun b hb => ?_, putR_nodup r h5, Nat.le_trans (putR_len r t) (by omega)⟩
    · have e1 : rD r = .tup [.str r.p, .int r.s, .str r.w] := rfl
      have e2 := putR_keys t r
      have e3 := putR_vals r t
      rw [e1] at e3
      simp [b_table_0, tbl_run, hy, hr, e1, hlim, e2, e3]
    · rcases putR_mem hb with q | q
      · exact h4 b q
      · rw [q]; exact hg
end Ev

/-! M3: numbers drawn, dialled. -/
namespace Ev
theorem at_any {α : Type} (xs : List α) (i : Int) (h0 : 0 ≤ i) (h1 : i < xs.length) : ∃ a ∈ xs, atI xs i = some a := by
  rw [atI_pos xs i h0]
  have h : i.toNat < xs.length := by omega
  exact ⟨xs[i.toNat], List.getElem_mem h, List.getElem?_eq_getElem h⟩
theorem eqv_nil (t : List Ru) : eqv (tD t) (.tup []) = t.isEmpty := by
  cases t with
  | nil => rfl
  | cons a t => rfl
theorem ne_nil (t : List Ru) : neD (tD t) (.tup []) = .ok (.bl (!t.isEmpty)) := by
  rw [neD_of' (by decide), eqv_nil]
theorem ne_nil' (t : List Ru) : neD (.tup (t.map rD)) (.tup []) = .ok (.bl (!t.isEmpty)) := ne_nil t
theorem run_number {P : Prog} (hP : H_number P) {n : Nat} (hn : 3 ≤ n) (z : Int) {t : List Ru} (ht : GTab t) : ∃ x, run P n 11 [.int z, tD t] = .ok (.str x) ∧ Digs x ∧ 1 ≤ x.length ∧ x.length ≤ 12 := by
  obtain ⟨h0, hf, hd⟩ := hP
  obtain ⟨k, hk, e⟩ := run_ex [.int z, tD t] hn h0
  rw [e]
  obtain ⟨y, hy, hy0, hy1⟩ := run_drawn hd (show 1 ≤ k by omega) z 3
  obtain ⟨x, hx, hxd, hxl⟩ := run_figures hf hk y 6 (by decide) (by decide)
  have fin : ∀ b : List Nat, Digs b → b.length ≤ 12 → b.length + x.length ≤ LIM ∧ b.length + x.length + 1 ≤ LIM ∧ (b ++ x).length ≤ LIM := fun b _ hb => by
    rw [List.length_append]
    unfold LIM; omega
  have last : ∀ b : List Nat, Digs b → ∃ m : Nat, (if (if ((b.length : Int) + (x.length : Int)) < 12 then ((b.length : Int) + (x.length : Int)) else 12) > 1 then (if ((b.length : Int) + (x.length : Int)) < 12 then ((b.length : Int) + (x.length : Int)) else 12) else 1) = (m : Int) ∧
      Digs ((b ++ x ++ [48]).take m) ∧ 1 ≤ ((b ++ x ++ [48]).take m).length ∧ ((b ++ x ++ [48]).take m).length ≤ 12 := fun b hb => by
    obtain ⟨s, hs⟩ : ∃ s : Nat, s = b.length + x.length := ⟨_, rfl⟩
    refine ⟨max 1 (min 12 s), ?_, ((hb.app hxd).app (by intro c hc; have := List.mem_singleton.mp hc; omega)).sub fun c hc => List.mem_of_mem_take hc, ?_, ?_⟩
    · split <;> split <;> omega
    · rw [List.length_take, List.length_append, List.length_append, List.length_singleton]; omega
    · rw [List.length_take, List.length_append, List.length_append, List.length_singleton]; omega
  by_cases hc : t.isEmpty = false ∧ 0 < z / 16 % 3
  · obtain ⟨hne, hz⟩ := hc
    have hlen : 0 < t.length := by
      cases t with
      | nil => cases hne
      | cons => simp
    have hi0 := Int.emod_nonneg (z / 64) (b := (t.length : Int)) (by omega)
    have hi1 := Int.emod_lt_of_pos (z / 64) (b := (t.length : Int)) (by omega)
    obtain ⟨r, hr, hat⟩ := at_any t (z / 64 % (t.length : Int)) hi0 hi1
    have hat' : atI (t.map rD) (z / 64 % (t.length : Int)) = some (.tup [.str r.p, .int r.s, .str r.w]) := by
      rw [atI_pos _ _ hi0] at hat ⊢
      rw [List.getElem?_map, hat]; rfl
    have g := ht.ru r hr
    have hj0 := Int.emod_nonneg (z / 1024) (b := 8) (by decide)
    obtain ⟨b, hb⟩ : ∃ b, b = r.p.take (z / 1024 % 8).toNat := ⟨_, rfl⟩
    have hbd : Digs b := g.digs.sub fun c hc => List.mem_of_mem_take (hb ▸ hc)
    have hbl : b.length ≤ 12 := by rw [hb, List.length_take]; have := g.len; omega
    have hpl : r.p.length ≤ LIM := ht.small r hr
    obtain ⟨f1, f2, f3⟩ := fin b hbd hbl
    obtain ⟨m, hm, l1, l2, l3⟩ := last b hbd
    refine ⟨(b ++ x ++ [48]).take m, ?_, l1, l2, l3⟩
    have hpos : (0 : Int) < (t.length : Int) := by omega
    simp [runFn, t_number, tbl_run, ne_nil', hne, hz, hy, hx, tD, hat', hpl, cut_to' _ _ hj0, ← hb, f1, f2, hpos, hlen]
    rw [hm, cut_to]
    have f4 : b.length + (x.length + 1) ≤ LIM := by omega
    simp [f4]
  · have hb : Digs [] := by intro c hc; cases hc
    obtain ⟨f1, f2, f3⟩ := fin [] hb (by decide)
    obtain ⟨m, hm, l1, l2, l3⟩ := last [] hb
    refine ⟨([] ++ x ++ [48]).take m, ?_, l1, l2, l3⟩
    simp at f1 f2 f3 hm
    cases hne : t.isEmpty with
    | true =>
      simp [runFn, t_number, tbl_run, ne_nil', hne, hy, hx, tD, f1, f2]
      rw [hm, cut_to]
    | false =>
      have hz : ¬ 0 < z / 16 % 3 := fun h => hc ⟨hne, h⟩
      simp [runFn, t_number, tbl_run, ne_nil', hne, hz, hy, hx, tD, f1, f2]
      rw [hm, cut_to]
/-! ### dialled -/
def upTo (m : Nat) : List Nat := (List.range m).map (· + 1)
theorem rng_one (m : Nat) (h : m ≤ 1000) : rngD 1 ((m : Int) + 1) = .ok ((upTo m).map fun (k : Nat) => .int (k : Int)) := by
  unfold rngD
  rw [if_pos ⟨by decide, by decide, by unfold MID; omega, by unfold MID; omega⟩]
  have : ((m : Int) + 1 - 1).toNat = m := by omega
  rw [this]
  unfold rngL upTo
  rw [List.map_map]
  congr 2
  funext k
  show D.int (1 + (k : Int)) = D.int ((k + 1 : Nat) : Int)
  congr 1
  omega
def dialled (t : List Ru) (x : List Nat) : List Say := (upTo x.length).map fun m => says t (x.take m)
theorem run_dialled {P : Prog} (hP : H_dialled P) {n : Nat} (hn : 3 ≤ n) {t : List Ru} {x : List Nat} (ht : Small t) (hx : x.length ≤ 1000) : run P n 26 [tD t, .str x] = .ok (.tup ((dialled t x).map sD)) := by
  obtain ⟨h0, h1⟩ := hP
  refine run_of hn h0 fun k hk => ?_
  have hl : x.length ≤ LIM := by unfold LIM; omega
  have hu : (upTo x.length).length = x.length := by unfold upTo; simp
  simp [runFn, t_dialled, hl, rng_one x.length hx, hu]
  rw [mapF_of (fun (m : Nat) => D.int (m : Int)) (fun m => some (sD (says t (x.take m)))) (upTo x.length) fun m hm => by
    have h2 : (x.take m).length ≤ LIM := by rw [List.length_take]; omega
    simp [tbl_run, hl, cut_to, run_says h1 hk ht h2]]
  simp [dialled]
end Ev

/-! M4: words, tables as sets of rules. -/
namespace Ev
mutual
theorem eqv_self : ∀ d : D, eqv d d = true
  | .non => rfl
  | .bl b => beq_self_eq_true b
  | .int i => beq_self_eq_true i
  | .str x => beq_self_eq_true x
  | .tup xs => eqvL_self xs
  | .lst xs => eqvL_self xs
theorem eqvL_self : ∀ xs : List D, eqvL xs xs = true
  | [] => rfl
  | x :: xs => by
    show (eqv x x && eqvL xs xs) = true
    rw [eqv_self x, eqvL_self xs]; rfl
end
theorem depL_strs : ∀ ts : List (List Nat), depL (ts.map D.str) = 0
  | [] => rfl
  | t :: ts => by
    show max 0 (depL (ts.map D.str)) = 0
    rw [depL_strs ts]; rfl
theorem allS_strs : ∀ ts : List (List Nat), Ev.allS (ts.map D.str) = .ok ts
  | [] => rfl
  | t :: ts => by
    show (Ev.allS (ts.map D.str)).bind _ = _
    rw [allS_strs ts]; rfl
/-! ### sorted texts -/
def leT (a b : List Nat) : Bool := decide (a ≤ b)
def sortT (ts : List (List Nat)) : List (List Nat) := ts.mergeSort leT
theorem sortT_map (ts : List (List Nat)) : (ts.map D.str).mergeSort leD = (sortT ts).map D.str :=
  (List.map_mergeSort (f := D.str) (s := leD) (r := leT) fun a _ b _ => (leS a b).symm).symm
theorem sortT_perm (ts : List (List Nat)) : (sortT ts).Perm ts := List.mergeSort_perm _ _
theorem D_str_inj {a b : List (List Nat)} (h : a.map D.str = b.map D.str) : a = b := by
  have := congrArg (List.map fun d : D => match d with | .str x => x | _ => []) h
  rw [List.map_map, List.map_map] at this
  have e : ∀ l : List (List Nat), List.map ((fun d : D => match d with | .str x => x | _ => []) ∘ D.str) l = l := fun l => by
    conv => rhs; rw [← List.map_id l]
    rfl
  rwa [e, e] at this
theorem sortT_eq {a b : List (List Nat)} (h : a.Perm b) : sortT a = sortT b := by
  apply D_str_inj
  rw [← sortT_map, ← sortT_map]
  exact sortS_perm h
/-- each once, in order -/
def uniq (ts : List (List Nat)) : List (List Nat) := sortT (firstT ts)
theorem uniq_mem {ts : List (List Nat)} {x : List Nat} : x ∈ uniq ts ↔ x ∈ ts := by
  unfold uniq
  rw [(sortT_perm _).mem_iff, firstT_mem]
theorem uniq_eq {a b : List (List Nat)} (h : ∀ x, x ∈ a ↔ x ∈ b) : uniq a = uniq b := by
  refine sortT_eq ((List.perm_ext_iff_of_nodup (firstT_nodup a) (firstT_nodup b)).mpr fun x => ?_)
  rw [firstT_mem, firstT_mem]
  exact h x
theorem uniq_len (ts : List (List Nat)) : (uniq ts).length ≤ ts.length := by
  unfold uniq
  rw [(sortT_perm _).length_eq]
  exact firstT_len ts
theorem srtset_strs (ts : List (List Nat)) (h : ts.length ≤ 4000) : biD .srtset (.lst (ts.map D.str)) = .ok (.lst ((uniq ts).map D.str)) := by
  show ((Ev.allS (ts.map D.str)).bind fun ys => if ys.length ≤ 4000 then sortD (firsts (ts.map D.str)) else .no) = _
  rw [allS_strs, bind_ok, if_pos h, firsts_txt, sortD_txt, sortT_map]
  · rfl
  · have := firstT_len ts
    unfold LIM
    omega
theorem eq_strs (a b : List (List Nat)) (h : a = b) : eqD (.tup (a.map D.str)) (.tup (b.map D.str)) = .ok (.bl true) := by
  subst h
  rw [eqD_of (by show depL _ + 1 ≤ 60; rw [depL_strs]; decide), eqv_self]
/-! ### words -/
def wordsL (t : List Ru) : List (List Nat) := (t.filter fun r => decide (0 < r.s)).map Ru.w
def wordsOf (t : List Ru) : List (List Nat) := uniq (wordsL t)
theorem wordsL_len (t : List Ru) : (wordsL t).length ≤ t.length := by
  unfold wordsL
  rw [List.length_map]
  exact List.length_filter_le _ _
theorem wordsL_mem {t : List Ru} {x : List Nat} : x ∈ wordsL t ↔ ∃ r ∈ t, 0 < r.s ∧ r.w = x := by
  unfold wordsL
  rw [List.mem_map]
  constructor
  · rintro ⟨r, hr, rfl⟩
    rw [List.mem_filter, decide_eq_true_eq] at hr
    exact ⟨r, hr.1, hr.2, rfl⟩
  · rintro ⟨r, h1, h2, rfl⟩
    exact ⟨r, List.mem_filter.mpr ⟨h1, decide_eq_true h2⟩, rfl⟩
theorem run_words_of {P : Prog} (hP : H_words_of P) {n : Nat} (hn : 1 ≤ n) {t : List Ru} (ht : t.length ≤ 4000) : run P n 27 [tD t] = .ok (.tup ((wordsOf t).map D.str)) := by
  refine run_of hn hP fun k hk => ?_
  have hl : t.length ≤ LIM := by unfold LIM; omega
  have hmap : ∀ t : List Ru, mapF (fun d => (((ixD d (.int 1)).bind fun a => gtR a (.int 0)).bind asB).bind fun b => if b = true then ((ixD d (.int 2)).bind fun y => R.ok (some y)) else .ok none) (t.map rD) = .ok ((wordsL t).map D.str) := fun t => by
    rw [mapF_of rD (fun r => if 0 < r.s then some (D.str r.w) else none) t fun r _ => by
      by_cases h : 0 < r.s
      · simp [rD, h]
      · simp [rD, h]]
    congr 1
    unfold wordsL
    induction t with
    | nil => rfl
    | cons r t ih =>
      by_cases h : 0 < r.s
      · rw [List.filterMap_cons_some (by rw [if_pos h]), List.filter_cons_of_pos (by simpa using h), List.map_cons, List.map_cons, ih]
      · rw [List.filterMap_cons_none (by rw [if_neg h]), List.filter_cons_of_neg (by simpa using h), ih]
  have hs := srtset_strs (wordsL t) (Nat.le_trans (wordsL_len t) ht)
  simp [runFn, t_words_of, tD, hl]
  rw [hmap]
  simp [hs, wordsOf]
/-! ### which rule -/
theorem prefix_eq {p q x : List Nat} (hp : p.isPrefixOf x = true) (hq : q.isPrefixOf x = true) (h : p.length = q.length) : p = q := by
  rw [List.isPrefixOf_iff_prefix] at hp hq
  rw [List.prefix_iff_eq_take.mp hp, List.prefix_iff_eq_take.mp hq, h]
theorem better_max {x : List Nat} : ∀ {t : List Ru} {b : Option Ru} {r : Ru}, t.foldl (better x) b = some r → (∀ c, b = some c → c.p.length ≤ r.p.length) ∧ ∀ r' ∈ t, r'.p.isPrefixOf x = true → r'.p.length ≤ r.p.length
  | [], b, r, h => ⟨fun c hc => by
      have h : b = some r := h
      rw [hc] at h
      cases h
      exact Nat.le_refl _, by intro r' h; cases h⟩
  | a :: t, b, r, h => by
    obtain ⟨h1, h2⟩ := better_max (t := t) (b := better x b a) h
    cases ha : a.p.isPrefixOf x with
    | false =>
      have e : better x b a = b := by unfold better; simp [ha]
      rw [e] at h1
      refine ⟨h1, fun r' hr' hp => ?_⟩
      rcases List.mem_cons.mp hr' with z | z
      · rw [z, ha] at hp; cases hp
      · exact h2 r' z hp
    | true =>
      have key : a.p.length ≤ r.p.length ∧ ∀ c, b = some c → c.p.length ≤ r.p.length := by
        cases b with
        | none =>
          have e : better x none a = some a := by unfold better; simp [ha]
          exact ⟨h1 a e, by intro c hc; cases hc⟩
        | some c =>
          by_cases hl : c.p.length < a.p.length
          · have e : better x (some c) a = some a := by unfold better; simp [ha, hl]
            have := h1 a e
            exact ⟨this, fun c' hc' => by cases hc'; omega⟩
          · have e : better x (some c) a = some c := by unfold better; simp [ha, hl]
            have := h1 c e
            exact ⟨by omega, fun c' hc' => by cases hc'; exact this⟩
      refine ⟨key.2, fun r' hr' hp => ?_⟩
      rcases List.mem_cons.mp hr' with z | z
      · rw [z]; exact key.1
      · exact h2 r' z hp
theorem ruleFor_iff {t : List Ru} {x : List Nat} {r : Ru} (nd : (t.map Ru.p).Nodup) : ruleFor t x = some r ↔ r ∈ t ∧ r.p.isPrefixOf x = true ∧ ∀ r' ∈ t, r'.p.isPrefixOf x = true → r'.p.length ≤ r.p.length := by
  constructor
  · intro h
    have hpre : r.p.isPrefixOf x = true := by
      have aux : ∀ (t : List Ru) (b : Option Ru), (∀ c, b = some c → c.p.isPrefixOf x = true) → t.foldl (better x) b = some r → r.p.isPrefixOf x = true := by
        intro t
        induction t with
        | nil => intro b hb h; exact hb r h
        | cons a t ih =>
          intro b hb h
          refine ih (better x b a) (fun c hc => ?_) h
          cases hp : a.p.isPrefixOf x with
          | false =>
            have : better x b a = b := by unfold better; simp [hp]
            rw [this] at hc
            exact hb c hc
          | true =>
            rcases better_or x b a with e | e
            · rw [e] at hc; cases hc; exact hp
            · rw [e] at hc; exact hb c hc
      exact aux t none (by intro c hc; cases hc) h
    exact ⟨ruleFor_mem h, hpre, (better_max h).2⟩
  · rintro ⟨h1, h2, h3⟩
    have some_of : ∀ (t : List Ru) (b : Option Ru), (b.isSome = true ∨ r ∈ t) → (t.foldl (better x) b).isSome = true := by
      intro t
      induction t with
      | nil => intro b h; rcases h with h | h; exact h; cases h
      | cons a t ih =>
        intro b h
        refine ih _ ?_
        rcases h with h | h
        · rcases better_or x b a with e | e
          · rw [e]; exact .inl rfl
          · rw [e]; exact .inl h
        · rcases List.mem_cons.mp h with z | z
          · subst z
            left
            unfold better
            cases b with
            | none => rw [h2]; rfl
            | some c =>
              by_cases hl : c.p.length < r.p.length
              · simp [h2, hl]
              · simp [h2, hl]
          · exact .inr z
    obtain ⟨r0, h0⟩ := Option.isSome_iff_exists.mp (some_of t none (.inr h1))
    have h0 : ruleFor t x = some r0 := h0
    have hm := ruleFor_mem h0
    have hmax := (better_max h0).2 r h1 h2
    have hp0 : r0.p.isPrefixOf x = true := by
      have aux : ∀ (t : List Ru) (b : Option Ru), (∀ c, b = some c → c.p.isPrefixOf x = true) → t.foldl (better x) b = some r0 → r0.p.isPrefixOf x = true := by
        intro t
        induction t with
        | nil => intro b hb h; exact hb r0 h
        | cons a t ih =>
          intro b hb h
          refine ih (better x b a) (fun c hc => ?_) h
          cases hp : a.p.isPrefixOf x with
          | false =>
            have : better x b a = b := by unfold better; simp [hp]
            rw [this] at hc
            exact hb c hc
          | true =>
            rcases better_or x b a with e | e
            · rw [e] at hc; cases hc; exact hp
            · rw [e] at hc; exact hb c hc
      exact aux t none (by intro c hc; cases hc) h0
    have hle := h3 r0 hm hp0
    have hpe : r0.p = r.p := prefix_eq hp0 h2 (Nat.le_antisymm hle hmax)
    have : r0 = r := by
      have inj : ∀ (t : List Ru), (t.map Ru.p).Nodup → ∀ a ∈ t, ∀ b ∈ t, a.p = b.p → a = b := by
        intro t
        induction t with
        | nil => intro _ a ha; cases ha
        | cons c t ih =>
          intro nd a ha b hb e
          rw [List.map_cons, List.nodup_cons] at nd
          rcases List.mem_cons.mp ha with z | z <;> rcases List.mem_cons.mp hb with y | y
          · rw [z, y]
          · exact absurd (List.mem_map.mpr ⟨b, y, by rw [← e, z]⟩) nd.1
          · exact absurd (List.mem_map.mpr ⟨a, z, by rw [e, y]⟩) nd.1
          · exact ih nd.2 a z b y e
      exact inj t nd r0 hm r h1 hpe
    rw [h0, this]
theorem ruleFor_perm {t u : List Ru} (h : t.Perm u) (nd : (t.map Ru.p).Nodup) (x : List Nat) : ruleFor t x = ruleFor u x := by
  have nd' : (u.map Ru.p).Nodup := (h.map Ru.p).nodup_iff.mp nd
  apply Option.ext
  intro r
  rw [ruleFor_iff nd, ruleFor_iff nd']
  simp only [h.mem_iff]
theorem GTab.nodup {t : List Ru} (g : GTab t) : (t.map Ru.p).Nodup := by
  refine List.pairwise_map.mpr (g.pw.imp fun {a b} h e => ?_)
  rw [e] at h
  exact List.lt_irrefl _ h
/-! ### rules sorted -/
theorem ltD_rD {a b : Ru} (h : a.p = b.p → a = b) : leD (rD a) (rD b) = leR2 a b := by
  have e : ltD (rD b) (rD a) = (if (b.p == a.p) = true then (if (b.s == a.s) = true then (if (b.w == a.w) = true then false else ltN b.w a.w) else decide (b.s < a.s)) else ltN b.p a.p) := rfl
  unfold leD
  rw [e]
  by_cases hp : b.p = a.p
  · have := h hp.symm
    subst this
    unfold leR2
    simp [List.le_refl]
  · have h2 : (b.p == a.p) = false := beq_eq_false_iff_ne.mpr hp
    rw [h2, if_neg Bool.false_ne_true]
    unfold leR2 ltN
    by_cases hl : b.p < a.p
    · rw [decide_eq_true hl, decide_eq_false (fun z => absurd hl (List.not_lt.mpr z))]; rfl
    · rw [decide_eq_false hl, decide_eq_true (List.not_lt.mp hl)]; rfl
theorem nodup_inj : ∀ {t : List Ru}, (t.map Ru.p).Nodup → ∀ a ∈ t, ∀ b ∈ t, a.p = b.p → a = b
  | [], _, a, ha, _, _, _ => by cases ha
  | c :: t, nd, a, ha, b, hb, e => by
    rw [List.map_cons, List.nodup_cons] at nd
    rcases List.mem_cons.mp ha with z | z <;> rcases List.mem_cons.mp hb with y | y
    · rw [z, y]
    · exact absurd (List.mem_map.mpr ⟨b, y, by rw [← e, z]⟩) nd.1
    · exact absurd (List.mem_map.mpr ⟨a, z, by rw [e, y]⟩) nd.1
    · exact nodup_inj nd.2 a z b y e
theorem sortD_rules {t : List Ru} (nd : (t.map Ru.p).Nodup) (h : t.length ≤ LIM) : sortD (t.map rD) = .ok (.lst ((sortR t).map rD)) := by
  have e : (t.map rD).mergeSort leD = (sortR t).map rD := (List.map_mergeSort (f := rD) (s := leD) (r := leR2) fun a ha b hb => (ltD_rD (nodup_inj nd a ha b hb)).symm).symm
  unfold sortD
  refine (if_pos ⟨by rw [List.length_map]; exact h, ?_, ?_, ?_⟩).trans (by rw [e])
  · unfold allAlike
    rw [List.all_eq_true]
    intro x hx
    rw [List.all_eq_true]
    intro y hy
    obtain ⟨a, _, rfl⟩ := List.mem_map.mp hx
    obtain ⟨b, _, rfl⟩ := List.mem_map.mp hy
    rfl
  · rw [List.all_eq_true]
    intro x hx
    obtain ⟨a, _, rfl⟩ := List.mem_map.mp hx
    rfl
  · rw [List.all_eq_true]
    intro x hx
    obtain ⟨a, _, rfl⟩ := List.mem_map.mp hx
    rfl
end Ev

/-! M15: a rule more. -/
namespace Ev
theorem eqv_oD2 (a b : Option Ru) : eqv (oD a) (oD b) = decide (a = b) := by
  have h : ∀ a b : Ru, eqv (rD a) (rD b) = decide (a = b) := fun a b => by
    show (a.p == b.p && (a.s == b.s && (a.w == b.w && true))) = decide (a = b)
    obtain ⟨p, s, w⟩ := a
    obtain ⟨p', s', w'⟩ := b
    by_cases h1 : p = p' <;> by_cases h2 : s = s' <;> by_cases h3 : w = w' <;> simp [h1, h2, h3]
  cases a with
  | none => cases b <;> rfl
  | some a => cases b with
    | none => rfl
    | some b =>
      show eqv (rD a) (rD b) = _
      rw [h]
      by_cases h : a = b <;> simp [h]
theorem ne_self (d : D) (h : dep d ≤ 60) : neD d d = .ok (.bl false) := by rw [neD_of h, eqv_self]; rfl
theorem ne_oSelf (a : Option Ru) : neD (oD a) (oD a) = .ok (.bl false) := ne_self _ (by cases a <;> simp [oD, rD, dep, depL])
theorem ne_sSelf (a : Say) : neD (sD a) (sD a) = .ok (.bl false) := ne_self _ (by cases a <;> simp [sD, dep, depL])
theorem take_pre (x p : List Nat) : (x.take p.length == p) = p.isPrefixOf x := by
  by_cases h : p.isPrefixOf x = true
  · rw [h]
    rw [List.isPrefixOf_iff_prefix] at h
    rw [← List.prefix_iff_eq_take.mp h]
    exact beq_self_eq_true p
  · have h' : p.isPrefixOf x = false := Bool.eq_false_iff.mpr h
    rw [h']
    refine beq_eq_false_iff_ne.mpr fun e => h ?_
    rw [List.isPrefixOf_iff_prefix]
    exact e ▸ List.take_prefix _ _
/-- the table with the rule -/
theorem rule_more {t : List Ru} {r : Ru} (nd : ((t ++ [r]).map Ru.p).Nodup) (x : List Nat) : ruleFor (sortR (t ++ [r])) x = better x (ruleFor t x) r := by
  rw [ruleFor_perm (sortR_perm _) (((sortR_perm _).map Ru.p).nodup_iff.mpr nd)]
  unfold ruleFor
  rw [List.foldl_append]
  rfl
@[simp] theorem rD_0 (r : Ru) : ixD (rD r) (.int 0) = .ok (.str r.p) := Eq.trans rfl rfl
@[simp] theorem rD_1 (r : Ru) : ixD (rD r) (.int 1) = .ok (.int r.s) := Eq.trans rfl rfl
@[simp] theorem rD_2 (r : Ru) : ixD (rD r) (.int 2) = .ok (.str r.w) := Eq.trans rfl rfl
@[simp] theorem rD_no (r : Ru) : isNone (rD r) = false := Eq.trans rfl rfl
theorem ne_rSelf (r : Ru) : neD (rD r) (rD r) = .ok (.bl false) := ne_oSelf (some r)
def longer (b : Option Ru) (r : Ru) : Bool := match b with
  | none => true
  | some c => decide (c.p.length < r.p.length)
theorem better_eq (x : List Nat) (b : Option Ru) (r : Ru) : better x b r = if (r.p.isPrefixOf x && longer b r) = true then some r else b := by cases b <;> rfl
theorem law15_step {P : Prog} (hR : H_rule_for P) (hS : H_says P) (hN : H_number P) (hd : H_drawn P) {k : Nat} (hk : 3 ≤ k) {t : List Ru} {r : Ru} (ht : Small t) (hr : GoodRu r) (nd : ((t ++ [r]).map Ru.p).Nodup) (hm : GTab (sortR (t ++ [r]))) (s u6 u10 u11 u12 u13 u14 : Sl) (z : Int) (m : Nat) :
    ∃ v10 v11 v12 v13, execs b_law_k15_0 (tbl P k) [s, .sh (tD t), .sh (.int z), .sh (rD r), .sh (tD (sortR (t ++ [r]))), .sh (.int (m : Int)), u6, .sh (.str r.p), .sh (.int r.s), .sh (.str r.w), u10, u11, u12, u13, u14] =
      .ok (.nx [s, .sh (tD t), .sh (.int z), .sh (rD r), .sh (tD (sortR (t ++ [r]))), .sh (.int (m : Int)), u6, .sh (.str r.p), .sh (.int r.s), .sh (.str r.w), v10, v11, v12, v13, u14]) := by
  obtain ⟨y, hy, -⟩ := run_drawn hd (show 1 ≤ k by omega) z (m : Int)
  obtain ⟨x0, hx0, hxd, hx1, hx12⟩ := run_number hN hk y hm
  have hpl : r.p.length ≤ 12 := hr.len
  have lpl : r.p.length ≤ LIM := by unfold LIM; omega
  have lx0 : r.p.length + x0.length ≤ LIM := by unfold LIM; omega
  obtain ⟨x, hx, hxl⟩ : ∃ x, x = (if (m : Int) % 2 = 0 then (r.p ++ x0).take 12 else x0) ∧ x.length ≤ 12 := by
    refine ⟨_, rfl, ?_⟩
    split
    · rw [List.length_take]; omega
    · exact hx12
  have hl : x.length ≤ LIM := by unfold LIM; omega
  have c12 : cut (r.p ++ x0) none (some 12) = (r.p ++ x0).take 12 := cut_to (r.p ++ x0) 12
  have cp : cut x none (some (r.p.length : Int)) = x.take r.p.length := cut_to x _
  have q1 := run_rule_for (x := x) hR (show 1 ≤ k by omega) ht
  have q2 := run_rule_for (x := x) hR (show 1 ≤ k by omega) hm.small
  have q3 := run_says (x := x) hS (show 2 ≤ k by omega) ht hl
  have q4 := run_says (x := x) hS (show 2 ≤ k by omega) hm.small hl
  rw [rule_more nd] at q2
  have e4 : says (sortR (t ++ [r])) x = judged (better x (ruleFor t x) r) x.length := by
    unfold says
    rw [rule_more nd]
  rw [e4] at q4
  have par : ∀ (ρ' : Env), ∃ v, v = ρ' := fun ρ' => ⟨_, rfl⟩
  have lim1 : 1 ≤ LIM := by decide
  have lim2 : 2 ≤ LIM := by decide
  -- the number
  have first : ∀ (ss : Ss), execs (.cons (.set 10 (.call 11 (.cons (.call 7 (.cons (.v 2) (.cons (.v 5) (.nil)))) (.cons (.v 4) (.nil))))) (.cons (.ifs (.cmp .eq (.bin .mod (.v 5) (.k (.int 2))) (.k (.int 0))) (.cons (.set 10 (.slH (.bin .add (.v 7) (.v 10)) (.k (.int 12)))) (.nil)) (.nil)) ss)) (tbl P k)
      [s, .sh (tD t), .sh (.int z), .sh (rD r), .sh (tD (sortR (t ++ [r]))), .sh (.int (m : Int)), u6, .sh (.str r.p), .sh (.int r.s), .sh (.str r.w), u10, u11, u12, u13, u14] =
      execs ss (tbl P k) [s, .sh (tD t), .sh (.int z), .sh (rD r), .sh (tD (sortR (t ++ [r]))), .sh (.int (m : Int)), u6, .sh (.str r.p), .sh (.int r.s), .sh (.str r.w), .sh (.str x), u11, u12, u13, u14] := fun ss => by
    by_cases hp : (m : Int) % 2 = 0
    · rw [if_pos hp] at hx
      simp [tbl_run, hy, hx0, hp, lx0, c12, ← hx]
    · rw [if_neg hp] at hx
      simp [tbl_run, hy, hx0, hp, ← hx]
  unfold b_law_k15_0
  rw [first]
  cases hb : (r.p.isPrefixOf x && longer (ruleFor t x) r) with
  | false =>
    have eb : better x (ruleFor t x) r = ruleFor t x := by rw [better_eq, hb]; rfl
    rw [eb] at q2 q4
    refine ⟨.sh (.str x), .sh (oD (ruleFor t x)), .sh (sD (says t x)), u13, ?_⟩
    have q4' : says t x = judged (ruleFor t x) x.length := rfl
    rw [← q4'] at q4
    cases hp : r.p.isPrefixOf x with
    | false => simp [tbl_run, q1, q2, q3, q4, hl, lpl, cp, take_pre, hp, ne_oSelf, ne_sSelf]
    | true =>
      cases ho : ruleFor t x with
      | none => rw [ho, hp] at hb; cases hb
      | some c =>
        rw [ho, hp] at hb
        have hcl : c.p.length ≤ LIM := ht c (ruleFor_mem ho)
        have hlt : ¬ c.p.length < r.p.length := by simpa [longer] using hb
        rw [ho] at q1 q2
        have := ne_oSelf (some c)
        simp only [oD, rD] at this q1 q2
        simp [tbl_run, q1, q2, q3, q4, hl, lpl, cp, take_pre, hp, ne_sSelf, hcl, hlt, this, oD, rD]
  | true =>
    have eb : better x (ruleFor t x) r = some r := by rw [better_eq, hb]; rfl
    rw [eb] at q2 q4
    have ⟨hp, hlo⟩ : r.p.isPrefixOf x = true ∧ longer (ruleFor t x) r = true := by simpa using hb
    have no := ne_oSelf (some r)
    simp only [oD] at no q2
    have dm : ∀ k, neD (sD (.more k)) (.tup [.str [109, 111, 114, 101], .int k]) = .ok (.bl false) := fun k => ne_sSelf (.more k)
    have dc : neD (sD .closed) (.tup [.str [99, 108, 111, 115, 101, 100]]) = .ok (.bl false) := ne_sSelf .closed
    have dg : ∀ w, neD (sD (.good w)) (.tup [.str [103, 111, 111, 100], .str w]) = .ok (.bl false) := fun w => ne_sSelf (.good w)
    have dl : neD (sD .long) (.tup [.str [108, 111, 110, 103]]) = .ok (.bl false) := ne_sSelf .long
    have no := ne_rSelf r
    have hlt : ∀ c, ruleFor t x = some c → c.p.length < r.p.length := fun c hc => by rw [hc] at hlo; simpa [longer] using hlo
    have hcl : ∀ c, ruleFor t x = some c → c.p.length ≤ LIM := fun c hc => ht c (ruleFor_mem hc)
    by_cases h0 : r.s = 0
    · have hdue : judged (some r) x.length = .closed := by simp [judged, h0]
      rw [hdue] at q4
      refine ⟨.sh (.str x), .sh (rD r), .sh (.tup [.str [99, 108, 111, 115, 101, 100]]), .sh (.int (0 - x.length)), ?_⟩
      cases ho : ruleFor t x with
      | none =>
        rw [ho] at q1
        simp [tbl_run, q1, q2, q3, q4, hl, lpl, cp, take_pre, hp, oD, h0, lim1, lim2, dc, no]
      | some c =>
        rw [ho] at q1
        simp [tbl_run, q1, q2, q3, q4, hl, lpl, cp, take_pre, hp, oD, h0, lim1, lim2, dc, no, hcl c ho, hlt c ho]
    · by_cases h1 : r.s - x.length = 0
      · have hdue : judged (some r) x.length = .good r.w := by
          simp only [judged, h0, if_false]
          rw [if_neg (by omega), if_pos (by omega)]
        rw [hdue] at q4
        refine ⟨.sh (.str x), .sh (rD r), .sh (.tup [.str [103, 111, 111, 100], .str r.w]), .sh (.int (r.s - x.length)), ?_⟩
        cases ho : ruleFor t x with
        | none =>
          rw [ho] at q1
          simp [tbl_run, q1, q2, q3, q4, hl, lpl, cp, take_pre, hp, oD, h0, h1, lim1, lim2, dg, no]
        | some c =>
          rw [ho] at q1
          simp [tbl_run, q1, q2, q3, q4, hl, lpl, cp, take_pre, hp, oD, h0, h1, lim1, lim2, dg, no, hcl c ho, hlt c ho]
      · by_cases h2 : r.s - x.length < 0
        · have hdue : judged (some r) x.length = .long := by
            simp only [judged, h0, if_false]
            rw [if_neg (by omega), if_neg (by omega)]
          rw [hdue] at q4
          refine ⟨.sh (.str x), .sh (rD r), .sh (.tup [.str [108, 111, 110, 103]]), .sh (.int (r.s - x.length)), ?_⟩
          cases ho : ruleFor t x with
          | none =>
            rw [ho] at q1
            simp [tbl_run, q1, q2, q3, q4, hl, lpl, cp, take_pre, hp, oD, h0, h1, h2, lim1, lim2, dl, no]
          | some c =>
            rw [ho] at q1
            simp [tbl_run, q1, q2, q3, q4, hl, lpl, cp, take_pre, hp, oD, h0, h1, h2, lim1, lim2, dl, no, hcl c ho, hlt c ho]
        · have hdue : judged (some r) x.length = .more (r.s - x.length) := by
            simp only [judged, h0, if_false]
            rw [if_pos (by omega)]
          rw [hdue] at q4
          refine ⟨.sh (.str x), .sh (rD r), .sh (.tup [.str [109, 111, 114, 101], .int (r.s - x.length)]), .sh (.int (r.s - x.length)), ?_⟩
          cases ho : ruleFor t x with
          | none =>
            rw [ho] at q1
            simp [tbl_run, q1, q2, q3, q4, hl, lpl, cp, take_pre, hp, oD, h0, h1, h2, lim1, lim2, dm, no]
          | some c =>
            rw [ho] at q1
            simp [tbl_run, q1, q2, q3, q4, hl, lpl, cp, take_pre, hp, oD, h0, h1, h2, lim1, lim2, dm, no, hcl c ho, hlt c ho]
theorem store_rD (r : Ru) (is : List Nat) (ρ : Env) : store is true (rD r) ρ = setAll ρ is [.str r.p, .int r.s, .str r.w] := Eq.trans rfl rfl
theorem rng8 : rngD 0 8 = .ok ((List.range 8).map fun (k : Nat) => .int (k : Int)) := rng_nat 8 (by decide)
theorem mul_one (w : List Nat) : mulD (.lst [.str w]) (.int 1) = .ok (.lst [.str w]) := Eq.trans rfl rfl
theorem mul_zero (w : List Nat) : mulD (.lst [.str w]) (.int 0) = .ok (.lst []) := Eq.trans rfl rfl
theorem words_more {t : List Ru} {r : Ru} (hr : GoodRu r) : wordsOf (sortR (t ++ [r])) = uniq (wordsOf t ++ (if r.w = [] then [] else [r.w])) := by
  unfold wordsOf
  refine uniq_eq fun x => ?_
  rw [wordsL_mem, List.mem_append, uniq_mem, wordsL_mem]
  have hpos : 0 < r.s ↔ r.w ≠ [] := by
    constructor
    · intro h
      exact (hr.w (by omega)).1
    · intro h
      have := hr.s0
      rcases Int.lt_or_eq_of_le this with z | z
      · exact z
      · exact absurd (hr.cl z.symm) h
  constructor
  · rintro ⟨a, ha, h1, rfl⟩
    have ha := (sortR_perm _).mem_iff.mp ha
    rcases List.mem_append.mp ha with z | z
    · exact .inl ⟨a, z, h1, rfl⟩
    · have := List.mem_singleton.mp z
      subst this
      right
      rw [if_neg (hpos.mp h1)]
      exact List.mem_singleton_self _
  · rintro (⟨a, ha, h1, rfl⟩ | h)
    · exact ⟨a, (sortR_perm _).mem_iff.mpr (List.mem_append_left _ ha), h1, rfl⟩
    · split at h
      · cases h
      · rename_i hw
        have := List.mem_singleton.mp h
        subst this
        exact ⟨r, (sortR_perm _).mem_iff.mpr (List.mem_append_right _ List.mem_cons_self), hpos.mpr hw, rfl⟩
theorem run_law15 {P : Prog} (hP : H_law_k15 P) {n : Nat} (hn : 6 ≤ n) (ns : List Int) : run P n 56 [scr ns] = .ok (.bl true) := by
  obtain ⟨h0, hT, hM, hU, hN, hd, hR, hS, hW⟩ := hP
  obtain ⟨k, hk, e⟩ := run_ex [scr ns] (show 5 + 1 ≤ n from hn) h0
  rw [e]
  obtain ⟨z0, hz0, -⟩ := run_mixed hM (show 2 ≤ k by omega) ns 0
  obtain ⟨z1, hz1, -⟩ := run_mixed hM (show 2 ≤ k by omega) ns 1
  have hz0 : run P k 6 [scr ns, .int 0] = .ok (.int z0) := hz0
  have hz1 : run P k 6 [scr ns, .int 1] = .ok (.int z1) := hz1
  obtain ⟨t0, ht0, hg0, hl0⟩ := run_table hT (show 4 ≤ k by omega) z0 7 (by decide) (by decide)
  obtain ⟨r, hr, hgr⟩ := run_rule hU (show 3 ≤ k by omega) z1
  obtain ⟨t, ht⟩ : ∃ t, t = t0.filter fun a => !(a.p == r.p) := ⟨_, rfl⟩
  have hsub : ∀ a ∈ t, a ∈ t0 := fun a ha => (List.mem_filter.mp (ht ▸ ha)).1
  have hlt : t.length ≤ 7 := by
    have := List.length_filter_le (fun a : Ru => !(a.p == r.p)) t0
    rw [ht]; omega
  have hsm : Small t := fun a ha => hg0.small a (hsub a ha)
  have nd0 : (t.map Ru.p).Nodup := by
    rw [ht]
    exact (hg0.nodup.sublist (List.filter_sublist.map Ru.p))
  have nd : ((t ++ [r]).map Ru.p).Nodup := by
    rw [List.map_append, List.nodup_append]
    refine ⟨nd0, by simp, fun a ha b hb e => ?_⟩
    obtain ⟨c, hc, rfl⟩ := List.mem_map.mp ha
    have hb : b = r.p := by simpa using hb
    have := (List.mem_filter.mp (ht ▸ hc)).2
    rw [e, hb] at this
    simp at this
  have hm : GTab (sortR (t ++ [r])) := sortR_good (fun a ha => by
    rcases List.mem_append.mp ha with z | z
    · exact hg0.ru a (hsub a z)
    · rw [List.mem_singleton.mp z]; exact hgr) nd
  have hmap : mapF (fun d => (((ixD d (.int 0)).bind fun a => neD a (.str r.p)).bind asB).bind fun b => if b = true then R.ok (some d) else .ok none) (t0.map rD) = .ok (t.map rD) := by
    rw [mapF_of rD (fun a => if (a.p == r.p) = true then none else some (rD a)) t0 fun a _ => by
      cases hc : (a.p == r.p) <;> simp [hc]]
    rw [ht]
    congr 1
    clear ht hsub hlt hsm nd0 nd hm ht0 hg0 hl0
    induction t0 with
    | nil => rfl
    | cons a l ih =>
      cases hc : (a.p == r.p) with
      | true => rw [List.filterMap_cons_none (by rw [hc]; rfl), List.filter_cons_of_neg (by rw [hc]; simp), ih]
      | false => rw [List.filterMap_cons_some (by rw [hc]; rfl), List.filter_cons_of_pos (by rw [hc]; rfl), List.map_cons, ih]
  have hlm : (t ++ [r]).length ≤ LIM := by rw [List.length_append, List.length_singleton]; unfold LIM; omega
  have hsort : sortD (t.map rD ++ [rD r]) = .ok (.lst ((sortR (t ++ [r])).map rD)) := by
    have := sortD_rules nd hlm
    rwa [List.map_append] at this
  have key := loop_any (f := fun d ρ1 => execs b_law_k15_0 (tbl P k) (ρ1.set 5 (.sh d))) (fun (m : Nat) => D.int (m : Int))
    (fun i ρ => ∃ u5 u10 u11 u12 u13, ρ = [.sh (scr ns), .sh (tD t), .sh (.int z1), .sh (rD r), .sh (tD (sortR (t ++ [r]))), u5, .un, .sh (.str r.p), .sh (.int r.s), .sh (.str r.w), u10, u11, u12, u13, .un]) (List.range 8)
    [.sh (scr ns), .sh (tD t), .sh (.int z1), .sh (rD r), .sh (tD (sortR (t ++ [r]))), .un, .un, .sh (.str r.p), .sh (.int r.s), .sh (.str r.w), .un, .un, .un, .un, .un] ⟨_, _, _, _, _, rfl⟩ ?_
  · obtain ⟨ρ', h3, u5, u10, u11, u12, u13, rfl⟩ := key
    have w1 := run_words_of hW (show 1 ≤ k by omega) (t := t) (by omega)
    have w2 := run_words_of hW (show 1 ≤ k by omega) (t := sortR (t ++ [r])) (by rw [(sortR_perm _).length_eq, List.length_append, List.length_singleton]; omega)
    have wl : (wordsOf t).length ≤ 7 := Nat.le_trans (uniq_len _) (Nat.le_trans (wordsL_len t) hlt)
    have hl7 : t0.length ≤ LIM := by unfold LIM; omega
    have lw1 : (wordsOf t).length ≤ LIM := by unfold LIM; omega
    have lw2 : (wordsOf t).length + 1 ≤ LIM := by unfold LIM; omega
    have lt1 : t.length + 1 ≤ LIM := by unfold LIM; omega
    have lim1 : 1 ≤ LIM := by decide
    have lim3 : 3 ≤ LIM := by decide
    have wm := words_more (t := t) hgr
    simp only [tD] at ht0 hr w1 w2 h3
    by_cases hw : r.w = []
    · rw [if_pos hw, List.append_nil] at wm
      have fin := eq_strs _ _ wm
      have ss := srtset_strs (wordsOf t) (by omega)
      simp [runFn, t_law_k15, tbl_run, hz0, hz1, ht0, hr, hl7, hmap, hsort, lt1, lim1, lim3, store_rD, rng8]
      rw [h3]
      simp [tbl_run, w1, w2, hw, b2i, mul_zero, lw1, lim1, ss, fin]
    · rw [if_neg hw] at wm
      have fin := eq_strs _ _ wm
      have ss := srtset_strs (wordsOf t ++ [r.w]) (by rw [List.length_append, List.length_singleton]; omega)
      rw [List.map_append, List.map_singleton] at ss
      simp [runFn, t_law_k15, tbl_run, hz0, hz1, ht0, hr, hl7, hmap, hsort, lt1, lim1, lim3, store_rD, rng8]
      rw [h3]
      simp [tbl_run, w1, w2, hw, b2i, mul_one, lw2, lim1, ss, fin]
  · rintro i a ρ ha ⟨u5, u10, u11, u12, u13, rfl⟩
    obtain ⟨hi, rfl⟩ := range_at ha
    obtain ⟨v10, v11, v12, v13, h⟩ := law15_step hR hS hN hd (show 3 ≤ k by omega) hsm hgr nd hm (.sh (scr ns)) .un u10 u11 u12 u13 .un z1 a
    exact ⟨_, .inl h, _, _, _, _, _, rfl⟩
end Ev

/-! M42: one table laid over another, and figures ahead of each beginning. -/
namespace Ev
def keysOf (t : List Ru) : List (List Nat) := t.map Ru.p
def rest (a b : List Ru) : List Ru := a.filter fun r => !(keysOf b).contains r.p
def over (a b : List Ru) : List Ru := sortR (b ++ rest a b)
def shift (f : List Nat) (r : Ru) : Ru := ⟨f ++ r.p, if 0 < r.s then r.s + f.length else r.s, r.w⟩
def sbehind (t : List Ru) (f : List Nat) : List Ru := t.map (shift f)
/-- rules set in order -/
def Srt (t : List Ru) : Prop := t.Pairwise fun a b => a.p < b.p
theorem Srt.ext : ∀ {t u : List Ru}, Srt t → Srt u → (∀ r, r ∈ t ↔ r ∈ u) → t = u
  | [], [], _, _, _ => rfl
  | [], b :: u, _, _, h => absurd ((h b).mpr List.mem_cons_self) (by simp)
  | a :: t, [], _, _, h => absurd ((h a).mp List.mem_cons_self) (by simp)
  | a :: t, b :: u, ht, hu, h => by
    have ht' := List.pairwise_cons.mp ht
    have hu' := List.pairwise_cons.mp hu
    have e : a = b := by
      rcases List.mem_cons.mp ((h a).mp List.mem_cons_self) with z | z
      · exact z
      · rcases List.mem_cons.mp ((h b).mpr List.mem_cons_self) with y | y
        · exact y.symm
        · exact absurd (List.lt_trans (hu'.1 a z) (ht'.1 b y)) (List.lt_irrefl _)
    subst e
    congr 1
    refine Srt.ext ht'.2 hu'.2 fun r => ⟨fun hr => ?_, fun hr => ?_⟩
    · rcases List.mem_cons.mp ((h r).mp (List.mem_cons_of_mem _ hr)) with z | z
      · exact absurd (z ▸ ht'.1 r hr) (List.lt_irrefl _)
      · exact z
    · rcases List.mem_cons.mp ((h r).mpr (List.mem_cons_of_mem _ hr)) with z | z
      · exact absurd (z ▸ hu'.1 r hr) (List.lt_irrefl _)
      · exact z
theorem Srt.nodup {t : List Ru} (g : Srt t) : (t.map Ru.p).Nodup := by
  refine List.pairwise_map.mpr (g.imp fun {a b} h e => ?_)
  rw [e] at h
  exact List.lt_irrefl _ h
theorem sortR_srt {t : List Ru} (nd : (t.map Ru.p).Nodup) : Srt (sortR t) := by
  have h1 := sortR_pw t
  have h2 : ((sortR t).map Ru.p).Nodup := ((sortR_perm t).map Ru.p).nodup_iff.mpr nd
  have h3 : (sortR t).Pairwise fun a b => a.p ≠ b.p := List.pairwise_map.mp h2
  refine (h1.and h3).imp fun {a b} ⟨z1, z2⟩ => ?_
  unfold leR2 at z1
  rw [decide_eq_true_eq] at z1
  by_cases z : a.p < b.p
  · exact z
  · exact absurd (List.le_antisymm z1 (List.not_lt.mp z)) z2
theorem rest_mem {a b : List Ru} {r : Ru} : r ∈ rest a b ↔ r ∈ a ∧ r.p ∉ keysOf b := by
  unfold rest
  rw [List.mem_filter]
  simp
theorem over_mem {a b : List Ru} {r : Ru} : r ∈ over a b ↔ r ∈ b ∨ (r ∈ a ∧ r.p ∉ keysOf b) := by
  unfold over
  rw [(sortR_perm _).mem_iff, List.mem_append, rest_mem]
theorem over_nodup {a b : List Ru} (ha : Srt a) (hb : Srt b) : ((b ++ rest a b).map Ru.p).Nodup := by
  rw [List.map_append, List.nodup_append]
  refine ⟨hb.nodup, ha.nodup.sublist (List.filter_sublist.map Ru.p), fun x hx y hy e => ?_⟩
  obtain ⟨c, hc, rfl⟩ := List.mem_map.mp hy
  exact (rest_mem.mp hc).2 (e ▸ hx)
theorem over_srt {a b : List Ru} (ha : Srt a) (hb : Srt b) : Srt (over a b) := sortR_srt (over_nodup ha hb)
theorem over_len (a b : List Ru) : (over a b).length ≤ b.length + a.length := by
  unfold over
  rw [(sortR_perm _).length_eq, List.length_append]
  exact Nat.add_le_add_left (List.length_filter_le _ _) _
theorem over_keys {a b : List Ru} {x : List Nat} : x ∈ keysOf (over a b) ↔ x ∈ keysOf a ∨ x ∈ keysOf b := by
  unfold keysOf
  rw [List.mem_map, List.mem_map]
  constructor
  · rintro ⟨r, hr, rfl⟩
    rcases over_mem.mp hr with z | z
    · exact .inr (List.mem_map.mpr ⟨r, z, rfl⟩)
    · exact .inl ⟨r, z.1, rfl⟩
  · intro h
    by_cases hb : x ∈ b.map Ru.p
    · obtain ⟨r, hr, rfl⟩ := List.mem_map.mp hb
      exact ⟨r, over_mem.mpr (.inl hr), rfl⟩
    · rcases h with ⟨r, hr, rfl⟩ | h
      · exact ⟨r, over_mem.mpr (.inr ⟨hr, hb⟩), rfl⟩
      · exact absurd h hb
theorem over_assoc {a b c : List Ru} (ha : Srt a) (hb : Srt b) (hc : Srt c) : over (over a b) c = over a (over b c) := by
  refine Srt.ext (over_srt (over_srt ha hb) hc) (over_srt ha (over_srt hb hc)) fun r => ?_
  simp only [over_mem, over_keys]
  constructor
  · rintro (h | ⟨h | ⟨h, h1⟩, h2⟩)
    · exact .inl (.inl h)
    · exact .inl (.inr ⟨h, h2⟩)
    · exact .inr ⟨h, fun z => z.elim h1 h2⟩
  · rintro ((h | ⟨h, h2⟩) | ⟨h, h1⟩)
    · exact .inl h
    · exact .inr ⟨.inl h, h2⟩
    · exact .inr ⟨.inr ⟨h, fun z => h1 (.inl z)⟩, fun z => h1 (.inr z)⟩
theorem over_same {a b : List Ru} (ha : Srt a) (hb : Srt b) : over (over a b) b = over a b := by
  refine Srt.ext (over_srt (over_srt ha hb) hb) (over_srt ha hb) fun r => ?_
  simp only [over_mem]
  constructor
  · rintro (h | ⟨h, -⟩)
    · exact .inl h
    · exact h
  · rintro (h | h)
    · exact .inl h
    · exact .inr ⟨.inr h, h.2⟩
theorem over_back {a b : List Ru} (ha : Srt a) (hb : Srt b) : over b (over a b) = over a b := by
  refine Srt.ext (over_srt hb (over_srt ha hb)) (over_srt ha hb) fun r => ?_
  rw [over_mem]
  constructor
  · rintro (h | ⟨h, h1⟩)
    · exact h
    · exact over_mem.mpr (.inl h)
  · exact .inl
theorem over_nil {b : List Ru} (hb : Srt b) : over [] b = b := by
  refine Srt.ext (over_srt .nil hb) hb fun r => ?_
  rw [over_mem]
  simp
theorem app_lt (f : List Nat) {a b : List Nat} (h : a < b) : f ++ a < f ++ b := by
  induction f with
  | nil => exact h
  | cons c f ih => exact List.cons_lt_cons_iff.mpr (.inr ⟨rfl, ih⟩)
theorem sbehind_srt {t : List Ru} (f : List Nat) (h : Srt t) : Srt (sbehind t f) :=
  List.pairwise_map.mpr (h.imp fun {a b} z => app_lt f z)
theorem sbehind_keys {t : List Ru} {f : List Nat} {x : List Nat} : f ++ x ∈ keysOf (sbehind t f) ↔ x ∈ keysOf t := by
  unfold keysOf sbehind
  rw [List.map_map, List.mem_map, List.mem_map]
  constructor
  · rintro ⟨r, hr, e⟩
    exact ⟨r, hr, List.append_cancel_left e⟩
  · rintro ⟨r, hr, rfl⟩
    exact ⟨r, hr, rfl⟩
theorem sbehind_over {a b : List Ru} (f : List Nat) (ha : Srt a) (hb : Srt b) : sbehind (over a b) f = over (sbehind a f) (sbehind b f) := by
  refine Srt.ext (sbehind_srt f (over_srt ha hb)) (over_srt (sbehind_srt f ha) (sbehind_srt f hb)) fun r => ?_
  rw [over_mem]
  constructor
  · intro h
    obtain ⟨c, hc, rfl⟩ := List.mem_map.mp h
    rcases over_mem.mp hc with z | z
    · exact .inl (List.mem_map.mpr ⟨c, z, rfl⟩)
    · exact .inr ⟨List.mem_map.mpr ⟨c, z.1, rfl⟩, fun y => z.2 (sbehind_keys.mp y)⟩
  · rintro (h | ⟨h, h1⟩)
    · obtain ⟨c, hc, rfl⟩ := List.mem_map.mp h
      exact List.mem_map.mpr ⟨c, over_mem.mpr (.inl hc), rfl⟩
    · obtain ⟨c, hc, rfl⟩ := List.mem_map.mp h
      exact List.mem_map.mpr ⟨c, over_mem.mpr (.inr ⟨hc, fun y => h1 (sbehind_keys.mpr y)⟩), rfl⟩
theorem shift_shift (f g : List Nat) (r : Ru) : shift g (shift f r) = shift (g ++ f) r := by
  unfold shift
  by_cases h : 0 < r.s
  · have h2 : 0 < r.s + (f.length : Int) := by omega
    simp only [if_pos h, if_pos h2, List.length_append, List.append_assoc]
    congr 1
    omega
  · simp only [if_neg h, List.append_assoc]
theorem sbehind_sbehind (f g : List Nat) (t : List Ru) : sbehind (sbehind t f) g = sbehind t (g ++ f) := by
  unfold sbehind
  rw [List.map_map]
  exact List.map_congr_left fun r _ => shift_shift f g r
theorem sbehind_nil (t : List Ru) : sbehind t [] = t := by
  unfold sbehind
  refine (List.map_congr_left fun r _ => ?_).trans (List.map_id t)
  unfold shift
  simp
theorem wordsL_behind (f : List Nat) (t : List Ru) : wordsL (sbehind t f) = wordsL t := by
  induction t with
  | nil => rfl
  | cons r t ih =>
    unfold wordsL sbehind at ih ⊢
    rw [List.map_cons]
    by_cases h : 0 < r.s
    · have h2 : 0 < (shift f r).s := by unfold shift; simp only [if_pos h]; omega
      rw [List.filter_cons_of_pos (by simpa using h2), List.filter_cons_of_pos (by simpa using h), List.map_cons, List.map_cons, ih]
      rfl
    · have h2 : ¬ 0 < (shift f r).s := by unfold shift; simpa only [if_neg h] using h
      rw [List.filter_cons_of_neg (by simpa using h2), List.filter_cons_of_neg (by simpa using h), ih]
theorem wordsOf_behind (f : List Nat) (t : List Ru) : wordsOf (sbehind t f) = wordsOf t := by
  unfold wordsOf
  rw [wordsL_behind]
theorem any_key (b : List Ru) (x : List Nat) : ((b.map fun r => D.str r.p).any fun e => eqv e (.str x)) = (keysOf b).contains x := by
  unfold keysOf
  induction b with
  | nil => rfl
  | cons r b ih =>
    rw [List.map_cons, List.map_cons, List.any_cons, List.contains_cons, ih]
    congr 1
    show (r.p == x) = (x == r.p)
    exact Bool.eq_iff_iff.mpr ⟨fun h => by simp at h; simp [h], fun h => by simp at h; simp [h]⟩
theorem in_keys (b : List Ru) (x : List Nat) : inD (.str x) (.lst (b.map fun r => D.str r.p)) = .ok ((keysOf b).contains x) := by
  show (if min (depL (b.map fun r => D.str r.p)) 0 ≤ 60 then R.ok ((b.map fun r => D.str r.p).any fun e => eqv e (.str x)) else .no) = _
  rw [if_pos (by omega), any_key]
theorem run_overlaid {P : Prog} (hP : H_overlaid P) {n : Nat} (hn : 1 ≤ n) {a b : List Ru} (ha : Srt a) (hb : Srt b) (la : a.length ≤ 4000) (lb : b.length ≤ 4000) : run P n 94 [tD a, tD b] = .ok (tD (over a b)) := by
  refine run_of hn hP fun k hk => ?_
  have hla : a.length ≤ LIM := by unfold LIM; omega
  have hlb : b.length ≤ LIM := by unfold LIM; omega
  have hr : (rest a b).length ≤ a.length := List.length_filter_le _ _
  have hlr : (rest a b).length ≤ LIM := by omega
  have hlbr : b.length + (rest a b).length ≤ LIM := by unfold LIM at *; omega
  have m1 : mapF (fun d => (ixD d (.int 0)).bind fun y => R.ok (some y)) (b.map rD) = .ok (b.map fun r => D.str r.p) := by
    rw [mapF_of rD (fun r => some (D.str r.p)) b fun r _ => by simp [rD]]
    simp
  have m2 : mapF (fun d => (((ixD d (.int 0)).bind fun x => (inD x (.lst (b.map fun r => D.str r.p))).bind fun c => R.ok (.bl (!c))).bind asB).bind fun c => if c = true then R.ok (some d) else .ok none) (a.map rD) = .ok ((rest a b).map rD) := by
    rw [mapF_of rD (fun r => if (!(keysOf b).contains r.p) = true then some (rD r) else none) a fun r _ => by
      by_cases hc : r.p ∈ keysOf b <;> simp [rD, in_keys, hc]]
    congr 1
    unfold rest
    clear ha la hla hr hlr hlbr
    induction a with
    | nil => rfl
    | cons r a ih =>
      cases hc : (keysOf b).contains r.p with
      | true => rw [List.filterMap_cons_none (by rw [hc]; rfl), List.filter_cons_of_neg (by rw [hc]; simp), ih]
      | false => rw [List.filterMap_cons_some (by rw [hc]; rfl), List.filter_cons_of_pos (by rw [hc]; rfl), List.map_cons, ih]
  have hs : sortD (b.map rD ++ (rest a b).map rD) = .ok (.lst ((over a b).map rD)) := by
    have := sortD_rules (over_nodup ha hb) (by rw [List.length_append]; exact hlbr)
    rwa [List.map_append] at this
  simp [runFn, t_overlaid, tD, hla, hlb, m1]
  rw [m2]
  simp [hlr, hlbr, hs]
  done
theorem run_behind {P : Prog} (hP : H_behind P) {n : Nat} (hn : 1 ≤ n) {t : List Ru} {f : List Nat} (hf : f.length ≤ 100) (ht : ∀ r ∈ t, r.p.length ≤ 4000) (hl : t.length ≤ 4000) : run P n 86 [tD t, .str f] = .ok (tD (sbehind t f)) := by
  refine run_of hn hP fun k hk => ?_
  have hll : t.length ≤ LIM := by unfold LIM; omega
  have key := loop_any (f := fun d ρ1 => (store [3, 4, 5] true d ρ1).bind fun ρ2 => execs b_behind_0 (tbl P k) ρ2) rD
    (fun i ρ => ∃ u3 u4 u5, ρ = [.sh (tD t), .sh (.str f), .sh (tD (sbehind (t.take i) f)), u3, u4, u5]) t
    [.sh (tD t), .sh (.str f), .sh (.tup []), .un, .un, .un] ⟨_, _, _, rfl⟩ ?_
  · obtain ⟨ρ', h3, u3, u4, u5, rfl⟩ := key
    simp [runFn, t_behind, tD, hll] at h3 ⊢
    rw [h3]
    simp
  · rintro i a ρ ha ⟨u3, u4, u5, rfl⟩
    have hi : i < t.length := (List.getElem?_eq_some_iff.mp ha).1
    have hp := ht a (List.mem_of_getElem? ha)
    have l1 : f.length + a.p.length ≤ LIM := by unfold LIM; omega
    have l2 : f.length ≤ LIM := by unfold LIM; omega
    have lim1 : 1 ≤ LIM := by decide
    have lim3 : 3 ≤ LIM := by decide
    have l3 : (sbehind (t.take i) f).length + 1 ≤ LIM := by
      unfold sbehind
      rw [List.length_map, List.length_take]; omega
    have et : sbehind (t.take (i + 1)) f = sbehind (t.take i) f ++ [shift f a] := by
      rw [List.take_add_one, ha]
      unfold sbehind
      simp
    refine ⟨[.sh (tD t), .sh (.str f), .sh (tD (sbehind (t.take (i + 1)) f)), .sh (.str a.p), .sh (.int (shift f a).s), .sh (.str a.w)], .inl ?_, _, _, _, rfl⟩
    by_cases h : 0 < a.s
    · simp [store_rD, b_behind_0, et, tD, rD, shift, h, l1, l2, l3, lim1, lim3]
      done
    · simp [store_rD, b_behind_0, et, tD, rD, shift, h, l1, l2, l3, lim1, lim3]
      done
theorem small_text {P : Prog} (hd : H_drawn P) {k : Nat} (hk : 1 ≤ k) (u0 u1 u2 u6 u7 u8 : Sl) (d : Int) (u5 : Sl) (m : Nat) (hm : m ≤ 3) :
    ∃ ρ', loopD (fun e ρ1 => execs b_small_0 (tbl P k) (ρ1.set 5 (.sh e))) ((List.range m).map fun (k : Nat) => D.int (k : Int)) [u0, u1, u2, .sh (.int d), .sh (.str []), u5, u6, u7, u8] = .ok (.nx ρ') ∧
      ∃ x v, ρ' = [u0, u1, u2, .sh (.int d), .sh (.str x), v, u6, u7, u8] ∧ Digs x ∧ x.length = m := by
  have key := loop_any (f := fun e ρ1 => execs b_small_0 (tbl P k) (ρ1.set 5 (.sh e))) (fun (k : Nat) => D.int (k : Int))
    (fun i ρ => ∃ x v, ρ = [u0, u1, u2, .sh (.int d), .sh (.str x), v, u6, u7, u8] ∧ Digs x ∧ x.length = i) (List.range m) [u0, u1, u2, .sh (.int d), .sh (.str []), u5, u6, u7, u8]
    ⟨[], _, rfl, (by intro c hc; cases hc), rfl⟩ ?_
  · rw [List.length_range] at key
    exact key
  · rintro i a ρ ha ⟨x, v, rfl, h4, h5⟩
    obtain ⟨hi, rfl⟩ := range_at ha
    obtain ⟨y, hy, hy0, hy1⟩ := run_drawn hd hk d a
    obtain ⟨c, hc2, hc1⟩ := pick4 48 49 50 57 (y / 16)
    have hc : 48 ≤ c ∧ c ≤ 57 := by
      simp at hc2
      omega
    have hlim : x.length + 1 ≤ LIM := by unfold LIM; omega
    refine ⟨[u0, u1, u2, .sh (.int d), .sh (.str (x ++ [c])), .sh (.int (a : Int)), u6, u7, u8], .inl ?_, x ++ [c], _, rfl, h4.app fun e he => by
      have := List.mem_singleton.mp he
      rw [this]; exact hc, by simp [h5]⟩
    simp [b_small_0, tbl_run, hy, hc1, hlim, show 4 ≤ LIM by decide]
def small_tl : Ss := (.cons (.set 6 (.bin .add (.max2 (.k (.int 1)) (.bi .len (.v 4))) (.bin .mod (.bin .fdiv (.v 3) (.k (.int 64))) (.k (.int 3))))) (.cons (.set 7 (.tup (.cons (.v 4) (.cons (.v 6) (.cons (.ix (.tup (.cons (.k (.str [97])) (.cons (.k (.str [97])) (.cons (.k (.str [98])) (.cons (.k (.str [99, 100])) (.nil)))))) (.bin .mod (.bin .fdiv (.v 3) (.k (.int 256))) (.k (.int 4)))) (.nil)))))) (.cons (.ifs (.cmp .eq (.bin .mod (.bin .fdiv (.v 3) (.k (.int 1024))) (.k (.int 4))) (.k (.int 0))) (.cons (.set 7 (.tup (.cons (.v 4) (.cons (.k (.int 0)) (.cons (.k (.str [])) (.nil)))))) (.nil)) (.nil)) (.cons (.ifs (.cmp .lt (.v 6) (.k (.int 4))) (.cons (.key 1 (.v 4) (.v 7)) (.nil)) (.nil)) (.nil)))))
theorem b_small_eq : b_small_1 = .cons (.set 3 (.call 7 (.cons (.v 0) (.cons (.bin .add (.k (.int 60)) (.v 2)) (.nil))))) (.cons (.set 4 (.k (.str []))) (.cons (.for_ [5] false (.rng1 (.bin .mod (.bin .fdiv (.v 3) (.k (.int 16))) (.k (.int 4)))) b_small_0) (.cons (.ifs (.and (.cons (.dne 1) (.cons (.cmp .gt (.bin .mod (.bin .fdiv (.v 3) (.k (.int 4096))) (.k (.int 3))) (.k (.int 0))) (.nil)))) (.cons (.set 8 (.ix (.dsort 1) (.bin .mod (.bin .fdiv (.v 3) (.k (.int 16384))) (.dlen 1)))) (.cons (.set 4 (.slH (.bin .add (.v 8) (.ix (.k (.str [48, 49, 50, 57])) (.bin .mod (.bin .fdiv (.v 3) (.k (.int 131072))) (.k (.int 4))))) (.k (.int 3)))) (.nil))) (.nil)) small_tl))) := rfl
theorem small_tail {P : Prog} {k : Nat} (z d : Int) (a : Nat) (t : List Ru) (ht : ∀ r ∈ t, GoodRu r ∧ r.p.length ≤ 3 ∧ r.s ≤ 3) (nd : (t.map Ru.p).Nodup) (hl : t.length ≤ 100) (x : List Nat) (hx : Digs x) (hx3 : x.length ≤ 3) (u5 u6 u7 u8 : Sl) :
    ∃ (t' : List Ru) (v5 v6 v7 v8 : Sl), execs small_tl (tbl P k) [.sh (.int z), .od (t.map Ru.p) (t.map rD), .sh (.int (a : Int)), .sh (.int d), .sh (.str x), u5, u6, u7, u8] =
      .ok (.nx [.sh (.int z), .od (t'.map Ru.p) (t'.map rD), .sh (.int (a : Int)), .sh (.int d), .sh (.str x), v5, v6, v7, v8]) ∧ (∀ r ∈ t', GoodRu r ∧ r.p.length ≤ 3 ∧ r.s ≤ 3) ∧ (t'.map Ru.p).Nodup ∧ t'.length ≤ t.length + 1 := by
  have hlt' : t.length < LIM := by unfold LIM; omega
  have hxl : x.length ≤ LIM := by unfold LIM; omega
  have lim3 : 3 ≤ LIM := by decide
  have lim4 : 4 ≤ LIM := by decide
  obtain ⟨w, hw2, hw1⟩ := pick4 (D.str [97]) (.str [97]) (.str [98]) (.str [99, 100]) (d / 256)
  obtain ⟨v, rfl, hv, hmn⟩ : ∃ v, w = D.str v ∧ Word v ∧ v ∈ menu := by
    simp at hw2
    rcases hw2 with rfl | rfl | rfl
    · exact ⟨_, rfl, ⟨by decide, by decide, by decide⟩, by decide⟩
    · exact ⟨_, rfl, ⟨by decide, by decide, by decide⟩, by decide⟩
    · exact ⟨_, rfl, ⟨by decide, by decide, by decide⟩, by decide⟩
  have hm0 := Int.emod_nonneg (d / 64) (b := 3) (by decide)
  obtain ⟨sz, hsz⟩ : ∃ sz : Int, sz = (if (x.length : Int) > 1 then (x.length : Int) else 1) + d / 64 % 3 := ⟨_, rfl⟩
  have hge : 1 ≤ sz ∧ (x.length : Int) ≤ sz := by
    rw [hsz]
    split <;> omega
  have e0 := putR_keys t ⟨x, 0, []⟩
  have e1 := putR_vals ⟨x, 0, []⟩ t
  have e2 := putR_keys t ⟨x, sz, v⟩
  have e3 := putR_vals ⟨x, sz, v⟩ t
  simp only [rD] at e0 e1 e2 e3
  have put : ∀ r : Ru, GoodRu r → (r.p.length ≤ 3 ∧ r.s ≤ 3) → (∀ q ∈ putR t r, GoodRu q ∧ q.p.length ≤ 3 ∧ q.s ≤ 3) := fun r h1 h2 q hq => by
    rcases putR_mem hq with y | y
    · exact ht q y
    · rw [y]; exact ⟨h1, h2⟩
  by_cases hs : sz < 4
  · have hs' := hs
    rw [hsz] at hs'
    by_cases h5 : d / 1024 % 4 = 0
    · have g : GoodRu ⟨x, 0, []⟩ := ⟨hx, by show x.length ≤ 12; omega, Int.le_refl 0, (show (0 : Int) ≤ 12 by decide), fun _ => rfl, fun h => absurd rfl h, fun h => absurd rfl h, fun h => absurd rfl h⟩
      refine ⟨putR t ⟨x, 0, []⟩, u5, .sh (.int sz), .sh (rD ⟨x, 0, []⟩), u8, ?_, put _ g ⟨hx3, (show (0 : Int) ≤ 3 by decide)⟩, putR_nodup _ nd, putR_len _ t⟩
      simp [small_tl, hxl, hw1, h5, hs', lim3, lim4, ← hsz, hs, hlt', rD, e0, e1]
    · have g : GoodRu ⟨x, sz, v⟩ := ⟨hx, by show x.length ≤ 12; omega, by show 0 ≤ sz; omega, by show sz ≤ 12; omega, fun h => absurd h (by show sz ≠ 0; omega), fun _ => hge.2, fun _ => hv, fun _ => hmn⟩
      refine ⟨putR t ⟨x, sz, v⟩, u5, .sh (.int sz), .sh (rD ⟨x, sz, v⟩), u8, ?_, put _ g ⟨hx3, (by show sz ≤ 3; omega)⟩, putR_nodup _ nd, putR_len _ t⟩
      simp [small_tl, hxl, hw1, h5, hs', lim3, lim4, ← hsz, hs, hlt', rD, e2, e3]
  · by_cases h5 : d / 1024 % 4 = 0
    · refine ⟨t, u5, .sh (.int sz), .sh (rD ⟨x, 0, []⟩), u8, ?_, ht, nd, by omega⟩
      simp [small_tl, hxl, hw1, h5, lim3, lim4, ← hsz, hs, hlt', rD]
    · refine ⟨t, u5, .sh (.int sz), .sh (rD ⟨x, sz, v⟩), u8, ?_, ht, nd, by omega⟩
      simp [small_tl, hxl, hw1, h5, lim3, lim4, ← hsz, hs, hlt', rD]
theorem small_step {P : Prog} (hd : H_drawn P) {k : Nat} (hk : 1 ≤ k) (z : Int) (a : Nat) (t : List Ru) (ht : ∀ r ∈ t, GoodRu r ∧ r.p.length ≤ 3 ∧ r.s ≤ 3) (nd : (t.map Ru.p).Nodup) (hl : t.length ≤ 100) (u3 u4 u5 u6 u7 u8 : Sl) :
    ∃ (t' : List Ru) (v3 v4 v5 v6 v7 v8 : Sl), execs b_small_1 (tbl P k) [.sh (.int z), .od (t.map Ru.p) (t.map rD), .sh (.int (a : Int)), u3, u4, u5, u6, u7, u8] =
      .ok (.nx [.sh (.int z), .od (t'.map Ru.p) (t'.map rD), .sh (.int (a : Int)), v3, v4, v5, v6, v7, v8]) ∧ (∀ r ∈ t', GoodRu r ∧ r.p.length ≤ 3 ∧ r.s ≤ 3) ∧ (t'.map Ru.p).Nodup ∧ t'.length ≤ t.length + 1 := by
  obtain ⟨d, hd1, hd0, hdt⟩ := run_drawn hd hk z (60 + (a : Int))
  have h40 := Int.emod_nonneg (d / 16) (b := 4) (by decide)
  have h41 := Int.emod_lt_of_pos (d / 16) (b := 4) (by decide)
  obtain ⟨ρ', h3, x, v, rfl, hx1, hx2⟩ := small_text hd hk (.sh (.int z)) (.od (t.map Ru.p) (t.map rD)) (.sh (.int (a : Int))) u6 u7 u8 d u5 (d / 16 % 4).toNat (by omega)
  have hx3 : x.length ≤ 3 := by omega
  have hlt : t.length ≤ LIM := by unfold LIM; omega
  have lim4 : 4 ≤ LIM := by decide
  have srt := sortD_strs (t.map Ru.p) (by rw [List.length_map]; exact hlt)
  rw [List.map_map] at srt
  have sk := sortR_keys t
  have sk' : List.map (D.str ∘ Ru.p) t = t.map fun r => D.str r.p := rfl
  rw [sk', sk] at srt
  by_cases hov : t ≠ [] ∧ 0 < d / 4096 % 3
  · have hpos : 0 < t.length := List.length_pos_iff.mpr hov.1
    have i0 := Int.emod_nonneg (d / 16384) (b := (t.length : Int)) (by omega)
    have i1 := Int.emod_lt_of_pos (d / 16384) (b := (t.length : Int)) (by omega)
    obtain ⟨r, hr, hra⟩ := at_any ((sortR t).map fun r => D.str r.p) (d / 16384 % (t.length : Int)) i0 (by rw [List.length_map, (sortR_perm t).length_eq]; exact i1)
    obtain ⟨q, hq, rfl⟩ := List.mem_map.mp hr
    have hq := ht q ((sortR_perm t).mem_iff.mp hq)
    obtain ⟨c, hc2, hc1⟩ := pick4 48 49 50 57 (d / 131072)
    have hc : 48 ≤ c ∧ c ≤ 57 := by
      simp at hc2
      omega
    have hql : q.p.length + 1 ≤ LIM := by unfold LIM; omega
    have hcut : cut (q.p ++ [c]) none (some 3) = (q.p ++ [c]).take 3 := cut_to (q.p ++ [c]) 3
    obtain ⟨t', v5, v6, v7, v8, h4, h5⟩ := small_tail (P := P) (k := k) z d a t ht nd hl ((q.p ++ [c]).take 3)
      ((hq.1.digs.app fun e he => by rw [List.mem_singleton.mp he]; exact hc).sub fun e he => List.mem_of_mem_take he) (by rw [List.length_take]; omega) v u6 u7 (.sh (.str q.p))
    refine ⟨t', .sh (.int d), .sh (.str ((q.p ++ [c]).take 3)), v5, v6, v7, v8, ?_, h5⟩
    rw [← h4, b_small_eq]
    simp [tbl_run, hd1, rng_nat (d / 16 % 4) (by unfold MID; omega)]
    rw [h3]
    simp [hov.1, hov.2, hpos, sk', srt, hra, hc1, hql, lim4, hcut]
    done
  · obtain ⟨t', v5, v6, v7, v8, h4, h5⟩ := small_tail (P := P) (k := k) z d a t ht nd hl x hx1 hx3 v u6 u7 u8
    refine ⟨t', .sh (.int d), .sh (.str x), v5, v6, v7, v8, ?_, h5⟩
    rw [← h4, b_small_eq]
    simp [tbl_run, hd1, rng_nat (d / 16 % 4) (by unfold MID; omega)]
    rw [h3]
    by_cases hn : t = []
    · subst hn; simp
    · have : ¬ 0 < d / 4096 % 3 := fun y => hov ⟨hn, y⟩
      simp [hn, this]
structure STab (t : List Ru) : Prop where
  ru : ∀ r ∈ t, GoodRu r ∧ r.p.length ≤ 3 ∧ r.s ≤ 3
  srt : Srt t
  len : t.length ≤ 5
theorem run_small {P : Prog} (hP : H_small P) {n : Nat} (hn : 2 ≤ n) (z : Int) : ∃ t, run P n 43 [.int z] = .ok (tD t) ∧ STab t := by
  obtain ⟨h0, hd⟩ := hP
  obtain ⟨k, hk, e⟩ := run_ex [.int z] hn h0
  rw [e]
  have hm0 := Int.emod_nonneg z (b := 6) (by decide)
  have hm1 := Int.emod_lt_of_pos z (b := 6) (by decide)
  have key := loop_any (f := fun d ρ1 => execs b_small_1 (tbl P k) (ρ1.set 2 (.sh d))) (fun (k : Nat) => D.int (k : Int))
    (fun i ρ => ∃ (t : List Ru) (u2 u3 u4 u5 u6 u7 u8 : Sl), ρ = [.sh (.int z), .od (t.map Ru.p) (t.map rD), u2, u3, u4, u5, u6, u7, u8] ∧ (∀ r ∈ t, GoodRu r ∧ r.p.length ≤ 3 ∧ r.s ≤ 3) ∧ (t.map Ru.p).Nodup ∧ t.length ≤ i) (List.range (z % 6).toNat)
    [.sh (.int z), .od [] [], .un, .un, .un, .un, .un, .un, .un] ⟨[], _, _, _, _, _, _, _, rfl, (by intro r h; cases h), List.nodup_nil, Nat.le_refl _⟩ ?_
  · obtain ⟨ρ', h3, t, u2, u3, u4, u5, u6, u7, u8, rfl, h4, h5, h6⟩ := key
    rw [List.length_range] at h6
    have hlim : t.length ≤ LIM := by unfold LIM; omega
    refine ⟨sortR t, ?_, fun r hr => h4 r ((sortR_perm t).mem_iff.mp hr), sortR_srt h5, by rw [(sortR_perm t).length_eq]; omega⟩
    have es : sortD (List.map (D.str ∘ Ru.p) t) = .ok (.lst ((sortR t).map fun r => D.str r.p)) := by
      rw [← sortR_keys]
      have := sortD_strs (t.map Ru.p) (by rw [List.length_map]; exact hlim)
      rw [List.map_map] at this
      exact this
    simp [runFn, t_small, rng_nat (z % 6) (by unfold MID; omega)]
    rw [h3]
    simp [es, (sortR_perm t).length_eq, hlim]
    rw [mapF_of (fun r : Ru => D.str r.p) (fun r => some (rD r)) (sortR t) fun r hr => by
      simp [dget_map t h5 r ((sortR_perm t).mem_iff.mp hr)]]
    simp [tD]
  · rintro i a ρ ha ⟨t, u2, u3, u4, u5, u6, u7, u8, rfl, h4, h5, h6⟩
    obtain ⟨hi, rfl⟩ := range_at ha
    obtain ⟨t', v3, v4, v5, v6, v7, v8, h7, h8, h9, h10⟩ := small_step hd (show 1 ≤ k by omega) z a t h4 h5 (by omega) u3 u4 u5 u6 u7 u8
    exact ⟨_, .inl h7, t', _, _, _, _, _, _, _, rfl, h8, h9, by omega⟩
structure NTab (t : List Ru) : Prop where
  p : ∀ r ∈ t, r.p.length ≤ 12 ∧ r.w.length ≤ 100
  srt : Srt t
  len : t.length ≤ 100
theorem srt_mid {t : List Ru} {i : Nat} {r r' : Ru} (h : Srt t) (hi : t[i]? = some r) (hp : r'.p = r.p) : Srt (t.take i ++ r' :: t.drop (i + 1)) := by
  have e : t = t.take i ++ r :: t.drop (i + 1) := by
    obtain ⟨h1, h2⟩ := List.getElem?_eq_some_iff.mp hi
    rw [← h2, ← List.drop_eq_getElem_cons h1, List.take_append_drop]
  have h' : Srt (t.take i ++ r :: t.drop (i + 1)) := e ▸ h
  unfold Srt at h' ⊢
  rw [List.pairwise_append, List.pairwise_cons] at h' ⊢
  refine ⟨h'.1, ⟨fun a ha => hp ▸ h'.2.1.1 a ha, h'.2.1.2⟩, fun a ha b hb => ?_⟩
  rcases List.mem_cons.mp hb with z | z
  · rw [z, hp]; exact h'.2.2 a ha r List.mem_cons_self
  · exact h'.2.2 a ha b (List.mem_cons_of_mem _ z)
theorem srt_out {t : List Ru} (i : Nat) (h : Srt t) : Srt (t.take i ++ t.drop (i + 1)) := by
  refine List.Pairwise.sublist ?_ h
  conv => rhs; rw [← List.take_append_drop i t]
  exact List.Sublist.append_left (List.drop_sublist_drop_left t (Nat.le_succ i)) _
theorem ntab_mid {t : List Ru} {i : Nat} {r r' : Ru} (h : NTab t) (hi : t[i]? = some r) (hp : r'.p = r.p) (hw : r'.w.length ≤ 100) : NTab (t.take i ++ r' :: t.drop (i + 1)) := by
  have hi' := (List.getElem?_eq_some_iff.mp hi).1
  refine ⟨fun a ha => ?_, srt_mid h.srt hi hp, ?_⟩
  · rcases List.mem_append.mp ha with z | z
    · exact h.p a (List.mem_of_mem_take z)
    · rcases List.mem_cons.mp z with y | y
      · rw [y]; exact ⟨hp ▸ (h.p r (List.mem_of_getElem? hi)).1, hw⟩
      · exact h.p a (List.mem_of_mem_drop y)
  · have := h.len
    rw [List.length_append, List.length_cons, List.length_take, List.length_drop]; omega
theorem ntab_out {t : List Ru} (i : Nat) (h : NTab t) : NTab (t.take i ++ t.drop (i + 1)) := by
  refine ⟨fun a ha => ?_, srt_out i h.srt, ?_⟩
  · rcases List.mem_append.mp ha with z | z
    · exact h.p a (List.mem_of_mem_take z)
    · exact h.p a (List.mem_of_mem_drop z)
  · have := h.len
    rw [List.length_append, List.length_take, List.length_drop]; omega
theorem run_near {P : Prog} (hP : H_near P) {n : Nat} (hn : 3 ≤ n) {t : List Ru} (ht : NTab t) (m : Int) : ∃ u, run P n 68 [tD t, .int m] = .ok (tD u) ∧ NTab u := by
  obtain ⟨h0, hS⟩ := hP
  obtain ⟨k, hk, e⟩ := run_ex [tD t, .int m] hn h0
  rw [e]
  obtain ⟨s, hs, hst⟩ := run_small hS hk (m / 5)
  have hsn : NTab s := ⟨fun r hr => ⟨(hst.ru r hr).1.len, by
    by_cases h : r.s = 0
    · rw [(hst.ru r hr).1.cl h]; exact Nat.zero_le _
    · have := ((hst.ru r hr).1.w h).2.1; omega⟩, hst.srt, by have := hst.len; omega⟩
  have hlt : t.length ≤ LIM := by have := ht.len; unfold LIM; omega
  by_cases hA : t = [] ∨ m % 5 = 0
  · refine ⟨s, ?_, hsn⟩
    rcases hA with rfl | h
    · simp [runFn, t_near, tbl_run, hs, tD, eqD, eqv, eqvL, dep, depL]
      done
    · by_cases hn : t = []
      · subst hn; simp [runFn, t_near, tbl_run, hs, tD, eqD, eqv, eqvL, dep, depL, h]
      · simp [runFn, t_near, tbl_run, hs, tD, eqD, eqv, eqvL, dep, depL, h]
  · have hne : t ≠ [] := fun h => hA (.inl h)
    have h5 : m % 5 ≠ 0 := fun h => hA (.inr h)
    have hpos : 0 < t.length := List.length_pos_iff.mpr hne
    have i0 := Int.emod_nonneg (m / 8) (b := (t.length : Int)) (by omega)
    have i1 := Int.emod_lt_of_pos (m / 8) (b := (t.length : Int)) (by omega)
    obtain ⟨i, hi⟩ : ∃ i : Nat, m / 8 % (t.length : Int) = (i : Int) := ⟨(m / 8 % (t.length : Int)).toNat, by omega⟩
    have hil : i < t.length := by omega
    obtain ⟨r, hr⟩ : ∃ r, t[i]? = some r := ⟨t[i], List.getElem?_eq_getElem hil⟩
    have hat : atI (t.map rD) (i : Int) = some (rD r) := by
      unfold atI
      rw [if_pos (by omega), Int.toNat_natCast, List.getElem?_map, hr]; rfl
    have c1 : cut (t.map rD) none (some (i : Int)) = (t.take i).map rD := by rw [cut_to, List.map_take]
    have c2 : cut (t.map rD) (some ((i : Int) + 1)) none = (t.drop (i + 1)).map rD := by
      rw [show (i : Int) + 1 = ((i + 1 : Nat) : Int) by omega, cut_from, List.map_drop]
    have hlen := ht.len
    have hev : eqvL (t.map rD) [] = false := by
      cases t with
      | nil => exact absurd rfl hne
      | cons a l => rfl
    have lim3 : 3 ≤ LIM := by decide
    have lim1 : 1 ≤ LIM := by decide
    have hl1 : min i t.length + (t.length - (i + 1)) ≤ LIM := by unfold LIM; omega
    have hl2 : min i t.length + 1 ≤ LIM := by unfold LIM; omega
    have hl3 : min i t.length + 1 + (t.length - (i + 1)) ≤ LIM := by unfold LIM; omega
    have hrp := ht.p r (List.mem_of_getElem? hr)
    by_cases h1 : m % 5 = 1
    · refine ⟨t.take i ++ t.drop (i + 1), ?_, ntab_out i ht⟩
      simp [runFn, t_near, tbl_run, tD, eqD, eqv, eqvL, dep, depL, h5, hne, hlt, hpos, hi, hat, store_rD, h1, hev, c1, c2, hl1]
    · by_cases h2 : m % 5 = 2 ∧ 0 < r.s
      · obtain ⟨w, hw2, hw1⟩ := pick3 (D.str [97]) (.str [98]) (.str [99, 100]) (m / 64)
        obtain ⟨v, rfl, hv⟩ : ∃ v, w = D.str v ∧ v.length ≤ 100 := by
          simp at hw2
          rcases hw2 with rfl | rfl | rfl
          · exact ⟨_, rfl, by decide⟩
          · exact ⟨_, rfl, by decide⟩
          · exact ⟨_, rfl, by decide⟩
        refine ⟨t.take i ++ ⟨r.p, r.s, v⟩ :: t.drop (i + 1), ?_, ntab_mid ht hr rfl hv⟩
        simp [runFn, t_near, tbl_run, tD, rD, eqD, eqv, eqvL, dep, depL, h5, hne, hlt, hpos, hi, hat, store_rD, h1, hev, c1, c2, h2.1, h2.2, hw1, hl2, hl3, lim1, lim3]
      · have hrpl : r.p.length ≤ LIM := by unfold LIM; omega
        have hrwl : r.w.length + 1 ≤ LIM := by unfold LIM; omega
        obtain ⟨q, hq⟩ : ∃ q : Int, q = m / 64 % 4 := ⟨_, rfl⟩
        have m1 : mulD (.str [97]) (.int 1) = .ok (.str [97]) := Eq.trans rfl rfl
        have m0 : mulD (.str [97]) (.int 0) = .ok (.str []) := Eq.trans rfl rfl
        have a1 : (0 : Nat) + 1 ≤ LIM := lim1
        by_cases h3 : m % 5 = 3
        · by_cases h4 : (if 1 < (r.p.length : Int) then (r.p.length : Int) else 1) ≤ q
          · by_cases hw : r.w = []
            · refine ⟨t.take i ++ ⟨r.p, q, [97]⟩ :: t.drop (i + 1), ?_, ntab_mid ht hr rfl (by show 1 ≤ 100; decide)⟩
              simp [runFn, t_near, tbl_run, tD, rD, eqD, eqv, eqvL, dep, depL, h5, hne, hlt, hpos, hi, hat, store_rD, hev, c1, c2, h3, h4, hl2, hl3, lim1, lim3, hrpl, hw, b2i, ← hq, m1]
            · refine ⟨t.take i ++ ⟨r.p, q, r.w⟩ :: t.drop (i + 1), ?_, ntab_mid ht hr rfl hrp.2⟩
              simp [runFn, t_near, tbl_run, tD, rD, eqD, eqv, eqvL, dep, depL, h5, hne, hlt, hpos, hi, hat, store_rD, hev, c1, c2, h3, h4, hl2, hl3, lim1, lim3, hrpl, hw, b2i, ← hq, m0, Nat.le_of_succ_le hrwl]
          · refine ⟨t, ?_, ht⟩
            simp [runFn, t_near, tbl_run, tD, rD, eqD, eqv, eqvL, dep, depL, h5, hne, hlt, hpos, hi, hat, store_rD, hev, h3, h4, hrpl, ← hq]
        · refine ⟨t, ?_, ht⟩
          by_cases h2a : m % 5 = 2
          · have h2b : ¬ 0 < r.s := fun z => h2 ⟨h2a, z⟩
            simp [runFn, t_near, tbl_run, tD, rD, eqD, eqv, eqvL, dep, depL, h5, hne, hlt, hpos, hi, hat, store_rD, hev, h2a, h2b]
          · simp [runFn, t_near, tbl_run, tD, rD, eqD, eqv, eqvL, dep, depL, h5, hne, hlt, hpos, hi, hat, store_rD, hev, h1, h2a, h3]
end Ev

/-! M42b: law k42. -/
namespace Ev
theorem itD_tD (t : List Ru) : itD (tD t) = .ok (t.map rD) := Eq.trans rfl rfl
theorem add_tD (a b : List Ru) : addD (tD a) (tD b) = if a.length + b.length ≤ LIM then .ok (tD (a ++ b)) else .no := by
  unfold tD
  rw [add_tup, List.length_map, List.length_map, List.map_append]
theorem dep_rD (r : Ru) : dep (rD r) = 1 := rfl
theorem depL_rDs : ∀ t : List Ru, depL (t.map rD) ≤ 1
  | [] => Nat.zero_le _
  | r :: t => by
    show max (dep (rD r)) (depL (t.map rD)) ≤ 1
    rw [dep_rD]
    exact Nat.max_le.mpr ⟨Nat.le_refl _, depL_rDs t⟩
theorem dep_tD (t : List Ru) : dep (tD t) ≤ 60 := by
  show depL (t.map rD) + 1 ≤ 60
  have := depL_rDs t
  omega
theorem ne_tSelf (t : List Ru) : neD (tD t) (tD t) = .ok (.bl false) := ne_self _ (dep_tD t)
theorem mapF_keys (t : List Ru) : mapF (fun d => (ixD d (.int 0)).bind fun y => R.ok (some y)) (t.map rD) = .ok ((keysOf t).map D.str) := by
  rw [mapF_of rD (fun r => some (D.str r.p)) t fun r _ => by simp [rD]]
  simp [keysOf]
theorem sortT_pw (ts : List (List Nat)) : (sortT ts).Pairwise fun a b => a ≤ b := by
  have := List.pairwise_mergeSort (le := leT) (fun a b c h1 h2 => by
    unfold leT at *
    rw [decide_eq_true_eq] at *
    exact List.le_trans h1 h2) (fun a b => by
    unfold leT
    rcases List.le_total a b with z | z
    · rw [decide_eq_true z]; rfl
    · rw [decide_eq_true z, Bool.or_true]) ts
  exact this.imp fun h => of_decide_eq_true h
theorem uniq_srt (ts : List (List Nat)) : (uniq ts).Pairwise fun a b => a < b := by
  have h2 : (uniq ts).Nodup := (sortT_perm _).nodup_iff.mpr (firstT_nodup ts)
  refine ((sortT_pw (firstT ts)).and h2).imp fun {a b} ⟨z1, z2⟩ => ?_
  by_cases z : a < b
  · exact z
  · exact absurd (List.le_antisymm z1 (List.not_lt.mp z)) z2
/-- texts that rise are told by which they are -/
theorem srtT_ext : ∀ {t u : List (List Nat)}, t.Pairwise (fun a b => a < b) → u.Pairwise (fun a b => a < b) → (∀ r, r ∈ t ↔ r ∈ u) → t = u
  | [], [], _, _, _ => rfl
  | [], b :: u, _, _, h => absurd ((h b).mpr List.mem_cons_self) (by simp)
  | a :: t, [], _, _, h => absurd ((h a).mp List.mem_cons_self) (by simp)
  | a :: t, b :: u, ht, hu, h => by
    have ht' := List.pairwise_cons.mp ht
    have hu' := List.pairwise_cons.mp hu
    have e : a = b := by
      rcases List.mem_cons.mp ((h a).mp List.mem_cons_self) with z | z
      · exact z
      · rcases List.mem_cons.mp ((h b).mpr List.mem_cons_self) with y | y
        · exact y.symm
        · exact absurd (List.lt_trans (hu'.1 a z) (ht'.1 b y)) (List.lt_irrefl _)
    subst e
    congr 1
    refine srtT_ext ht'.2 hu'.2 fun r => ⟨fun hr => ?_, fun hr => ?_⟩
    · rcases List.mem_cons.mp ((h r).mp (List.mem_cons_of_mem _ hr)) with z | z
      · exact absurd (z ▸ ht'.1 r hr) (List.lt_irrefl _)
      · exact z
    · rcases List.mem_cons.mp ((h r).mpr (List.mem_cons_of_mem _ hr)) with z | z
      · exact absurd (z ▸ hu'.1 r hr) (List.lt_irrefl _)
      · exact z
theorem Srt.keys {t : List Ru} (h : Srt t) : (keysOf t).Pairwise fun a b => a < b := List.pairwise_map.mpr h
theorem uniq_keys {a b : List Ru} (ha : Srt a) (hb : Srt b) : uniq (keysOf (a ++ b)) = keysOf (over a b) := by
  refine srtT_ext (uniq_srt _) (over_srt ha hb).keys fun x => ?_
  rw [uniq_mem, over_keys]
  unfold keysOf
  rw [List.map_append, List.mem_append]
theorem depL_strs0 (ts : List (List Nat)) : dep (.lst (ts.map D.str)) ≤ 60 := by
  show depL _ + 1 ≤ 60
  rw [depL_strs]; decide
theorem ne_strsL (ts : List (List Nat)) : neD (.lst (ts.map D.str)) (.lst (ts.map D.str)) = .ok (.bl false) := ne_self _ (depL_strs0 ts)
theorem run_law42 {P : Prog} (hP : H_law_k42 P) {n : Nat} (hn : 6 ≤ n) (ns : List Int) : run P n 99 [scr ns] = .ok (.bl true) := by
  obtain ⟨h0, hT, hM, hN, hO, hB, hW⟩ := hP
  obtain ⟨k, hk, e⟩ := run_ex [scr ns] (show 5 + 1 ≤ n from hn) h0
  rw [e]
  obtain ⟨z0, hz0, -⟩ := run_mixed hM (show 2 ≤ k by omega) ns 0
  obtain ⟨z1, hz1, -⟩ := run_mixed hM (show 2 ≤ k by omega) ns 1
  obtain ⟨z2, hz2, -⟩ := run_mixed hM (show 2 ≤ k by omega) ns 2
  obtain ⟨z3, hz3, -⟩ := run_mixed hM (show 2 ≤ k by omega) ns 3
  have hz0 : run P k 6 [scr ns, .int 0] = .ok (.int z0) := hz0
  have hz1 : run P k 6 [scr ns, .int 1] = .ok (.int z1) := hz1
  have hz2 : run P k 6 [scr ns, .int 2] = .ok (.int z2) := hz2
  have hz3 : run P k 6 [scr ns, .int 3] = .ok (.int z3) := hz3
  obtain ⟨a, ha, hga, hla⟩ := run_table hT (show 4 ≤ k by omega) z0 6 (by decide) (by decide)
  obtain ⟨b, hb, hgb, hlb⟩ := run_table hT (show 4 ≤ k by omega) z1 6 (by decide) (by decide)
  have ntab : ∀ {t : List Ru}, GTab t → (t.length : Int) ≤ 6 → NTab t := fun {t} g hl => ⟨fun r hr => ⟨(g.ru r hr).len, by
    by_cases h : r.s = 0
    · rw [(g.ru r hr).cl h]; exact Nat.zero_le _
    · have := ((g.ru r hr).w h).2.1; omega⟩, g.pw, by omega⟩
  have na := ntab hga hla
  have nb := ntab hgb hlb
  obtain ⟨c, hc, nc⟩ := run_near hN (show 3 ≤ k by omega) na z2
  have sa := na.srt
  have sb := nb.srt
  have sc := nc.srt
  have la := na.len
  have lb := nb.len
  have lc := nc.len
  have lab := over_len a b
  have lbc := over_len b c
  -- overlaid
  have ov := fun {x y : List Ru} (hx : Srt x) (hy : Srt y) lx ly => run_overlaid hO (n := k) (by omega) (a := x) (b := y) hx hy lx ly
  have sab := over_srt sa sb
  have sbc := over_srt sb sc
  have o1 := ov sa sb (by omega) (by omega)
  have o2 := ov sab sc (by omega) (by omega)
  have o3 := ov sb sc (by omega) (by omega)
  have o4 := ov sa sbc (by omega) (by omega)
  rw [over_assoc sa sb sc] at o2
  have o5 := ov sab sb (by omega) (by omega)
  rw [over_same sa sb] at o5
  have o6 := ov sb sab (by omega) (by omega)
  rw [over_back sa sb] at o6
  have o7 := ov (x := []) .nil sb (by decide) (by omega)
  rw [over_nil sb] at o7
  -- figures ahead
  obtain ⟨f, hf2, hf1⟩ := pick4 (D.str [48]) (.str [52, 52]) (.str [57, 57, 57]) (.str []) z3
  obtain ⟨f, rfl, hfl⟩ : ∃ v, f = D.str v ∧ v.length ≤ 50 := by
    simp at hf2
    rcases hf2 with rfl | rfl | rfl | rfl <;> exact ⟨_, rfl, by decide⟩
  obtain ⟨g, hg2, hg1⟩ := pick4 (D.str [49]) (.str [55]) (.str [50, 48]) (.str []) (z3 / 4)
  obtain ⟨g, rfl, hgl⟩ : ∃ v, g = D.str v ∧ v.length ≤ 50 := by
    simp at hg2
    rcases hg2 with rfl | rfl | rfl | rfl <;> exact ⟨_, rfl, by decide⟩
  have bh := fun {x : List Ru} {f : List Nat} (hf : f.length ≤ 100) hx lx => run_behind hB (n := k) (by omega) (t := x) (f := f) hf hx lx
  have pa : ∀ r ∈ a, r.p.length ≤ 4000 := fun r hr => by have := (na.p r hr).1; omega
  have pb : ∀ r ∈ b, r.p.length ≤ 4000 := fun r hr => by have := (nb.p r hr).1; omega
  have pab : ∀ r ∈ over a b, r.p.length ≤ 4000 := fun r hr => by
    rcases over_mem.mp hr with z | z
    · exact pb r z
    · exact pa r z.1
  have paf : ∀ r ∈ sbehind a f, r.p.length ≤ 4000 := fun r hr => by
    obtain ⟨q, hq, rfl⟩ := List.mem_map.mp hr
    have := (na.p q hq).1
    show (f ++ q.p).length ≤ 4000
    rw [List.length_append]; omega
  have lsb : ∀ (t : List Ru) f, (sbehind t f).length = t.length := fun t f => List.length_map _
  have b1 := bh (f := f) (by omega) pab (by omega)
  have b2 := bh (f := f) (by omega) pa (by omega)
  have b3 := bh (f := f) (by omega) pb (by omega)
  have b4 := bh (f := g) (by omega) paf (by rw [lsb]; omega)
  rw [sbehind_sbehind] at b4
  have b5 := bh (f := g ++ f) (by rw [List.length_append]; omega) pa (by omega)
  have b6 := bh (f := []) (by decide) pa (by omega)
  rw [sbehind_nil] at b6
  have o8 := ov (sbehind_srt f sa) (sbehind_srt f sb) (by rw [lsb]; omega) (by rw [lsb]; omega)
  rw [← sbehind_over f sa sb] at o8
  -- words
  have w1 := run_words_of hW (show 1 ≤ k by omega) (t := a) (by omega)
  have w2 := run_words_of hW (show 1 ≤ k by omega) (t := sbehind a f) (by rw [lsb]; omega)
  rw [wordsOf_behind] at w2
  have fin := eq_strs (wordsOf a) _ rfl
  have ss := srtset_strs (keysOf (a ++ b)) (by unfold keysOf; rw [List.length_map, List.length_append]; omega)
  rw [uniq_keys sa sb] at ss
  have l1 : a.length + b.length ≤ LIM := by unfold LIM; omega
  have l2 : (over a b).length ≤ LIM := by unfold LIM; omega
  have l3 : g.length + f.length ≤ LIM := by unfold LIM; omega
  have t0 : D.tup [] = tD [] := rfl
  have lim4 : 4 ≤ LIM := by decide
  simp [runFn, t_law_k42, tbl_run, hz0, hz1, hz2, hz3, ha, hb, hc, o1, o2, o3, o4, ne_tSelf, hf1, hg1, lim4, b1, b2, b3, o8, b4, l3, b5, b6, o5, o6]
  rw [t0]
  simp [o7, ne_tSelf, itD_tD, add_tD, l1, l2, mapF_keys, tbl_run, b2, w1, w2, fin]
  have mk := mapF_keys (a ++ b)
  rw [List.map_append] at mk
  rw [mk]
  simp [ss, ne_strsL, tbl_run, b2, w1, w2, fin]
end Ev

/-! MC: all numbers of a length, counted. -/
namespace Ev
def nums : Nat → List (List Nat)
  | 0 => [[]]
  | n + 1 => figs.flatMap fun c => (nums n).map (c :: ·)
theorem figs_mem {c : Nat} : c ∈ figs ↔ 48 ≤ c ∧ c ≤ 57 := by
  unfold figs
  constructor
  · intro h
    simp at h
    omega
  · rintro ⟨h1, h2⟩
    have : c = 48 ∨ c = 49 ∨ c = 50 ∨ c = 51 ∨ c = 52 ∨ c = 53 ∨ c = 54 ∨ c = 55 ∨ c = 56 ∨ c = 57 := by omega
    simp; omega
theorem mem_nums : ∀ {n : Nat} {x : List Nat}, x ∈ nums n ↔ Digs x ∧ x.length = n
  | 0, x => by
    rw [nums, List.mem_singleton]
    constructor
    · rintro rfl
      exact ⟨(by intro c hc; cases hc), rfl⟩
    · rintro ⟨_, h⟩
      exact List.length_eq_zero_iff.mp h
  | n + 1, x => by
    rw [nums, List.mem_flatMap]
    constructor
    · rintro ⟨c, hc, hx⟩
      obtain ⟨y, hy, rfl⟩ := List.mem_map.mp hx
      obtain ⟨h1, h2⟩ := mem_nums.mp hy
      refine ⟨fun d hd => ?_, by simp [h2]⟩
      rcases List.mem_cons.mp hd with z | z
      · rw [z]; exact figs_mem.mp hc
      · exact h1 d z
    · rintro ⟨h1, h2⟩
      cases x with
      | nil => cases h2
      | cons c y =>
        exact ⟨c, figs_mem.mpr (h1 c List.mem_cons_self), List.mem_map.mpr ⟨y, mem_nums.mpr ⟨fun d hd => h1 d (List.mem_cons_of_mem _ hd), by simpa using h2⟩, rfl⟩⟩
theorem nums_len : ∀ n : Nat, (nums n).length = 10 ^ n
  | 0 => rfl
  | n + 1 => by
    have : ∀ l : List Nat, (l.flatMap fun c => (nums n).map (c :: ·)).length = l.length * 10 ^ n := by
      intro l
      induction l with
      | nil => simp
      | cons c l ih => rw [List.flatMap_cons, List.length_append, ih, List.length_map, nums_len n, List.length_cons, Nat.succ_mul, Nat.add_comm]
    rw [nums, this]
    show 10 * 10 ^ n = 10 ^ (n + 1)
    rw [Nat.pow_succ, Nat.mul_comm]
theorem nums_pw : ∀ n : Nat, (nums n).Pairwise fun a b => a < b
  | 0 => List.pairwise_singleton _ _
  | n + 1 => by
    have : ∀ l : List Nat, l.Pairwise (· < ·) → (l.flatMap fun c => (nums n).map (c :: ·)).Pairwise fun a b => a < b := by
      intro l hl
      induction l with
      | nil => exact .nil
      | cons c l ih =>
        have hl' := List.pairwise_cons.mp hl
        rw [List.flatMap_cons, List.pairwise_append]
        refine ⟨List.pairwise_map.mpr ((nums_pw n).imp fun {a b} h => List.cons_lt_cons_iff.mpr (.inr ⟨rfl, h⟩)), ih hl'.2, fun a ha b hb => ?_⟩
        obtain ⟨x, _, rfl⟩ := List.mem_map.mp ha
        obtain ⟨d, hd, hb⟩ := List.mem_flatMap.mp hb
        obtain ⟨y, _, rfl⟩ := List.mem_map.mp hb
        exact List.cons_lt_cons_iff.mpr (.inl (hl'.1 d hd))
    exact this figs (by decide)
theorem nums_nodup (n : Nat) : (nums n).Nodup := (nums_pw n).imp fun {a b} h e => by rw [e] at h; exact List.lt_irrefl _ h
theorem pre_nil (x : List Nat) : ([] : List Nat).isPrefixOf x = true := by cases x <;> rfl
theorem pre_cons (a b : Nat) (x y : List Nat) : (a :: x).isPrefixOf (b :: y) = (a == b && x.isPrefixOf y) := rfl
/-- those with a beginning, told by what comes behind it -/
theorem cnt_pre (P : List Nat → Bool) : ∀ (n : Nat) (b : List Nat), Digs b → (nums n).countP (fun x => b.isPrefixOf x && P x) = if b.length ≤ n then (nums (n - b.length)).countP (fun y => P (b ++ y)) else 0
  | n, [], _ => by
    rw [if_pos (show ([] : List Nat).length ≤ n from Nat.zero_le _)]
    simp
  | 0, d :: b, _ => by
    rw [if_neg (by simp)]
    rfl
  | n + 1, d :: b, hb => by
    have hd := figs_mem.mpr (hb d List.mem_cons_self)
    have ih := cnt_pre (fun x => P (d :: x)) n b fun c hc => hb c (List.mem_cons_of_mem _ hc)
    have : ∀ l : List Nat, (l.flatMap fun c => (nums n).map (c :: ·)).countP (fun x => (d :: b).isPrefixOf x && P x) = l.countP (· == d) * (nums n).countP fun x => b.isPrefixOf x && P (d :: x) := by
      intro l
      induction l with
      | nil => simp
      | cons c l ihl =>
        rw [List.flatMap_cons, List.countP_append, ihl, List.countP_map, List.countP_cons]
        by_cases e : c = d
        · subst e
          have : (fun x => (c :: b).isPrefixOf x && P x) ∘ (c :: ·) = fun x => b.isPrefixOf x && P (c :: x) := by
            funext x
            show ((c :: b).isPrefixOf (c :: x) && P (c :: x)) = _
            rw [pre_cons]; simp
          rw [this]
          simp [Nat.add_mul, Nat.add_comm]
        · have : ((nums n).countP ((fun x => (d :: b).isPrefixOf x && P x) ∘ (c :: ·))) = 0 := by
            rw [List.countP_eq_zero]
            intro x _
            show ¬ ((d :: b).isPrefixOf (c :: x) && P (c :: x)) = true
            rw [pre_cons]
            have : (d == c) = false := beq_eq_false_iff_ne.mpr fun z => e z.symm
            rw [this]; simp
          rw [this]
          have : (c == d) = false := beq_eq_false_iff_ne.mpr e
          simp [this]
    have one : figs.countP (· == d) = 1 := by
      have := figs_mem.mp hd
      have : d = 48 ∨ d = 49 ∨ d = 50 ∨ d = 51 ∨ d = 52 ∨ d = 53 ∨ d = 54 ∨ d = 55 ∨ d = 56 ∨ d = 57 := by omega
      rcases this with rfl | rfl | rfl | rfl | rfl | rfl | rfl | rfl | rfl | rfl <;> rfl
    rw [nums, this figs, one, Nat.one_mul, ih, List.length_cons]
    by_cases h : b.length ≤ n
    · rw [if_pos h, if_pos (by omega), show n + 1 - (b.length + 1) = n - b.length by omega]
      rfl
    · rw [if_neg h, if_neg (by omega)]
/-- parted by the first figure behind -/
theorem cnt_step (P : List Nat → Bool) (n : Nat) : (nums (n + 1)).countP P = (figs.map fun c => (nums n).countP fun y => P (c :: y)).sum := by
  have : ∀ l : List Nat, (l.flatMap fun c => (nums n).map (c :: ·)).countP P = (l.map fun c => (nums n).countP fun y => P (c :: y)).sum := by
    intro l
    induction l with
    | nil => rfl
    | cons c l ih =>
      rw [List.flatMap_cons, List.countP_append, ih, List.countP_map, List.map_cons, List.sum_cons]
      rfl
  exact this figs
theorem cnt_true (n : Nat) : (nums n).countP (fun _ => true) = 10 ^ n := by
  rw [List.countP_true, nums_len]
theorem cnt_pos {P : List Nat → Bool} {n : Nat} : 0 < (nums n).countP P ↔ ∃ x, Digs x ∧ x.length = n ∧ P x = true := by
  rw [List.countP_pos_iff]
  constructor
  · rintro ⟨x, hx, h⟩
    obtain ⟨h1, h2⟩ := mem_nums.mp hx
    exact ⟨x, h1, h2, h⟩
  · rintro ⟨x, h1, h2, h⟩
    exact ⟨x, mem_nums.mpr ⟨h1, h2⟩, h⟩
theorem cnt_congr {P Q : List Nat → Bool} {n : Nat} (h : ∀ x, Digs x → x.length = n → P x = Q x) : (nums n).countP P = (nums n).countP Q := by
  refine List.countP_congr fun x hx => ?_
  obtain ⟨h1, h2⟩ := mem_nums.mp hx
  rw [h x h1 h2]
/-- without those that one of some has, of which no two hold at once -/
theorem cnt_apart {α β : Type} (l : List α) (P : α → Bool) (Q : β → α → Bool) : ∀ qs : List β, qs.Pairwise (fun a b => ∀ x ∈ l, Q a x = true → Q b x = false) →
    l.countP (fun x => P x && !(qs.any fun q => Q q x)) + (qs.map fun q => l.countP fun x => P x && Q q x).sum = l.countP P
  | [], _ => by simp
  | q :: qs, h => by
    have h' := List.pairwise_cons.mp h
    have ih := cnt_apart l P Q qs h'.2
    rw [List.map_cons, List.sum_cons, ← ih]
    have : l.countP (fun x => P x && !(qs.any fun q => Q q x)) = l.countP (fun x => P x && !((q :: qs).any fun q => Q q x)) + l.countP (fun x => P x && Q q x) := by
      clear ih h
      induction l with
      | nil => rfl
      | cons a l ihl =>
        have h1 : ∀ a' ∈ qs, ∀ x ∈ l, Q q x = true → Q a' x = false := fun a' ha x hx => h'.1 a' ha x (List.mem_cons_of_mem _ hx)
        have ihl := ihl ⟨h1, h'.2.imp fun {a b} z x hx => z x (List.mem_cons_of_mem _ hx)⟩
        rw [List.countP_cons, List.countP_cons, List.countP_cons, ihl]
        cases hP : P a with
        | false => simp
        | true =>
          cases hq : Q q a with
          | false => simp [hq]; omega
          | true =>
            have : (qs.any fun q => Q q a) = false := by
              rw [List.any_eq_false]
              intro b hb
              rw [h'.1 b hb a List.mem_cons_self hq]; simp
            simp [hq, this]; omega
    omega
end Ev

/-! ML: living numbers. -/
namespace Ev
theorem allB_bls {α : Type} (g : α → Bool) : ∀ l : List α, Ev.allB (l.map fun a => D.bl (g a)) = .ok (l.map g)
  | [] => rfl
  | a :: l => by
    show (Ev.allB (l.map fun a => D.bl (g a))).bind _ = _
    rw [allB_bls g l]; rfl
theorem allI_ints {α : Type} (g : α → Int) : ∀ l : List α, Ev.allI (l.map fun a => D.int (g a)) = .ok (l.map g)
  | [] => rfl
  | a :: l => by
    show (Ev.allI (l.map fun a => D.int (g a))).bind _ = _
    rw [allI_ints g l]; rfl
theorem any_bls {α : Type} (g : α → Bool) (l : List α) : biD .any (.lst (l.map fun a => D.bl (g a))) = .ok (.bl (l.any g)) := by
  show (Ev.allB (l.map fun a => D.bl (g a))).bind _ = _
  rw [allB_bls, bind_ok, List.any_map]; rfl
theorem all_bls {α : Type} (g : α → Bool) (l : List α) : biD .all (.lst (l.map fun a => D.bl (g a))) = .ok (.bl (l.all g)) := by
  show (Ev.allB (l.map fun a => D.bl (g a))).bind _ = _
  rw [allB_bls, bind_ok, List.all_map]; rfl
theorem sum_ints {α : Type} (g : α → Int) (l : List α) : biD .sum (.lst (l.map fun a => D.int (g a))) = .ok (.int (l.map g).sum) := by
  show (Ev.allI (l.map fun a => D.int (g a))).bind _ = _
  rw [allI_ints]; rfl
theorem run_power {P : Prog} (hP : H_power P) {n : Nat} (hn : 1 ≤ n) (z : Int) (hz : 0 ≤ z ∧ z ≤ 1000) : run P n 31 [.int z] = .ok (.int ((10 ^ z.toNat : Nat) : Int)) := by
  refine run_of hn hP fun k hk => ?_
  have key := loop_any (f := fun d ρ1 => execs b_power_0 (tbl P k) (ρ1.set 2 (.sh d))) (fun (k : Nat) => D.int (k : Int))
    (fun i ρ => ∃ u v, ρ = [.sh (.int z), .sh (.int v), u] ∧ v = ((10 ^ i : Nat) : Int)) (List.range z.toNat) [.sh (.int z), .sh (.int 1), .un] ⟨_, _, rfl, by simp⟩ ?_
  · obtain ⟨ρ', h3, u, v, rfl, hv⟩ := key
    rw [List.length_range] at hv
    rw [← hv]
    simp [runFn, t_power, rng_nat z (by unfold MID; omega)]
    rw [h3]
    simp
  · rintro i a ρ ha ⟨u, v, rfl, hv⟩
    refine ⟨[.sh (.int z), .sh (.int (10 * v)), .sh (.int (a : Int))], .inl ?_, _, _, rfl, ?_⟩
    · simp [b_power_0, -mul_int, big_lit' 10 (by decide)]
    · rw [hv, Nat.pow_succ, Nat.mul_comm, Int.natCast_mul]; rfl
/-! ### the shortest longer ones -/
def longerP (t : List Ru) (p : List Nat) : List (List Nat) := (t.filter fun r => p.isPrefixOf r.p && !(r.p == p)).map Ru.p
def topStep (f : List (List Nat)) (o : List Nat) : List (List Nat) := if f.any (fun a => a.isPrefixOf o) then f else f ++ [o]
def topsOf (t : List Ru) (p : List Nat) : List (List Nat) := (sortT (longerP t p)).foldl topStep []
theorem longerP_len (t : List Ru) (p : List Nat) : (longerP t p).length ≤ t.length := by
  unfold longerP
  rw [List.length_map]
  exact List.length_filter_le _ _
theorem topStep_len (f : List (List Nat)) (o : List Nat) : (topStep f o).length ≤ f.length + 1 := by
  unfold topStep
  split
  · omega
  · rw [List.length_append, List.length_singleton]; omega
theorem filterMap_if {α β : Type} (c : α → Bool) (g : α → β) (l : List α) : l.filterMap (fun a => if c a = true then some (g a) else none) = (l.filter c).map g := by
  induction l with
  | nil => rfl
  | cons a l ih =>
    cases h : c a with
    | true => rw [List.filterMap_cons_some (by rw [h]; rfl), List.filter_cons_of_pos h, List.map_cons, ih]
    | false => rw [List.filterMap_cons_none (by rw [h]; rfl), List.filter_cons_of_neg (by rw [h]; simp), ih]
theorem run_tops_below {P : Prog} (hP : H_tops_below P) {n : Nat} (hn : 1 ≤ n) {t : List Ru} (ht : t.length ≤ 4000) (p : List Nat) : run P n 32 [tD t, .str p] = .ok (.lst ((topsOf t p).map D.str)) := by
  refine run_of hn hP fun k hk => ?_
  have hl : t.length ≤ LIM := by unfold LIM; omega
  have hs := sortD_txt (longerP t p) (by have := longerP_len t p; unfold LIM; omega)
  rw [sortT_map] at hs
  have hsl : (sortT (longerP t p)).length ≤ 4000 := by
    rw [(sortT_perm _).length_eq]
    exact Nat.le_trans (longerP_len t p) ht
  have key := loop_any (f := fun d ρ1 => execs b_tops_below_0 (tbl P k) (ρ1.set 3 (.sh d))) D.str
    (fun i ρ => ∃ u3 f, ρ = [.sh (tD t), .sh (.str p), .ow (f.map D.str), u3, .un, .un] ∧ f = ((sortT (longerP t p)).take i).foldl topStep [] ∧ f.length ≤ i) (sortT (longerP t p)) [.sh (tD t), .sh (.str p), .ow [], .un, .un, .un] ⟨_, [], rfl, rfl, Nat.le_refl _⟩ ?_
  · obtain ⟨ρ', h3, u, f, rfl, h4, h5⟩ := key
    rw [List.take_length] at h4
    have h4 : f = topsOf t p := h4
    subst h4
    simp [runFn, t_tops_below, itD_tD, hl]
    rw [mapF_of rD (fun r => if (p.isPrefixOf r.p && !(r.p == p)) = true then some (D.str r.p) else none) t fun r _ => by
      cases h1 : p.isPrefixOf r.p <;> cases h2 : (r.p == p) <;> simp [h1, h2]]
    rw [filterMap_if]
    have e1 : ((t.filter fun r => p.isPrefixOf r.p && !(r.p == p)).map fun r => D.str r.p) = (longerP t p).map D.str := by
      unfold longerP
      rw [List.map_map]; rfl
    rw [e1]
    simp [hs]
    rw [h3]
    simp
  · rintro i a ρ ha ⟨u3, f, rfl, hf, hfl⟩
    have hi := (List.getElem?_eq_some_iff.mp ha).1
    have hfl2 : f.length < LIM := by unfold LIM; omega
    have hfl3 : f.length ≤ LIM := Nat.le_of_lt hfl2
    have hm : mapF (fun d => R.bind (mtD .startswith (.str a) d) fun y => R.ok (some y)) (f.map D.str) = .ok (f.map fun o => D.bl (o.isPrefixOf a)) := by
      rw [mapF_of D.str (fun o => some (D.bl (o.isPrefixOf a))) f fun o _ => by simp]
      simp
    have ef : topStep f a = ((sortT (longerP t p)).take (i + 1)).foldl topStep [] := by
      rw [List.take_add_one, ha, hf]
      simp
    refine ⟨[.sh (tD t), .sh (.str p), .ow ((topStep f a).map D.str), .sh (.str a), .un, .un], .inl ?_, _, _, rfl, ef, Nat.le_trans (topStep_len f a) (by omega)⟩
    cases hc : f.any (fun o => o.isPrefixOf a) with
    | true =>
      simp [b_tops_below_0, hfl3, hm, any_bls, hc, topStep]
    | false =>
      simp [b_tops_below_0, hfl3, hm, any_bls, hc, topStep, hfl2]
end Ev

/-! ML2: how many, counted by tops. -/
namespace Ev
/-! ### beginnings -/
theorem pre_iff {a b : List Nat} : a.isPrefixOf b = true ↔ a <+: b := List.isPrefixOf_iff_prefix
theorem pre_self (a : List Nat) : a.isPrefixOf a = true := pre_iff.mpr (List.prefix_refl a)
theorem pre_trans {a b c : List Nat} (h : a.isPrefixOf b = true) (h' : b.isPrefixOf c = true) : a.isPrefixOf c = true :=
  pre_iff.mpr ((pre_iff.mp h).trans (pre_iff.mp h'))
theorem pre_len {a b : List Nat} (h : a.isPrefixOf b = true) : a.length ≤ b.length := (pre_iff.mp h).length_le
theorem pre_le {a b : List Nat} (h : a.isPrefixOf b = true) : a ≤ b := by
  obtain ⟨c, rfl⟩ := pre_iff.mp h
  induction a with
  | nil => exact List.nil_le _
  | cons x a ih => exact List.cons_le_cons_iff.mpr (.inr ⟨rfl, ih (pre_iff.mpr (List.prefix_append a c))⟩)
/-- of two beginnings of one the shorter begins the other -/
theorem pre_of {a b x : List Nat} (ha : a.isPrefixOf x = true) (hb : b.isPrefixOf x = true) (h : a.length ≤ b.length) : a.isPrefixOf b = true :=
  pre_iff.mpr (List.prefix_of_prefix_length_le (pre_iff.mp ha) (pre_iff.mp hb) h)
theorem pre_eq {a b : List Nat} (h : a.isPrefixOf b = true) (h' : b.length ≤ a.length) : a = b :=
  (pre_iff.mp h).eq_of_length (Nat.le_antisymm (pre_len h) h')
theorem pre_app (a c : List Nat) : a.isPrefixOf (a ++ c) = true := pre_iff.mpr (List.prefix_append a c)
/-! ### tops -/
theorem topFold_mem : ∀ (l f : List (List Nat)) (o : List Nat), o ∈ l.foldl topStep f → o ∈ f ∨ o ∈ l
  | [], f, o, h => .inl h
  | a :: l, f, o, h => by
    rcases topFold_mem l (topStep f a) o h with z | z
    · unfold topStep at z
      split at z
      · exact .inl z
      · rcases List.mem_append.mp z with y | y
        · exact .inl y
        · rw [List.mem_singleton.mp y]; exact .inr List.mem_cons_self
    · exact .inr (List.mem_cons_of_mem _ z)
theorem topFold_sub : ∀ (l f : List (List Nat)) (o : List Nat), o ∈ f → o ∈ l.foldl topStep f
  | [], f, o, h => h
  | a :: l, f, o, h => by
    refine topFold_sub l (topStep f a) o ?_
    unfold topStep
    split
    · exact h
    · exact List.mem_append_left _ h
theorem topFold_cover : ∀ (l f : List (List Nat)) (q : List Nat), q ∈ l → ∃ o ∈ l.foldl topStep f, o.isPrefixOf q = true
  | a :: l, f, q, h => by
    rcases List.mem_cons.mp h with z | z
    · subst z
      have : ∃ o ∈ topStep f q, o.isPrefixOf q = true := by
        unfold topStep
        cases hc : f.any (fun a => a.isPrefixOf q) with
        | true =>
          obtain ⟨o, h1, h2⟩ := List.any_eq_true.mp hc
          exact ⟨o, by simpa using h1, h2⟩
        | false => exact ⟨q, by simp, pre_self q⟩
      obtain ⟨o, h1, h2⟩ := this
      exact ⟨o, topFold_sub l _ o h1, h2⟩
    · exact topFold_cover l (topStep f a) q z
/-- no two of which one begins the other -/
def Anti (f : List (List Nat)) : Prop := f.Pairwise fun a b => a.isPrefixOf b = false ∧ b.isPrefixOf a = false
theorem topFold_anti : ∀ (l f : List (List Nat)), l.Pairwise (fun a b => a ≤ b) → (∀ a ∈ f, ∀ b ∈ l, a ≤ b) → Anti f → Anti (l.foldl topStep f)
  | [], f, _, _, h => h
  | a :: l, f, hl, hfl, h => by
    have hl' := List.pairwise_cons.mp hl
    refine topFold_anti l (topStep f a) hl'.2 (fun b hb c hc => ?_) ?_
    · unfold topStep at hb
      split at hb
      · exact hfl b hb c (List.mem_cons_of_mem _ hc)
      · rcases List.mem_append.mp hb with y | y
        · exact hfl b y c (List.mem_cons_of_mem _ hc)
        · rw [List.mem_singleton.mp y]; exact hl'.1 c hc
    · unfold topStep
      split
      · exact h
      · rename_i hn
        refine List.pairwise_append.mpr ⟨h, List.pairwise_singleton _ _, fun b hb c hc => ?_⟩
        rw [List.mem_singleton.mp hc]
        have h1 : b.isPrefixOf a = false := by
          cases hx : b.isPrefixOf a with
          | false => rfl
          | true => exact absurd (List.any_eq_true.mpr ⟨b, hb, hx⟩) hn
        refine ⟨h1, ?_⟩
        cases hx : a.isPrefixOf b with
        | false => rfl
        | true =>
          have := List.le_antisymm (pre_le hx) (hfl b hb a List.mem_cons_self)
          rw [this, pre_self] at h1
          cases h1
theorem topsOf_anti (t : List Ru) (p : List Nat) : Anti (topsOf t p) :=
  topFold_anti _ [] (sortT_pw _) (by intro a ha; cases ha) .nil
theorem longerP_mem {t : List Ru} {p o : List Nat} : o ∈ longerP t p ↔ ∃ r ∈ t, r.p = o ∧ p.isPrefixOf o = true ∧ o ≠ p := by
  unfold longerP
  rw [List.mem_map]
  constructor
  · rintro ⟨r, hr, rfl⟩
    rw [List.mem_filter] at hr
    refine ⟨r, hr.1, rfl, ?_⟩
    have := hr.2
    simp at this
    exact ⟨pre_iff.mpr this.1, this.2⟩
  · rintro ⟨r, hr, rfl, h1, h2⟩
    exact ⟨r, List.mem_filter.mpr ⟨hr, by rw [h1]; simpa using h2⟩, rfl⟩
theorem topsOf_mem {t : List Ru} {p o : List Nat} (h : o ∈ topsOf t p) : ∃ r ∈ t, r.p = o ∧ p.isPrefixOf o = true ∧ o ≠ p := by
  rcases topFold_mem _ _ _ h with z | z
  · cases z
  · exact longerP_mem.mp ((sortT_perm _).mem_iff.mp z)
theorem topsOf_cover {t : List Ru} {p : List Nat} {r : Ru} (hr : r ∈ t) (h1 : p.isPrefixOf r.p = true) (h2 : r.p ≠ p) : ∃ o ∈ topsOf t p, o.isPrefixOf r.p = true :=
  topFold_cover _ _ _ ((sortT_perm _).mem_iff.mpr (longerP_mem.mpr ⟨r, hr, rfl, h1, h2⟩))
/-- some longer one begins it -/
def beaten (t : List Ru) (p x : List Nat) : Bool := t.any fun q => (p.isPrefixOf q.p && !(q.p == p)) && q.p.isPrefixOf x
theorem beaten_tops (t : List Ru) (p x : List Nat) : beaten t p x = (topsOf t p).any fun o => o.isPrefixOf x := by
  rw [Bool.eq_iff_iff]
  unfold beaten
  rw [List.any_eq_true, List.any_eq_true]
  constructor
  · rintro ⟨q, hq, h⟩
    rw [Bool.and_eq_true, Bool.and_eq_true] at h
    obtain ⟨o, ho, h1⟩ := topsOf_cover hq h.1.1 (by simpa using h.1.2)
    exact ⟨o, ho, pre_trans h1 h.2⟩
  · rintro ⟨o, ho, h⟩
    obtain ⟨r, hr, rfl, h1, h2⟩ := topsOf_mem ho
    refine ⟨r, hr, ?_⟩
    rw [h1, h]
    simpa using h2
/-- those of a length that begin so, of which the longest beginning is p -/
def cnt (t : List Ru) (p : List Nat) (s : Nat) (b : List Nat) : Nat := (nums s).countP fun x => (b.isPrefixOf x && p.isPrefixOf x) && !beaten t p x
theorem cnt_at (o : List Nat) (s : Nat) (ho : Digs o) : (nums s).countP (fun x => o.isPrefixOf x) = if o.length ≤ s then 10 ^ (s - o.length) else 0 := by
  have := cnt_pre (fun _ => true) s o ho
  simp only [Bool.and_true] at this
  rw [this]
  simp only [cnt_true]
theorem cnt_both {b o : List Nat} (s : Nat) (ho : Digs o) (h : o.isPrefixOf b = false) : (nums s).countP (fun x => b.isPrefixOf x && o.isPrefixOf x) = if b.isPrefixOf o && decide (o.length ≤ s) then 10 ^ (s - o.length) else 0 := by
  cases hb : b.isPrefixOf o with
  | true =>
    have : (nums s).countP (fun x => b.isPrefixOf x && o.isPrefixOf x) = (nums s).countP fun x => o.isPrefixOf x := by
      refine cnt_congr fun x _ _ => ?_
      cases hx : o.isPrefixOf x with
      | false => rw [Bool.and_false]
      | true => rw [pre_trans hb hx]; rfl
    rw [this, cnt_at o s ho]
    by_cases h : o.length ≤ s <;> simp [h]
  | false =>
    rw [Bool.false_and, if_neg Bool.false_ne_true, List.countP_eq_zero]
    intro x _ hx
    rw [Bool.and_eq_true] at hx
    rcases Nat.le_total b.length o.length with z | z
    · have := pre_of hx.1 hx.2 z
      rw [hb] at this; cases this
    · have := pre_of hx.2 hx.1 z
      rw [h] at this; cases this
/-- what the loop of count_of comes to -/
def cutOff (base : List Nat) (s : Nat) (v : Int) (o : List Nat) : Except D Int :=
  if o.isPrefixOf base = true then .error (.int 0) else .ok (if base.isPrefixOf o && decide (o.length ≤ s) then v - ((10 ^ (s - o.length) : Nat) : Int) else v)
theorem cutOff_fold (base : List Nat) (s : Nat) : ∀ (l : List (List Nat)) (v : Int), foldE (cutOff base s) v l =
    if l.any (fun o => o.isPrefixOf base) then .error (.int 0) else .ok (v - (((l.map fun o => if base.isPrefixOf o && decide (o.length ≤ s) then 10 ^ (s - o.length) else 0).sum : Nat) : Int))
  | [], v => by simp [foldE]
  | o :: l, v => by
    rw [foldE, List.any_cons, List.map_cons, List.sum_cons]
    unfold cutOff
    cases h : o.isPrefixOf base with
    | true => rfl
    | false =>
      rw [if_neg Bool.false_ne_true, Bool.false_or]
      dsimp only
      have ih := cutOff_fold base s l
      unfold cutOff at ih
      rw [ih]
      split
      · rfl
      · congr 1
        split <;> omega
theorem cnt_loop {t : List Ru} (ht : ∀ r ∈ t, Digs r.p) {p b base : List Nat} (hp : Digs p) (hb : Digs b) (s : Nat) (hbase : base = if p.length < b.length then b else p) (hc : p.isPrefixOf b = true ∨ b.isPrefixOf p = true) (hs : base.length ≤ s) :
    foldE (cutOff base s) ((10 ^ (s - base.length) : Nat) : Int) (topsOf t p) = if (topsOf t p).any (fun o => o.isPrefixOf base) then .error (.int 0) else .ok ((cnt t p s b : Nat) : Int) := by
  rw [cutOff_fold]
  split
  · rfl
  · rename_i hn
    congr 1
    have hn : ∀ o ∈ topsOf t p, o.isPrefixOf base = false := fun o ho => by
      cases hx : o.isPrefixOf base with
      | false => rfl
      | true => exact absurd (List.any_eq_true.mpr ⟨o, ho, hx⟩) hn
    have hbd : Digs base := by rw [hbase]; split <;> assumption
    have e1 : ∀ x, (b.isPrefixOf x && p.isPrefixOf x) = base.isPrefixOf x := fun x => by
      rw [hbase]
      by_cases h : p.length < b.length
      · rw [if_pos h]
        have : p.isPrefixOf b = true := by
          rcases hc with z | z
          · exact z
          · have := pre_len z; omega
        cases hx : b.isPrefixOf x with
        | false => rfl
        | true => rw [pre_trans this hx]; rfl
      · rw [if_neg h]
        have : b.isPrefixOf p = true := by
          rcases hc with z | z
          · have := pre_eq z (by omega)
            rw [this]; exact pre_self _
          · exact z
        cases hx : p.isPrefixOf x with
        | false => rw [Bool.and_false]
        | true => rw [pre_trans this hx]; rfl
    have e2 : cnt t p s b = (nums s).countP fun x => base.isPrefixOf x && !((topsOf t p).any fun o => o.isPrefixOf x) := by
      unfold cnt
      refine cnt_congr fun x _ _ => ?_
      rw [e1, beaten_tops]
    have e3 := cnt_apart (nums s) (fun x => base.isPrefixOf x) (fun (o x : List Nat) => o.isPrefixOf x) (topsOf t p) ((topsOf_anti t p).imp fun {a b} h x _ hx => by
      cases hy : b.isPrefixOf x with
      | false => rfl
      | true =>
        rcases Nat.le_total a.length b.length with z | z
        · have := pre_of hx hy z
          rw [h.1] at this; cases this
        · have := pre_of hy hx z
          rw [h.2] at this; cases this)
    have e4 : ((topsOf t p).map fun q => (nums s).countP fun x => base.isPrefixOf x && q.isPrefixOf x) = (topsOf t p).map fun o => if base.isPrefixOf o && decide (o.length ≤ s) then 10 ^ (s - o.length) else 0 := by
      refine List.map_congr_left fun o ho => ?_
      obtain ⟨r, hr, rfl, _, _⟩ := topsOf_mem ho
      exact cnt_both s (ht r hr) (hn _ ho)
    have e5 := cnt_at base s hbd
    rw [if_pos hs] at e5
    rw [e4, ← e2, e5] at e3
    omega
theorem cnt_zero {t : List Ru} {p b : List Nat} {s : Nat} (h : ∀ x, Digs x → x.length = s → b.isPrefixOf x = true → p.isPrefixOf x = true → beaten t p x = true) : cnt t p s b = 0 := by
  unfold cnt
  rw [List.countP_eq_zero]
  intro x hx hc
  obtain ⟨h1, h2⟩ := mem_nums.mp hx
  rw [Bool.and_eq_true, Bool.and_eq_true] at hc
  rw [h x h1 h2 hc.1.1 hc.1.2] at hc
  cases hc.2
/-- tables, as long as they may be told -/
structure Tb (t : List Ru) : Prop where
  ru : ∀ r ∈ t, Digs r.p ∧ r.p.length ≤ 500 ∧ 0 ≤ r.s ∧ r.s ≤ 500
  srt : Srt t
  len : t.length ≤ 4000
theorem topsOf_len (t : List Ru) (p : List Nat) : (topsOf t p).length ≤ t.length := by
  have : ∀ l f : List (List Nat), (l.foldl topStep f).length ≤ f.length + l.length := by
    intro l
    induction l with
    | nil => intro f; exact Nat.le_refl _
    | cons a l ih =>
      intro f
      have h1 := ih (topStep f a)
      have h2 := topStep_len f a
      rw [List.foldl_cons, List.length_cons]
      omega
  have h := this (sortT (longerP t p)) []
  rw [(sortT_perm _).length_eq] at h
  have h2 := longerP_len t p
  unfold topsOf
  simp at h
  omega
def outD : R Out → R D
  | .ok (.nx _) => .ok .non
  | .ok (.rt d) => .ok d
  | .ok (.ct _) => .no
  | .ex c => .ex c
  | .no => .no
@[simp] theorem outD_rt (d : D) : outD (.ok (.rt d)) = .ok d := Eq.trans rfl rfl
theorem runFn_out (fn : Fn) (T : Tbl) (ds : List D) (h : ds.length = fn.ps) : runFn fn T ds = outD (execs fn.body T (ds.map .sh ++ List.replicate (fn.ns - fn.ps) .un)) := by
  unfold runFn
  rw [if_pos h]
  generalize execs fn.body T _ = r
  cases r with
  | ok o => cases o <;> rfl
  | ex c => rfl
  | no => rfl
def count_tl : Ss := (.cons (.ifs (.cmp .gt (.bi .len (.v 4)) (.v 2)) (.cons (.ret (.k (.int 0))) (.nil)) (.nil)) (.cons (.set 5 (.call 31 (.cons (.bin .sub (.v 2) (.bi .len (.v 4))) (.nil)))) (.cons (.for_ [6] false (.val (.call 32 (.cons (.v 0) (.cons (.v 1) (.nil))))) b_count_of_0) (.cons (.ret (.v 5)) (.nil)))))
theorem count_body : t_count_of.body = .cons (.ifs (.and (.cons (.not (.mt .startswith (.v 1) (.v 3))) (.cons (.not (.mt .startswith (.v 3) (.v 1))) (.nil)))) (.cons (.ret (.k (.int 0))) (.nil)) (.nil)) (.cons (.set 4 (.v 1)) (.cons (.ifs (.cmp .gt (.bi .len (.v 3)) (.bi .len (.v 1))) (.cons (.set 4 (.v 3)) (.nil)) (.nil)) count_tl)) := rfl
theorem run_count_of {P : Prog} (hP : H_count_of P) {n : Nat} (hn : 2 ≤ n) {t : List Ru} (ht : Tb t) {p b : List Nat} (hp : Digs p) (hpl : p.length ≤ 500) (hb : Digs b) (hbl : b.length ≤ 500) (s : Int) (hs0 : 0 ≤ s) (hs : s ≤ 500) :
    run P n 33 [tD t, .str p, .int s, .str b] = .ok (.int ((cnt t p s.toNat b : Nat) : Int)) := by
  obtain ⟨h0, hp0, ht0⟩ := hP
  obtain ⟨k, hk, e⟩ := run_ex [tD t, .str p, .int s, .str b] hn h0
  rw [e, runFn_out _ _ _ rfl, count_body]
  have hpl2 : p.length ≤ LIM := by unfold LIM; omega
  have hbl2 : b.length ≤ LIM := by unfold LIM; omega
  show outD (execs _ (tbl P k) [.sh (tD t), .sh (.str p), .sh (.int s), .sh (.str b), .un, .un, .un]) = _
  by_cases hc : p.isPrefixOf b = true ∨ b.isPrefixOf p = true
  · obtain ⟨base, hbase⟩ : ∃ base, base = if p.length < b.length then b else p := ⟨_, rfl⟩
    have hbasel : base.length ≤ 500 := by rw [hbase]; split <;> omega
    have hbasel2 : base.length ≤ LIM := by unfold LIM; omega
    have head : execs (.cons (.ifs (.and (.cons (.not (.mt .startswith (.v 1) (.v 3))) (.cons (.not (.mt .startswith (.v 3) (.v 1))) (.nil)))) (.cons (.ret (.k (.int 0))) (.nil)) (.nil)) (.cons (.set 4 (.v 1)) (.cons (.ifs (.cmp .gt (.bi .len (.v 3)) (.bi .len (.v 1))) (.cons (.set 4 (.v 3)) (.nil)) (.nil)) count_tl))) (tbl P k) [.sh (tD t), .sh (.str p), .sh (.int s), .sh (.str b), .un, .un, .un] =
        execs count_tl (tbl P k) [.sh (tD t), .sh (.str p), .sh (.int s), .sh (.str b), .sh (.str base), .un, .un] := by
      have h1 : ((.ok (.bl false) : R D) = .ok (.bl false)) := rfl
      by_cases hlt : p.length < b.length
      · rw [if_pos hlt] at hbase
        subst hbase
        cases h2 : base.isPrefixOf p <;> cases h3 : p.isPrefixOf base <;> simp [h2, h3] at hc <;> simp [h2, h3, hpl2, hbl2, hlt]
      · rw [if_neg hlt] at hbase
        subst hbase
        cases h2 : base.isPrefixOf b <;> cases h3 : b.isPrefixOf base <;> simp [h2, h3] at hc <;> simp [h2, h3, hpl2, hbl2, hlt]
    rw [head]
    unfold count_tl
    have tops := run_tops_below ht0 hk (show t.length ≤ 4000 from ht.len) p
    by_cases hs2 : (base.length : Int) ≤ s
    · have hs3 : ¬ s < (base.length : Int) := by omega
      have pw := run_power hp0 hk (s - base.length) (by omega)
      have key := loop_inv (f := fun d ρ1 => execs b_count_of_0 (tbl P k) (ρ1.set 6 (.sh d))) D.str (cutOff base s.toNat)
        (fun v ρ => ∃ u, ρ = [.sh (tD t), .sh (.str p), .sh (.int s), .sh (.str b), .sh (.str base), .sh (.int v), u]) (topsOf t p) _ [.sh (tD t), .sh (.str p), .sh (.int s), .sh (.str b), .sh (.str base), .sh (.int ((10 ^ (s - base.length).toNat : Nat) : Int)), .un] ⟨_, rfl⟩ ?_
      · have e5 : (s - (base.length : Int)).toNat = s.toNat - base.length := by omega
        rw [e5] at key pw
        rw [cnt_loop (fun r hr => (ht.ru r hr).1) hp hb s.toNat hbase hc (by omega)] at key
        generalize ((10 ^ (s.toNat - base.length) : Nat) : Int) = v at key pw
        by_cases ha : (topsOf t p).any (fun o => o.isPrefixOf base) = true
        · rw [if_pos ha] at key
          have z : cnt t p s.toNat b = 0 := cnt_zero fun x _ _ hx hy => by
            rw [beaten_tops]
            obtain ⟨o, ho, h1⟩ := List.any_eq_true.mp ha
            refine List.any_eq_true.mpr ⟨o, ho, pre_trans h1 ?_⟩
            rw [hbase]; split <;> assumption
          rw [z]
          simp [hbasel2, hs3, tbl_run, pw, tops, key]
        · rw [if_neg ha] at key
          obtain ⟨ρ', h3, u, rfl⟩ := key
          simp [hbasel2, hs3, tbl_run, pw, tops, h3]
      · rintro v o ρ ho ⟨u, rfl⟩
        obtain ⟨r, hr, rfl, hp1, hp2⟩ := topsOf_mem ho
        have hol := (ht.ru r hr).2.1
        have hol2 : r.p.length ≤ LIM := by unfold LIM; omega
        unfold cutOff
        cases h1 : r.p.isPrefixOf base with
        | true => simp [b_count_of_0, h1]
        | false =>
          rw [if_neg Bool.false_ne_true]
          dsimp only
          cases h2 : base.isPrefixOf r.p with
          | false =>
            refine ⟨_, .inl ?_, .sh (.str r.p), rfl⟩
            simp [b_count_of_0, h1, h2]
          | true =>
            by_cases h3 : (r.p.length : Int) ≤ s
            · have h4 : r.p.length ≤ s.toNat := by omega
              have pw2 := run_power hp0 hk (s - r.p.length) (by omega)
              have e5 : (s - (r.p.length : Int)).toNat = s.toNat - r.p.length := by omega
              rw [e5] at pw2
              rw [if_pos (by rw [Bool.true_and]; exact decide_eq_true h4)]
              generalize ((10 ^ (s.toNat - r.p.length) : Nat) : Int) = v2 at pw2
              refine ⟨_, .inl ?_, .sh (.str r.p), rfl⟩
              simp [b_count_of_0, h1, h2, h3, hol2, tbl_run, pw2]
            · have h4 : ¬ r.p.length ≤ s.toNat := by omega
              rw [if_neg (by rw [Bool.true_and]; simpa using h4)]
              refine ⟨_, .inl ?_, .sh (.str r.p), rfl⟩
              simp [b_count_of_0, h1, h2, h3, hol2]
    · have hs3 : s < (base.length : Int) := by omega
      have z : cnt t p s.toNat b = 0 := cnt_zero fun x _ hx1 hx hy => by
        have h1 := pre_len hx
        have h2 := pre_len hy
        have : base.length ≤ x.length := by rw [hbase]; split <;> assumption
        omega
      rw [z]
      simp [hbasel2, hs3]
  · have h1 : p.isPrefixOf b = false := Bool.eq_false_iff.mpr fun z => hc (.inl z)
    have h2 : b.isPrefixOf p = false := Bool.eq_false_iff.mpr fun z => hc (.inr z)
    have z : cnt t p s.toNat b = 0 := cnt_zero fun x _ _ hx hy => by
      rcases Nat.le_total b.length p.length with z | z
      · have := pre_of hx hy z
        rw [h2] at this; cases this
      · have := pre_of hy hx z
        rw [h1] at this; cases this
    rw [z]
    simp [h1, h2]
end Ev

/-! ML3: many, live, nexts, and what they mean. -/
namespace Ev
def wordly (w : List Nat) (r : Ru) : Bool := decide (0 < r.s) && r.w == w
def manyFrom (t : List Ru) (w b : List Nat) : Nat := ((t.filter (wordly w)).map fun r => cnt t r.p r.s.toNat b).sum
theorem sum_cast {α : Type} (f : α → Nat) : ∀ l : List α, (l.map fun a => ((f a : Nat) : Int)).sum = (((l.map f).sum : Nat) : Int)
  | [] => rfl
  | a :: l => by rw [List.map_cons, List.map_cons, List.sum_cons, List.sum_cons, sum_cast f l, Int.natCast_add]
theorem run_many_from {P : Prog} (hP : H_many_from P) {n : Nat} (hn : 3 ≤ n) {t : List Ru} (ht : Tb t) (w : List Nat) {b : List Nat} (hb : Digs b) (hbl : b.length ≤ 500) :
    run P n 34 [tD t, .str w, .str b] = .ok (.int ((manyFrom t w b : Nat) : Int)) := by
  obtain ⟨h0, hc⟩ := hP
  obtain ⟨k, hk, e⟩ := run_ex [tD t, .str w, .str b] hn h0
  rw [e]
  have hl : t.length ≤ LIM := by have := ht.len; unfold LIM; omega
  simp [runFn, t_many_from, itD_tD, hl]
  rw [mapF_of rD (fun r => if wordly w r = true then some (D.int ((cnt t r.p r.s.toNat b : Nat) : Int)) else none) t fun r hr => by
    have h := ht.ru r hr
    have q := run_count_of hc hk ht h.1 h.2.1 hb hbl r.s h.2.2.1 h.2.2.2
    by_cases h1 : 0 < r.s <;> cases h2 : (r.w == w) <;> simp [h1, h2, wordly, tbl_run, q]]
  rw [filterMap_if]
  simp [sum_ints, sum_cast, manyFrom]
theorem run_many {P : Prog} (hP : H_many P) {n : Nat} (hn : 4 ≤ n) {t : List Ru} (ht : Tb t) (w : List Nat) :
    run P n 35 [tD t, .str w] = .ok (.int ((manyFrom t w [] : Nat) : Int)) := by
  obtain ⟨h0, hc⟩ := hP
  obtain ⟨k, hk, e⟩ := run_ex [tD t, .str w] hn h0
  rw [e]
  have q := run_many_from hc hk ht w (b := []) (by intro c hc; cases hc) (by decide)
  simp [runFn, t_many, tbl_run, q]
def liveS (t : List Ru) (b : List Nat) : Bool := (wordsOf t).any fun w => decide (0 < manyFrom t w b)
theorem wordsOf_len (t : List Ru) : (wordsOf t).length ≤ t.length := Nat.le_trans (uniq_len _) (wordsL_len t)
theorem run_live {P : Prog} (hP : H_live P) {n : Nat} (hn : 4 ≤ n) {t : List Ru} (ht : Tb t) {b : List Nat} (hb : Digs b) (hbl : b.length ≤ 500) :
    run P n 36 [tD t, .str b] = .ok (.bl (liveS t b)) := by
  obtain ⟨h0, hw, hm⟩ := hP
  obtain ⟨k, hk, e⟩ := run_ex [tD t, .str b] hn h0
  rw [e]
  have hl := ht.len
  have hwl := wordsOf_len t
  have hl2 : (wordsOf t).length ≤ LIM := by unfold LIM; omega
  have q := run_words_of hw (show 1 ≤ k by omega) (t := t) (by omega)
  simp [runFn, t_live, tbl_run, q, hl2]
  rw [mapF_of D.str (fun w => some (D.bl (decide (0 < manyFrom t w b)))) (wordsOf t) fun w _ => by
    have q := run_many_from hm hk ht w hb hbl
    simp [tbl_run, q]]
  simp [any_bls, liveS]
def nextsS (t : List Ru) (b : List Nat) : List Nat := figs.filter fun c => liveS t (b ++ [c])
theorem joinL_one : ∀ l : List Nat, joinL [] (l.map fun c => [c]) = l
  | [] => rfl
  | [c] => rfl
  | c :: d :: l => by
    have := joinL_one (d :: l)
    show [c] ++ [] ++ joinL [] ((d :: l).map fun c => [c]) = _
    rw [this]; rfl
theorem sumLen_one : ∀ l : List Nat, sumLen (l.map fun c => [c]) = l.length
  | [] => rfl
  | c :: l => by
    show 1 + sumLen (l.map fun c => [c]) = _
    rw [sumLen_one l, List.length_cons]; omega
theorem allS_ones (l : List Nat) : Ev.allS (l.map fun c => D.str [c]) = .ok (l.map fun c => [c]) := by
  have := allS_strs (l.map fun c => [c])
  rwa [List.map_map] at this
theorem join_ones (l : List Nat) (h : l.length ≤ LIM) : mtD .join (.str []) (.lst (l.map fun c => D.str [c])) = .ok (.str l) := by
  show (Ev.allS (l.map fun c => D.str [c])).bind (fun ys => if sumLen ys + 0 * ys.length ≤ LIM then R.ok (D.str (joinL [] ys)) else .no) = _
  rw [allS_ones, bind_ok, sumLen_one, joinL_one, if_pos (by omega)]
theorem nextsS_len (t : List Ru) (b : List Nat) : (nextsS t b).length ≤ 10 := List.length_filter_le _ _
theorem nextsS_digs (t : List Ru) (b : List Nat) : Digs (nextsS t b) := fun c hc => figs_mem.mp (List.mem_filter.mp hc).1
theorem run_nexts {P : Prog} (hP : H_nexts P) {n : Nat} (hn : 5 ≤ n) {t : List Ru} (ht : Tb t) {b : List Nat} (hb : Digs b) (hbl : b.length ≤ 499) :
    run P n 37 [tD t, .str b] = .ok (.str (nextsS t b)) := by
  obtain ⟨h0, hL⟩ := hP
  obtain ⟨k, hk, e⟩ := run_ex [tD t, .str b] hn h0
  rw [e]
  have hl10 : 10 ≤ LIM := by decide
  have hbl2 : b.length + 1 ≤ LIM := by unfold LIM; omega
  have hlen : (nextsS t b).length ≤ LIM := Nat.le_trans (nextsS_len t b) hl10
  have ef : itD (.str [48, 49, 50, 51, 52, 53, 54, 55, 56, 57]) = .ok (figs.map fun c => D.str [c]) := Eq.trans rfl rfl
  have lf : figs.length = 10 := rfl
  simp [runFn, t_nexts, -itD_str, ef, lf, hl10]
  rw [mapF_of (fun c : Nat => D.str [c]) (fun c => if liveS t (b ++ [c]) = true then some (D.str [c]) else none) figs fun c hc => by
    have q := run_live hL hk ht (b := b ++ [c]) (hb.app fun d hd => by rw [List.mem_singleton.mp hd]; exact figs_mem.mp hc) (by rw [List.length_append, List.length_singleton]; omega)
    cases h : liveS t (b ++ [c]) <;> simp [tbl_run, hbl2, q, h]]
  rw [filterMap_if]
  have j := join_ones (nextsS t b) hlen
  unfold nextsS at j ⊢
  simp [j]
/-! ### what they mean -/
theorem beaten_rule {t : List Ru} (ht : Srt t) {r : Ru} (hr : r ∈ t) (x : List Nat) : (r.p.isPrefixOf x && !beaten t r.p x) = decide (ruleFor t x = some r) := by
  rw [Bool.eq_iff_iff, decide_eq_true_eq, ruleFor_iff ht.nodup, Bool.and_eq_true]
  constructor
  · rintro ⟨h1, h2⟩
    refine ⟨hr, h1, fun r' hr' h' => ?_⟩
    rcases Nat.le_total r'.p.length r.p.length with z | z
    · exact z
    · have h3 := pre_of h1 h' z
      by_cases e : r'.p = r.p
      · rw [e]; exact Nat.le_refl _
      · have : beaten t r.p x = true := List.any_eq_true.mpr ⟨r', hr', by rw [h3, h']; simpa using e⟩
        rw [this] at h2; cases h2
  · rintro ⟨_, h1, h2⟩
    refine ⟨h1, ?_⟩
    cases hb : beaten t r.p x with
    | false => rfl
    | true =>
      obtain ⟨q, hq, h⟩ := List.any_eq_true.mp hb
      rw [Bool.and_eq_true, Bool.and_eq_true] at h
      have h3 := h2 q hq h.2
      have := pre_eq h.1.1 h3
      have h4 := h.1.2
      rw [this] at h4
      simp at h4
theorem cnt_rule {t : List Ru} (ht : Srt t) {r : Ru} (hr : r ∈ t) (s : Nat) (b : List Nat) : cnt t r.p s b = (nums s).countP fun x => b.isPrefixOf x && decide (ruleFor t x = some r) := by
  unfold cnt
  refine cnt_congr fun x _ _ => ?_
  rw [Bool.and_assoc, beaten_rule ht hr]
theorem says_good {t : List Ru} {x w : List Nat} : says t x = .good w ↔ ∃ r, ruleFor t x = some r ∧ r.s ≠ 0 ∧ r.s = x.length ∧ r.w = w := by
  unfold says judged
  cases h : ruleFor t x with
  | none =>
    constructor
    · intro h; cases h
    · rintro ⟨r, h, _⟩; cases h
  | some r =>
    dsimp only
    constructor
    · intro h
      split at h
      · cases h
      · rename_i h0
        split at h
        · cases h
        · split at h
          · rename_i h2
            cases h
            exact ⟨r, rfl, h0, h2.symm, rfl⟩
          · cases h
    · rintro ⟨r', h, h0, h1, h2⟩
      cases h
      rw [if_neg h0, if_neg (by omega), if_pos h1.symm, h2]
/-- numbers good with a word that begin so -/
def Lv (t : List Ru) (w b x : List Nat) : Prop := Digs x ∧ b.isPrefixOf x = true ∧ says t x = .good w
theorem sum_pos_iff {α : Type} (f : α → Nat) : ∀ l : List α, 0 < (l.map f).sum ↔ ∃ a ∈ l, 0 < f a
  | [] => by simp
  | a :: l => by
    rw [List.map_cons, List.sum_cons]
    have := sum_pos_iff f l
    constructor
    · intro h
      by_cases h1 : 0 < f a
      · exact ⟨a, List.mem_cons_self, h1⟩
      · obtain ⟨b, hb, h2⟩ := this.mp (by omega)
        exact ⟨b, List.mem_cons_of_mem _ hb, h2⟩
    · rintro ⟨b, hb, h⟩
      rcases List.mem_cons.mp hb with z | z
      · rw [← z]; omega
      · have := this.mpr ⟨b, z, h⟩
        omega
theorem manyFrom_pos {t : List Ru} (ht : Tb t) {w b : List Nat} : 0 < manyFrom t w b ↔ ∃ x, Lv t w b x := by
  unfold manyFrom
  rw [sum_pos_iff]
  constructor
  · rintro ⟨r, hr, h⟩
    obtain ⟨hr, h1⟩ := List.mem_filter.mp hr
    rw [cnt_rule ht.srt hr, cnt_pos] at h
    obtain ⟨x, h2, h3, h4⟩ := h
    rw [Bool.and_eq_true, decide_eq_true_eq] at h4
    have h1 : 0 < r.s ∧ r.w = w := by simpa [wordly] using h1
    exact ⟨x, h2, h4.1, says_good.mpr ⟨r, h4.2, by omega, by omega, h1.2⟩⟩
  · rintro ⟨x, h1, h2, h3⟩
    obtain ⟨r, hr, h4, h5, h6⟩ := says_good.mp h3
    have hm := ruleFor_mem hr
    refine ⟨r, List.mem_filter.mpr ⟨hm, ?_⟩, ?_⟩
    · have : 0 < r.s := by omega
      simp [wordly, this, h6]
    · rw [cnt_rule ht.srt hm, cnt_pos]
      exact ⟨x, h1, by omega, by rw [h2, hr]; simp⟩
theorem liveS_iff {t : List Ru} (ht : Tb t) {b : List Nat} : liveS t b = true ↔ ∃ w x, Lv t w b x := by
  unfold liveS
  rw [List.any_eq_true]
  constructor
  · rintro ⟨w, _, h⟩
    obtain ⟨x, hx⟩ := (manyFrom_pos ht).mp (of_decide_eq_true h)
    exact ⟨w, x, hx⟩
  · rintro ⟨w, x, h⟩
    refine ⟨w, ?_, decide_eq_true ((manyFrom_pos ht).mpr ⟨x, h⟩)⟩
    obtain ⟨r, hr, h4, h5, h6⟩ := says_good.mp h.2.2
    unfold wordsOf
    rw [uniq_mem, wordsL_mem]
    exact ⟨r, ruleFor_mem hr, by omega, h6⟩
theorem nextsS_mem {t : List Ru} {b : List Nat} {c : Nat} : c ∈ nextsS t b ↔ (48 ≤ c ∧ c ≤ 57) ∧ liveS t (b ++ [c]) = true := by
  unfold nextsS
  rw [List.mem_filter, figs_mem]
/-- what is live, is good itself or goes on -/
theorem live_goes {t : List Ru} (ht : Tb t) {b : List Nat} : liveS t b = true ↔ (Digs b ∧ ∃ w, says t b = .good w) ∨ ∃ c ∈ nextsS t b, True := by
  rw [liveS_iff ht]
  constructor
  · rintro ⟨w, x, h1, h2, h3⟩
    obtain ⟨c, rfl⟩ := pre_iff.mp h2
    cases c with
    | nil =>
      rw [List.append_nil] at h1 h3
      exact .inl ⟨h1, w, h3⟩
    | cons c y =>
      refine .inr ⟨c, nextsS_mem.mpr ⟨h1 c (by simp), (liveS_iff ht).mpr ⟨w, _, h1, ?_, h3⟩⟩, trivial⟩
      have e : b ++ c :: y = (b ++ [c]) ++ y := by simp
      rw [e]
      exact pre_app _ _
  · rintro (⟨h1, w, h2⟩ | ⟨c, hc, _⟩)
    · exact ⟨w, b, h1, pre_self b, h2⟩
    · obtain ⟨w, x, h1, h2, h3⟩ := (liveS_iff ht).mp (nextsS_mem.mp hc).2
      exact ⟨w, x, h1, pre_trans (pre_app b [c]) h2, h3⟩
theorem sort_ones {x y : List Nat} (h : x.Perm y) (hx : x.length ≤ LIM) : sortD (x.map fun c => D.str [c]) = sortD (y.map fun c => D.str [c]) := by
  have p : (x.map fun c => [c]).Perm (y.map fun c => [c]) := h.map _
  have e : ∀ l : List Nat, (l.map fun c => D.str [c]) = (l.map fun c => [c]).map D.str := fun l => by rw [List.map_map]; rfl
  rw [e, e, sortD_txt _ (by rw [List.length_map]; exact hx), sortD_txt _ (by rw [List.length_map, ← h.length_eq]; exact hx), sortS_perm p]
theorem sorted_str (x : List Nat) : biD .sorted (.str x) = sortD (x.map fun c => D.str [c]) := Eq.trans rfl rfl
theorem depL_ones : ∀ l : List Nat, depL (l.map fun c => D.str [c]) = 0
  | [] => rfl
  | c :: l => by
    show max 0 (depL (l.map fun c => D.str [c])) = 0
    rw [depL_ones l]; rfl
theorem ne_ss {a b : Say} (h : a = b) : neD (sD a) (sD b) = .ok (.bl false) := by rw [h]; exact ne_sSelf b
theorem dep_sD (a : Say) : dep (sD a) = 1 := by cases a <;> rfl
theorem depL_sDs : ∀ l : List Say, depL (l.map sD) ≤ 1
  | [] => Nat.zero_le _
  | a :: l => by
    show max (dep (sD a)) (depL (l.map sD)) ≤ 1
    rw [dep_sD]
    exact Nat.max_le.mpr ⟨Nat.le_refl _, depL_sDs l⟩
theorem ne_says (l : List Say) : neD (.tup (l.map sD)) (.tup (l.map sD)) = .ok (.bl false) := ne_self _ (by
  show depL (l.map sD) + 1 ≤ 60
  have := depL_sDs l
  omega)
theorem ne_bl (b : Bool) : neD (.bl b) (.bl b) = .ok (.bl false) := ne_self _ (Nat.zero_le _)
theorem sortD_self (x : List Nat) (h : x.length ≤ LIM) : ∃ d, sortD (x.map fun c => D.str [c]) = .ok d ∧ neD d d = .ok (.bl false) := by
  have e : (x.map fun c => D.str [c]) = (x.map fun c => [c]).map D.str := by rw [List.map_map]; rfl
  refine ⟨_, by rw [e, sortD_txt _ (by rw [List.length_map]; exact h)], ?_⟩
  rw [sortT_map]
  exact ne_strsL _
theorem GTab.tb {t : List Ru} (g : GTab t) (hl : t.length ≤ 1000) : Tb t := ⟨fun r hr => by
  have h := g.ru r hr
  exact ⟨h.digs, by have := h.len; omega, h.s0, by have := h.s12; omega⟩, g.pw, by omega⟩
theorem Tb.small {t : List Ru} (h : Tb t) : Small t := fun r hr => by
  have := (h.ru r hr).2.1
  unfold LIM; omega
end Ev

/-! M17: law k17. -/
namespace Ev
/-- a loop that returns, whatever comes -/
theorem loop_must {α : Type} {f : D → Env → R Out} (enc : α → D) (I : Nat → Env → Prop) (d : D) : ∀ (xs pre : List α) (ρ : Env), I pre.length ρ →
    (∀ i a ρ, (pre ++ xs)[i]? = some a → I i ρ → f (enc a) ρ = .ok (.rt d) ∨ ∃ ρ', (f (enc a) ρ = .ok (.nx ρ') ∨ f (enc a) ρ = .ok (.ct ρ')) ∧ I (i + 1) ρ') →
    (∀ ρ, I (pre ++ xs).length ρ → False) → loopD f (xs.map enc) ρ = .ok (.rt d)
  | [], pre, ρ, h, _, hn => (hn ρ (by rw [List.append_nil]; exact h)).elim
  | x :: xs, pre, ρ, h, hs, hn => by
    rcases hs pre.length x ρ (by simp) h with h1 | ⟨ρ', h2, h3⟩
    · rw [List.map_cons, loopD, h1]; rfl
    · have e : pre ++ x :: xs = (pre ++ [x]) ++ xs := by simp
      rw [e] at hs hn
      have ih := loop_must enc I d xs (pre ++ [x]) ρ' (by rw [List.length_append, List.length_singleton]; exact h3) hs hn
      rw [List.map_cons, loopD]
      rcases h2 with h2 | h2 <;> (rw [h2]; exact ih)
theorem uniq_self {ts : List (List Nat)} (h : ts.Pairwise fun a b => a < b) : uniq ts = ts :=
  srtT_ext (uniq_srt ts) h fun x => uniq_mem
theorem ones_pw {x : List Nat} (h : x.Pairwise (· < ·)) : (x.map fun c => [c]).Pairwise fun a b => a < b :=
  List.pairwise_map.mpr (h.imp fun {a b} h => List.cons_lt_cons_iff.mpr (.inl h))
theorem ones_str (x : List Nat) : (x.map fun c => D.str [c]) = (x.map fun c => [c]).map D.str := by rw [List.map_map]; rfl
/-- sorted(set(text)) of a text whose signs rise -/
theorem srtset_ones {x : List Nat} (h : x.Pairwise (· < ·)) (hl : x.length ≤ 4000) : biD .srtset (.str x) = .ok (.lst (x.map fun c => D.str [c])) := by
  show (if x.length ≤ 4000 then sortD (firsts (x.map fun c => D.str [c])) else .no) = _
  rw [if_pos hl, ones_str, firsts_txt, sortD_txt, sortT_map]
  · have : sortT (firstT (x.map fun c => [c])) = x.map fun c => [c] := uniq_self (ones_pw h)
    rw [this]
  · have := firstT_len (x.map fun c => [c])
    rw [List.length_map] at this
    unfold LIM; omega
theorem list_str (x : List Nat) (h : x.length ≤ LIM) : biD .list (.str x) = .ok (.lst (x.map fun c => D.str [c])) := if_pos h
theorem in_str (c : Nat) (x : List Nat) : inD (.str [c]) (.str x) = .ok (x.contains c) := Eq.trans rfl rfl
theorem nextsS_pw (t : List Ru) (b : List Nat) : (nextsS t b).Pairwise (· < ·) := by
  have : figs.Pairwise (· < ·) := by decide
  exact this.sublist List.filter_sublist
theorem ne_ones (x : List Nat) : neD (.lst (x.map fun c => D.str [c])) (.lst (x.map fun c => D.str [c])) = .ok (.bl false) := by
  rw [ones_str]; exact ne_strsL _
theorem nextsS_dead {t : List Ru} (ht : Tb t) {b : List Nat} (h : liveS t b = false) : nextsS t b = [] := by
  cases hn : nextsS t b with
  | nil => rfl
  | cons c l =>
    have := (live_goes ht (b := b)).mpr (.inr ⟨c, by rw [hn]; exact List.mem_cons_self, trivial⟩)
    rw [h] at this; cases this
theorem live_len {t : List Ru} (ht : Tb t) {m : Nat} (hs : ∀ r ∈ t, r.s ≤ m) {b : List Nat} (h : liveS t b = true) : b.length ≤ m := by
  obtain ⟨w, x, h1, h2, h3⟩ := (liveS_iff ht).mp h
  obtain ⟨r, h4, h5, h6, h7⟩ := says_good.mp h3
  have := hs r (ruleFor_mem h4)
  have := pre_len h2
  omega
theorem contains_next {t : List Ru} {b : List Nat} {c : Nat} (hc : c ∈ figs) : (nextsS t b).contains c = liveS t (b ++ [c]) := by
  rw [Bool.eq_iff_iff, List.contains_iff_mem, nextsS_mem]
  exact ⟨fun h => h.2, fun h => ⟨figs_mem.mp hc, h⟩⟩
theorem isB_eval (T : Tbl) (ρ : Env) (x : E) (b c : Bool) (h : eval x T ρ = .ok (.bl b)) : eval (.isB x c) T ρ = .ok (.bl (b == c)) := by
  rw [eval_isB, h]; rfl
theorem law17_step {P : Prog} (hX : H_nexts P) (hL : H_live P) (hS : H_says P) (hd : H_drawn P) {k : Nat} (hk : 7 ≤ k) {t : List Ru} (tb : Tb t) (hs : ∀ r ∈ t, r.s ≤ 12) (z1 : Int) (a : Nat) (b : List Nat) (hb : Digs b) (hbl : b.length ≤ 12) (hlv : b = [] ∨ liveS t b = true) (s0 u5 u6 u7 : Sl) :
    execs b_law_k17_1 (tbl P k) [s0, .sh (tD t), .sh (.int z1), .sh (.str b), .sh (.int (a : Int)), u5, u6, u7] = .ok (.rt (.bl true)) ∨
    ∃ c v5 v6 v7, execs b_law_k17_1 (tbl P k) [s0, .sh (tD t), .sh (.int z1), .sh (.str b), .sh (.int (a : Int)), u5, u6, u7] = .ok (.nx [s0, .sh (tD t), .sh (.int z1), .sh (.str (b ++ [c])), .sh (.int (a : Int)), v5, v6, v7]) ∧ (48 ≤ c ∧ c ≤ 57) ∧ liveS t (b ++ [c]) = true := by
  obtain ⟨s, hsx⟩ : ∃ s, s = nextsS t b := ⟨_, rfl⟩
  have sl10 : s.length ≤ 10 := hsx ▸ nextsS_len t b
  have sl : s.length ≤ LIM := Nat.le_trans sl10 (by decide)
  have n1 := run_nexts hX (show 5 ≤ k by omega) tb hb (by omega)
  rw [← hsx] at n1
  have pw : s.Pairwise (· < ·) := hsx ▸ nextsS_pw t b
  have ss := srtset_ones pw (by omega)
  have ls := list_str s sl
  have bl1 : b.length + 1 ≤ LIM := by unfold LIM; omega
  have lf : itD (.str [48, 49, 50, 51, 52, 53, 54, 55, 56, 57]) = .ok (figs.map fun c => D.str [c]) := Eq.trans rfl rfl
  have inner := loop_any (f := fun d ρ1 => execs b_law_k17_0 (tbl P k) (ρ1.set 6 (.sh d))) (fun c : Nat => D.str [c])
    (fun i ρ => ∃ u6 u7, ρ = [s0, .sh (tD t), .sh (.int z1), .sh (.str b), .sh (.int (a : Int)), .sh (.str s), u6, u7]) figs
    [s0, .sh (tD t), .sh (.int z1), .sh (.str b), .sh (.int (a : Int)), .sh (.str s), u6, u7] ⟨_, _, rfl⟩ ?_
  · obtain ⟨ρ', h3, u6', u7', rfl⟩ := inner
    have l1 := run_live hL (show 4 ≤ k by omega) tb hb (by omega)
    have l0 := run_live hL (show 4 ≤ k by omega) tb (b := []) (by intro c hc; cases hc) (by decide)
    have sy := run_says hS (show 2 ≤ k by omega) tb.small (x := b) (by unfold LIM; omega)
    have goes := live_goes tb (b := b)
    by_cases hn : s = []
    · left
      have nog : ¬ ∃ c ∈ nextsS t b, True := by
        rintro ⟨c, hc, -⟩
        rw [← hsx, hn] at hc; cases hc
      by_cases hbn : b = []
      · have dead : liveS t [] = false := by
          cases h : liveS t [] with
          | false => rfl
          | true =>
            rw [hbn] at goes nog
            rcases goes.mp h with ⟨_, w, hw⟩ | h
            · obtain ⟨r, h4, h5, h6, h7⟩ := says_good.mp hw
              exact absurd (by simpa using h6) h5
            · exact absurd h nog
        rw [dead] at l0
        rw [hn] at n1 ss ls h3
        rw [hbn] at n1 h3 ⊢
        simp [b_law_k17_1, tbl_run, n1, ss, ls, lf, -itD_str]
        rw [neD_of (by decide)]
        simp [eqv, eqvL, h3, l0, tbl_run]
      · have lv := hlv.resolve_left hbn
        rw [lv] at l1
        obtain ⟨w, hw⟩ : ∃ w, says t b = .good w := by
          rcases goes.mp lv with ⟨_, w, hw⟩ | h
          · exact ⟨w, hw⟩
          · exact absurd h nog
        rw [hw] at sy
        rw [hn] at n1 ss ls h3
        simp [b_law_k17_1, tbl_run, n1, ss, ls, lf, -itD_str]
        rw [neD_of (by decide)]
        simp [eqv, eqvL, h3, hbn, l1, sy, tbl_run, sD, cGood]
    · right
      have pos : 0 < s.length := List.length_pos_iff.mpr hn
      obtain ⟨y, hy, -⟩ := run_drawn hd (show 1 ≤ k by omega) z1 a
      have i0 := Int.emod_nonneg (y / 16) (b := (s.length : Int)) (by omega)
      have i1 := Int.emod_lt_of_pos (y / 16) (b := (s.length : Int)) (by omega)
      obtain ⟨c, hc, hat⟩ := at_any s (y / 16 % (s.length : Int)) i0 i1
      obtain ⟨hcf, hcl⟩ := nextsS_mem.mp (hsx ▸ hc)
      have lv : liveS t b = true := goes.mpr (.inr ⟨c, hsx ▸ hc, trivial⟩)
      rw [lv] at l1
      refine ⟨c, .sh (.str s), u6', u7', ?_, hcf, hcl⟩
      simp [b_law_k17_1, tbl_run, n1, ss, ls, lf, -itD_str, ne_ones]
      rw [h3]
      simp [hn, tbl_run, l1, hy, sl, pos, hat, bl1]
  · rintro i c ρ hc ⟨u6', u7', rfl⟩
    have hcf := List.mem_of_getElem? hc
    have dg : Digs (b ++ [c]) := hb.app fun d hd => by rw [List.mem_singleton.mp hd]; exact figs_mem.mp hcf
    have l1 := run_live hL (show 4 ≤ k by omega) tb dg (by rw [List.length_append, List.length_singleton]; omega)
    have n2 := run_nexts hX (show 5 ≤ k by omega) tb dg (by rw [List.length_append, List.length_singleton]; omega)
    have ct := contains_next (t := t) (b := b) hcf
    rw [← hsx] at ct
    refine ⟨_, .inl ?_, .sh (.str [c]), .sh (.str (b ++ [c])), rfl⟩
    cases hl : liveS t (b ++ [c]) with
    | true =>
      rw [hl] at l1 ct
      have cm : c ∈ s := by simpa using ct
      simp [b_law_k17_0, tbl_run, bl1, l1, in_str, cm, ne_bl]
    | false =>
      rw [hl] at l1 ct
      rw [nextsS_dead tb hl] at n2
      have cm : c ∉ s := by simpa using ct
      simp [b_law_k17_0, tbl_run, bl1, l1, in_str, cm, ne_bl, n2]
theorem run_law17 {P : Prog} (hP : H_law_k17 P) {n : Nat} (hn : 8 ≤ n) (ns : List Int) : run P n 58 [scr ns] = .ok (.bl true) := by
  obtain ⟨h0, hT, hM, hX, hL, hS, hd⟩ := hP
  obtain ⟨k, hk, e⟩ := run_ex [scr ns] (show 7 + 1 ≤ n from hn) h0
  rw [e]
  obtain ⟨z0, hz0, -⟩ := run_mixed hM (show 2 ≤ k by omega) ns 0
  obtain ⟨z1, hz1, -⟩ := run_mixed hM (show 2 ≤ k by omega) ns 1
  have hz0 : run P k 6 [scr ns, .int 0] = .ok (.int z0) := hz0
  have hz1 : run P k 6 [scr ns, .int 1] = .ok (.int z1) := hz1
  obtain ⟨t, ht, hg, hl⟩ := run_table hT (show 4 ≤ k by omega) z0 8 (by decide) (by decide)
  have tb := hg.tb (by omega)
  have hs12 : ∀ r ∈ t, r.s ≤ 12 := fun r hr => (hg.ru r hr).s12
  have key := loop_must (f := fun d ρ1 => execs b_law_k17_1 (tbl P k) (ρ1.set 4 (.sh d))) (fun (m : Nat) => D.int (m : Int))
    (fun i ρ => ∃ b u4 u5 u6 u7, ρ = [.sh (scr ns), .sh (tD t), .sh (.int z1), .sh (.str b), u4, u5, u6, u7] ∧ Digs b ∧ b.length = i ∧ (b = [] ∨ liveS t b = true)) (.bl true) (List.range 14) []
    [.sh (scr ns), .sh (tD t), .sh (.int z1), .sh (.str []), .un, .un, .un, .un] ⟨[], _, _, _, _, rfl, (by intro c hc; cases hc), rfl, .inl rfl⟩ ?_ ?_
  · have rng14 : rngD 0 14 = .ok ((List.range 14).map fun (k : Nat) => .int (k : Int)) := rng_nat 14 (by decide)
    simp [runFn, t_law_k17, tbl_run, hz0, hz1, ht, rng14, key]
  · rintro i a ρ ha ⟨b, u4, u5, u6, u7, rfl, hb, hbl, hlv⟩
    obtain ⟨hi, rfl⟩ := range_at (show (List.range 14)[i]? = some a from ha)
    have hb12 : b.length ≤ 12 := by
      rcases hlv with z | z
      · rw [z]; decide
      · exact live_len (m := 12) tb hs12 z
    rcases law17_step hX hL hS hd (show 7 ≤ k by omega) tb hs12 z1 a b hb hb12 hlv (.sh (scr ns)) u5 u6 u7 with h | ⟨c, v5, v6, v7, h, hc, hcl⟩
    · exact .inl h
    · exact .inr ⟨_, .inl h, b ++ [c], _, _, _, _, rfl, hb.app fun d hd => by rw [List.mem_singleton.mp hd]; exact hc, by rw [List.length_append, List.length_singleton]; omega, .inr hcl⟩
  · rintro ρ ⟨b, u4, u5, u6, u7, rfl, hb, hbl, hlv⟩
    have hbl : b.length = 14 := hbl
    rcases hlv with z | z
    · rw [z] at hbl; cases hbl
    · have := live_len (m := 12) tb hs12 z
      omega
end Ev

/-! MK1: what is a number, a word, a rule, of any thing. -/
namespace Ev
def digB (c : Nat) : Bool := decide (48 ≤ c) && decide (c ≤ 57)
def lowB (c : Nat) : Bool := decide (97 ≤ c) && decide (c ≤ 122)
def figT (lo hi : Nat) : D → Bool
  | .str x => decide (lo ≤ x.length) && decide (x.length ≤ hi) && x.all digB
  | _ => false
def wordT : D → Bool
  | .str x => decide (1 ≤ x.length) && decide (x.length ≤ 4) && x.all lowB
  | _ => false
theorem in_figs (c : Nat) : [48, 49, 50, 51, 52, 53, 54, 55, 56, 57].contains c = digB c := by
  unfold digB
  refine Bool.eq_iff_iff.mpr ?_
  rw [List.contains_iff_mem, Bool.and_eq_true, decide_eq_true_eq, decide_eq_true_eq]
  simp only [List.mem_cons, List.not_mem_nil, or_false]
  omega
theorem in_lows (c : Nat) : [97, 98, 99, 100, 101, 102, 103, 104, 105, 106, 107, 108, 109, 110, 111, 112, 113, 114, 115, 116, 117, 118, 119, 120, 121, 122].contains c = lowB c := by
  unfold lowB
  refine Bool.eq_iff_iff.mpr ?_
  rw [List.contains_iff_mem, Bool.and_eq_true, decide_eq_true_eq, decide_eq_true_eq]
  simp only [List.mem_cons, List.not_mem_nil, or_false]
  omega
theorem in_strc (c : Nat) (x : List Nat) : inD (.str [c]) (.str x) = .ok (x.contains c) := Eq.trans rfl rfl
theorem run_are_figures {P : Prog} (hP : H_are_figures P) {n : Nat} (hn : 1 ≤ n) (d : D) (hd : ∀ x, d = .str x → x.length ≤ LIM) (lo hi : Nat) : run P n 0 [d, .int (lo : Int), .int (hi : Int)] = .ok (.bl (figT lo hi d)) := by
  refine run_of hn hP fun k hk => ?_
  cases d with
  | str x =>
    have xl := hd x rfl
    have ia : isiD .str (.str x) = true := rfl
    have itx : itD (.str x) = .ok (x.map fun c => D.str [c]) := Eq.trans rfl rfl
    have ab := all_bls digB x
    simp [runFn, t_are_figures, ia, xl]
    rw [mapF_of (fun c => D.str [c]) (fun c => some (.bl (digB c))) x fun c hc => by rw [in_strc, in_figs]; rfl]
    have ef : (x.filterMap fun c => some (D.bl (digB c))) = x.map fun c => D.bl (digB c) := by rw [List.filterMap_eq_map']
    rw [ef]
    obtain ⟨B, hB⟩ : ∃ B, x.all digB = B := ⟨_, rfl⟩
    have ft : figT lo hi (.str x) = (decide (lo ≤ x.length) && decide (x.length ≤ hi) && B) := by rw [← hB]; rfl
    rw [hB] at ab
    rw [ft]
    by_cases h1 : lo ≤ x.length
    · by_cases h2 : x.length ≤ hi
      · cases B <;> simp [h1, h2, ab]
      · simp [h1, h2]
    · simp [h1]
  | _ => simp [runFn, t_are_figures, isiD, figT]
theorem run_is_number {P : Prog} (hP : H_is_number P) {n : Nat} (hn : 2 ≤ n) (d : D) (hd : ∀ x, d = .str x → x.length ≤ LIM) : run P n 1 [d] = .ok (.bl (figT 1 12 d)) := by
  obtain ⟨h0, h1⟩ := hP
  obtain ⟨k, hk, e⟩ := run_ex [d] hn h0
  rw [e]
  have q := run_are_figures h1 (show 1 ≤ k by omega) d hd 1 12
  have q : run P k 0 [d, .int 1, .int 12] = .ok (.bl (figT 1 12 d)) := q
  simp [runFn, t_is_number, tbl_run, q]
theorem run_is_word {P : Prog} (hP : H_is_word P) {n : Nat} (hn : 1 ≤ n) (d : D) (hd : ∀ x, d = .str x → x.length ≤ LIM) : run P n 2 [d] = .ok (.bl (wordT d)) := by
  refine run_of hn hP fun k hk => ?_
  cases d with
  | str x =>
    have xl := hd x rfl
    have ia : isiD .str (.str x) = true := rfl
    have ab := all_bls lowB x
    have c1 : (1 : Int) ≤ (x.length : Int) ↔ 1 ≤ x.length := by omega
    have c2 : (x.length : Int) ≤ 4 ↔ x.length ≤ 4 := by omega
    simp [runFn, t_is_word, ia, xl]
    rw [mapF_of (fun c => D.str [c]) (fun c => some (.bl (lowB c))) x fun c hc => by rw [in_strc, in_lows]; rfl]
    have ef : (x.filterMap fun c => some (D.bl (lowB c))) = x.map fun c => D.bl (lowB c) := by rw [List.filterMap_eq_map']
    rw [ef]
    obtain ⟨B, hB⟩ : ∃ B, x.all lowB = B := ⟨_, rfl⟩
    have ft : wordT (.str x) = (decide (1 ≤ x.length) && decide (x.length ≤ 4) && B) := by rw [← hB]; rfl
    rw [hB] at ab
    rw [ft]
    by_cases h1 : 1 ≤ x.length
    · have h1' := c1.mpr h1
      by_cases h2 : x.length ≤ 4
      · have h2' := c2.mpr h2
        cases B <;> simp [h1, h2, h1', h2', ab]
      · have h2' : ¬ (x.length : Int) ≤ 4 := by omega
        simp [h1, h2, h1', h2']
    · have h1' : ¬ (1 : Int) ≤ (x.length : Int) := by omega
      simp [h1, h1']
  | _ => simp [runFn, t_is_word, isiD, wordT]
theorem chain_sign (a b c : Nat) : (decide ([a] ≤ [c]) && decide ([c] ≤ [b])) = (decide (a ≤ c) && decide (c ≤ b)) := by
  have one : ∀ x y : Nat, ([x] ≤ [y]) ↔ x ≤ y := fun x y => by
    rw [← List.not_lt, ← Nat.not_lt, List.cons_lt_cons_iff]
    simp
  rw [decide_eq_decide.mpr (one a c), decide_eq_decide.mpr (one c b)]
theorem le_str (x y : List Nat) : leR (.str x) (.str y) = .ok (.bl (decide (x ≤ y))) := by
  rw [← leStr]; exact Eq.trans rfl rfl
theorem eq_nilL (xs : List D) : eqD (.lst xs) (.lst []) = .ok (.bl xs.isEmpty) := by
  rw [eqD_of' (by decide)]
  cases xs <;> rfl
theorem none_fails (p : Nat → Bool) (x : List Nat) : (x.filterMap fun c => if p c = true then none else some (D.str [c])).isEmpty = x.all p := by
  induction x with
  | nil => rfl
  | cons c x ih =>
    rw [List.filterMap_cons, List.all_cons]
    cases h : p c with
    | true => simpa using ih
    | false => rfl
theorem run_are_figures1 {P : Prog} (hP : H_are_figures1 P) {n : Nat} (hn : 1 ≤ n) (d : D) (hd : ∀ x, d = .str x → x.length ≤ LIM) (lo hi : Nat) : run P n 13 [d, .int (lo : Int), .int (hi : Int)] = .ok (.bl (figT lo hi d)) := by
  refine run_of hn hP fun k hk => ?_
  cases d with
  | str x =>
    have xl := hd x rfl
    have ia : isiD .str (.str x) = true := rfl
    have fe := none_fails digB x
    have e0 := eq_nilL ((x.filterMap fun c => if digB c = true then none else some (D.str [c])))
    rw [fe] at e0
    obtain ⟨B, hB⟩ : ∃ B, x.all digB = B := ⟨_, rfl⟩
    have ft : figT lo hi (.str x) = (decide (lo ≤ x.length) && decide (x.length ≤ hi) && B) := by rw [← hB]; rfl
    rw [hB] at e0
    rw [ft]
    have mp : ∀ f : D → R (Option D), (∀ c ∈ x, f (.str [c]) = .ok (if digB c = true then none else some (.str [c]))) → mapF f (x.map fun c => D.str [c]) = .ok (x.filterMap fun c => if digB c = true then none else some (D.str [c])) := fun f hf => mapF_of (fun c => D.str [c]) _ x hf
    simp [runFn, t_are_figures1, ia, xl]
    by_cases h1 : lo ≤ x.length
    · by_cases h2 : x.length ≤ hi
      · simp [h1, h2]
        rw [mp _ fun c hc => by
          have cs := chain_sign 48 57 c
          cases h3 : decide ([48] ≤ [c]) with
          | false =>
            rw [h3] at cs
            have : digB c = false := cs.symm
            simp [le_str, h3, this]
          | true =>
            rw [h3, Bool.true_and] at cs
            have : digB c = decide ([c] ≤ [57]) := cs.symm
            cases h4 : decide ([c] ≤ [57]) <;> rw [h4] at this <;> simp [le_str, h3, h4, this]]
        simp [e0, xl]
      · simp [h1, h2]
    · simp [h1]
  | _ => simp [runFn, t_are_figures1, isiD, figT]
end Ev

/-! MK2: what is a rule, a table. -/
namespace Ev
def ruleT : D → Bool
  | .tup [.str p, .int i, .str w] => figT 0 12 (.str p) && (if i = 0 then decide (w = []) else (decide (((max 1 p.length : Nat) : Int) ≤ i) && decide (i ≤ 12) && wordT (.str w)))
  | _ => false
def TxtOk (d : D) : Prop := ∀ x, d = .str x → x.length ≤ LIM
theorem ruleT_len {xs : List D} (h : xs.length ≠ 3) : ruleT (.tup xs) = false := by
  unfold ruleT
  split
  · rename_i e
    injection e with e
    subst e
    exact absurd rfl h
  · rfl
theorem run_is_rule {P : Prog} (hP : H_is_rule P) {n : Nat} (hn : 2 ≤ n) (d : D) (hd : ∀ xs, d = .tup xs → ∀ x ∈ xs, TxtOk x) : run P n 3 [d] = .ok (.bl (ruleT d)) := by
  obtain ⟨h0, hF, hW⟩ := hP
  obtain ⟨k, hk, e⟩ := run_ex [d] hn h0
  rw [e]
  cases d with
  | tup xs =>
    have ia : isiD .tuple (.tup xs) = true := rfl
    by_cases h3 : xs.length = 3
    · obtain ⟨p, s, w, rfl⟩ : ∃ p s w, xs = [p, s, w] := by
        match xs, h3 with
        | [p, s, w], _ => exact ⟨p, s, w, rfl⟩
      have hp0 := hd _ rfl p (by simp)
      have hw0 := hd _ rfl w (by simp)
      have f := run_are_figures hF (show 1 ≤ k by omega) p hp0 0 12
      have f : run P k 0 [p, .int 0, .int 12] = .ok (.bl (figT 0 12 p)) := f
      have x0 : ixD (.tup [p, s, w]) (.int 0) = .ok p := Eq.trans rfl rfl
      have x1 : ixD (.tup [p, s, w]) (.int 1) = .ok s := Eq.trans rfl rfl
      have x2 : ixD (.tup [p, s, w]) (.int 2) = .ok w := Eq.trans rfl rfl
      have l3 : biD .len (.tup [p, s, w]) = .ok (.int 3) := Eq.trans rfl rfl
      have n3 : neD (.int 3) (.int 3) = .ok (.bl false) := rfl
      cases hp : figT 0 12 p with
      | false =>
        have : ruleT (.tup [p, s, w]) = false := by
          unfold ruleT
          split
          · rename_i e
            injection e with e
            injection e with e1 e2
            rw [e1] at hp; rw [hp]; rfl
          · rfl
        rw [this]
        rw [hp] at f
        simp [runFn, t_is_rule, tbl_run, ia, x0, l3, n3, f]
      | true =>
        obtain ⟨x, rfl⟩ : ∃ x, p = .str x := by cases p <;> first | exact ⟨_, rfl⟩ | cases hp
        rw [hp] at f
        have xl := hp0 x rfl
        cases s with
        | int i =>
          have i1 : isiD .int (.int i) = true := rfl
          have i2 : isiD .bool (.int i) = false := rfl
          cases w with
          | str y =>
            have i3 : isiD .str (.str y) = true := rfl
            have g := run_is_word hW (show 1 ≤ k by omega) (.str y) hw0
            have rt : ruleT (.tup [.str x, .int i, .str y]) = (if i = 0 then decide (y = []) else (decide (((max 1 x.length : Nat) : Int) ≤ i) && decide (i ≤ 12) && wordT (.str y))) := by
              show (figT 0 12 (.str x) && _) = _
              rw [hp, Bool.true_and]
            rw [rt]
            have ey : eqD (.str y) (.str []) = .ok (.bl (decide (y = []))) := by
              show R.ok (D.bl (y == [])) = _
              cases y <;> rfl
            obtain ⟨Z, hZ⟩ : ∃ Z, wordT (.str y) = Z := ⟨_, rfl⟩
            rw [hZ] at g ⊢
            by_cases hi : i = 0
            · rw [if_pos hi]
              subst hi
              simp [runFn, t_is_rule, tbl_run, ia, x0, x1, x2, l3, n3, f, i1, i2, i3, ey]
            · rw [if_neg hi]
              have mx : (if (1 : Int) < (x.length : Int) then (x.length : Int) else 1) = ((max 1 x.length : Nat) : Int) := by split <;> omega
              obtain ⟨M, hM⟩ : ∃ M : Int, ((max 1 x.length : Nat) : Int) = M := ⟨_, rfl⟩
              rw [hM] at mx ⊢
              by_cases h4 : M ≤ i
              · by_cases h5 : i ≤ 12
                · cases Z <;> simp [runFn, t_is_rule, tbl_run, ia, x0, x1, x2, l3, n3, f, i1, i2, i3, hi, xl, mx, h4, h5, g]
                · simp [runFn, t_is_rule, tbl_run, ia, x0, x1, x2, l3, n3, f, i1, i2, i3, hi, xl, mx, h4, h5]
              · simp [runFn, t_is_rule, tbl_run, ia, x0, x1, x2, l3, n3, f, i1, i2, i3, hi, xl, mx, h4]
          | _ => simp [runFn, t_is_rule, tbl_run, ia, x0, x1, x2, l3, n3, f, i1, i2, isiD, ruleT]
        | _ => simp [runFn, t_is_rule, tbl_run, ia, x0, x1, x2, l3, n3, f, isiD, ruleT]
    · rw [ruleT_len h3]
      have n3 : neD (.int (xs.length : Int)) (.int 3) = .ok (.bl true) := by
        show R.ok (D.bl (!((xs.length : Int) == 3))) = _
        rw [show ((xs.length : Int) == 3) = false from beq_eq_false_iff_ne.mpr (by omega)]; rfl
      simp [runFn, t_is_rule, ia, n3]
  | _ => simp [runFn, t_is_rule, isiD, ruleT]
/-! ### tables -/
def keyN : D → List Nat
  | .tup (.str x :: _) => x
  | _ => []
def tabT : D → Bool
  | .tup xs => decide (xs.length ≤ 30) && xs.all ruleT && decide ((xs.map keyN).Pairwise fun a b => a < b)
  | _ => false
theorem rule_key {d : D} (h : ruleT d = true) : ixD d (.int 0) = .ok (.str (keyN d)) := by
  unfold ruleT at h
  split at h
  · rfl
  · cases h
/-- rising, neighbour by neighbour -/
theorem rising : ∀ ks : List (List Nat), ((ks.dropLast).zip (ks.drop 1)).all (fun p => decide (p.1 < p.2)) = decide (ks.Pairwise fun a b => a < b)
  | [] => rfl
  | [a] => by simp
  | a :: b :: t => by
    have ih := rising (b :: t)
    rw [List.dropLast_cons₂, show (a :: b :: t).drop 1 = b :: t from rfl, List.zip_cons_cons, List.all_cons]
    rw [show (b :: t).drop 1 = t from rfl] at ih
    show (decide (a < b) && _) = _
    rw [ih, ← Bool.decide_and]
    refine decide_eq_decide.mpr ⟨fun ⟨h1, h2⟩ => ?_, fun h => ?_⟩
    · refine List.pairwise_cons.mpr ⟨fun c hc => ?_, h2⟩
      rcases List.mem_cons.mp hc with z | z
      · rw [z]; exact h1
      · exact List.lt_trans h1 ((List.pairwise_cons.mp h2).1 c z)
    · exact ⟨(List.pairwise_cons.mp h).1 b List.mem_cons_self, (List.pairwise_cons.mp h).2⟩
theorem zipL_map {α : Type} (g : α → D) : ∀ xs ys : List α, zipL (xs.map g) (ys.map g) = (xs.zip ys).map fun p => .tup [g p.1, g p.2]
  | [], _ => by cases ‹List α› <;> rfl
  | _ :: _, [] => rfl
  | x :: xs, y :: ys => by
    rw [List.map_cons, List.map_cons, zipL, zipL_map g xs ys, List.zip_cons_cons, List.map_cons]
theorem cut_last {α : Type} (xs : List α) : cut xs none (some (-1)) = xs.dropLast := by
  unfold cut sIx
  simp
  rw [List.dropLast_eq_take]
  congr 1
  omega
theorem lt_strk (x y : List Nat) : ltR (.str x) (.str y) = .ok (.bl (decide (x < y))) := Eq.trans rfl rfl
theorem run_is_table {P : Prog} (hP : H_is_table P) {n : Nat} (hn : 3 ≤ n) (d : D) (hd : ∀ xs, d = .tup xs → xs.length ≤ 4000 ∧ ∀ x ∈ xs, ∀ ys, x = .tup ys → ∀ y ∈ ys, TxtOk y) : run P n 4 [d] = .ok (.bl (tabT d)) := by
  obtain ⟨h0, hR⟩ := hP
  obtain ⟨k, hk, e⟩ := run_ex [d] hn h0
  rw [e]
  cases d with
  | tup xs =>
    obtain ⟨hl, hx⟩ := hd xs rfl
    have ia : isiD .tuple (.tup xs) = true := rfl
    have ll : xs.length ≤ LIM := by unfold LIM; omega
    have g30 : gtR (.int (xs.length : Int)) (.int 30) = .ok (.bl (!decide (xs.length ≤ 30))) := by
      show R.ok (D.bl (decide ((30 : Int) < (xs.length : Int)))) = _
      congr 2
      by_cases h : xs.length ≤ 30
      · rw [decide_eq_true h, decide_eq_false (by omega)]; rfl
      · rw [decide_eq_false h, decide_eq_true (by omega)]; rfl
    have mp : mapF (fun d => (run P k 3 [d]).bind fun y => R.ok (some y)) xs = .ok (xs.map fun x => D.bl (ruleT x)) := by
      have := mapF_of (f := fun d => (run P k 3 [d]).bind fun y => R.ok (some y)) (fun x : D => x) (fun x => some (.bl (ruleT x))) xs fun x hm => by
        rw [run_is_rule hR (show 2 ≤ k by omega) x fun ys e => hx x hm ys e]; rfl
      rw [List.map_id'] at this
      rw [this, List.filterMap_eq_map']
    have ab := all_bls ruleT xs
    have tt : tabT (.tup xs) = (decide (xs.length ≤ 30) && xs.all ruleT && decide ((xs.map keyN).Pairwise fun a b => a < b)) := rfl
    rw [tt]
    obtain ⟨A, hA⟩ : ∃ A, decide (xs.length ≤ 30) = A := ⟨_, rfl⟩
    rw [hA] at g30 ⊢
    obtain ⟨B, hB⟩ : ∃ B, xs.all ruleT = B := ⟨_, rfl⟩
    rw [hB] at ab ⊢
    cases A with
    | false => simp [runFn, t_is_table, ia, g30]
    | true =>
      cases B with
      | false => simp [runFn, t_is_table, ia, g30, ll, tbl_run, mp, ab]
      | true =>
        have hr : ∀ x ∈ xs, ruleT x = true := List.all_eq_true.mp hB
        have s1 : slD (.tup xs) none (some (-1)) = .ok (.tup xs.dropLast) := by
          show R.ok (D.tup (cut xs none (some (-1)))) = _
          rw [cut_last]
        have s2 : slD (.tup xs) (some 1) none = .ok (.tup (xs.drop 1)) := by
          show R.ok (D.tup (cut xs (some ((1 : Nat) : Int)) none)) = _
          rw [cut_from]
        have zl := zipL_map (fun x : D => x) xs.dropLast (xs.drop 1)
        rw [List.map_id', List.map_id'] at zl
        obtain ⟨DL, hDL⟩ : ∃ DL, xs.dropLast = DL := ⟨_, rfl⟩
        obtain ⟨DR, hDR⟩ : ∃ DR, xs.drop 1 = DR := ⟨_, rfl⟩
        rw [hDL] at s1
        rw [hDR] at s2
        rw [hDL, hDR] at zl
        have ri := rising (xs.map keyN)
        rw [← List.map_dropLast, ← List.map_drop, List.zip_map, List.all_map, hDL, hDR] at ri
        have al2 := all_bls (fun p : D × D => decide (keyN p.1 < keyN p.2)) (DL.zip DR)
        have zlen : (DL.zip DR).length ≤ LIM := by
          rw [List.length_zip, ← hDL, List.length_dropLast]; unfold LIM; omega
        obtain ⟨ZS, hZS⟩ : ∃ ZS, DL.zip DR = ZS := ⟨_, rfl⟩
        have mem : ∀ p ∈ ZS, ruleT p.1 = true ∧ ruleT p.2 = true := fun p hp => by
          rw [← hZS] at hp
          obtain ⟨h1, h2⟩ := List.of_mem_zip hp
          rw [← hDL] at h1
          rw [← hDR] at h2
          exact ⟨hr _ (List.dropLast_subset xs h1), hr _ (List.drop_subset 1 xs h2)⟩
        rw [hZS] at zl al2 zlen ri
        have ri : (ZS.all fun p : D × D => decide (keyN p.1 < keyN p.2)) = decide ((xs.map keyN).Pairwise fun a b => a < b) := ri
        rw [ri] at al2
        obtain ⟨PW, hPW⟩ : ∃ PW, decide ((xs.map keyN).Pairwise fun a b => a < b) = PW := ⟨_, rfl⟩
        rw [hPW] at al2 ⊢
        simp [runFn, t_is_table, ia, g30, ll, tbl_run, mp, ab, s1, s2, zl, zlen]
        rw [mapF_of (fun p : D × D => D.tup [p.1, p.2]) (fun p => some (.bl (decide (keyN p.1 < keyN p.2)))) ZS fun p hp => by
          obtain ⟨r1, r2⟩ := mem p hp
          have st : ∀ ρ : Env, store [1, 2] true (.tup [p.1, p.2]) ρ = setAll ρ [1, 2] [p.1, p.2] := fun ρ => Eq.trans rfl rfl
          simp [st, rule_key r1, rule_key r2, lt_strk]]
        rw [List.filterMap_eq_map']
        simp [al2]
  | _ => simp [runFn, t_is_table, isiD, tabT]
end Ev

/-! M10: the rule, looked for by beginnings, the longest first. -/
namespace Ev
/-- a loop that returns at the first of which something is told -/
theorem loop_some {α : Type} {f : D → Env → R Out} (enc : α → D) (g : α → Option D) (I : Env → Prop) : ∀ (xs : List α) (ρ : Env), I ρ →
    (∀ a ρ, a ∈ xs → I ρ → match g a with
      | some d => f (enc a) ρ = .ok (.rt d)
      | none => ∃ ρ', (f (enc a) ρ = .ok (.nx ρ') ∨ f (enc a) ρ = .ok (.ct ρ')) ∧ I ρ') →
    match xs.findSome? g with
      | some d => loopD f (xs.map enc) ρ = .ok (.rt d)
      | none => ∃ ρ', loopD f (xs.map enc) ρ = .ok (.nx ρ') ∧ I ρ'
  | [], ρ, h, _ => ⟨ρ, rfl, h⟩
  | x :: xs, ρ, h, hs => by
    have h1 := hs x ρ List.mem_cons_self h
    rw [List.findSome?_cons]
    cases hg : g x with
    | some d =>
      rw [hg] at h1
      show loopD f (enc x :: xs.map enc) ρ = _
      rw [loopD, h1]; rfl
    | none =>
      rw [hg] at h1
      obtain ⟨ρ', h2, h3⟩ := h1
      have ih := loop_some enc g I xs ρ' h3 fun a ρ ha => hs a ρ (List.mem_cons_of_mem _ ha)
      have e : loopD f ((x :: xs).map enc) ρ = loopD f (xs.map enc) ρ' := by
        rw [List.map_cons, loopD]
        rcases h2 with h2 | h2 <;> (rw [h2]; rfl)
      rw [e]
      exact ih
theorem findSome_range {α : Type} {g : Nat → Option α} {b : α} : ∀ {n k : Nat}, k < n → g k = some b → (∀ j, j < k → g j = none) → (List.range n).findSome? g = some b
  | 0, k, h, _, _ => absurd h (Nat.not_lt_zero _)
  | n + 1, k, h, hk, hj => by
    rw [List.range_succ, List.findSome?_append]
    rcases Nat.lt_or_ge k n with z | z
    · rw [findSome_range z hk hj]; rfl
    · have e : k = n := by omega
      subst e
      have : (List.range k).findSome? g = none := by
        rw [List.findSome?_eq_none_iff]
        intro j hj'
        exact hj j (List.mem_range.mp hj')
      rw [this]
      simp [hk]
def ruleAt (t : List Ru) (y : List Nat) : Option Ru := t.find? fun r => r.p == y
theorem ruleFor_none {t : List Ru} (nd : (t.map Ru.p).Nodup) {x : List Nat} : ruleFor t x = none ↔ ∀ r ∈ t, r.p.isPrefixOf x = false := by
  constructor
  · intro h r hr
    cases hp : r.p.isPrefixOf x with
    | false => rfl
    | true =>
      exfalso
      -- the longest of those that begin it
      have : ∀ m : Nat, ∀ r ∈ t, r.p.isPrefixOf x = true → x.length - r.p.length ≤ m → False := by
        intro m
        induction m with
        | zero =>
          intro r hr hp hm
          have : ruleFor t x = some r := (ruleFor_iff nd).mpr ⟨hr, hp, fun r' _ hp' => by have := pre_len hp'; have := pre_len hp; omega⟩
          rw [h] at this; cases this
        | succ m ih =>
          intro r hr hp hm
          by_cases hb : ∀ r' ∈ t, r'.p.isPrefixOf x = true → r'.p.length ≤ r.p.length
          · have : ruleFor t x = some r := (ruleFor_iff nd).mpr ⟨hr, hp, hb⟩
            rw [h] at this; cases this
          · simp only [Classical.not_forall] at hb
            obtain ⟨r', hr', hp', hl⟩ := hb
            exact ih r' hr' hp' (by omega)
      exact this _ r hr hp (Nat.le_refl _)
  · intro h
    cases hr : ruleFor t x with
    | none => rfl
    | some r =>
      obtain ⟨h1, h2, _⟩ := (ruleFor_iff nd).mp hr
      rw [h r h1] at h2; cases h2
theorem ruleAt_some {t : List Ru} {y : List Nat} {r : Ru} (h : ruleAt t y = some r) : r ∈ t ∧ r.p = y := by
  unfold ruleAt at h
  exact ⟨List.mem_of_find?_eq_some h, by simpa using List.find?_some h⟩
theorem ruleAt_of {t : List Ru} (nd : (t.map Ru.p).Nodup) {r : Ru} (hr : r ∈ t) : ruleAt t r.p = some r := by
  cases h : ruleAt t r.p with
  | none =>
    unfold ruleAt at h
    have := List.find?_eq_none.mp h r hr
    simp at this
  | some a =>
    obtain ⟨h1, h2⟩ := ruleAt_some h
    rw [nodup_inj nd a h1 r hr h2]
theorem rule_by {t : List Ru} (nd : (t.map Ru.p).Nodup) (x : List Nat) : ((List.range (x.length + 1)).findSome? fun k => ruleAt t (x.take (x.length - k))) = ruleFor t x := by
  cases h : ruleFor t x with
  | none =>
    rw [List.findSome?_eq_none_iff]
    intro k _
    cases ha : ruleAt t (x.take (x.length - k)) with
    | none => rfl
    | some r =>
      obtain ⟨h1, h2⟩ := ruleAt_some ha
      have := (ruleFor_none nd).mp h r h1
      rw [h2] at this
      have h3 : (x.take (x.length - k)).isPrefixOf x = true := pre_iff.mpr (List.take_prefix _ _)
      rw [h3] at this; cases this
  | some r =>
    obtain ⟨h1, h2, h3⟩ := (ruleFor_iff nd).mp h
    have hl := pre_len h2
    refine findSome_range (k := x.length - r.p.length) (by omega) ?_ fun j hj => ?_
    · have e : x.take (x.length - (x.length - r.p.length)) = r.p := by
        rw [show x.length - (x.length - r.p.length) = r.p.length by omega]
        exact (List.prefix_iff_eq_take.mp (pre_iff.mp h2)).symm
      rw [e]
      exact ruleAt_of nd h1
    · cases ha : ruleAt t (x.take (x.length - j)) with
      | none => rfl
      | some r' =>
        obtain ⟨h4, h5⟩ := ruleAt_some ha
        have h6 : r'.p.isPrefixOf x = true := by rw [h5]; exact pre_iff.mpr (List.take_prefix _ _)
        have h7 := h3 r' h4 h6
        rw [h5, List.length_take] at h7
        omega
theorem findSome_map {α β γ : Type} (g : α → Option β) (f : β → γ) (l : List α) : (l.findSome? fun a => (g a).map f) = (l.findSome? g).map f := by
  induction l with
  | nil => rfl
  | cons a l ih =>
    rw [List.findSome?_cons, List.findSome?_cons, ih]
    cases g a <;> rfl
theorem ruleAt_find (y : _root_.List Ru) (z : List Nat) : y.findSome? (fun r => if r.p == z then some (rD r) else none) = (ruleAt y z).map rD := by
  unfold ruleAt
  induction y with
  | nil => rfl
  | cons r t ih =>
    rw [List.findSome?_cons, List.find?_cons]
    cases h : (r.p == z) with
    | true => rfl
    | false =>
      rw [if_neg Bool.false_ne_true]
      exact ih
theorem rngB_down (m : Nat) (h : m ≤ 100000) : rngB (m : Int) (-1) = .ok ((List.range (m + 1)).map fun (k : Nat) => .int ((m : Int) - (k : Int))) := by
  unfold rngB
  rw [if_pos ⟨by unfold MID; omega, by unfold MID; omega, by decide, by decide⟩]
  unfold rngDown
  rw [show ((m : Int) - -1).toNat = m + 1 by omega]
theorem run_rule_for1 {P : Prog} (hP : H_rule_for1 P) {n : Nat} (hn : 1 ≤ n) {t : List Ru} {x : List Nat} (nd : (t.map Ru.p).Nodup) (hx : x.length ≤ 1000) : run P n 28 [tD t, .str x] = .ok (oD (ruleFor t x)) := by
  refine run_of hn hP fun k hk => ?_
  have hl : x.length ≤ LIM := by unfold LIM; omega
  have inner : ∀ (m : Nat) (u3 : Sl) (u2 : Int), u2 = (m : Int) → match t.findSome? (fun r => if r.p == x.take m then some (rD r) else none) with
      | some d => loopD (fun d ρ1 => execs b_rule_for1_0 (tbl P k) (ρ1.set 3 (.sh d))) (t.map rD) [.sh (tD t), .sh (.str x), .sh (.int u2), u3] = .ok (.rt d)
      | none => ∃ ρ', loopD (fun d ρ1 => execs b_rule_for1_0 (tbl P k) (ρ1.set 3 (.sh d))) (t.map rD) [.sh (tD t), .sh (.str x), .sh (.int u2), u3] = .ok (.nx ρ') ∧ ∃ v3, ρ' = [.sh (tD t), .sh (.str x), .sh (.int u2), v3] := fun m u3 u2 hu => by
    refine loop_some rD _ (fun ρ => ∃ v3, ρ = [.sh (tD t), .sh (.str x), .sh (.int u2), v3]) t _ ⟨_, rfl⟩ ?_
    rintro r ρ hr ⟨v3, rfl⟩
    have ct : cut x none (some u2) = x.take m := by rw [hu]; exact cut_to x m
    cases h : (r.p == x.take m) with
    | true =>
      rw [if_pos rfl]
      simp [b_rule_for1_0, hl, ct, h]
    | false =>
      rw [if_neg Bool.false_ne_true]
      refine ⟨_, .inl ?_, .sh (rD r), rfl⟩
      simp [b_rule_for1_0, hl, ct, h]
  have e0 := fun m => ruleAt_find t (x.take m)
  have outer := loop_some (f := fun d ρ1 => execs b_rule_for1_1 (tbl P k) (ρ1.set 2 (.sh d))) (fun (j : Nat) => D.int ((x.length : Int) - (j : Int))) (fun j => (ruleAt t (x.take (x.length - j))).map rD)
    (fun ρ => ∃ v2 v3, ρ = [.sh (tD t), .sh (.str x), v2, v3]) (List.range (x.length + 1)) [.sh (tD t), .sh (.str x), .un, .un] ⟨_, _, rfl⟩ ?_
  · rw [findSome_map, rule_by nd] at outer
    cases h : ruleFor t x with
    | none =>
      rw [h] at outer
      obtain ⟨ρ', h1, v2, v3, rfl⟩ := outer
      simp [runFn, t_rule_for1, hl, rngB_down x.length (by omega), h1, oD]
    | some r =>
      rw [h] at outer
      have outer : loopD _ _ _ = R.ok (Out.rt (rD r)) := outer
      simp [runFn, t_rule_for1, hl, rngB_down x.length (by omega), outer, oD]
  · rintro j ρ hj ⟨v2, v3, rfl⟩
    have hj := List.mem_range.mp hj
    have := inner (x.length - j) v3 ((x.length : Int) - (j : Int)) (by omega)
    rw [e0] at this
    cases h : ruleAt t (x.take (x.length - j)) with
    | none =>
      rw [h] at this
      obtain ⟨ρ', h1, v3', rfl⟩ := this
      refine ⟨_, .inl ?_, .sh (.int ((x.length : Int) - (j : Int))), v3', rfl⟩
      simp [b_rule_for1_1, itD_tD, h1]
    | some r =>
      rw [h] at this
      have this : loopD _ _ _ = R.ok (Out.rt (rD r)) := this
      show _ = R.ok (Out.rt (rD r))
      simp [b_rule_for1_1, itD_tD, this]
theorem bi_int_bl (b : Bool) : biD .int (.bl b) = .ok (.int (b2i b)) := Eq.trans rfl rfl
theorem run_says1 {P : Prog} (hP : H_says1 P) {n : Nat} (hn : 2 ≤ n) {t : List Ru} {x : List Nat} (nd : (t.map Ru.p).Nodup) (hx : x.length ≤ 1000) : run P n 29 [tD t, .str x] = .ok (sD (says t x)) := by
  obtain ⟨h0, h1⟩ := hP
  obtain ⟨k, hk, e⟩ := run_ex [tD t, .str x] hn h0
  rw [e]
  have hl : x.length ≤ LIM := by unfold LIM; omega
  have q := run_rule_for1 h1 hk nd hx
  have lim1 : 1 ≤ LIM := by decide
  have lim2 : 2 ≤ LIM := by decide
  unfold says
  cases h : ruleFor t x with
  | none =>
    rw [h] at q
    simp [runFn, t_says1, tbl_run, q, oD, lim1, judged, sD, cNone]
  | some r =>
    rw [h] at q
    by_cases h0 : r.s = 0
    · simp [runFn, t_says1, tbl_run, q, oD, lim1, judged, sD, h0, cClosed]
    · by_cases h1 : 0 < r.s - (x.length : Int)
      · have h2 : (x.length : Int) < r.s := by omega
        simp [runFn, t_says1, tbl_run, q, oD, lim1, lim2, judged, sD, h0, h1, h2, hl, cMore]
      · have h2 : ¬ (x.length : Int) < r.s := by omega
        by_cases h3 : r.s - (x.length : Int) = 0
        · have h4 : (x.length : Int) = r.s := by omega
          simp [runFn, t_says1, tbl_run, q, oD, lim1, lim2, judged, sD, h0, h2, h3, h4, hl, cGood, b2i]
        · have h4 : ¬ (x.length : Int) = r.s := by omega
          have h5 : (r.s - (x.length : Int) == 0) = false := beq_eq_false_iff_ne.mpr h3
          simp [runFn, t_says1, tbl_run, q, oD, lim1, lim2, judged, sD, h0, h1, h2, h3, h4, h5, hl, cLong, b2i]
end Ev

/-! MK3: the law's own table. -/
namespace Ev
theorem is_table1_step {P : Prog} (hF : H_are_figures1 P) {k : Nat} (hk : 1 ≤ k) (d : D) (hd : ∀ xs, d = .tup xs → ∀ x ∈ xs, TxtOk x) (s0 u2 u3 u4 u5 u6 u7 u8 : Sl) :
    (ruleT d = false ∧ execs b_is_table1_0 (tbl P k) [s0, .sh d, u2, u3, u4, u5, u6, u7, u8] = .ok (.rt (.bl false))) ∨ (ruleT d = true ∧ ∃ v3 v4 v5 v6 v7 v8, execs b_is_table1_0 (tbl P k) [s0, .sh d, u2, u3, u4, u5, u6, u7, u8] = .ok (.nx [s0, .sh d, u2, v3, v4, v5, v6, v7, v8])) := by
  cases d with
  | tup xs =>
    have ia : isiD .tuple (.tup xs) = true := rfl
    by_cases h3 : xs.length = 3
    · obtain ⟨p, s, w, rfl⟩ : ∃ p s w, xs = [p, s, w] := by
        match xs, h3 with
        | [p, s, w], _ => exact ⟨p, s, w, rfl⟩
      have hp0 := hd _ rfl p (by simp)
      have hw0 := hd _ rfl w (by simp)
      have f := run_are_figures1 hF hk p hp0 0 12
      have f : run P k 13 [p, .int 0, .int 12] = .ok (.bl (figT 0 12 p)) := f
      have x0 : ixD (.tup [p, s, w]) (.int 0) = .ok p := Eq.trans rfl rfl
      have l3 : biD .len (.tup [p, s, w]) = .ok (.int 3) := Eq.trans rfl rfl
      have n3 : neD (.int 3) (.int 3) = .ok (.bl false) := rfl
      have st : ∀ ρ : Env, store [5, 6, 7] true (.tup [p, s, w]) ρ = setAll ρ [5, 6, 7] [p, s, w] := fun ρ => Eq.trans rfl rfl
      cases hp : figT 0 12 p with
      | false =>
        have : ruleT (.tup [p, s, w]) = false := by
          unfold ruleT
          split
          · rename_i e
            injection e with e
            injection e with e1 e2
            rw [e1] at hp; rw [hp]; rfl
          · rfl
        rw [hp] at f
        refine .inl ⟨this, ?_⟩
        simp [b_is_table1_0, tbl_run, ia, x0, l3, n3, f]
      | true =>
        obtain ⟨x, rfl⟩ : ∃ x, p = .str x := by cases p <;> first | exact ⟨_, rfl⟩ | cases hp
        rw [hp] at f
        have xl := hp0 x rfl
        cases s with
        | int i =>
          have i1 : isiD .int (.int i) = true := rfl
          have i2 : isiD .bool (.int i) = false := rfl
          cases w with
          | str y =>
            have yl := hw0 y rfl
            have i3 : isiD .str (.str y) = true := rfl
            have rt : ruleT (.tup [.str x, .int i, .str y]) = (if i = 0 then decide (y = []) else (decide (((max 1 x.length : Nat) : Int) ≤ i) && decide (i ≤ 12) && wordT (.str y))) := by
              show (figT 0 12 (.str x) && _) = _
              rw [hp, Bool.true_and]
            have ey : eqD (.str y) (.str []) = .ok (.bl (decide (y = []))) := by
              show R.ok (D.bl (y == [])) = _
              cases y <;> rfl
            have ei : eqD (.int i) (.int 0) = .ok (.bl (decide (i = 0))) := by
              show R.ok (D.bl (i == 0)) = _
              congr 2
            have fe := none_fails lowB y
            have e0 := eq_nilL (y.filterMap fun c => if lowB c = true then none else some (D.str [c]))
            rw [fe] at e0
            obtain ⟨B, hB⟩ : ∃ B, y.all lowB = B := ⟨_, rfl⟩
            have ft : wordT (.str y) = (decide (1 ≤ y.length) && decide (y.length ≤ 4) && B) := by rw [← hB]; rfl
            rw [hB] at e0
            have mp : ∀ f : D → R (Option D), (∀ c ∈ y, f (.str [c]) = .ok (if lowB c = true then none else some (.str [c]))) → mapF f (y.map fun c => D.str [c]) = .ok (y.filterMap fun c => if lowB c = true then none else some (D.str [c])) := fun f hf => mapF_of (fun c => D.str [c]) _ y hf
            obtain ⟨V3, hV3⟩ : ∃ V3, (decide (i = 0) && decide (y = [])) = V3 := ⟨_, rfl⟩
            obtain ⟨BB, hBB⟩ : ∃ BB, b_is_table1_0 = BB := ⟨_, rfl⟩
            have A : execs (tkS 4 BB) (tbl P k) [s0, .sh (.tup [.str x, .int i, .str y]), u2, u3, u4, u5, u6, u7, u8] = .ok (.nx [s0, .sh (.tup [.str x, .int i, .str y]), u2, .sh (.bl V3), u4, .sh (.str x), .sh (.int i), .sh (.str y), u8]) := by
              rw [← hBB, ← hV3]
              obtain ⟨Y0, hY0⟩ : ∃ Y0, decide (y = []) = Y0 := ⟨_, rfl⟩
              obtain ⟨I0, hI0⟩ : ∃ I0, decide (i = 0) = I0 := ⟨_, rfl⟩
              rw [hY0] at ey
              rw [hI0] at ei
              rw [hY0, hI0]
              cases I0 <;> cases Y0 <;> simp [b_is_table1_0, tkS, tbl_run, ia, x0, l3, n3, f, st, i1, i2, i3, ei, ey]
            have Bw : ∃ v8, execs (tkS 1 (drS 4 BB)) (tbl P k) [s0, .sh (.tup [.str x, .int i, .str y]), u2, .sh (.bl V3), u4, .sh (.str x), .sh (.int i), .sh (.str y), u8] = .ok (.nx [s0, .sh (.tup [.str x, .int i, .str y]), u2, .sh (.bl V3), .sh (.bl (wordT (.str y))), .sh (.str x), .sh (.int i), .sh (.str y), v8]) := by
              rw [← hBB, ft]
              refine ⟨u8, ?_⟩
              by_cases h1 : 1 ≤ y.length
              · have h1' : (1 : Int) ≤ (y.length : Int) := by omega
                by_cases h2 : y.length ≤ 4
                · have h2' : (y.length : Int) ≤ 4 := by omega
                  simp [b_is_table1_0, tkS, drS, yl, h1, h1', h2, h2']
                  rw [mp _ fun c hc => by
                    have cs := chain_sign 97 122 c
                    cases h3 : decide ([97] ≤ [c]) with
                    | false =>
                      rw [h3] at cs
                      have : lowB c = false := cs.symm
                      simp [le_str, h3, this]
                    | true =>
                      rw [h3, Bool.true_and] at cs
                      have : lowB c = decide ([c] ≤ [122]) := cs.symm
                      cases h4 : decide ([c] ≤ [122]) <;> rw [h4] at this <;> simp [le_str, h3, h4, this]]
                  cases B <;> simp [e0, yl]
                · have h2' : ¬ (y.length : Int) ≤ 4 := by omega
                  simp [b_is_table1_0, tkS, drS, yl, h1, h1', h2, h2']
              · have h1' : ¬ (1 : Int) ≤ (y.length : Int) := by omega
                simp [b_is_table1_0, tkS, drS, yl, h1, h1']
            obtain ⟨v8, Bw⟩ := Bw
            obtain ⟨W, hW⟩ : ∃ W, wordT (.str y) = W := ⟨_, rfl⟩
            rw [hW] at Bw rt
            -- the end
            have Cw : execs (drS 1 (drS 4 BB)) (tbl P k) [s0, .sh (.tup [.str x, .int i, .str y]), u2, .sh (.bl V3), .sh (.bl W), .sh (.str x), .sh (.int i), .sh (.str y), v8] = if (V3 || (decide (1 ≤ i) && decide (i ≤ 12) && decide ((x.length : Int) ≤ i) && W)) = true then .ok (.nx [s0, .sh (.tup [.str x, .int i, .str y]), u2, .sh (.bl V3), .sh (.bl W), .sh (.str x), .sh (.int i), .sh (.str y), v8]) else .ok (.rt (.bl false)) := by
              rw [← hBB]
              have lei : leR (.int (x.length : Int)) (.int i) = .ok (.bl (decide ((x.length : Int) ≤ i))) := by
                show R.ok (D.bl (!decide (i < (x.length : Int)))) = _
                congr 2
                by_cases h : i < (x.length : Int)
                · rw [decide_eq_true h, decide_eq_false (by omega)]; rfl
                · rw [decide_eq_false h, decide_eq_true (by omega)]; rfl
              obtain ⟨L, hL⟩ : ∃ L, decide ((x.length : Int) ≤ i) = L := ⟨_, rfl⟩
              rw [hL] at lei ⊢
              cases V3 with
              | true => simp [b_is_table1_0, drS]
              | false =>
                by_cases h1 : 1 ≤ i
                · by_cases h2 : i ≤ 12
                  · cases L <;> cases W <;> simp [b_is_table1_0, drS, h1, h2, xl, lei]
                  · simp [b_is_table1_0, drS, h1, h2]
                · simp [b_is_table1_0, drS, h1]
            have same : (V3 || (decide (1 ≤ i) && decide (i ≤ 12) && decide ((x.length : Int) ≤ i) && W)) = ruleT (.tup [.str x, .int i, .str y]) := by
              rw [rt, ← hV3]
              by_cases hi : i = 0
              · rw [if_pos hi, decide_eq_true hi, decide_eq_false (show ¬ 1 ≤ i by omega)]
                simp
              · rw [if_neg hi, decide_eq_false hi, Bool.false_and, Bool.false_or]
                congr 1
                refine Bool.eq_iff_iff.mpr ?_
                simp only [Bool.and_eq_true, decide_eq_true_eq]
                omega
            rw [same] at Cw
            have all := execs_via 4 A (execs_via 1 Bw Cw)
            rw [← hBB] at all
            cases hr : ruleT (.tup [.str x, .int i, .str y]) with
            | false =>
              rw [hr, if_neg Bool.false_ne_true] at all
              exact .inl ⟨rfl, all⟩
            | true =>
              rw [hr, if_pos rfl] at all
              exact .inr ⟨rfl, _, _, _, _, _, _, all⟩
          | _ => exact .inl ⟨rfl, by simp [b_is_table1_0, tbl_run, ia, x0, l3, n3, f, st, i1, i2, isiD]⟩
        | _ => exact .inl ⟨rfl, by simp [b_is_table1_0, tbl_run, ia, x0, l3, n3, f, st, isiD]⟩
    · have n3 : neD (.int (xs.length : Int)) (.int 3) = .ok (.bl true) := by
        show R.ok (D.bl (!((xs.length : Int) == 3))) = _
        rw [show ((xs.length : Int) == 3) = false from beq_eq_false_iff_ne.mpr (by omega)]; rfl
      exact .inl ⟨ruleT_len h3, by simp [b_is_table1_0, ia, n3]⟩
  | _ => exact .inl ⟨rfl, by simp [b_is_table1_0, isiD]⟩
theorem eqvL_strs : ∀ a b : List (List Nat), eqvL (a.map D.str) (b.map D.str) = decide (a = b)
  | [], [] => rfl
  | [], _ :: _ => rfl
  | _ :: _, [] => rfl
  | x :: a, y :: b => by
    rw [List.map_cons, List.map_cons, eqvL, eqvL_strs a b]
    show ((x == y) && _) = _
    by_cases h : x = y <;> by_cases h2 : a = b <;> simp [h, h2]
theorem eq_strsL (a b : List (List Nat)) : eqD (.lst (a.map D.str)) (.lst (b.map D.str)) = .ok (.bl (decide (a = b))) := by
  rw [eqD_of (depL_strs0 a)]
  show R.ok (D.bl (eqvL _ _)) = _
  rw [eqvL_strs]
theorem uniq_iff (ks : List (List Nat)) : ks = uniq ks ↔ ks.Pairwise fun a b => a < b := by
  constructor
  · intro h; rw [h]; exact uniq_srt ks
  · intro h; exact srtT_ext h (uniq_srt ks) fun r => uniq_mem.symm
theorem findSome_rules : ∀ xs : List D, xs.findSome? (fun x => if ruleT x = true then none else some (D.bl false)) = if xs.all ruleT = true then none else some (.bl false)
  | [] => rfl
  | x :: xs => by
    rw [List.findSome?_cons, List.all_cons, findSome_rules xs]
    cases ruleT x <;> simp
theorem run_is_table1 {P : Prog} (hP : H_is_table1 P) {n : Nat} (hn : 2 ≤ n) (d : D) (hd : ∀ xs, d = .tup xs → xs.length ≤ 4000 ∧ ∀ x ∈ xs, ∀ ys, x = .tup ys → ∀ y ∈ ys, TxtOk y) : run P n 14 [d] = .ok (.bl (tabT d)) := by
  obtain ⟨h0, hF⟩ := hP
  obtain ⟨k, hk, e⟩ := run_ex [d] hn h0
  rw [e]
  cases d with
  | tup xs =>
    obtain ⟨hl, hx⟩ := hd xs rfl
    have ia : isiD .tuple (.tup xs) = true := rfl
    have ll : xs.length ≤ LIM := by unfold LIM; omega
    have g30 : gtR (.int (xs.length : Int)) (.int 30) = .ok (.bl (!decide (xs.length ≤ 30))) := by
      show R.ok (D.bl (decide ((30 : Int) < (xs.length : Int)))) = _
      congr 2
      by_cases h : xs.length ≤ 30
      · rw [decide_eq_true h, decide_eq_false (by omega)]; rfl
      · rw [decide_eq_false h, decide_eq_true (by omega)]; rfl
    have tt : tabT (.tup xs) = (decide (xs.length ≤ 30) && xs.all ruleT && decide ((xs.map keyN).Pairwise fun a b => a < b)) := rfl
    have key := loop_some (f := fun d ρ1 => execs b_is_table1_0 (tbl P k) (ρ1.set 1 (.sh d))) (fun x : D => x) (fun x => if ruleT x = true then none else some (D.bl false))
      (fun ρ => ∃ v1 v3 v4 v5 v6 v7 v8, ρ = [.sh (.tup xs), v1, .un, v3, v4, v5, v6, v7, v8]) xs [.sh (.tup xs), .un, .un, .un, .un, .un, .un, .un, .un] ⟨_, _, _, _, _, _, _, rfl⟩ ?_
    · rw [findSome_rules, List.map_id'] at key
      have itx : itD (.tup xs) = .ok xs := Eq.trans rfl rfl
      rw [tt]
      obtain ⟨A, hA⟩ : ∃ A, decide (xs.length ≤ 30) = A := ⟨_, rfl⟩
      rw [hA] at g30 ⊢
      cases A with
      | false => simp [runFn, t_is_table1, ia, g30]
      | true =>
        cases hB : xs.all ruleT with
        | false =>
          rw [hB, if_neg Bool.false_ne_true] at key
          have key : loopD _ xs _ = R.ok (Out.rt (D.bl false)) := key
          simp [runFn, t_is_table1, ia, g30]
          rw [key]
          rfl
        | true =>
          rw [hB, if_pos rfl] at key
          obtain ⟨ρ', h1, v1, v3, v4, v5, v6, v7, v8, rfl⟩ := key
          have hr : ∀ x ∈ xs, ruleT x = true := List.all_eq_true.mp hB
          have ss := srtset_strs (xs.map keyN) (by rw [List.length_map]; exact hl)
          have eq := eq_strsL (xs.map keyN) (uniq (xs.map keyN))
          rw [decide_eq_decide.mpr (uniq_iff (xs.map keyN))] at eq
          obtain ⟨KS, hKS⟩ : ∃ KS, (xs.map keyN).map D.str = KS := ⟨_, rfl⟩
          obtain ⟨US, hUS⟩ : ∃ US, (uniq (xs.map keyN)).map D.str = US := ⟨_, rfl⟩
          obtain ⟨PW, hPW⟩ : ∃ PW, decide ((xs.map keyN).Pairwise fun a b => a < b) = PW := ⟨_, rfl⟩
          rw [hKS, hUS] at ss
          rw [hKS, hUS, hPW] at eq
          rw [hPW]
          have mp : ∀ f : D → R (Option D), (∀ x ∈ xs, f x = .ok (some (.str (keyN x)))) → mapF f xs = .ok KS := fun f hf => by
            have := mapF_of (f := f) (fun x : D => x) (fun x => some (.str (keyN x))) xs hf
            rw [List.map_id', List.filterMap_eq_map'] at this
            rw [this, ← hKS, List.map_map]; rfl
          simp [runFn, t_is_table1, ia, g30]
          rw [h1]
          simp [ll]
          rw [mp _ fun x hm => by simp [rule_key (hr x hm)]]
          simp [ss, eq]
    · rintro x ρ hm ⟨v1, v3, v4, v5, v6, v7, v8, rfl⟩
      rcases is_table1_step hF (show 1 ≤ k by omega) x (fun ys e => hx x hm ys e) (.sh (.tup xs)) .un v3 v4 v5 v6 v7 v8 with ⟨h1, h2⟩ | ⟨h1, w3, w4, w5, w6, w7, w8, h2⟩
      · rw [if_neg (by rw [h1]; exact Bool.false_ne_true)]
        exact h2
      · rw [if_pos h1]
        exact ⟨_, .inl h2, _, _, _, _, _, _, _, rfl⟩
  | _ => simp [runFn, t_is_table1, isiD, tabT]
end Ev

/-! MK4: things spoilt. -/
namespace Ev
theorem cut_sub {α : Type} (xs : List α) (lo hi : Option Int) : (cut xs lo hi).Sublist xs := by
  unfold cut
  first
    | exact (List.drop_sublist _ _).trans (List.take_sublist _ _)
    | exact (List.take_sublist _ _).trans (List.drop_sublist _ _)
theorem at_mod {α : Type} (xs : List α) (hne : xs ≠ []) (z : Int) : ∃ u ∈ xs, atI xs (z % (xs.length : Int)) = some u := by
  have hp := List.length_pos_iff.mpr hne
  have h1 := Int.emod_nonneg z (b := (xs.length : Int)) (by omega)
  have h2 := Int.emod_lt_of_pos z (b := (xs.length : Int)) (by omega)
  obtain ⟨j, hj⟩ : ∃ j : Nat, z % (xs.length : Int) = (j : Int) := ⟨(z % (xs.length : Int)).toNat, by omega⟩
  have hj2 : j < xs.length := by omega
  exact ⟨xs[j], List.getElem_mem hj2, by rw [hj, atI_nat, List.getElem?_eq_getElem hj2]⟩
/-- what is handed in -/
def SzI : Nat → D → Prop
  | _, .str x => x.length ≤ 60 ∧ ∀ c ∈ x, c < 128
  | _, .int i => 0 ≤ i ∧ i ≤ 1000
  | n + 1, .tup xs => xs.length ≤ 60 ∧ ∀ x ∈ xs, SzI n x
  | _, _ => False
/-- what comes out -/
def SzO : Nat → D → Prop
  | _, .str x => x.length ≤ 200
  | _, .int _ => True
  | _, .bl _ => True
  | _, .non => True
  | n + 1, .tup xs => xs.length ≤ 200 ∧ ∀ x ∈ xs, SzO n x
  | n + 1, .lst xs => xs.length ≤ 200 ∧ ∀ x ∈ xs, SzO n x
  | 0, .tup xs => xs = []
  | 0, .lst xs => xs = []
theorem SzO.mono : ∀ {n : Nat} {d : D}, SzO n d → SzO (n + 1) d
  | n, .str x, h => by cases n <;> exact h
  | n, .int _, h => by cases n <;> trivial
  | n, .bl _, h => by cases n <;> trivial
  | n, .non, h => by cases n <;> trivial
  | 0, .tup xs, h => by
    have h : xs = [] := h
    subst h
    exact ⟨Nat.zero_le _, fun x hx => by cases hx⟩
  | 0, .lst xs, h => by
    have h : xs = [] := h
    subst h
    exact ⟨Nat.zero_le _, fun x hx => by cases hx⟩
  | n + 1, .tup xs, h => ⟨h.1, fun x hx => SzO.mono (h.2 x hx)⟩
  | n + 1, .lst xs, h => ⟨h.1, fun x hx => SzO.mono (h.2 x hx)⟩
theorem SzI.o : ∀ {n : Nat} {d : D}, SzI n d → SzO n d
  | n, .str x, h => by
    obtain ⟨h1, _⟩ : x.length ≤ 60 ∧ (∀ c ∈ x, c < 128) := by cases n <;> exact h
    have : x.length ≤ 200 := by omega
    cases n <;> exact this
  | n, .int _, h => by cases n <;> trivial
  | n, .bl _, h => by cases n <;> exact h.elim
  | n, .non, h => by cases n <;> exact h.elim
  | 0, .tup xs, h => h.elim
  | n, .lst xs, h => by cases n <;> exact h.elim
  | n + 1, .tup xs, h => ⟨by have := h.1; omega, fun x hx => SzI.o (h.2 x hx)⟩
theorem SzO.txt {n : Nat} {d : D} (h : SzO n d) : TxtOk d := fun x e => by
  subst e
  have h : x.length ≤ 200 := by cases n <;> exact h
  unfold LIM; omega
theorem SzO.seq {n : Nat} {d : D} (h : SzO n d) : ∀ xs, d = .tup xs → xs.length ≤ 4000 ∧ ∀ x ∈ xs, ∀ ys, x = .tup ys → ∀ y ∈ ys, TxtOk y := fun xs e => by
  subst e
  cases n with
  | zero =>
    have h : xs = [] := h
    subst h
    exact ⟨Nat.zero_le _, fun x hx => by cases hx⟩
  | succ n =>
    refine ⟨by have := h.1; omega, fun x hx ys e => ?_⟩
    subst e
    have h2 := h.2 _ hx
    cases n with
    | zero =>
      have h2 : ys = [] := h2
      subst h2
      intro y hy; cases hy
    | succ n => exact fun y hy => (h2.2 y hy).txt
theorem SzO.up {n m : Nat} {d : D} (h : SzO n d) : SzO (n + m) d := by
  induction m with
  | zero => exact h
  | succ m ih => exact SzO.mono ih
def spoilC : List D := [.non, .bl true, .bl false, .int 0, .int 1, .int 7, .int 12, .int 13, .int (-1), .int 5, .int 2, .str [], .str [97], .str [49, 50], .str [120, 49], .str [97, 98, 99, 100, 101], .str [104, 111, 109, 101], .tup [], .lst [], .tup [.str [49], .int 2, .str [97]]]
theorem spoilC_ok : ∀ u ∈ spoilC, SzO 2 u := by
  intro u hu
  simp only [spoilC, List.mem_cons, List.not_mem_nil, or_false] at hu
  rcases hu with rfl | rfl | rfl | rfl | rfl | rfl | rfl | rfl | rfl | rfl | rfl | rfl | rfl | rfl | rfl | rfl | rfl | rfl | rfl | rfl <;> simp [SzO]
theorem spoil_str {P : Prog} (hP : H_spoilt P) {n : Nat} (hn : 1 ≤ n) (m : Nat) (x : List Nat) (hx : x.length ≤ 60) (ha : ∀ c ∈ x, c < 128) (z : Int) : ∃ r, run P n 12 [.str x, .int z, .int (m : Int)] = .ok r ∧ SzO 2 r := by
  obtain ⟨h0, hd⟩ := hP
  obtain ⟨k, hk, e⟩ := run_ex [.str x, .int z, .int (m : Int)] (show 0 + 1 ≤ n from hn) h0
  rw [e]
  have lim20 : 20 ≤ LIM := by decide
  have lim6 : 6 ≤ LIM := by decide
  have lim3 : 3 ≤ LIM := by decide
  have xl : x.length ≤ LIM := by unfold LIM; omega
  have xl1 : x.length + 1 ≤ LIM := by unfold LIM; omega
  have xk : x.length ≤ 1000 := by omega
  have asc : x.all (fun c => decide (c < 128)) = true := List.all_eq_true.mpr fun c hc => decide_eq_true (ha c hc)
  obtain ⟨u, hu, hat⟩ := at_mod spoilC (by unfold spoilC; exact List.cons_ne_nil _ _) (z / 6)
  have hat : atI spoilC (z / 6 % 20) = some u := hat
  have hat := hat
  unfold spoilC at hat
  obtain ⟨v, hv, hav⟩ := at_mod [D.str (x ++ [97]), .str (cut x (some 1) none), .str (x ++ [49]), .str (x.map up1), .str (x ++ x), .str x.reverse] (List.cons_ne_nil _ _) (z / 12)
  have hav : atI [D.str (x ++ [97]), .str (cut x (some 1) none), .str (x ++ [49]), .str (x.map up1), .str (x ++ x), .str x.reverse] (z / 12 % 6) = some v := hav
  have up : upperD (.str x) = .ok (.str (x.map up1)) := if_pos ⟨asc, xk⟩
  have ml : mulD (.str x) (.int 2) = .ok (.str (x ++ x)) := by
    have : mulD (.str x) (.int 2) = .ok (.str (List.replicate 2 x).flatten) := if_pos ⟨by decide, by decide, xk⟩
    rw [this]; simp
  have rv : revD (.str x) = .ok (.str x.reverse) := if_pos xl
  have i1 : isiD .tuple (.str x) = false := rfl
  have i2 : isiD .str (.str x) = true := rfl
  have i3 : isiD .int (.str x) = false := rfl
  by_cases hz : z / 6 % 2 = 0
  · refine ⟨v, ?_, ?_⟩
    · simp [runFn, t_spoilt, i1, i2, i3, hz, xl, xl1, lim6, up, ml, rv, hav]
    · have c1 := (cut_sub x (some 1) none).length_le
      simp only [List.mem_cons, List.not_mem_nil, or_false] at hv
      rcases hv with rfl | rfl | rfl | rfl | rfl | rfl <;> show List.length _ ≤ 200
      · rw [List.length_append]; show _ + 1 ≤ _; omega
      · omega
      · rw [List.length_append]; show _ + 1 ≤ _; omega
      · rw [List.length_map]; omega
      · simp; omega
      · rw [List.length_reverse]; omega
  · refine ⟨u, ?_, spoilC_ok u hu⟩
    simp [runFn, t_spoilt, i1, i2, i3, hz, lim20, lim3, hat]
theorem numL_small : ∀ n ≤ 1000, (numL n).length ≤ 10 := by decide +kernel
theorem spoil_int {P : Prog} (hP : H_spoilt P) {n : Nat} (hn : 1 ≤ n) (m : Nat) (i : Int) (h0i : 0 ≤ i) (h1i : i ≤ 1000) (z : Int) : ∃ r, run P n 12 [.int i, .int z, .int (m : Int)] = .ok r ∧ SzO 2 r := by
  obtain ⟨h0, hd⟩ := hP
  obtain ⟨k, hk, e⟩ := run_ex [.int i, .int z, .int (m : Int)] (show 0 + 1 ≤ n from hn) h0
  rw [e]
  have lim20 : 20 ≤ LIM := by decide
  have lim6 : 6 ≤ LIM := by decide
  have lim3 : 3 ≤ LIM := by decide
  obtain ⟨u, hu, hat⟩ := at_mod spoilC (by unfold spoilC; exact List.cons_ne_nil _ _) (z / 6)
  have hat : atI spoilC (z / 6 % 20) = some u := hat
  unfold spoilC at hat
  obtain ⟨v, hv, hav⟩ := at_mod [D.str (numL i.toNat), .int (0 - i), .int (i + 1), .bl (i == 1), .int (i - 1), .int (i + 60)] (List.cons_ne_nil _ _) (z / 12)
  have hav : atI [D.str (numL i.toNat), .int (0 - i), .int (i + 1), .bl (i == 1), .int (i - 1), .int (i + 60)] (z / 12 % 6) = some v := hav
  have sg : biD .str (.int i) = .ok (.str (numL i.toNat)) := if_pos ⟨h0i, by unfold BIG; omega⟩
  have s0 : subD (.int 0) (.int i) = .ok (.int (0 - i)) := Eq.trans rfl rfl
  have s1 : subD (.int i) (.int 1) = .ok (.int (i - 1)) := Eq.trans rfl rfl
  have e1 : eqD (.int i) (.int 1) = .ok (.bl (i == 1)) := Eq.trans rfl rfl
  have i1 : isiD .tuple (.int i) = false := rfl
  have i2 : isiD .str (.int i) = false := rfl
  have i3 : isiD .int (.int i) = true := rfl
  obtain ⟨E1, hE1⟩ : ∃ E1, (i == 1) = E1 := ⟨_, rfl⟩
  obtain ⟨Z0, hZ0⟩ : ∃ Z0, (0 - i) = Z0 := ⟨_, rfl⟩
  rw [hE1] at hav hv e1
  rw [hZ0] at hav hv s0
  by_cases hz : z / 6 % 2 = 0
  · refine ⟨v, ?_, ?_⟩
    · simp [runFn, t_spoilt, i1, i2, i3, hz, lim6, sg, s0, s1, e1, hav]
    · simp only [List.mem_cons, List.not_mem_nil, or_false] at hv
      rcases hv with rfl | rfl | rfl | rfl | rfl | rfl
      · have := numL_small i.toNat (by omega)
        show (numL i.toNat).length ≤ 200
        omega
      all_goals trivial
  · refine ⟨u, ?_, spoilC_ok u hu⟩
    simp [runFn, t_spoilt, i1, i2, i3, hz, lim20, lim3, hat]
theorem spoil_tup {P : Prog} (hP : H_spoilt P) {n : Nat} (m : Nat) (hn : m + 1 ≤ n) (N : Nat) (xs : List D) (hl : xs.length ≤ 60) (hx : ∀ x ∈ xs, SzI N x) (z : Int)
    (rec : ∀ (k m' : Nat) (x : D) (w : Int), m = m' + 1 → m' + 1 ≤ k → x ∈ xs → ∃ r, run P k 12 [x, .int w, .int (m' : Int)] = .ok r ∧ SzO (N + 2) r) : ∃ r, run P n 12 [.tup xs, .int z, .int (m : Int)] = .ok r ∧ SzO (N + 1 + 2) r := by
  obtain ⟨h0, hd⟩ := hP
  obtain ⟨k, hk, e⟩ := run_ex [.tup xs, .int z, .int (m : Int)] hn h0
  rw [e]
  have lim20 : 20 ≤ LIM := by decide
  have lim6 : 6 ≤ LIM := by decide
  have lim3 : 3 ≤ LIM := by decide
  have lim1 : 1 ≤ LIM := by decide
  obtain ⟨u, hu, hat⟩ := at_mod spoilC (by unfold spoilC; exact List.cons_ne_nil _ _) (z / 6)
  have hat : atI spoilC (z / 6 % 20) = some u := hat
  unfold spoilC at hat
  have uo : SzO (N + 1 + 2) u := by
    have := SzO.up (m := N + 1) (spoilC_ok u hu)
    rw [show 2 + (N + 1) = N + 1 + 2 by omega] at this
    exact this
  have i1 : isiD .tuple (.tup xs) = true := rfl
  have i2 : isiD .str (.tup xs) = false := rfl
  have i3 : isiD .int (.tup xs) = false := rfl
  have xo : ∀ x ∈ xs, SzO (N + 2) x := fun x hm => SzO.up (hx x hm).o
  by_cases hne : xs = []
  · have l0 : ¬ 0 < xs.length := by rw [hne]; decide
    refine ⟨u, ?_, uo⟩
    simp [runFn, t_spoilt, i1, i2, i3, l0, lim20, lim3, hat]
  · have l0 : 0 < xs.length := List.length_pos_iff.mpr hne
    by_cases hc : 0 < m ∧ 0 < z % 6
    · obtain ⟨m', rfl⟩ : ∃ m', m = m' + 1 := ⟨m - 1, by omega⟩
      obtain ⟨p, hp, hpa⟩ := at_mod xs hne (z / 6)
      have h4 := Int.emod_nonneg (z / 6) (b := (xs.length : Int)) (by omega)
      obtain ⟨y, hy, -⟩ := run_drawn hd (show 1 ≤ k by omega) z ((m' + 1 : Nat) : Int)
      obtain ⟨r, hr, ro⟩ := rec k m' p (y / 4) rfl (by omega) hp
      obtain ⟨J, hJ⟩ : ∃ J, z / 6 % (xs.length : Int) = J := ⟨_, rfl⟩
      rw [hJ] at hpa h4
      have ixp : ixD (.tup xs) (.int J) = .ok p := by
        show opt (atI xs J) = _
        rw [hpa]; rfl
      have m1 : (((m' + 1 : Nat) : Int)) - 1 = (m' : Int) := by omega
      obtain ⟨MM, hMM⟩ : ∃ MM : Int, ((m' + 1 : Nat) : Int) = MM := ⟨_, rfl⟩
      have mm0 : 0 < MM := by omega
      rw [hMM] at m1 hy
      rw [hMM]
      have c1 := (cut_sub xs none (some J)).length_le
      have c2 := (cut_sub xs (some (J + 1)) none).length_le
      have s1 : slD (.tup xs) none (some J) = .ok (.tup (cut xs none (some J))) := Eq.trans rfl rfl
      have s2 : slD (.tup xs) (some (J + 1)) none = .ok (.tup (cut xs (some (J + 1)) none)) := Eq.trans rfl rfl
      have m1s := (cut_sub xs none (some J)).subset
      have m2s := (cut_sub xs (some (J + 1)) none).subset
      obtain ⟨A, hA⟩ : ∃ A, cut xs none (some J) = A := ⟨_, rfl⟩
      obtain ⟨B, hB⟩ : ∃ B, cut xs (some (J + 1)) none = B := ⟨_, rfl⟩
      rw [hA] at c1 s1 m1s
      rw [hB] at c2 s2 m2s
      have a1 : addD (.tup A) (.tup [r]) = .ok (.tup (A ++ [r])) := if_pos (by show A.length + 1 ≤ LIM; unfold LIM; omega)
      have a2 : addD (.tup (A ++ [r])) (.tup B) = .ok (.tup (A ++ [r] ++ B)) := if_pos (by rw [List.length_append]; show A.length + 1 + B.length ≤ LIM; unfold LIM; omega)
      obtain ⟨AR, hAR⟩ : ∃ AR, A ++ [r] = AR := ⟨_, rfl⟩
      obtain ⟨ARB, hARB⟩ : ∃ ARB, A ++ [r] ++ B = ARB := ⟨_, rfl⟩
      rw [hAR] at a1
      rw [hARB, hAR] at a2
      refine ⟨.tup ARB, ?_, ?_, ?_⟩
      · simp [runFn, t_spoilt, i1, l0, hc.2, mm0, tbl_run, hJ, ixp, hy, m1, hr, s1, s2, lim1, a1, a2]
      · rw [← hARB]
        rw [List.length_append, List.length_append]
        show A.length + 1 + B.length ≤ 200
        omega
      · intro x hxm
        rw [← hARB, List.mem_append, List.mem_append, List.mem_singleton] at hxm
        rcases hxm with (q | q) | q
        · exact xo x (m1s q)
        · rw [q]; exact ro
        · exact xo x (m2s q)
    · obtain ⟨v, hv, hav⟩ := at_mod [D.lst xs, .tup (cut xs none (some (-1))), .tup (xs ++ cut xs (some (-1)) none), .tup (cut xs (some 1) none), .tup xs.reverse, .tup []] (List.cons_ne_nil _ _) (z / 12)
      have hav : atI [D.lst xs, .tup (cut xs none (some (-1))), .tup (xs ++ cut xs (some (-1)) none), .tup (cut xs (some 1) none), .tup xs.reverse, .tup []] (z / 12 % 6) = some v := hav
      have vo : SzO (N + 1 + 2) v := by
        have c1 := (cut_sub xs none (some (-1))).length_le
        have c2 := (cut_sub xs (some (-1)) none).length_le
        have c3 := (cut_sub xs (some 1) none).length_le
        simp only [List.mem_cons, List.not_mem_nil, or_false] at hv
        rcases hv with rfl | rfl | rfl | rfl | rfl | rfl
        · exact ⟨by omega, xo⟩
        · exact ⟨by omega, fun x hm => xo x ((cut_sub _ _ _).subset hm)⟩
        · refine ⟨by rw [List.length_append]; omega, fun x hm => ?_⟩
          rcases List.mem_append.mp hm with q | q
          · exact xo x q
          · exact xo x ((cut_sub _ _ _).subset q)
        · exact ⟨by omega, fun x hm => xo x ((cut_sub _ _ _).subset hm)⟩
        · exact ⟨by rw [List.length_reverse]; omega, fun x hm => xo x (List.mem_reverse.mp hm)⟩
        · exact ⟨Nat.zero_le _, fun x hm => by cases hm⟩
      have c2 := (cut_sub xs (some (-1)) none).length_le
      have ad : addD (.tup xs) (.tup (cut xs (some (-1)) none)) = .ok (.tup (xs ++ cut xs (some (-1)) none)) := if_pos (by unfold LIM; omega)
      have s1 : slD (.tup xs) none (some (-1)) = .ok (.tup (cut xs none (some (-1)))) := Eq.trans rfl rfl
      have s2 : slD (.tup xs) (some (-1)) none = .ok (.tup (cut xs (some (-1)) none)) := Eq.trans rfl rfl
      have s3 : slD (.tup xs) (some 1) none = .ok (.tup (cut xs (some 1) none)) := Eq.trans rfl rfl
      have rv : revD (.tup xs) = .ok (.tup xs.reverse) := Eq.trans rfl rfl
      have li : biD .list (.tup xs) = .ok (.lst xs) := Eq.trans rfl rfl
      obtain ⟨C1, hC1⟩ : ∃ C1, cut xs none (some (-1)) = C1 := ⟨_, rfl⟩
      obtain ⟨C2, hC2⟩ : ∃ C2, cut xs (some (-1)) none = C2 := ⟨_, rfl⟩
      obtain ⟨C3, hC3⟩ : ∃ C3, cut xs (some 1) none = C3 := ⟨_, rfl⟩
      obtain ⟨C4, hC4⟩ : ∃ C4, xs ++ C2 = C4 := ⟨_, rfl⟩
      obtain ⟨C5, hC5⟩ : ∃ C5, xs.reverse = C5 := ⟨_, rfl⟩
      rw [hC1] at s1
      rw [hC2] at s2
      rw [hC3] at s3
      rw [hC2, hC4] at ad
      rw [hC5] at rv
      rw [hC1, hC2, hC3, hC4, hC5] at hav
      obtain ⟨MM, hMM⟩ : ∃ MM : Int, (m : Int) = MM := ⟨_, rfl⟩
      have hc' : ¬ (0 < MM ∧ 0 < z % 6) := fun h => hc ⟨by omega, h.2⟩
      rw [hMM]
      by_cases hz : z / 6 % 2 = 0
      · refine ⟨v, ?_, vo⟩
        by_cases h1 : 0 < MM
        · have h2 : ¬ 0 < z % 6 := fun h => hc' ⟨h1, h⟩
          simp [runFn, t_spoilt, i1, i2, i3, l0, h1, h2, hz, lim6, li, s1, s2, s3, ad, rv, hav]
        · simp [runFn, t_spoilt, i1, i2, i3, l0, h1, hz, lim6, li, s1, s2, s3, ad, rv, hav]
      · refine ⟨u, ?_, uo⟩
        by_cases h1 : 0 < MM
        · have h2 : ¬ 0 < z % 6 := fun h => hc' ⟨h1, h⟩
          simp [runFn, t_spoilt, i1, i2, i3, l0, h1, h2, hz, lim20, lim3, hat]
        · simp [runFn, t_spoilt, i1, i2, i3, l0, h1, hz, lim20, lim3, hat]
theorem run_spoilt {P : Prog} (hP : H_spoilt P) : ∀ (m n : Nat) (d : D) (N : Nat) (z : Int), m + 1 ≤ n → SzI N d → ∃ r, run P n 12 [d, .int z, .int (m : Int)] = .ok r ∧ SzO (N + 2) r := by
  intro m
  induction m with
  | zero =>
    intro n d N z hn hd
    cases d with
    | str x =>
      obtain ⟨h1, h2⟩ : x.length ≤ 60 ∧ (∀ c ∈ x, c < 128) := by cases N <;> exact hd
      obtain ⟨r, hr, ho⟩ := spoil_str hP (show 1 ≤ n by omega) 0 x h1 h2 z
      exact ⟨r, hr, by rw [Nat.add_comm]; exact ho.up⟩
    | int i =>
      obtain ⟨h1, h2⟩ : 0 ≤ i ∧ i ≤ 1000 := by cases N <;> exact hd
      obtain ⟨r, hr, ho⟩ := spoil_int hP (show 1 ≤ n by omega) 0 i h1 h2 z
      exact ⟨r, hr, by rw [Nat.add_comm]; exact ho.up⟩
    | tup xs =>
      cases N with
      | zero => exact hd.elim
      | succ N => exact spoil_tup hP 0 hn N xs hd.1 hd.2 z fun k m' x w e _ _ => by cases e
    | _ => cases N <;> exact hd.elim
  | succ m ih =>
    intro n d N z hn hd
    cases d with
    | str x =>
      obtain ⟨h1, h2⟩ : x.length ≤ 60 ∧ (∀ c ∈ x, c < 128) := by cases N <;> exact hd
      obtain ⟨r, hr, ho⟩ := spoil_str hP (show 1 ≤ n by omega) (m + 1) x h1 h2 z
      exact ⟨r, hr, by rw [Nat.add_comm]; exact ho.up⟩
    | int i =>
      obtain ⟨h1, h2⟩ : 0 ≤ i ∧ i ≤ 1000 := by cases N <;> exact hd
      obtain ⟨r, hr, ho⟩ := spoil_int hP (show 1 ≤ n by omega) (m + 1) i h1 h2 z
      exact ⟨r, hr, by rw [Nat.add_comm]; exact ho.up⟩
    | tup xs =>
      cases N with
      | zero => exact hd.elim
      | succ N =>
        refine spoil_tup hP (m + 1) hn N xs hd.1 hd.2 z fun k m' x w e hk hm => ?_
        have : m' = m := by omega
        subst this
        exact ih k x N w hk (hd.2 x hm)
    | _ => cases N <;> exact hd.elim
end Ev

/-! MK5: edges; the law of tables. -/
namespace Ev
theorem str_int (i : Int) (h0 : 0 ≤ i) (h1 : i < BIG) : biD .str (.int i) = .ok (.str (numL i.toNat)) := if_pos ⟨h0, h1⟩
theorem run_edges {P : Prog} (hP : H_edges P) {n : Nat} (hn : 1 ≤ n) (z : Int) : ∃ es, run P n 15 [.int z] = .ok (.lst es) ∧ es.length ≤ 20 ∧ ∀ e ∈ es, SzO 3 e := by
  obtain ⟨k, hk, e⟩ := run_ex [.int z] (show 0 + 1 ≤ n from hn) hP
  rw [e]
  obtain ⟨F, hF⟩ : ∃ F, z % 3 = F := ⟨_, rfl⟩
  have f0 : 0 ≤ F := by omega
  have f2 : F ≤ 2 := by omega
  have lim1 : 1 ≤ LIM := by decide
  have lim2 : 2 ≤ LIM := by decide
  have lim3 : 3 ≤ LIM := by decide
  have lim4 : 4 ≤ LIM := by decide
  have lim7 : 7 ≤ LIM := by decide
  have lim10 : 10 ≤ LIM := by decide
  have lim11 : 11 ≤ LIM := by decide
  obtain ⟨X10, h10, l10⟩ : ∃ X, mulD (.str [49]) (.int (10 + F)) = .ok (.str X) ∧ X.length ≤ 20 := ⟨(List.replicate (10 + F).toNat [49]).flatten, if_pos ⟨by omega, by omega, by decide⟩, by simp; omega⟩
  obtain ⟨X11, h11, l11⟩ : ∃ X, mulD (.str [49]) (.int (11 + F)) = .ok (.str X) ∧ X.length ≤ 20 := ⟨(List.replicate (11 + F).toNat [49]).flatten, if_pos ⟨by omega, by omega, by decide⟩, by simp; omega⟩
  obtain ⟨XT, hT, lT, mT⟩ : ∃ X, mulD (.tup [.tup [.str [49], .int 0, .str []]]) (.int F) = .ok (.tup X) ∧ X.length ≤ 20 ∧ ∀ x ∈ X, x = .tup [.str [49], .int 0, .str []] := ⟨(List.replicate F.toNat [D.tup [.str [49], .int 0, .str []]]).flatten, if_pos ⟨by omega, by omega, by decide, List.cons_ne_nil _ _⟩, by simp; omega, fun x hx => by
    simp at hx; exact hx.2⟩
  obtain ⟨A1, hA, lA⟩ : ∃ X, cut [97] (some F) none = X ∧ X.length ≤ 20 := ⟨cut [97] (some F) none, rfl, Nat.le_trans (cut_sub _ _ _).length_le (by decide)⟩
  obtain ⟨B0, hB, lB⟩ : ∃ X, cut [97, 98, 99, 100] (some F) none = X ∧ X.length ≤ 4 := ⟨cut [97, 98, 99, 100] (some F) none, rfl, Nat.le_trans (cut_sub _ _ _).length_le (by decide)⟩
  have hB1 : B0.length + 1 ≤ LIM := by unfold LIM; omega
  obtain ⟨S1, hS1⟩ : ∃ S1, 9 + z / 4 % 4 + F / 2 = S1 := ⟨_, rfl⟩
  have rg := rng_nat (29 + F) (by unfold MID; omega)
  have rl : (29 + F).toNat ≤ 31 := by omega
  have rll : (29 + F).toNat ≤ LIM := by unfold LIM; omega
  obtain ⟨CNT, hC⟩ : ∃ C : List D, C = (List.range (29 + F).toNat).map fun (k : Nat) => D.tup [.str (numL (10 + (k : Int)).toNat), .int 5, .str [97]] := ⟨_, rfl⟩
  have sg : ∀ k : Nat, k ≤ 1000 → biD .str (.int (10 + (k : Int))) = .ok (.str (numL (10 + (k : Int)).toNat)) := fun k hk => str_int _ (by omega) (by unfold BIG; omega)
  have mp : ∀ f : D → R (Option D), (∀ k ∈ List.range (29 + F).toNat, f (.int (k : Int)) = .ok (some (D.tup [.str (numL (10 + (k : Int)).toNat), .int 5, .str [97]]))) → mapF f ((List.range (29 + F).toNat).map fun (k : Nat) => D.int (k : Int)) = .ok CNT := fun f hf => by
    have := mapF_of (f := f) (fun (k : Nat) => D.int (k : Int)) (fun k => some (D.tup [.str (numL (10 + (k : Int)).toNat), .int 5, .str [97]])) (List.range (29 + F).toNat) hf
    rw [List.filterMap_eq_map'] at this
    rw [this, hC]
  refine ⟨[.tup CNT, .tup [.tup [.str X10, .int S1, .str [97]]], .tup [.tup [.str X11, .int 12, .str [97, 98]]], .tup [.tup [.str [], .int F, .str [97]]], .tup [.tup [.str [], .int (11 + F), .str [97]]], .tup [.tup [.str [49, 50], .int 0, .str A1]], .tup [.tup [.str [49, 50], .int (1 + F), .str [97]]], .tup [.tup [.str [], .int 4, .str (B0 ++ [101])]], .tup [.tup [.str [], .int 4, .str []]], .tup [.tup [.str [49, 97], .int 4, .str [97]]], .tup XT], ?_, by show 11 ≤ 20; decide, fun e he => ?_⟩
  · simp [runFn, t_edges, hF, rg, rll]
    rw [mp _ fun k hk => by
      have := List.mem_range.mp hk
      simp [sg k (by omega), lim3]]
    simp [h10, h11, hT, hA, hB, hB1, hS1, lim1, lim2, lim3, lim4, lim7, lim10, lim11]
  · have one : ∀ (x w : List Nat) (i : Int), x.length ≤ 200 → w.length ≤ 200 → SzO 3 (.tup [.tup [.str x, .int i, .str w]]) := fun x w i h1 h2 => by
      refine ⟨by show 1 ≤ 200; decide, fun y hy => ?_⟩
      rw [List.mem_singleton.mp hy]
      refine ⟨by show 3 ≤ 200; decide, fun v hv => ?_⟩
      simp only [List.mem_cons, List.not_mem_nil, or_false] at hv
      rcases hv with rfl | rfl | rfl
      · exact h1
      · trivial
      · exact h2
    simp only [List.mem_cons, List.not_mem_nil, or_false] at he
    rcases he with rfl | rfl | rfl | rfl | rfl | rfl | rfl | rfl | rfl | rfl | rfl
    · refine ⟨by rw [hC, List.length_map, List.length_range]; omega, fun x hx => ?_⟩
      rw [hC] at hx
      obtain ⟨k, hk, rfl⟩ := List.mem_map.mp hx
      have := List.mem_range.mp hk
      have nl := numL_small (10 + (k : Int)).toNat (by omega)
      refine ⟨by show 3 ≤ 200; decide, fun v hv => ?_⟩
      simp only [List.mem_cons, List.not_mem_nil, or_false] at hv
      rcases hv with rfl | rfl | rfl
      · show (numL _).length ≤ 200; omega
      · trivial
      · show 1 ≤ 200; decide
    · exact one _ _ _ (by omega) (by decide)
    · exact one _ _ _ (by omega) (by decide)
    · exact one _ _ _ (by decide) (by decide)
    · exact one _ _ _ (by decide) (by decide)
    · exact one _ _ _ (by decide) (by omega)
    · exact one _ _ _ (by decide) (by decide)
    · exact one _ _ _ (by decide) (by rw [List.length_append]; show _ + 1 ≤ _; omega)
    · exact one _ _ _ (by decide) (by decide)
    · exact one _ _ _ (by decide) (by decide)
    · refine ⟨by omega, fun x hx => ?_⟩
      rw [mT x hx]
      refine ⟨by show 3 ≤ 200; decide, fun v hv => ?_⟩
      simp only [List.mem_cons, List.not_mem_nil, or_false] at hv
      rcases hv with rfl | rfl | rfl
      · show 1 ≤ 200; decide
      · trivial
      · show 0 ≤ 200; decide
theorem ruleT_good {r : Ru} (h : GoodRu r) : ruleT (rD r) = true := by
  have e : ruleT (rD r) = (figT 0 12 (.str r.p) && (if r.s = 0 then decide (r.w = []) else (decide (((max 1 r.p.length : Nat) : Int) ≤ r.s) && decide (r.s ≤ 12) && wordT (.str r.w)))) := rfl
  rw [e]
  have f1 : figT 0 12 (.str r.p) = true := by
    have e2 : figT 0 12 (.str r.p) = (decide (0 ≤ r.p.length) && decide (r.p.length ≤ 12) && r.p.all digB) := rfl
    rw [e2, decide_eq_true (Nat.zero_le _), decide_eq_true h.len]
    simp only [Bool.true_and]
    refine List.all_eq_true.mpr fun c hc => ?_
    obtain ⟨h1, h2⟩ := h.digs c hc
    unfold digB
    rw [decide_eq_true h1, decide_eq_true h2]; rfl
  rw [f1, Bool.true_and]
  by_cases hs : r.s = 0
  · rw [if_pos hs]; exact decide_eq_true (h.cl hs)
  · rw [if_neg hs]
    have h0 := h.s0
    have h12 := h.s12
    have hl := h.le hs
    obtain ⟨w1, w2, w3⟩ := h.w hs
    have e3 : wordT (.str r.w) = (decide (1 ≤ r.w.length) && decide (r.w.length ≤ 4) && r.w.all lowB) := rfl
    have w1' : 1 ≤ r.w.length := List.length_pos_iff.mpr w1
    rw [e3, decide_eq_true (by omega), decide_eq_true h12, decide_eq_true w1', decide_eq_true w2]
    simp only [Bool.true_and]
    refine List.all_eq_true.mpr fun c hc => ?_
    obtain ⟨h1, h2⟩ := w3 c hc
    unfold lowB
    rw [decide_eq_true h1, decide_eq_true h2]; rfl
theorem tabT_good {t : List Ru} (g : GTab t) (hl : t.length ≤ 30) : tabT (tD t) = true := by
  have e : tabT (tD t) = (decide ((t.map rD).length ≤ 30) && (t.map rD).all ruleT && decide (((t.map rD).map keyN).Pairwise fun a b => a < b)) := rfl
  have e2 : (t.map rD).map keyN = t.map Ru.p := by rw [List.map_map]; rfl
  rw [e, e2, decide_eq_true (by rw [List.length_map]; exact hl), decide_eq_true (List.pairwise_map.mpr g.pw), Bool.true_and, Bool.and_true, List.all_map]
  exact List.all_eq_true.mpr fun r hr => ruleT_good (g.ru r hr)
theorem figT_num {x : List Nat} (hd : Digs x) (h1 : 1 ≤ x.length) (h2 : x.length ≤ 12) : figT 1 12 (.str x) = true := by
  have e2 : figT 1 12 (.str x) = (decide (1 ≤ x.length) && decide (x.length ≤ 12) && x.all digB) := rfl
  rw [e2, decide_eq_true h1, decide_eq_true h2]
  simp only [Bool.true_and]
  refine List.all_eq_true.mpr fun c hc => ?_
  obtain ⟨h1, h2⟩ := hd c hc
  unfold digB
  rw [decide_eq_true h1, decide_eq_true h2]; rfl
theorem szI_tab {t : List Ru} (g : GTab t) (hl : t.length ≤ 30) : SzI 2 (tD t) := by
  refine ⟨by rw [List.length_map]; omega, fun x hx => ?_⟩
  obtain ⟨r, hr, rfl⟩ := List.mem_map.mp hx
  have h := g.ru r hr
  refine ⟨by show 3 ≤ 60; decide, fun v hv => ?_⟩
  have hv : v ∈ [D.str r.p, .int r.s, .str r.w] := hv
  simp only [List.mem_cons, List.not_mem_nil, or_false] at hv
  rcases hv with rfl | rfl | rfl
  · exact ⟨by have := h.len; omega, fun c hc => by have := (h.digs c hc).2; omega⟩
  · exact ⟨h.s0, by have := h.s12; omega⟩
  · by_cases hs : r.s = 0
    · rw [h.cl hs]; exact ⟨by decide, fun c hc => by cases hc⟩
    · obtain ⟨w1, w2, w3⟩ := h.w hs
      exact ⟨by omega, fun c hc => by have := (w3 c hc).2; omega⟩
theorem law01_tabs {P : Prog} (h4 : H_is_table P) (h14 : H_is_table1 P) {k : Nat} (hk : 5 ≤ k) (ds : List D) (hs : ∀ d ∈ ds, ∃ N, SzO N d) (s0 s1 s2 s3 s4 u5 u6 : Sl) :
    ∃ v5 v6, loopD (fun d ρ1 => execs b_law_k01_0 (tbl P k) (ρ1.set 5 (.sh d))) ds [s0, s1, s2, s3, s4, u5, u6] = .ok (.nx [s0, s1, s2, s3, s4, v5, v6]) := by
  have key := loop_any (f := fun d ρ1 => execs b_law_k01_0 (tbl P k) (ρ1.set 5 (.sh d))) (fun x : D => x) (fun i ρ => ∃ v5 v6, ρ = [s0, s1, s2, s3, s4, v5, v6]) ds [s0, s1, s2, s3, s4, u5, u6] ⟨_, _, rfl⟩ ?_
  · rw [List.map_id'] at key
    obtain ⟨ρ', h1, v5, v6, rfl⟩ := key
    exact ⟨_, _, h1⟩
  · rintro i d ρ hd ⟨v5, v6, rfl⟩
    obtain ⟨N, hN⟩ := hs d (List.mem_of_getElem? hd)
    have q1 := run_is_table h4 (show 3 ≤ k by omega) d hN.seq
    have q2 := run_is_table1 h14 (show 2 ≤ k by omega) d hN.seq
    obtain ⟨B, hB⟩ : ∃ B, tabT d = B := ⟨_, rfl⟩
    rw [hB] at q1 q2
    have ib : isiD .bool (.bl B) = true := rfl
    refine ⟨_, .inl ?_, .sh d, .sh (.bl B), rfl⟩
    simp [b_law_k01_0, tbl_run, q1, q2, ib, ne_bl]
theorem law01_nums {P : Prog} (h1 : H_is_number P) (h13 : H_are_figures1 P) {k : Nat} (hk : 5 ≤ k) (ds : List D) (hs : ∀ d ∈ ds, ∃ N, SzO N d) (s0 s1 s2 s3 s4 u5 u6 : Sl) :
    ∃ v5 v6, loopD (fun d ρ1 => execs b_law_k01_1 (tbl P k) (ρ1.set 5 (.sh d))) ds [s0, s1, s2, s3, s4, u5, u6] = .ok (.nx [s0, s1, s2, s3, s4, v5, v6]) := by
  have key := loop_any (f := fun d ρ1 => execs b_law_k01_1 (tbl P k) (ρ1.set 5 (.sh d))) (fun x : D => x) (fun i ρ => ∃ v5 v6, ρ = [s0, s1, s2, s3, s4, v5, v6]) ds [s0, s1, s2, s3, s4, u5, u6] ⟨_, _, rfl⟩ ?_
  · rw [List.map_id'] at key
    obtain ⟨ρ', h1, v5, v6, rfl⟩ := key
    exact ⟨_, _, h1⟩
  · rintro i d ρ hd ⟨v5, v6, rfl⟩
    obtain ⟨N, hN⟩ := hs d (List.mem_of_getElem? hd)
    have q1 := run_is_number h1 (show 2 ≤ k by omega) d hN.txt
    have q2 := run_are_figures1 h13 (show 1 ≤ k by omega) d hN.txt 1 12
    have q2 : run P k 13 [d, .int 1, .int 12] = .ok (.bl (figT 1 12 d)) := q2
    obtain ⟨B, hB⟩ : ∃ B, figT 1 12 d = B := ⟨_, rfl⟩
    rw [hB] at q1 q2
    have ib : isiD .bool (.bl B) = true := rfl
    refine ⟨_, .inl ?_, .sh d, .sh (.bl B), rfl⟩
    simp [b_law_k01_1, tbl_run, q1, q2, ib, ne_bl]
end Ev

/-! MK6: the law of tables. -/
namespace Ev
theorem run_law01 {P : Prog} (hP : H_law_k01 P) {n : Nat} (hn : 7 ≤ n) (ns : List Int) : run P n 16 [scr ns] = .ok (.bl true) := by
  obtain ⟨h0, hM, hT, hNu, hIn, hIt, hSp, hEd, hIt1, hAf1⟩ := hP
  obtain ⟨k, hk, e⟩ := run_ex [scr ns] (show 6 + 1 ≤ n from hn) h0
  rw [e]
  obtain ⟨z0, hz0, -⟩ := run_mixed hM (show 2 ≤ k by omega) ns 0
  obtain ⟨z1, hz1, -⟩ := run_mixed hM (show 2 ≤ k by omega) ns 1
  obtain ⟨z2, hz2, -⟩ := run_mixed hM (show 2 ≤ k by omega) ns 2
  obtain ⟨z3, hz3, -⟩ := run_mixed hM (show 2 ≤ k by omega) ns 3
  obtain ⟨z4, hz4, -⟩ := run_mixed hM (show 2 ≤ k by omega) ns 4
  obtain ⟨z5, hz5, -⟩ := run_mixed hM (show 2 ≤ k by omega) ns 5
  have hz0 : run P k 6 [scr ns, .int 0] = .ok (.int z0) := hz0
  have hz1 : run P k 6 [scr ns, .int 1] = .ok (.int z1) := hz1
  have hz2 : run P k 6 [scr ns, .int 2] = .ok (.int z2) := hz2
  have hz3 : run P k 6 [scr ns, .int 3] = .ok (.int z3) := hz3
  have hz4 : run P k 6 [scr ns, .int 4] = .ok (.int z4) := hz4
  have hz5 : run P k 6 [scr ns, .int 5] = .ok (.int z5) := hz5
  obtain ⟨t, ht, hg, hl⟩ := run_table hT (show 4 ≤ k by omega) z1 30 (by decide) (by decide)
  obtain ⟨x, hx, hxd, hx1, hx2⟩ := run_number hNu (show 3 ≤ k by omega) z2 hg
  have tl : t.length ≤ 30 := by omega
  have it := szI_tab hg tl
  have ix : SzI 0 (.str x) := ⟨by omega, fun c hc => by have := (hxd c hc).2; omega⟩
  have q1 := run_is_table hIt (show 3 ≤ k by omega) (tD t) it.o.seq
  rw [tabT_good hg tl] at q1
  have q2 := run_is_number hIn (show 2 ≤ k by omega) (.str x) ix.o.txt
  rw [figT_num hxd hx1 hx2] at q2
  obtain ⟨B, hB⟩ : ∃ B, t_law_k01.body = B := ⟨_, rfl⟩
  have P1 : execs (tkS 5 B) (tbl P k) [.sh (scr ns), .un, .un, .un, .un, .un, .un] = .ok (.nx [.sh (scr ns), .sh (.int z0), .sh (tD t), .sh (.str x), .sh (tD t), .un, .un]) := by
    rw [← hB]
    simp [t_law_k01, tkS, tbl_run, hz0, hz1, hz2, ht, hx, q1, q2]
    done
  obtain ⟨TH, TL, oTH, oTL, P2⟩ : ∃ TH TL, SzO 4 TH ∧ SzO 4 TL ∧ execs (tkS 1 (drS 5 B)) (tbl P k) [.sh (scr ns), .sh (.int z0), .sh (tD t), .sh (.str x), .sh (tD t), .un, .un] = .ok (.nx [.sh (scr ns), .sh (.int z0), .sh (tD t), .sh TL, .sh TH, .un, .un]) := by
    by_cases hz : 0 < z0 % 3
    · obtain ⟨j, hj⟩ : ∃ j : Nat, z0 / 4 % 4 = (j : Int) := ⟨(z0 / 4 % 4).toNat, by omega⟩
      obtain ⟨TH, h1, o1⟩ := run_spoilt hSp j k (tD t) 2 z3 (by omega) it
      obtain ⟨TL, h2, o2⟩ := run_spoilt hSp 0 k (.str x) 0 z4 (by omega) ix
      have h2 : run P k 12 [.str x, .int z4, .int 0] = .ok TL := h2
      rw [← hj] at h1
      refine ⟨TH, TL, o1, SzO.up (m := 2) o2, ?_⟩
      rw [← hB]
      simp [t_law_k01, tkS, drS, hz, tbl_run, hz3, hz4, h1, h2]
    · refine ⟨tD t, .str x, SzO.up (m := 2) it.o, SzO.up (m := 4) ix.o, ?_⟩
      rw [← hB]
      simp [t_law_k01, tkS, drS, hz]
  obtain ⟨es, hes, el, eo⟩ := run_edges hEd (show 1 ≤ k by omega) z5
  have lim2 : 2 ≤ LIM := by decide
  have lim8 : 8 ≤ LIM := by decide
  have lim1 : 1 ≤ LIM := by decide
  have ad : addD (.lst es) (.lst [TH, TL]) = .ok (.lst (es ++ [TH, TL])) := if_pos (by show es.length + 2 ≤ LIM; unfold LIM; omega)
  obtain ⟨v5, v6, L1⟩ := law01_tabs hIt hIt1 (show 5 ≤ k by omega) (es ++ [TH, TL]) (fun d hd => by
    simp only [List.mem_append, List.mem_cons, List.not_mem_nil, or_false] at hd
    rcases hd with q | rfl | rfl
    · exact ⟨3, eo d q⟩
    · exact ⟨4, oTH⟩
    · exact ⟨4, oTL⟩) (.sh (scr ns)) (.sh (.int z0)) (.sh (tD t)) (.sh TL) (.sh TH) .un .un
  have hz30 := Int.emod_nonneg z0 (b := 3) (by decide)
  have hz31 := Int.emod_lt_of_pos z0 (b := 3) (by decide)
  obtain ⟨X, hX, lX⟩ : ∃ X, mulD (.str [49]) (.int (11 + z0 % 3)) = .ok (.str X) ∧ X.length ≤ 20 := ⟨(List.replicate (11 + z0 % 3).toNat [49]).flatten, if_pos ⟨by omega, by omega, by decide⟩, by simp; omega⟩
  obtain ⟨w5, w6, L2⟩ := law01_nums hIn hAf1 (show 5 ≤ k by omega) [TL, .str X, .str [], .str [49, 50, 97], .int 12, .non, .tup [.str [49]], TH] (fun d hd => by
    simp only [List.mem_cons, List.not_mem_nil, or_false] at hd
    rcases hd with rfl | rfl | rfl | rfl | rfl | rfl | rfl | rfl
    · exact ⟨4, oTL⟩
    · exact ⟨0, by show X.length ≤ 200; omega⟩
    · exact ⟨0, by show 0 ≤ 200; decide⟩
    · exact ⟨0, by show 3 ≤ 200; decide⟩
    · exact ⟨0, trivial⟩
    · exact ⟨0, trivial⟩
    · exact ⟨1, by show 1 ≤ 200; decide, fun y hy => by rw [List.mem_singleton.mp hy]; show 1 ≤ 200; decide⟩
    · exact ⟨4, oTH⟩) (.sh (scr ns)) (.sh (.int z0)) (.sh (tD t)) (.sh TL) (.sh TH) v5 v6
  have P3 : execs (drS 1 (drS 5 B)) (tbl P k) [.sh (scr ns), .sh (.int z0), .sh (tD t), .sh TL, .sh TH, .un, .un] = .ok (.rt (.bl true)) := by
    have itl : itD (.lst (es ++ [TH, TL])) = .ok (es ++ [TH, TL]) := Eq.trans rfl rfl
    obtain ⟨EE, hEE⟩ : ∃ EE, es ++ [TH, TL] = EE := ⟨_, rfl⟩
    rw [hEE] at ad L1 itl
    rw [← hB]
    simp [t_law_k01, drS, tbl_run, hz5, hes, lim2, ad]
    rw [L1]
    simp [hX, lim8, lim1]
    rw [L2]
    simp
  have run := execs_via 5 P1 (execs_via 1 P2 P3)
  rw [← hB] at run
  show (match execs t_law_k01.body (tbl P k) [.sh (scr ns), .un, .un, .un, .un, .un, .un] with
    | .ok (.nx _) => R.ok D.non
    | .ok (.rt d) => .ok d
    | .ok (.ct _) => .no
    | .ex c => .ex c
    | .no => .no) = _
  rw [run]
end Ev

/-! MT1: tables and samples as texts. -/
namespace Ev
abbrev Row := List (List Nat)
def rowD (r : Row) : D := .lst (r.map D.str)
def lineOfR (r : Row) : List Nat := joinL [32] r ++ [10]
def textOf (rs : List Row) : List Nat := (rs.map lineOfR).flatten
theorem joinL_nil : ∀ ys : List (List Nat), joinL [] ys = ys.flatten
  | [] => rfl
  | [x] => by simp [joinL]
  | x :: y :: r => by
    rw [joinL, joinL_nil (y :: r)]; simp
theorem joinL_len (s : List Nat) : ∀ ys : List (List Nat), (joinL s ys).length ≤ sumLen ys + s.length * ys.length
  | [] => Nat.zero_le _
  | [x] => by simp [joinL, sumLen]
  | x :: y :: r => by
    have := joinL_len s (y :: r)
    rw [joinL, List.length_append, List.length_append]
    have e : sumLen (x :: y :: r) = x.length + sumLen (y :: r) := rfl
    rw [e, List.length_cons, Nat.mul_add]
    omega
/-- rows of a size -/
def RowsOk (rs : List Row) : Prop := rs.length ≤ 100 ∧ ∀ r ∈ rs, r.length ≤ 10 ∧ sumLen r ≤ 100
theorem line_len {r : Row} (h : r.length ≤ 10 ∧ sumLen r ≤ 100) : (lineOfR r).length ≤ 111 := by
  have := joinL_len [32] r
  unfold lineOfR
  rw [List.length_append]
  have e : ([32] : List Nat).length = 1 := rfl
  rw [e] at this
  show _ + 1 ≤ _
  omega
theorem sumLen_le (k : Nat) : ∀ ys : List (List Nat), (∀ y ∈ ys, y.length ≤ k) → sumLen ys ≤ k * ys.length
  | [], _ => Nat.zero_le _
  | y :: ys, h => by
    have h1 := h y List.mem_cons_self
    have h2 := sumLen_le k ys fun a ha => h a (List.mem_cons_of_mem _ ha)
    show y.length + sumLen ys ≤ _
    rw [List.length_cons, Nat.mul_add]
    omega
theorem run_rows_text {P : Prog} (hP : H_rows_text P) {n : Nat} (hn : 1 ≤ n) {rs : List Row} (ok : RowsOk rs) : run P n 109 [.lst (rs.map rowD)] = .ok (.str (textOf rs)) := by
  refine run_of hn hP fun k hk => ?_
  have rl : rs.length ≤ LIM := by have := ok.1; unfold LIM; omega
  have itr : itD (.lst (rs.map rowD)) = .ok (rs.map rowD) := Eq.trans rfl rfl
  have jn : mtD .join (.str []) (.lst ((rs.map lineOfR).map D.str)) = .ok (.str (textOf rs)) := by
    show (allS ((rs.map lineOfR).map D.str)).bind _ = _
    rw [allS_strs]
    show (if sumLen (rs.map lineOfR) + 0 * (rs.map lineOfR).length ≤ LIM then R.ok (D.str (joinL [] (rs.map lineOfR))) else R.no) = _
    have h1 := sumLen_le 111 (rs.map lineOfR) fun y hy => by
      obtain ⟨r, hr, rfl⟩ := List.mem_map.mp hy
      exact line_len (ok.2 r hr)
    rw [List.length_map] at h1
    rw [if_pos (by have := ok.1; unfold LIM; omega), joinL_nil]; rfl
  obtain ⟨LS, hLS⟩ : ∃ LS, (rs.map lineOfR).map D.str = LS := ⟨_, rfl⟩
  rw [hLS] at jn
  have mp : ∀ f : D → R (Option D), (∀ r ∈ rs, f (rowD r) = .ok (some (.str (lineOfR r)))) → mapF f (rs.map rowD) = .ok LS := fun f hf => by
    have := mapF_of (f := f) rowD (fun r => some (.str (lineOfR r))) rs hf
    rw [List.filterMap_eq_map'] at this
    rw [this, ← hLS, List.map_map]; rfl
  simp [runFn, t_rows_text, itr, rl]
  rw [mp _ fun r hr => by
    have j1 : mtD .join (.str [32]) (rowD r) = .ok (.str (joinL [32] r)) := by
      show (allS (r.map D.str)).bind _ = _
      rw [allS_strs]
      show (if sumLen r + 1 * r.length ≤ LIM then R.ok (D.str (joinL [32] r)) else R.no) = _
      rw [if_pos (by have := ok.2 r hr; unfold LIM; omega)]
    have l1 : (joinL [32] r).length + 1 ≤ LIM := by
      have := line_len (ok.2 r hr)
      unfold lineOfR at this
      rw [List.length_append] at this
      have this : (joinL [32] r).length + 1 ≤ 111 := this
      unfold LIM; omega
    simp [j1, l1, lineOfR]]
  simp [jn]
def starP (p : List Nat) : List Nat := if p = [] then [42] else p
def ruleRow (r : Ru) : Row := if r.s = 0 then [starP r.p, numL r.s.toNat] else [starP r.p, numL r.s.toNat, r.w]
def tabText (t : List Ru) : List Nat := textOf (t.map ruleRow)
theorem ruleRow_ok {r : Ru} (h : GoodRu r) : (ruleRow r).length ≤ 10 ∧ sumLen (ruleRow r) ≤ 100 := by
  have h1 := h.len
  have h2 := h.s12
  have h3 := h.s0
  have n1 := numL_small r.s.toNat (by omega)
  have st : (starP r.p).length ≤ 12 := by
    unfold starP
    split
    · decide
    · omega
  unfold ruleRow
  by_cases hs : r.s = 0
  · rw [if_pos hs]
    refine ⟨by simp, ?_⟩
    show (starP r.p).length + ((numL r.s.toNat).length + 0) ≤ 100
    omega
  · rw [if_neg hs]
    have w := (h.w hs).2.1
    refine ⟨by simp, ?_⟩
    show (starP r.p).length + ((numL r.s.toNat).length + (r.w.length + 0)) ≤ 100
    omega
theorem eq_strnil (y : List Nat) : eqD (.str y) (.str []) = .ok (.bl (decide (y = []))) := by
  show R.ok (D.bl (y == [])) = _
  cases y <;> rfl
theorem eq_int0 (i : Int) : eqD (.int i) (.int 0) = .ok (.bl (decide (i = 0))) := by
  show R.ok (D.bl (i == 0)) = _
  congr 2
theorem run_rule_words {P : Prog} (hP : H_rule_words P) {n : Nat} (hn : 1 ≤ n) {r : Ru} (h : GoodRu r) : run P n 110 [rD r] = .ok (rowD (ruleRow r)) := by
  refine run_of hn hP fun k hk => ?_
  have st : ∀ ρ : Env, store [1, 2, 3] true (rD r) ρ = setAll ρ [1, 2, 3] [.str r.p, .int r.s, .str r.w] := fun ρ => Eq.trans rfl rfl
  have h2 := h.s12
  have sg := str_int r.s h.s0 (by unfold BIG; omega)
  have lim2 : 2 ≤ LIM := by decide
  have lim3 : 3 ≤ LIM := by decide
  have e1 := eq_strnil r.p
  have e2 := eq_int0 r.s
  obtain ⟨N, hN⟩ : ∃ N, numL r.s.toNat = N := ⟨_, rfl⟩
  rw [hN] at sg
  unfold ruleRow starP rowD
  rw [hN]
  by_cases hp : r.p = []
  · rw [decide_eq_true hp] at e1
    rw [if_pos hp]
    by_cases hs : r.s = 0
    · rw [decide_eq_true hs] at e2
      rw [if_pos hs]
      simp [runFn, t_rule_words, st, e1, e2, sg, lim2]
    · rw [decide_eq_false hs] at e2
      rw [if_neg hs]
      simp [runFn, t_rule_words, st, e1, e2, sg, lim3]
  · rw [decide_eq_false hp] at e1
    rw [if_neg hp]
    by_cases hs : r.s = 0
    · rw [decide_eq_true hs] at e2
      rw [if_pos hs]
      simp [runFn, t_rule_words, st, e1, e2, sg, lim2]
    · rw [decide_eq_false hs] at e2
      rw [if_neg hs]
      simp [runFn, t_rule_words, st, e1, e2, sg, lim3]
theorem run_table_text {P : Prog} (hP : H_table_text P) {n : Nat} (hn : 2 ≤ n) {t : List Ru} (h : ∀ r ∈ t, GoodRu r) (hl : t.length ≤ 100) : run P n 111 [tD t] = .ok (.str (tabText t)) := by
  obtain ⟨h0, hR, hW⟩ := hP
  obtain ⟨k, hk, e⟩ := run_ex [tD t] hn h0
  rw [e]
  have ll : t.length ≤ LIM := by unfold LIM; omega
  have ok : RowsOk (t.map ruleRow) := ⟨by rw [List.length_map]; exact hl, fun r hr => by
    obtain ⟨q, hq, rfl⟩ := List.mem_map.mp hr
    exact ruleRow_ok (h q hq)⟩
  have q := run_rows_text hR (show 1 ≤ k by omega) ok
  obtain ⟨RS, hRS⟩ : ∃ RS, (t.map ruleRow).map rowD = RS := ⟨_, rfl⟩
  rw [hRS] at q
  have mp : ∀ f : D → R (Option D), (∀ r ∈ t, f (rD r) = .ok (some (rowD (ruleRow r)))) → mapF f (t.map rD) = .ok RS := fun f hf => by
    have := mapF_of (f := f) rD (fun r => some (rowD (ruleRow r))) t hf
    rw [List.filterMap_eq_map'] at this
    rw [this, ← hRS, List.map_map]; rfl
  simp [runFn, t_table_text, itD_tD, ll]
  rw [mp _ fun r hr => by
    have w := run_rule_words hW (show 1 ≤ k by omega) (h r hr)
    simp [tbl_run, w]]
  simp [tbl_run, q, tabText]
end Ev

/-! MT2: samples drawn; samples as texts. -/
namespace Ev
section
variable {β : Type} (val : β → D)
def leG (a b : List Nat × β) : Bool := decide (a.1 ≤ b.1)
def sortG (t : List (List Nat × β)) : List (List Nat × β) := t.mergeSort leG
theorem sortG_perm (t : List (List Nat × β)) : (sortG t).Perm t := List.mergeSort_perm _ _
theorem sortG_pw (t : List (List Nat × β)) : (sortG t).Pairwise fun a b => leG a b = true := by
  refine List.pairwise_mergeSort (fun a b c h1 h2 => ?_) (fun a b => ?_) t
  · unfold leG at *
    rw [decide_eq_true_eq] at *
    exact List.le_trans h1 h2
  · unfold leG
    rcases List.le_total a.1 b.1 with z | z
    · rw [decide_eq_true z]; rfl
    · rw [decide_eq_true z, Bool.or_true]
theorem sortG_keys (t : List (List Nat × β)) : (t.map fun r => D.str r.1).mergeSort leD = (sortG t).map fun r => D.str r.1 :=
  (List.map_mergeSort (f := fun r : List Nat × β => D.str r.1) (s := leD) (r := leG) fun a _ b _ => (leStr a.1 b.1).symm).symm
def putG : List (List Nat × β) → List Nat × β → List (List Nat × β)
  | [], r => [r]
  | a :: t, r => if a.1 = r.1 then r :: t else a :: putG t r
theorem putG_keys : ∀ (t : List (List Nat × β)) (r : List Nat × β), putK (t.map (·.1)) r.1 = (putG t r).map (·.1)
  | [], r => rfl
  | a :: t, r => by
    rw [List.map_cons, putK, putG]
    by_cases h : a.1 = r.1
    · rw [if_pos h, if_pos h, List.map_cons, h]
    · rw [if_neg h, if_neg h, List.map_cons, putG_keys t r]
theorem putG_vals (r : List Nat × β) : ∀ t : List (List Nat × β), putV (t.map (·.1)) (t.map fun a => val a.2) r.1 (val r.2) = (putG t r).map fun a => val a.2
  | [] => rfl
  | a :: t => by
    rw [List.map_cons, List.map_cons, putV, putG]
    by_cases h : a.1 = r.1
    · rw [if_pos h, if_pos h, List.map_cons]
    · rw [if_neg h, if_neg h, List.map_cons, putG_vals r t]
theorem putG_mem {r a : List Nat × β} : ∀ {t : List (List Nat × β)}, a ∈ putG t r → a ∈ t ∨ a = r
  | [], h => .inr (List.mem_singleton.mp h)
  | b :: t, h => by
    rw [putG] at h
    split at h
    · rcases List.mem_cons.mp h with z | z
      · exact .inr z
      · exact .inl (List.mem_cons_of_mem _ z)
    · rcases List.mem_cons.mp h with z | z
      · exact .inl (z ▸ List.mem_cons_self)
      · rcases putG_mem z with z | z
        · exact .inl (List.mem_cons_of_mem _ z)
        · exact .inr z
def keysG (t : List (List Nat × β)) : List (List Nat) := t.map (·.1)
theorem putG_keymem {r : List Nat × β} {x : List Nat} : ∀ {t : List (List Nat × β)}, x ∈ keysG (putG t r) → x ∈ keysG t ∨ x = r.1 := fun {t} h => by
  obtain ⟨a, ha, rfl⟩ := List.mem_map.mp h
  rcases putG_mem ha with z | z
  · exact .inl (List.mem_map.mpr ⟨a, z, rfl⟩)
  · exact .inr (by rw [z])
theorem putG_nodup (r : List Nat × β) : ∀ {t : List (List Nat × β)}, (keysG t).Nodup → (keysG (putG t r)).Nodup
  | [], _ => by simp [putG, keysG]
  | a :: t, h => by
    have h : (a.1 :: keysG t).Nodup := h
    rw [List.nodup_cons] at h
    rw [putG]
    split
    · rename_i e
      show (r.1 :: keysG t).Nodup
      rw [List.nodup_cons, ← e]
      exact h
    · rename_i e
      show (a.1 :: keysG (putG t r)).Nodup
      rw [List.nodup_cons]
      refine ⟨fun z => ?_, putG_nodup r h.2⟩
      rcases putG_keymem z with z | z
      · exact h.1 z
      · exact e z
theorem putG_len (r : List Nat × β) : ∀ t : List (List Nat × β), (putG t r).length ≤ t.length + 1
  | [] => by simp [putG]
  | a :: t => by
    rw [putG]
    split
    · simp
    · rw [List.length_cons, List.length_cons]
      exact Nat.succ_le_succ (putG_len r t)
theorem dgetG (t : List (List Nat × β)) (nd : (keysG t).Nodup) (r : List Nat × β) (h : r ∈ t) : dget (t.map (·.1)) (t.map fun a => val a.2) r.1 = some (val r.2) := by
  induction t with
  | nil => cases h
  | cons a t ih =>
    have nd : (a.1 :: keysG t).Nodup := nd
    rw [List.nodup_cons] at nd
    unfold dget at ih ⊢
    rw [List.map_cons, List.map_cons, List.zip_cons_cons, List.lookup_cons]
    rcases List.mem_cons.mp h with z | z
    · subst z; simp
    · have : (r.1 == a.1) = false := beq_eq_false_iff_ne.mpr fun e => nd.1 (e ▸ List.mem_map.mpr ⟨r, z, rfl⟩)
      rw [this]
      exact ih nd.2 z
theorem sortG_srt {t : List (List Nat × β)} (nd : (keysG t).Nodup) : (keysG (sortG t)).Pairwise fun a b => a < b := by
  have h1 := sortG_pw t
  have h2 : (keysG (sortG t)).Nodup := ((sortG_perm t).map (fun l : List Nat × β => l.1)).nodup_iff.mpr nd
  have h3 : (sortG t).Pairwise fun a b => a.1 ≠ b.1 := List.pairwise_map.mp h2
  refine List.pairwise_map.mpr ((h1.and h3).imp fun {a b} ⟨z1, z2⟩ => ?_)
  unfold leG at z1
  rw [decide_eq_true_eq] at z1
  by_cases z : a.1 < b.1
  · exact z
  · exact absurd (List.le_antisymm z1 (List.not_lt.mp z)) z2
end
/-! ### samples -/
abbrev Sm := List Nat × Option (List Nat)
def wdD : Option (List Nat) → D
  | none => .non
  | some w => .str w
def smD (p : Sm) : D := .tup [.str p.1, wdD p.2]
def spD (ss : List Sm) : D := .tup (ss.map smD)
structure GoodSm (p : Sm) : Prop where
  digs : Digs p.1
  len : 1 ≤ p.1.length ∧ p.1.length ≤ 5
  word : p.2 ∈ [none, some [97], some [98], some [99, 100]]
structure GSamp (ss : List Sm) : Prop where
  sm : ∀ p ∈ ss, GoodSm p
  srt : (keysG ss).Pairwise fun a b => a < b
def dashW : Option (List Nat) → List Nat
  | none => [45]
  | some w => w
def pairRow (p : Sm) : Row := [p.1, dashW p.2]
def sampText (ss : List Sm) : List Nat := textOf (ss.map pairRow)
theorem pairRow_ok {p : Sm} (h : GoodSm p) : (pairRow p).length ≤ 10 ∧ sumLen (pairRow p) ≤ 100 := by
  have h1 := h.len.2
  have h2 : (dashW p.2).length ≤ 4 := by
    have := h.word
    simp only [List.mem_cons, List.not_mem_nil, or_false] at this
    rcases this with e | e | e | e <;> rw [e] <;> decide
  refine ⟨by show 2 ≤ 10; decide, ?_⟩
  show p.1.length + ((dashW p.2).length + 0) ≤ 100
  omega
theorem store_smD (p : Sm) (ρ : Env) : store [2, 3] true (smD p) ρ = setAll ρ [2, 3] [.str p.1, wdD p.2] := Eq.trans rfl rfl
theorem run_sample_text {P : Prog} (hP : H_sample_text P) {n : Nat} (hn : 2 ≤ n) {ss : List Sm} (h : ∀ p ∈ ss, GoodSm p) (hl : ss.length ≤ 100) : run P n 112 [spD ss] = .ok (.str (sampText ss)) := by
  obtain ⟨h0, hR⟩ := hP
  obtain ⟨k, hk, e⟩ := run_ex [spD ss] hn h0
  rw [e]
  have ok : RowsOk (ss.map pairRow) := ⟨by rw [List.length_map]; exact hl, fun r hr => by
    obtain ⟨q, hq, rfl⟩ := List.mem_map.mp hr
    exact pairRow_ok (h q hq)⟩
  have q := run_rows_text hR (show 1 ≤ k by omega) ok
  have its : itD (spD ss) = .ok (ss.map smD) := Eq.trans rfl rfl
  have key := loop_any (f := fun d ρ1 => (store [2, 3] true d ρ1).bind fun ρ2 => execs b_sample_text_0 (tbl P k) ρ2) smD
    (fun i ρ => ∃ u2 u3, ρ = [.sh (spD ss), .ow (((ss.take i).map pairRow).map rowD), u2, u3]) ss [.sh (spD ss), .ow [], .un, .un] ⟨_, _, rfl⟩ ?_
  · obtain ⟨ρ', h3, u2, u3, rfl⟩ := key
    rw [List.take_length] at h3
    obtain ⟨RS, hRS⟩ : ∃ RS, (ss.map pairRow).map rowD = RS := ⟨_, rfl⟩
    rw [hRS] at q h3
    simp [runFn, t_sample_text, its]
    rw [h3]
    simp [tbl_run, q, sampText]
  · rintro i p ρ hp ⟨u2, u3, rfl⟩
    have hi := (List.getElem?_eq_some_iff.mp hp).1
    obtain ⟨RS, hRS⟩ : ∃ RS, ((ss.take i).map pairRow).map rowD = RS := ⟨_, rfl⟩
    have rl : RS.length < LIM := by
      rw [← hRS, List.length_map, List.length_map, List.length_take]; unfold LIM; omega
    have et : ((ss.take (i + 1)).map pairRow).map rowD = RS ++ [rowD (pairRow p)] := by
      rw [List.take_add_one, hp, ← hRS]; simp
    have lim2 : 2 ≤ LIM := by decide
    obtain ⟨x, w⟩ := p
    rw [hRS]
    refine ⟨[.sh (spD ss), .ow (((ss.take (i + 1)).map pairRow).map rowD), .sh (.str x), .sh (.str (dashW w))], .inl ?_, _, _, rfl⟩
    rw [et]
    have er : rowD (pairRow (x, w)) = .lst [.str x, .str (dashW w)] := rfl
    rw [er]
    cases w with
    | none => simp [store_smD, b_sample_text_0, wdD, dashW, isNone, lim2, rl]
    | some w => simp [store_smD, b_sample_text_0, wdD, dashW, isNone, lim2, rl]
theorem run_sample {P : Prog} (hP : H_sample P) {n : Nat} (hn : 2 ≤ n) (z most : Int) (h0 : 0 ≤ most) (h1 : most ≤ 100) : ∃ ss, run P n 80 [.int z, .int most] = .ok (spD ss) ∧ GSamp ss ∧ (ss.length : Int) ≤ most := by
  obtain ⟨hS, hd⟩ := hP
  have hm0 := Int.emod_nonneg z (b := most + 1) (by omega)
  have hm1 := Int.emod_lt_of_pos z (b := most + 1) (by omega)
  obtain ⟨k, hk, e⟩ := run_ex [.int z, .int most] hn hS
  rw [e]
  have lim2 : 2 ≤ LIM := by decide
  have lim3 : 3 ≤ LIM := by decide
  have lim5 : 5 ≤ LIM := by decide
  have lim10 : 10 ≤ LIM := by decide
  have key := loop_any (f := fun d ρ1 => execs b_sample_1 (tbl P k) (ρ1.set 3 (.sh d))) (fun (k : Nat) => D.int (k : Int))
    (fun i ρ => ∃ (t : List Sm) (u3 u4 u5 u6 u7 u8 : Sl), ρ = [.sh (.int z), .sh (.int most), .od (t.map (·.1)) (t.map fun a => wdD a.2), u3, u4, u5, u6, u7, u8] ∧ (∀ p ∈ t, GoodSm p) ∧ (keysG t).Nodup ∧ t.length ≤ i) (List.range (z % (most + 1)).toNat)
    [.sh (.int z), .sh (.int most), .od [] [], .un, .un, .un, .un, .un, .un] ⟨[], _, _, _, _, _, _, rfl, (by intro r h; cases h), List.nodup_nil, Nat.le_refl _⟩ ?_
  · obtain ⟨ρ', h3, t, u3, u4, u5, u6, u7, u8, rfl, h4, h5, h6⟩ := key
    rw [List.length_range] at h6
    have hlim : t.length ≤ LIM := by unfold LIM; omega
    refine ⟨sortG t, ?_, ⟨fun p hp => h4 p ((sortG_perm t).mem_iff.mp hp), sortG_srt h5⟩, by rw [(sortG_perm t).length_eq]; omega⟩
    have es : sortD ((t.map (·.1)).map D.str) = .ok (.lst ((sortG t).map fun r => D.str r.1)) := by
      rw [← sortG_keys]
      have := sortD_strs (t.map (·.1)) (by rw [List.length_map]; exact hlim)
      rw [List.map_map] at this ⊢
      exact this
    have rg := rng_nat (z % (most + 1)) (by unfold MID; omega)
    simp [runFn, t_sample, show 0 < most + 1 by omega, rg]
    rw [h3]
    rw [List.map_map] at es
    simp [es, (sortG_perm t).length_eq, hlim]
    rw [mapF_of (fun r : Sm => D.str r.1) (fun r => some (smD r)) (sortG t) fun r hr => by
      simp [dgetG wdD t h5 r ((sortG_perm t).mem_iff.mp hr), lim2, smD]]
    simp [spD]
  · rintro i a ρ ha ⟨t, u3, u4, u5, u6, u7, u8, rfl, h4, h5, h6⟩
    obtain ⟨hi, rfl⟩ := range_at ha
    obtain ⟨y, hy, -⟩ := run_drawn hd (show 1 ≤ k by omega) z (70 + (a : Int))
    obtain ⟨M, hM, hM0, hM5⟩ : ∃ M : Int, atI [D.int 3, .int 5] (z / 64 % 2) = some (.int M) ∧ 0 < M ∧ M ≤ 5 := by
      have : z / 64 % 2 = 0 ∨ z / 64 % 2 = 1 := by omega
      rcases this with e | e <;> rw [e]
      · exact ⟨3, rfl, by decide, by decide⟩
      · exact ⟨5, rfl, by decide, by decide⟩
    have hy0 := Int.emod_nonneg (y / 16) (b := M) (by omega)
    have hy1 := Int.emod_lt_of_pos (y / 16) (b := M) hM0
    obtain ⟨G, hG, hG0, hG10⟩ : ∃ G : Int, atI [D.int 2, .int 3, .int 10] (z / 128 % 3) = some (.int G) ∧ 0 < G ∧ G ≤ 10 := by
      obtain ⟨u, hu, h⟩ := pick3 (D.int 2) (.int 3) (.int 10) (z / 128)
      simp only [List.mem_cons, List.not_mem_nil, or_false] at hu
      rcases hu with rfl | rfl | rfl
      · exact ⟨2, h, by decide, by decide⟩
      · exact ⟨3, h, by decide, by decide⟩
      · exact ⟨10, h, by decide, by decide⟩
    obtain ⟨w, hw, hwo⟩ : ∃ w : Option (List Nat), atI [D.non, .str [97], .str [97], .str [98], .str [99, 100]] (y / 128 % 5) = some (wdD w) ∧ w ∈ [none, some [97], some [98], some [99, 100]] := by
      obtain ⟨u, hu, h⟩ := at_mod [D.non, .str [97], .str [97], .str [98], .str [99, 100]] (List.cons_ne_nil _ _) (y / 128)
      have h : atI [D.non, .str [97], .str [97], .str [98], .str [99, 100]] (y / 128 % 5) = some u := h
      simp only [List.mem_cons, List.not_mem_nil, or_false] at hu
      rcases hu with rfl | rfl | rfl | rfl | rfl
      · exact ⟨none, h, by decide⟩
      · exact ⟨some [97], h, by decide⟩
      · exact ⟨some [97], h, by decide⟩
      · exact ⟨some [98], h, by decide⟩
      · exact ⟨some [99, 100], h, by decide⟩
    have hlim : t.length < LIM := by unfold LIM; omega
    have inner := loop_any (f := fun d ρ1 => execs b_sample_0 (tbl P k) (ρ1.set 6 (.sh d))) (fun (k : Nat) => D.int (k : Int))
      (fun i ρ => ∃ x u6 u7, ρ = [.sh (.int z), .sh (.int most), .od (t.map (·.1)) (t.map fun a => wdD a.2), .sh (.int (a : Int)), .sh (.int y), .sh (.str x), u6, u7, u8] ∧ Digs x ∧ x.length = i) (List.range (1 + y / 16 % M).toNat)
      [.sh (.int z), .sh (.int most), .od (t.map (·.1)) (t.map fun a => wdD a.2), .sh (.int (a : Int)), .sh (.int y), .sh (.str []), u6, u7, u8] ⟨[], _, _, rfl, (by intro c hc; cases hc), rfl⟩ ?_
    · obtain ⟨ρ', h3, x, w6, w7, rfl, h7, h8⟩ := inner
      rw [List.length_range] at h8
      have e2 := putG_keys t (x, w)
      have e3 := putG_vals wdD (x, w) t
      have r4 := rng_nat (1 + y / 16 % M) (by unfold MID; omega)
      refine ⟨[.sh (.int z), .sh (.int most), .od ((putG t (x, w)).map (·.1)) ((putG t (x, w)).map fun a => wdD a.2), .sh (.int (a : Int)), .sh (.int y), .sh (.str x), w6, w7, u8], .inl ?_, putG t (x, w), _, _, _, _, _, _, rfl, fun b hb => ?_, putG_nodup (x, w) h5, Nat.le_trans (putG_len (x, w) t) (by omega)⟩
      · simp [b_sample_1, tbl_run, hy, hM, hM0, r4, lim2]
        rw [h3]
        simp [tbl_run, hw, hlim, lim5, e2, e3]
      · rcases putG_mem hb with q | q
        · exact h4 b q
        · rw [q]; exact ⟨h7, ⟨by show 1 ≤ x.length; omega, by show x.length ≤ 5; omega⟩, hwo⟩
    · rintro j b ρ hb ⟨x, u6, u7, rfl, h7, h8⟩
      obtain ⟨hj, e⟩ := range_at hb
      obtain ⟨v, hv, hv0, hv1⟩ := run_drawn hd (show 1 ≤ k by omega) y (b : Int)
      obtain ⟨c, h9, h10⟩ : ∃ c, atI [48, 49, 50, 51, 52, 53, 54, 55, 56, 57] (v / 16 % G) = some c ∧ 48 ≤ c ∧ c ≤ 57 := by
        have h7 := Int.emod_nonneg (v / 16) (b := G) (by omega)
        have h8 := Int.emod_lt_of_pos (v / 16) (b := G) hG0
        exact fig_at _ h7 (by omega)
      have hlim2 : x.length + 1 ≤ LIM := by unfold LIM; omega
      refine ⟨[.sh (.int z), .sh (.int most), .od (t.map (·.1)) (t.map fun a => wdD a.2), .sh (.int (a : Int)), .sh (.int y), .sh (.str (x ++ [c])), .sh (.int (b : Int)), .sh (.int (z / 128 % 3)), u8], .inl ?_, x ++ [c], _, _, rfl, h7.app fun d hd => by
        rw [List.mem_singleton.mp hd]; exact h10, by simp [h8]⟩
      simp [b_sample_0, tbl_run, hv, hG, hG0, h9, hlim2, lim3, lim10]
end Ev

/-! MT3: texts read. -/
namespace Ev
theorem split_app (s : Nat) : ∀ (x acc rest : List Nat), s ∉ x → splitL s acc (x ++ s :: rest) = (acc ++ x) :: splitL s [] rest
  | [], acc, rest, _ => by
    show splitL s acc (s :: rest) = _
    rw [splitL, if_pos rfl, List.append_nil]
  | c :: x, acc, rest, h => by
    have hc : c ≠ s := fun e => h (by rw [e]; exact List.mem_cons_self)
    show splitL s acc (c :: (x ++ s :: rest)) = _
    rw [splitL, if_neg hc, split_app s x (acc ++ [c]) rest fun z => h (List.mem_cons_of_mem _ z), List.append_assoc]; rfl
theorem split_last (s : Nat) : ∀ (x acc : List Nat), s ∉ x → splitL s acc x = [acc ++ x]
  | [], acc, _ => by rw [splitL, List.append_nil]
  | c :: x, acc, h => by
    have hc : c ≠ s := fun e => h (by rw [e]; exact List.mem_cons_self)
    rw [splitL, if_neg hc, split_last s x (acc ++ [c]) fun z => h (List.mem_cons_of_mem _ z), List.append_assoc]; rfl
theorem split_join (s : Nat) : ∀ (r : Row), r ≠ [] → (∀ w ∈ r, s ∉ w) → splitL s [] (joinL [s] r) = r
  | [], h, _ => absurd rfl h
  | [x], _, h => by
    show splitL s [] x = _
    rw [split_last s x [] (h x List.mem_cons_self), List.nil_append]
  | x :: y :: r, _, h => by
    have e : joinL [s] (x :: y :: r) = x ++ s :: joinL [s] (y :: r) := by
      rw [joinL, List.append_assoc]; rfl
    rw [e, split_app s x [] _ (h x List.mem_cons_self), List.nil_append, split_join s (y :: r) (List.cons_ne_nil _ _) fun w hw => h w (List.mem_cons_of_mem _ hw)]
theorem join_mem (s : Nat) {c : Nat} : ∀ {r : Row}, c ∈ joinL [s] r → c = s ∨ ∃ w ∈ r, c ∈ w
  | [], h => by cases h
  | [x], h => .inr ⟨x, List.mem_cons_self, h⟩
  | x :: y :: r, h => by
    rw [joinL, List.mem_append, List.mem_append] at h
    rcases h with (h | h) | h
    · exact .inr ⟨x, List.mem_cons_self, h⟩
    · exact .inl (List.mem_singleton.mp h)
    · rcases join_mem s h with z | ⟨w, hw, z⟩
      · exact .inl z
      · exact .inr ⟨w, List.mem_cons_of_mem _ hw, z⟩
/-- rows of plain words -/
structure Plain (r : Row) : Prop where
  ne : r ≠ []
  ch : ∀ w ∈ r, ∀ c ∈ w, c ≠ 10 ∧ c ≠ 32
theorem split_text : ∀ rs : List Row, (∀ r ∈ rs, Plain r) → splitL 10 [] (textOf rs) = rs.map (joinL [32]) ++ [[]]
  | [], _ => rfl
  | r :: rs, h => by
    have hr := h r List.mem_cons_self
    have e : textOf (r :: rs) = joinL [32] r ++ 10 :: textOf rs := by
      show lineOfR r ++ textOf rs = _
      unfold lineOfR
      rw [List.append_assoc]; rfl
    have n10 : 10 ∉ joinL [32] r := fun z => by
      rcases join_mem 32 z with q | ⟨w, hw, q⟩
      · cases q
      · exact (hr.ch w hw 10 q).1 rfl
    rw [e, split_app 10 _ [] _ n10, split_text rs fun q hq => h q (List.mem_cons_of_mem _ hq)]; rfl
theorem text_len {rs : List Row} (ok : RowsOk rs) : (textOf rs).length ≤ 11100 := by
  have h1 := sumLen_le 111 (rs.map lineOfR) fun y hy => by
    obtain ⟨r, hr, rfl⟩ := List.mem_map.mp hy
    exact line_len (ok.2 r hr)
  have e : ∀ ys : List (List Nat), ys.flatten.length = sumLen ys := fun ys => by
    induction ys with
    | nil => rfl
    | cons y ys ih => rw [List.flatten_cons, List.length_append, ih]; rfl
  unfold textOf
  rw [e]
  rw [List.length_map] at h1
  have := ok.1
  omega
theorem run_need {P : Prog} (hP : H_need P) {n : Nat} (hn : 1 ≤ n) : run P n 113 [.bl true] = .ok .non := by
  refine run_of hn hP fun k hk => ?_
  simp [runFn, t_need]
theorem run_rows_of {P : Prog} (hP : H_rows_of P) {n : Nat} (hn : 2 ≤ n) {rs : List Row} (ok : RowsOk rs) (pl : ∀ r ∈ rs, Plain r) : run P n 114 [.str (textOf rs)] = .ok (.lst (rs.map rowD)) := by
  obtain ⟨h0, hN⟩ := hP
  obtain ⟨k, hk, e⟩ := run_ex [.str (textOf rs)] hn h0
  rw [e]
  have tl := text_len ok
  have rl := ok.1
  have ll : rs.length ≤ LIM := by unfold LIM; omega
  have sp : mtD .split (.str (textOf rs)) (.str [10]) = .ok (.lst ((rs.map (joinL [32]) ++ [[]]).map D.str)) := by
    show (if 10 < 128 ∧ (textOf rs).length + 2 ≤ LIM then R.ok (D.lst ((splitL 10 [] (textOf rs)).map .str)) else .no) = _
    rw [if_pos ⟨by decide, by unfold LIM; omega⟩, split_text rs pl]
  have nd := run_need hN (show 1 ≤ k by omega)
  obtain ⟨LS, hLS⟩ : ∃ LS, (rs.map (joinL [32])).map D.str = LS := ⟨_, rfl⟩
  have lsl : LS.length = rs.length := by rw [← hLS, List.length_map, List.length_map]
  have e1 : (rs.map (joinL [32]) ++ [[]]).map D.str = LS ++ [.str []] := by rw [List.map_append, hLS]; rfl
  rw [e1] at sp
  have atl : ixD (.lst (LS ++ [.str []])) (.int (-1)) = .ok (.str []) := by
    show opt (atI (LS ++ [D.str []]) (-1)) = _
    unfold atI
    rw [if_neg (by decide), if_pos (by rw [List.length_append]; show -((LS.length + 1 : Nat) : Int) ≤ -1; omega)]
    have : ((-1 : Int) + ((LS ++ [D.str []]).length : Int)).toNat = LS.length := by
      rw [List.length_append]
      show ((-1 : Int) + ((LS.length + 1 : Nat) : Int)).toNat = LS.length
      omega
    rw [this, List.getElem?_append_right (Nat.le_refl _), Nat.sub_self]; rfl
  have cutl : slD (.lst (LS ++ [.str []])) none (some (-1)) = .ok (.lst LS) := by
    show R.ok (D.lst (cut (LS ++ [D.str []]) none (some (-1)))) = _
    rw [cut_last, List.dropLast_concat]
  have en := eq_strnil []
  rw [decide_eq_true rfl] at en
  obtain ⟨RS, hRS⟩ : ∃ RS, rs.map rowD = RS := ⟨_, rfl⟩
  have itl : itD (.lst LS) = .ok LS := Eq.trans rfl rfl
  have mp : ∀ f : D → R (Option D), (∀ r ∈ rs, f (.str (joinL [32] r)) = .ok (some (rowD r))) → mapF f LS = .ok RS := fun f hf => by
    have := mapF_of (f := f) (fun r => D.str (joinL [32] r)) (fun r => some (rowD r)) rs hf
    rw [List.filterMap_eq_map'] at this
    rw [← hLS, List.map_map, ← hRS]
    exact this
  have rc : ∀ x : List Nat, recv .split (.str x) = true := fun _ => rfl
  rw [hRS]
  simp [runFn, t_rows_of, rc, sp, atl, tbl_run, en, nd, cutl, itl, lsl, ll]
  rw [mp _ fun r hr => by
    have hl := line_len (ok.2 r hr)
    unfold lineOfR at hl
    rw [List.length_append] at hl
    have hl : (joinL [32] r).length + 1 ≤ 111 := hl
    have s1 : mtD .split (.str (joinL [32] r)) (.str [32]) = .ok (rowD r) := by
      show (if 32 < 128 ∧ (joinL [32] r).length + 2 ≤ LIM then R.ok (D.lst ((splitL 32 [] (joinL [32] r)).map .str)) else .no) = _
      rw [if_pos ⟨by decide, by unfold LIM; omega⟩, split_join 32 r (pl r hr).ne fun w hw z => ((pl r hr).ch w hw 32 z).2 rfl]; rfl
    simp [rc, s1]]
  simp
end Ev

/-! MT4: rules read. -/
namespace Ev
theorem numL_ok : ∀ n ≤ 12, 1 ≤ (numL n).length ∧ (numL n).length ≤ 2 ∧ (numL n).all digB = true ∧ (numL n).all isDig = true ∧ digV (numL n) = n := by decide +kernel
theorem eq_strk (y z : List Nat) : eqD (.str y) (.str z) = .ok (.bl (decide (y = z))) := by
  show R.ok (D.bl (y == z)) = _
  by_cases h : y = z
  · rw [h]; simp
  · rw [decide_eq_false h, beq_eq_false_iff_ne.mpr h]
theorem run_rule_of {P : Prog} (hP : H_rule_of P) {n : Nat} (hn : 2 ≤ n) {r : Ru} (h : GoodRu r) : run P n 115 [rowD (ruleRow r)] = .ok (rD r) := by
  obtain ⟨h0, hN⟩ := hP
  obtain ⟨k, hk, e⟩ := run_ex [rowD (ruleRow r)] hn h0
  rw [e]
  have nd := run_need hN (show 1 ≤ k by omega)
  have hs0 := h.s0
  have hs12 := h.s12
  obtain ⟨n1, n2, n3, n4, n5⟩ := numL_ok r.s.toNat (by omega)
  obtain ⟨N, hNN⟩ : ∃ N, numL r.s.toNat = N := ⟨_, rfl⟩
  rw [hNN] at n1 n2 n3 n4 n5
  have nl : N.length ≤ LIM := by unfold LIM; omega
  have c1 : (1 : Int) ≤ (N.length : Int) := by omega
  have c2 : (N.length : Int) ≤ 2 := by omega
  have ab := all_bls digB N
  rw [n3] at ab
  have it : biD .int (.str N) = .ok (.int r.s) := by
    have : biD .int (.str N) = if N.all isDig = true ∧ N ≠ [] ∧ N.length ≤ 640 then R.ok (D.int (digV N)) else .no := Eq.trans rfl rfl
    rw [this, if_pos ⟨n4, fun z => by rw [z] at n1; exact absurd n1 (by decide), by omega⟩, n5]
    congr 2
    omega
  have mp : ∀ f : D → R (Option D), (∀ c ∈ N, f (.str [c]) = .ok (some (.bl (digB c)))) → mapF f (N.map fun c => D.str [c]) = .ok (N.map fun c => D.bl (digB c)) := fun f hf => by
    have := mapF_of (f := f) (fun c => D.str [c]) (fun c => some (.bl (digB c))) N hf
    rw [List.filterMap_eq_map'] at this
    exact this
  obtain ⟨BS, hBS⟩ : ∃ BS, (N.map fun c => D.bl (digB c)) = BS := ⟨_, rfl⟩
  rw [hBS] at ab mp
  obtain ⟨NS, hNS⟩ : ∃ NS, (N.map fun c => D.str [c]) = NS := ⟨_, rfl⟩
  have itN : itD (.str N) = .ok NS := by rw [← hNS]; exact itD_str N
  have nsl : NS.length ≤ LIM := by rw [← hNS, List.length_map]; exact nl
  rw [hNS] at mp
  have sp : decide (starP r.p = [42]) = decide (r.p = []) := by
    unfold starP
    by_cases hp : r.p = []
    · rw [if_pos hp, decide_eq_true rfl, decide_eq_true hp]
    · rw [if_neg hp, decide_eq_false hp, decide_eq_false]
      intro z
      have := (h.digs 42 (by rw [z]; exact List.mem_cons_self)).1
      omega
  have np : ¬ r.p = [42] := fun z => by
    have := (h.digs 42 (by rw [z]; exact List.mem_cons_self)).1
    omega
  have es := eq_strk (starP r.p) [42]
  rw [sp] at es
  have lim3 : 3 ≤ LIM := by decide
  have lim4 : 4 ≤ LIM := by decide
  have lim1 : 1 ≤ LIM := by decide
  have pS : (if r.p = [] then [] else starP r.p) = r.p := by
    unfold starP
    by_cases hp : r.p = []
    · rw [if_pos hp, hp]
    · rw [if_neg hp, if_neg hp]
  obtain ⟨S0, hS0⟩ : ∃ S0, starP r.p = S0 := ⟨_, rfl⟩
  rw [hS0] at es pS
  unfold ruleRow rowD
  rw [hNN, hS0]
  have er : rD r = .tup [.str r.p, .int r.s, .str r.w] := rfl
  rw [er]
  by_cases hs : r.s = 0
  · rw [if_pos hs]
    have hw := h.cl hs
    rw [hw]
    by_cases hp : r.p = []
    · rw [decide_eq_true hp] at es
      rw [hp]
      simp [runFn, t_rule_of, c1, c2, itN, nsl, nl, -itD_str]
      rw [mp _ fun c hc => by rw [in_strc, in_figs]; rfl]
      simp [ab, tbl_run, nd, es, it, lim3, lim1, addD]
    · rw [decide_eq_false hp] at es
      rw [if_neg hp] at pS
      simp [runFn, t_rule_of, c1, c2, itN, nsl, nl, -itD_str]
      rw [mp _ fun c hc => by rw [in_strc, in_figs]; rfl]
      simp [ab, tbl_run, nd, es, it, lim3, lim1, addD, pS, np]
  · rw [if_neg hs]
    by_cases hp : r.p = []
    · rw [decide_eq_true hp] at es
      rw [hp]
      simp [runFn, t_rule_of, c1, c2, itN, nsl, nl, -itD_str]
      rw [mp _ fun c hc => by rw [in_strc, in_figs]; rfl]
      simp [ab, tbl_run, nd, es, it, lim3, lim4, lim1, addD]
    · rw [decide_eq_false hp] at es
      rw [if_neg hp] at pS
      simp [runFn, t_rule_of, c1, c2, itN, nsl, nl, -itD_str]
      rw [mp _ fun c hc => by rw [in_strc, in_figs]; rfl]
      simp [ab, tbl_run, nd, es, it, lim3, lim4, lim1, addD, pS, np]
end Ev

/-! MT5: tables read. -/
namespace Ev
theorem plain_rule {r : Ru} (h : GoodRu r) : Plain (ruleRow r) := by
  have hs0 := h.s0
  have hs12 := h.s12
  obtain ⟨n1, n2, n3, n4, n5⟩ := numL_ok r.s.toNat (by omega)
  have c1 : ∀ c ∈ starP r.p, c ≠ 10 ∧ c ≠ 32 := fun c hc => by
    unfold starP at hc
    split at hc
    · rw [List.mem_singleton.mp hc]; decide
    · have := h.digs c hc; omega
  have c2 : ∀ c ∈ numL r.s.toNat, c ≠ 10 ∧ c ≠ 32 := fun c hc => by
    have := List.all_eq_true.mp n3 c hc
    unfold digB at this
    rw [Bool.and_eq_true, decide_eq_true_eq, decide_eq_true_eq] at this
    omega
  unfold ruleRow
  by_cases hs : r.s = 0
  · rw [if_pos hs]
    refine ⟨List.cons_ne_nil _ _, fun w hw => ?_⟩
    simp only [List.mem_cons, List.not_mem_nil, or_false] at hw
    rcases hw with rfl | rfl
    · exact c1
    · exact c2
  · rw [if_neg hs]
    refine ⟨List.cons_ne_nil _ _, fun w hw => ?_⟩
    simp only [List.mem_cons, List.not_mem_nil, or_false] at hw
    rcases hw with rfl | rfl | rfl
    · exact c1
    · exact c2
    · intro c hc
      have := (h.w hs).2.2 c hc
      omega
theorem run_read_table {P : Prog} (hP : H_read_table P) {n : Nat} (hn : 4 ≤ n) {t : List Ru} (g : GTab t) (hl : t.length ≤ 30) : run P n 116 [.str (tabText t)] = .ok (tD t) := by
  obtain ⟨h0, hO, hU, hN, hT, hI⟩ := hP
  obtain ⟨k, hk, e⟩ := run_ex [.str (tabText t)] hn h0
  rw [e]
  have ok : RowsOk (t.map ruleRow) := ⟨by rw [List.length_map]; omega, fun r hr => by
    obtain ⟨q, hq, rfl⟩ := List.mem_map.mp hr
    exact ruleRow_ok (g.ru q hq)⟩
  have pl : ∀ r ∈ t.map ruleRow, Plain r := fun r hr => by
    obtain ⟨q, hq, rfl⟩ := List.mem_map.mp hr
    exact plain_rule (g.ru q hq)
  have q1 := run_rows_of hO (show 2 ≤ k by omega) ok pl
  have q1 : run P k 114 [.str (tabText t)] = .ok (.lst ((t.map ruleRow).map rowD)) := q1
  have q2 := run_table_text hT (show 2 ≤ k by omega) g.ru (by omega)
  have q3 := run_is_table hI (show 3 ≤ k by omega) (tD t) (szI_tab g hl).o.seq
  rw [tabT_good g hl] at q3
  have nd := run_need hN (show 1 ≤ k by omega)
  have ll : t.length ≤ LIM := by unfold LIM; omega
  have ee := eq_strk (tabText t) (tabText t)
  rw [decide_eq_true rfl] at ee
  obtain ⟨X, hX⟩ : ∃ X, tabText t = X := ⟨_, rfl⟩
  rw [hX] at q1 q2 ee
  obtain ⟨RS, hRS⟩ : ∃ RS, (t.map ruleRow).map rowD = RS := ⟨_, rfl⟩
  rw [hRS] at q1
  have itr : itD (.lst RS) = .ok RS := Eq.trans rfl rfl
  have rsl : RS.length ≤ LIM := by rw [← hRS, List.length_map, List.length_map]; exact ll
  have mp : ∀ f : D → R (Option D), (∀ r ∈ t, f (rowD (ruleRow r)) = .ok (some (rD r))) → mapF f RS = .ok (t.map rD) := fun f hf => by
    have := mapF_of (f := f) (fun r => rowD (ruleRow r)) (fun r => some (rD r)) t hf
    rw [List.filterMap_eq_map'] at this
    rw [← hRS, List.map_map]
    exact this
  have tu : biD .tuple (.lst (t.map rD)) = .ok (tD t) := Eq.trans rfl rfl
  obtain ⟨TL, hTL⟩ : ∃ TL, t.map rD = TL := ⟨_, rfl⟩
  obtain ⟨TD, hTD⟩ : ∃ TD, tD t = TD := ⟨_, rfl⟩
  rw [hTL] at mp tu
  rw [hTD] at q2 q3 tu ⊢
  rw [hX]
  simp [runFn, t_read_table, tbl_run, q1, itr, rsl]
  rw [mp _ fun r hr => by
    have w := run_rule_of hU (show 2 ≤ k by omega) (g.ru r hr)
    simp [tbl_run, w]]
  simp [tu, tbl_run, q3, q2, ee, nd]
end Ev

/-! MT6: samples read. -/
namespace Ev
theorem run_pair_of {P : Prog} (hP : H_pair_of P) {n : Nat} (hn : 3 ≤ n) {p : Sm} (h : GoodSm p) : run P n 117 [rowD (pairRow p)] = .ok (smD p) := by
  obtain ⟨h0, hN, hI, hW⟩ := hP
  obtain ⟨k, hk, e⟩ := run_ex [rowD (pairRow p)] hn h0
  rw [e]
  have nd := run_need hN (show 1 ≤ k by omega)
  obtain ⟨x, w⟩ := p
  have hl := h.len
  have hl : 1 ≤ x.length ∧ x.length ≤ 5 := hl
  have q1 := run_is_number hI (show 2 ≤ k by omega) (.str x) (fun y e => by injection e with e; subst e; unfold LIM; omega)
  rw [figT_num h.digs hl.1 (show x.length ≤ 12 by omega)] at q1
  have er : rowD (pairRow (x, w)) = .lst [.str x, .str (dashW w)] := rfl
  rw [er]
  have e2 : eqD (.int 2) (.int 2) = .ok (.bl true) := rfl
  have lim2 : 2 ≤ LIM := by decide
  have hw := h.word
  have hw : w ∈ [none, some [97], some [98], some [99, 100]] := hw
  simp only [List.mem_cons, List.not_mem_nil, or_false] at hw
  have wd : ∀ y : List Nat, y.length ≤ 4 → run P k 2 [.str y] = .ok (.bl (wordT (.str y))) := fun y hy => run_is_word hW (show 1 ≤ k by omega) (.str y) fun z e => by injection e with e; subst e; unfold LIM; omega
  rcases hw with rfl | rfl | rfl | rfl
  · simp [runFn, t_pair_of, tbl_run, q1, e2, nd, lim2, smD, wdD, dashW]
  · have w1 := wd [97] (by decide)
    have t1 : wordT (.str [97]) = true := by decide
    rw [t1] at w1
    simp [runFn, t_pair_of, tbl_run, q1, e2, nd, lim2, smD, wdD, dashW, w1]
  · have w1 := wd [98] (by decide)
    have t1 : wordT (.str [98]) = true := by decide
    rw [t1] at w1
    simp [runFn, t_pair_of, tbl_run, q1, e2, nd, lim2, smD, wdD, dashW, w1]
  · have w1 := wd [99, 100] (by decide)
    have t1 : wordT (.str [99, 100]) = true := by decide
    rw [t1] at w1
    simp [runFn, t_pair_of, tbl_run, q1, e2, nd, lim2, smD, wdD, dashW, w1]
theorem plain_pair {p : Sm} (h : GoodSm p) : Plain (pairRow p) := by
  refine ⟨List.cons_ne_nil _ _, fun w hw => ?_⟩
  have hw : w ∈ [p.1, dashW p.2] := hw
  simp only [List.mem_cons, List.not_mem_nil, or_false] at hw
  rcases hw with rfl | rfl
  · intro c hc
    have := h.digs c hc
    omega
  · have := h.word
    simp only [List.mem_cons, List.not_mem_nil, or_false] at this
    rcases this with e | e | e | e <;> rw [e] <;> decide
theorem run_read_sample {P : Prog} (hP : H_read_sample P) {n : Nat} (hn : 4 ≤ n) {ss : List Sm} (g : GSamp ss) (hl : ss.length ≤ 16) : run P n 118 [.str (sampText ss)] = .ok (spD ss) := by
  obtain ⟨h0, hO, hU, hN⟩ := hP
  obtain ⟨k, hk, e⟩ := run_ex [.str (sampText ss)] hn h0
  rw [e]
  have ok : RowsOk (ss.map pairRow) := ⟨by rw [List.length_map]; omega, fun r hr => by
    obtain ⟨q, hq, rfl⟩ := List.mem_map.mp hr
    exact pairRow_ok (g.sm q hq)⟩
  have pl : ∀ r ∈ ss.map pairRow, Plain r := fun r hr => by
    obtain ⟨q, hq, rfl⟩ := List.mem_map.mp hr
    exact plain_pair (g.sm q hq)
  have q1 := run_rows_of hO (show 2 ≤ k by omega) ok pl
  have q1 : run P k 114 [.str (sampText ss)] = .ok (.lst ((ss.map pairRow).map rowD)) := q1
  have nd := run_need hN (show 1 ≤ k by omega)
  have ll : ss.length ≤ LIM := by unfold LIM; omega
  obtain ⟨X, hX⟩ : ∃ X, sampText ss = X := ⟨_, rfl⟩
  rw [hX] at q1
  obtain ⟨RS, hRS⟩ : ∃ RS, (ss.map pairRow).map rowD = RS := ⟨_, rfl⟩
  rw [hRS] at q1
  have itr : itD (.lst RS) = .ok RS := Eq.trans rfl rfl
  have rsl : RS.length ≤ LIM := by rw [← hRS, List.length_map, List.length_map]; exact ll
  obtain ⟨xs, hxs⟩ : ∃ xs, ss.map smD = xs := ⟨_, rfl⟩
  have mp : ∀ f : D → R (Option D), (∀ p ∈ ss, f (rowD (pairRow p)) = .ok (some (smD p))) → mapF f RS = .ok xs := fun f hf => by
    have := mapF_of (f := f) (fun p => rowD (pairRow p)) (fun p => some (smD p)) ss hf
    rw [List.filterMap_eq_map'] at this
    rw [← hRS, List.map_map, ← hxs]
    exact this
  have tu : biD .tuple (.lst xs) = .ok (.tup xs) := Eq.trans rfl rfl
  have ln : biD .len (.tup xs) = .ok (.int (ss.length : Int)) := by
    show R.ok (D.int (xs.length : Int)) = _
    rw [← hxs, List.length_map]
  have le16 : leR (.int (ss.length : Int)) (.int 16) = .ok (.bl true) := by
    show R.ok (D.bl (!decide ((16 : Int) < (ss.length : Int)))) = _
    rw [decide_eq_false (by omega)]; rfl
  have key : ∀ x ∈ xs, ixD x (.int 0) = .ok (.str (keyN x)) := fun x hx => by
    rw [← hxs] at hx
    obtain ⟨p, _, rfl⟩ := List.mem_map.mp hx
    rfl
  have kk : xs.map keyN = keysG ss := by rw [← hxs, List.map_map]; rfl
  have s1 : slD (.tup xs) none (some (-1)) = .ok (.tup xs.dropLast) := by
    show R.ok (D.tup (cut xs none (some (-1)))) = _
    rw [cut_last]
  have s2 : slD (.tup xs) (some 1) none = .ok (.tup (xs.drop 1)) := by
    show R.ok (D.tup (cut xs (some ((1 : Nat) : Int)) none)) = _
    rw [cut_from]
  have zl := zipL_map (fun x : D => x) xs.dropLast (xs.drop 1)
  rw [List.map_id', List.map_id'] at zl
  obtain ⟨DL, hDL⟩ : ∃ DL, xs.dropLast = DL := ⟨_, rfl⟩
  obtain ⟨DR, hDR⟩ : ∃ DR, xs.drop 1 = DR := ⟨_, rfl⟩
  rw [hDL] at s1
  rw [hDR] at s2
  rw [hDL, hDR] at zl
  have ri := rising (xs.map keyN)
  rw [← List.map_dropLast, ← List.map_drop, List.zip_map, List.all_map, hDL, hDR, kk, decide_eq_true g.srt] at ri
  have al2 := all_bls (fun p : D × D => decide (keyN p.1 < keyN p.2)) (DL.zip DR)
  have xl : xs.length = ss.length := by rw [← hxs, List.length_map]
  have zlen : (DL.zip DR).length ≤ LIM := by
    rw [List.length_zip, ← hDL, List.length_dropLast]; unfold LIM; omega
  obtain ⟨ZS, hZS⟩ : ∃ ZS, DL.zip DR = ZS := ⟨_, rfl⟩
  have mem : ∀ p ∈ ZS, p.1 ∈ xs ∧ p.2 ∈ xs := fun p hp => by
    rw [← hZS] at hp
    obtain ⟨h1, h2⟩ := List.of_mem_zip hp
    rw [← hDL] at h1
    rw [← hDR] at h2
    exact ⟨List.dropLast_subset xs h1, List.drop_subset 1 xs h2⟩
  rw [hZS] at zl al2 zlen ri
  have ri : (ZS.all fun p : D × D => decide (keyN p.1 < keyN p.2)) = true := ri
  rw [ri] at al2
  rw [hX]
  show _ = R.ok (D.tup (ss.map smD))
  rw [hxs]
  simp [runFn, t_read_sample, tbl_run, q1, itr, rsl]
  rw [mp _ fun p hp => by
    have w := run_pair_of hU (show 3 ≤ k by omega) (g.sm p hp)
    simp [tbl_run, w]]
  simp [tu, tbl_run, s1, s2, zl, zlen, xl, hl]
  rw [mapF_of (fun p : D × D => D.tup [p.1, p.2]) (fun p => some (.bl (decide (keyN p.1 < keyN p.2)))) ZS fun p hp => by
    obtain ⟨r1, r2⟩ := mem p hp
    have st : ∀ ρ : Env, store [3, 4] true (.tup [p.1, p.2]) ρ = setAll ρ [3, 4] [p.1, p.2] := fun ρ => Eq.trans rfl rfl
    simp [st, key _ r1, key _ r2, lt_strk]]
  rw [List.filterMap_eq_map']
  have l16 : (ss.length : Int) ≤ 16 := by omega
  simp [al2, nd, l16, tbl_run]
end Ev

/-! M63: texts put together. -/
namespace Ev
theorem textOf_app (a b : List Row) : textOf (a ++ b) = textOf a ++ textOf b := by
  unfold textOf; rw [List.map_append, List.flatten_append]
theorem zipL_short {α : Type} (f g : α → D) (e : D) : ∀ xs : List α, zipL (xs.map f ++ [e]) (xs.map g) = xs.map fun x => .tup [f x, g x]
  | [] => rfl
  | x :: xs => by
    show D.tup [f x, g x] :: zipL (xs.map f ++ [e]) (xs.map g) = _
    rw [zipL_short f g e xs]; rfl
theorem split_tab {rs : List Row} (ok : RowsOk rs) (pl : ∀ r ∈ rs, Plain r) : mtD .split (.str (textOf rs)) (.str [10]) = .ok (.lst (rs.map (fun r => D.str (joinL [32] r)) ++ [.str []])) := by
  have tl := text_len ok
  show (if 10 < 128 ∧ (textOf rs).length + 2 ≤ LIM then R.ok (D.lst ((splitL 10 [] (textOf rs)).map .str)) else .no) = _
  rw [if_pos ⟨by decide, by unfold LIM; omega⟩, split_text rs pl, List.map_append, List.map_map]; rfl
theorem GTab.sub {t u : List Ru} (g : GTab t) (s : u.Sublist t) : GTab u := ⟨fun r hr => g.ru r (s.subset hr), g.pw.sublist s⟩
theorem GSamp.sub {t u : List Sm} (g : GSamp t) (s : u.Sublist t) : GSamp u := ⟨fun r hr => g.sm r (s.subset hr), g.srt.sublist (s.map (fun p : Sm => p.1))⟩
theorem line_of {r : Row} (h : r.length ≤ 10 ∧ sumLen r ≤ 100) : addD (.str (joinL [32] r)) (.str [10]) = .ok (.str (textOf [r])) := by
  have hl := line_len h
  have e : textOf [r] = joinL [32] r ++ [10] := by simp [textOf, lineOfR]
  rw [e]
  unfold lineOfR at hl
  rw [List.length_append] at hl
  exact if_pos (by have hl : (joinL [32] r).length + 1 ≤ 111 := hl; show (joinL [32] r).length + 1 ≤ LIM; unfold LIM; omega)
theorem law63_tab {P : Prog} (hR : H_read_table P) {k : Nat} (hk : 6 ≤ k) {t : List Ru} (g : GTab t) (s0 s1 s2 s3 s4 s5 s6 s7 s8 s9 s10 : Sl) :
    ∃ v8 v9, loopD (fun d ρ1 => (store [8, 9] true d ρ1).bind fun ρ2 => execs b_law_k63_0 (tbl P k) ρ2) (t.map fun r => D.tup [.str (joinL [32] (ruleRow r)), rD r]) [s0, s1, s2, s3, s4, s5, s6, s7, s8, s9, s10] = .ok (.nx [s0, s1, s2, s3, s4, s5, s6, s7, v8, v9, s10]) := by
  have key := loop_any (f := fun d ρ1 => (store [8, 9] true d ρ1).bind fun ρ2 => execs b_law_k63_0 (tbl P k) ρ2) (fun r : Ru => D.tup [.str (joinL [32] (ruleRow r)), rD r])
    (fun i ρ => ∃ v8 v9, ρ = [s0, s1, s2, s3, s4, s5, s6, s7, v8, v9, s10]) t [s0, s1, s2, s3, s4, s5, s6, s7, s8, s9, s10] ⟨_, _, rfl⟩ ?_
  · obtain ⟨ρ', h1, v8, v9, rfl⟩ := key
    exact ⟨_, _, h1⟩
  · rintro i r ρ hr ⟨v8, v9, rfl⟩
    have hm := List.mem_of_getElem? hr
    have gr : GTab [r] := ⟨fun q hq => by rw [List.mem_singleton.mp hq]; exact g.ru r hm, List.pairwise_singleton _ _⟩
    have q := run_read_table hR (show 4 ≤ k by omega) gr (show 1 ≤ 30 by decide)
    have ad := line_of (ruleRow_ok (g.ru r hm))
    have q : run P k 116 [.str (textOf [ruleRow r])] = .ok (.tup [rD r]) := q
    have ne := ne_tSelf [r]
    have ne : neD (.tup [rD r]) (.tup [rD r]) = .ok (.bl false) := ne
    have st : ∀ (a b : D) (ρ : Env), store [8, 9] true (.tup [a, b]) ρ = setAll ρ [8, 9] [a, b] := fun a b ρ => Eq.trans rfl rfl
    have lim1 : 1 ≤ LIM := by decide
    obtain ⟨L, hL⟩ : ∃ L, joinL [32] (ruleRow r) = L := ⟨_, rfl⟩
    obtain ⟨TX, hTX⟩ : ∃ TX, textOf [ruleRow r] = TX := ⟨_, rfl⟩
    obtain ⟨RD, hRD⟩ : ∃ RD, rD r = RD := ⟨_, rfl⟩
    rw [hL, hTX] at ad
    rw [hTX, hRD] at q
    rw [hRD] at ne
    refine ⟨_, .inl ?_, .sh (.str L), .sh RD, rfl⟩
    show ((store [8, 9] true (.tup [.str (joinL [32] (ruleRow r)), rD r]) _).bind _) = _
    rw [hL, hRD]
    have ad' : L.length + 1 ≤ LIM ∧ L ++ [10] = TX := by
      have : (if L.length + 1 ≤ LIM then R.ok (D.str (L ++ [10])) else R.no) = R.ok (D.str TX) := ad
      split at this
      · rename_i h; injection this with h2; injection h2 with h2; exact ⟨h, h2⟩
      · cases this
    simp [st, b_law_k63_0, ad'.1, ad'.2, tbl_run, q, lim1, ne]
theorem law63_samp {P : Prog} (hR : H_read_sample P) {k : Nat} (hk : 6 ≤ k) {t : List Sm} (g : GSamp t) (s0 s1 s2 s3 s4 s5 s6 s7 s8 s9 s10 : Sl) :
    ∃ v8 v10, loopD (fun d ρ1 => (store [8, 10] true d ρ1).bind fun ρ2 => execs b_law_k63_1 (tbl P k) ρ2) (t.map fun r => D.tup [.str (joinL [32] (pairRow r)), smD r]) [s0, s1, s2, s3, s4, s5, s6, s7, s8, s9, s10] = .ok (.nx [s0, s1, s2, s3, s4, s5, s6, s7, v8, s9, v10]) := by
  have key := loop_any (f := fun d ρ1 => (store [8, 10] true d ρ1).bind fun ρ2 => execs b_law_k63_1 (tbl P k) ρ2) (fun r : Sm => D.tup [.str (joinL [32] (pairRow r)), smD r])
    (fun i ρ => ∃ v8 v10, ρ = [s0, s1, s2, s3, s4, s5, s6, s7, v8, s9, v10]) t [s0, s1, s2, s3, s4, s5, s6, s7, s8, s9, s10] ⟨_, _, rfl⟩ ?_
  · obtain ⟨ρ', h1, v8, v10, rfl⟩ := key
    exact ⟨_, _, h1⟩
  · rintro i r ρ hr ⟨v8, v10, rfl⟩
    have hm := List.mem_of_getElem? hr
    have gr : GSamp [r] := ⟨fun q hq => by rw [List.mem_singleton.mp hq]; exact g.sm r hm, List.pairwise_singleton _ _⟩
    have q := run_read_sample hR (show 4 ≤ k by omega) gr (show 1 ≤ 16 by decide)
    have ad := line_of (pairRow_ok (g.sm r hm))
    have q : run P k 118 [.str (textOf [pairRow r])] = .ok (.tup [smD r]) := q
    have ne : neD (.tup [smD r]) (.tup [smD r]) = .ok (.bl false) := ne_self _ (by
      obtain ⟨x, w⟩ := r
      cases w <;> simp [smD, wdD, dep, depL])
    have st : ∀ (a b : D) (ρ : Env), store [8, 10] true (.tup [a, b]) ρ = setAll ρ [8, 10] [a, b] := fun a b ρ => Eq.trans rfl rfl
    have lim1 : 1 ≤ LIM := by decide
    obtain ⟨L, hL⟩ : ∃ L, joinL [32] (pairRow r) = L := ⟨_, rfl⟩
    obtain ⟨TX, hTX⟩ : ∃ TX, textOf [pairRow r] = TX := ⟨_, rfl⟩
    obtain ⟨RD, hRD⟩ : ∃ RD, smD r = RD := ⟨_, rfl⟩
    rw [hL, hTX] at ad
    rw [hTX, hRD] at q
    rw [hRD] at ne
    refine ⟨_, .inl ?_, .sh (.str L), .sh RD, rfl⟩
    show ((store [8, 10] true (.tup [.str (joinL [32] (pairRow r)), smD r]) _).bind _) = _
    rw [hL, hRD]
    have ad' : L.length + 1 ≤ LIM ∧ L ++ [10] = TX := by
      have : (if L.length + 1 ≤ LIM then R.ok (D.str (L ++ [10])) else R.no) = R.ok (D.str TX) := ad
      split at this
      · rename_i h; injection this with h2; injection h2 with h2; exact ⟨h, h2⟩
      · cases this
    simp [st, b_law_k63_1, ad'.1, ad'.2, tbl_run, q, lim1, ne]
end Ev

/-! M63b: the law of texts put together. -/
namespace Ev
theorem run_law63 {P : Prog} (hP : H_law_k63 P) {n : Nat} (hn : 7 ≤ n) (ns : List Int) : run P n 126 [scr ns] = .ok (.bl true) := by
  obtain ⟨h0, hT, hM, hS, hTT, hRT, hST, hRS⟩ := hP
  obtain ⟨k, hk, e⟩ := run_ex [scr ns] (show 6 + 1 ≤ n from hn) h0
  rw [e]
  obtain ⟨z0, hz0, -⟩ := run_mixed hM (show 2 ≤ k by omega) ns 0
  obtain ⟨z1, hz1, -⟩ := run_mixed hM (show 2 ≤ k by omega) ns 1
  obtain ⟨z2, hz2, -⟩ := run_mixed hM (show 2 ≤ k by omega) ns 2
  have hz0 : run P k 6 [scr ns, .int 0] = .ok (.int z0) := hz0
  have hz1 : run P k 6 [scr ns, .int 1] = .ok (.int z1) := hz1
  have hz2 : run P k 6 [scr ns, .int 2] = .ok (.int z2) := hz2
  obtain ⟨t, ht, g, tl⟩ := run_table hT (show 4 ≤ k by omega) z0 9 (by decide) (by decide)
  obtain ⟨ss, hs, gs, sl⟩ := run_sample hS (show 2 ≤ k by omega) z1 9 (by decide) (by decide)
  have tl9 : t.length ≤ 9 := by omega
  have sl9 : ss.length ≤ 9 := by omega
  obtain ⟨i, hi⟩ : ∃ i : Nat, z2 % ((t.length : Int) + 1) = (i : Int) := ⟨(z2 % ((t.length : Int) + 1)).toNat, by have := Int.emod_nonneg z2 (b := (t.length : Int) + 1) (by omega); omega⟩
  obtain ⟨j, hj⟩ : ∃ j : Nat, z2 / 16 % ((ss.length : Int) + 1) = (j : Int) := ⟨(z2 / 16 % ((ss.length : Int) + 1)).toNat, by have := Int.emod_nonneg (z2 / 16) (b := (ss.length : Int) + 1) (by omega); omega⟩
  -- texts
  have q1 := run_table_text hTT (show 2 ≤ k by omega) g.ru (by omega)
  have q2 := run_table_text hTT (show 2 ≤ k by omega) (t := t.take i) (fun r hr => g.ru r (List.mem_of_mem_take hr)) (by have := (List.take_sublist i t).length_le; omega)
  have q3 := run_table_text hTT (show 2 ≤ k by omega) (t := t.drop i) (fun r hr => g.ru r (List.mem_of_mem_drop hr)) (by have := (List.drop_sublist i t).length_le; omega)
  have q4 := run_table_text hTT (show 2 ≤ k by omega) (t := []) (fun r hr => by cases hr) (by decide)
  have p1 := run_sample_text hST (show 2 ≤ k by omega) gs.sm (by omega)
  have p2 := run_sample_text hST (show 2 ≤ k by omega) (ss := ss.take j) (fun r hr => gs.sm r (List.mem_of_mem_take hr)) (by have := (List.take_sublist j ss).length_le; omega)
  have p3 := run_sample_text hST (show 2 ≤ k by omega) (ss := ss.drop j) (fun r hr => gs.sm r (List.mem_of_mem_drop hr)) (by have := (List.drop_sublist j ss).length_le; omega)
  have p4 := run_sample_text hST (show 2 ≤ k by omega) (ss := []) (fun r hr => by cases hr) (by decide)
  have q4 : run P k 111 [.tup []] = .ok (.str []) := q4
  have p4 : run P k 112 [.tup []] = .ok (.str []) := p4
  have r1 := run_read_table hRT (show 4 ≤ k by omega) GTab.nil (by decide)
  have r1 : run P k 116 [.str []] = .ok (.tup []) := r1
  have r2 := run_read_sample hRS (show 4 ≤ k by omega) (ss := []) ⟨(fun p hp => by cases hp), List.Pairwise.nil⟩ (by decide)
  have r2 : run P k 118 [.str []] = .ok (.tup []) := r2
  have e0 : eqD (.tup []) (.tup []) = .ok (.bl true) := rfl
  have okt : RowsOk (t.map ruleRow) := ⟨by rw [List.length_map]; omega, fun r hr => by
    obtain ⟨q, hq, rfl⟩ := List.mem_map.mp hr
    exact ruleRow_ok (g.ru q hq)⟩
  have plt : ∀ r ∈ t.map ruleRow, Plain r := fun r hr => by
    obtain ⟨q, hq, rfl⟩ := List.mem_map.mp hr
    exact plain_rule (g.ru q hq)
  have oks : RowsOk (ss.map pairRow) := ⟨by rw [List.length_map]; omega, fun r hr => by
    obtain ⟨q, hq, rfl⟩ := List.mem_map.mp hr
    exact pairRow_ok (gs.sm q hq)⟩
  have pls : ∀ r ∈ ss.map pairRow, Plain r := fun r hr => by
    obtain ⟨q, hq, rfl⟩ := List.mem_map.mp hr
    exact plain_pair (gs.sm q hq)
  have st := split_tab okt plt
  have sst := split_tab oks pls
  have tlt := text_len okt
  have tls := text_len oks
  have appt : tabText (t.take i) ++ tabText (t.drop i) = tabText t := by
    unfold tabText
    rw [← textOf_app, ← List.map_append, List.take_append_drop]
  have apps : sampText (ss.take j) ++ sampText (ss.drop j) = sampText ss := by
    unfold sampText
    rw [← textOf_app, ← List.map_append, List.take_append_drop]
  have lt : (tabText (t.take i)).length + (tabText (t.drop i)).length ≤ LIM := by
    rw [← List.length_append, appt]; unfold tabText LIM; omega
  have ls : (sampText (ss.take j)).length + (sampText (ss.drop j)).length ≤ LIM := by
    rw [← List.length_append, apps]; unfold sampText LIM; omega
  have st : mtD .split (.str (tabText t)) (.str [10]) = .ok (.lst (t.map (fun r => D.str (joinL [32] (ruleRow r))) ++ [.str []])) := by
    rw [List.map_map] at st; exact st
  have sst : mtD .split (.str (sampText ss)) (.str [10]) = .ok (.lst (ss.map (fun r => D.str (joinL [32] (pairRow r))) ++ [.str []])) := by
    rw [List.map_map] at sst; exact sst
  have zt := zipL_short (fun r => D.str (joinL [32] (ruleRow r))) rD (.str []) t
  have zs := zipL_short (fun r => D.str (joinL [32] (pairRow r))) smD (.str []) ss
  have c1 : slD (tD t) none (some (i : Int)) = .ok (tD (t.take i)) := by
    show R.ok (D.tup (cut (t.map rD) none (some (i : Int)))) = _
    rw [cut_to, ← List.map_take]; rfl
  have c2 : slD (tD t) (some (i : Int)) none = .ok (tD (t.drop i)) := by
    show R.ok (D.tup (cut (t.map rD) (some (i : Int)) none)) = _
    rw [cut_from, ← List.map_drop]; rfl
  have d1 : slD (spD ss) none (some (j : Int)) = .ok (spD (ss.take j)) := by
    show R.ok (D.tup (cut (ss.map smD) none (some (j : Int)))) = _
    rw [cut_to, ← List.map_take]; rfl
  have d2 : slD (spD ss) (some (j : Int)) none = .ok (spD (ss.drop j)) := by
    show R.ok (D.tup (cut (ss.map smD) (some (j : Int)) none)) = _
    rw [cut_from, ← List.map_drop]; rfl
  have ln1 : biD .len (tD t) = .ok (.int (t.length : Int)) := by
    show R.ok (D.int ((t.map rD).length : Int)) = _
    rw [List.length_map]
  have ln2 : biD .len (spD ss) = .ok (.int (ss.length : Int)) := by
    show R.ok (D.int ((ss.map smD).length : Int)) = _
    rw [List.length_map]
  have nst : ∀ y : List Nat, neD (.str y) (.str y) = .ok (.bl false) := fun y => ne_self _ (by simp [dep])
  have nin : ∀ y : Int, neD (.int y) (.int y) = .ok (.bl false) := fun y => ne_self _ (by simp [dep])
  have m1 : modD (.int z2) (.int ((t.length : Int) + 1)) = .ok (.int (i : Int)) := by
    rw [← hi]; exact if_pos (by omega)
  have m2 : modD (.int (z2 / 16)) (.int ((ss.length : Int) + 1)) = .ok (.int (j : Int)) := by
    rw [← hj]; exact if_pos (by omega)
  have rc : ∀ x : List Nat, recv .split (.str x) = true := fun _ => rfl
  have llt : biD .len (.lst (t.map (fun r => D.str (joinL [32] (ruleRow r))) ++ [.str []])) = .ok (.int ((t.length : Int) + 1)) := by
    show R.ok (D.int (((t.map (fun r => D.str (joinL [32] (ruleRow r))) ++ [D.str []]).length : Nat) : Int)) = _
    rw [List.length_append, List.length_map]; rfl
  have lls : biD .len (.lst (ss.map (fun r => D.str (joinL [32] (pairRow r))) ++ [.str []])) = .ok (.int ((ss.length : Int) + 1)) := by
    show R.ok (D.int (((ss.map (fun r => D.str (joinL [32] (pairRow r))) ++ [D.str []]).length : Nat) : Int)) = _
    rw [List.length_append, List.length_map]; rfl
  obtain ⟨TT, hTT'⟩ : ∃ TT, tabText t = TT := ⟨_, rfl⟩
  obtain ⟨SS, hSS'⟩ : ∃ SS, sampText ss = SS := ⟨_, rfl⟩
  obtain ⟨LT, hLT⟩ : ∃ LT, t.map (fun r => D.str (joinL [32] (ruleRow r))) ++ [.str []] = LT := ⟨_, rfl⟩
  obtain ⟨LS, hLS⟩ : ∃ LS, ss.map (fun r => D.str (joinL [32] (pairRow r))) ++ [.str []] = LS := ⟨_, rfl⟩
  rw [hTT'] at q1 appt st
  rw [hSS'] at p1 apps sst
  rw [hLT] at st zt llt
  rw [hLS] at sst zs lls
  have tdz : tD t = .tup (t.map rD) := rfl
  have sdz : spD ss = .tup (ss.map smD) := rfl
  obtain ⟨v8, v9, L1⟩ := law63_tab hRT (show 6 ≤ k by omega) g (.sh (scr ns)) (.sh (tD t)) (.sh (spD ss)) (.sh (.int z2)) (.sh (.str TT)) .un (.sh (.int (i : Int))) (.sh (.int (j : Int))) .un .un .un
  obtain ⟨w8, w10, L2⟩ := law63_samp hRS (show 6 ≤ k by omega) gs (.sh (scr ns)) (.sh (tD t)) (.sh (spD ss)) (.sh (.int z2)) (.sh (.str TT)) (.sh (.str SS)) (.sh (.int (i : Int))) (.sh (.int (j : Int))) v8 v9 .un
  obtain ⟨TR, hTR⟩ : ∃ TR, t.map rD = TR := ⟨_, rfl⟩
  obtain ⟨SR, hSR⟩ : ∃ SR, ss.map smD = SR := ⟨_, rfl⟩
  rw [hTR] at tdz zt
  rw [hSR] at sdz zs
  rw [tdz] at ht ln1 q1 c1 c2 L1 L2
  rw [sdz] at hs ln2 p1 d1 d2 L1 L2
  simp [runFn, t_law_k63, tbl_run, hz0, hz1, hz2, ht, hs, ln1, ln2, m1, m2, q1, c1, c2, q2, q3, lt, appt, nst, q4, rc, st, zt]
  rw [L1]
  simp [tbl_run, p1, d1, d2, p2, p3, ls, apps, nst, p4, rc, sst, zs]
  rw [L2]
  simp [tbl_run, rc, st, sst, llt, lls, ln1, ln2, nin, r1, r2, e0]
end Ev

namespace Rk63
open PySem PySem.Spec PyProof.Rows L2 Ev
def tops (i : Nat) : Stmt := PySem.Challenge.pw_dialrules_k63_whole_texts_put_together.main.body.getD i (.Pass ⟨0, 0, 0, 0⟩)
def e_are_figures : Ent := ⟨0, "are_figures", t_are_figures, tops 9, ["thing", "least", "most"], ⟨["thing", "least", "most", "sign"], (defScope (tops 9)).names, true, ["all", "isinstance", "len", "str"], [("FIGURES", .str [48, 49, 50, 51, 52, 53, 54, 55, 56, 57])], [], false, [], []⟩⟩
def e_is_number : Ent := ⟨1, "is_number", t_is_number, tops 10, ["thing"], ⟨["thing"], (defScope (tops 10)).names, true, [], [("MOST_FIGURES", .int 12)], [("are_figures", 0)], false, [], []⟩⟩
def e_is_word : Ent := ⟨2, "is_word", t_is_word, tops 11, ["thing"], ⟨["thing", "sign"], (defScope (tops 11)).names, true, ["all", "isinstance", "len", "str"], [("LETTERS", .str [97, 98, 99, 100, 101, 102, 103, 104, 105, 106, 107, 108, 109, 110, 111, 112, 113, 114, 115, 116, 117, 118, 119, 120, 121, 122]), ("MOST_WORD", .int 4)], [], false, [], []⟩⟩
def e_is_rule : Ent := ⟨3, "is_rule", t_is_rule, tops 12, ["thing"], ⟨["thing"], (defScope (tops 12)).names, true, ["bool", "int", "isinstance", "len", "max", "str", "tuple"], [("MOST_FIGURES", .int 12)], [("are_figures", 0), ("is_word", 2)], false, [], []⟩⟩
def e_is_table : Ent := ⟨4, "is_table", t_is_table, tops 13, ["thing"], ⟨["thing", "one", "other", "part"], (defScope (tops 13)).names, true, ["all", "isinstance", "len", "tuple", "zip"], [("MOST_RULES", .int 30)], [("is_rule", 3)], false, [], []⟩⟩
def e_rows_text : Ent := ⟨109, "rows_text", t_rows_text, tops 19, ["rows"], ⟨["rows", "row"], (defScope (tops 19)).names, true, [], [("ROW_END", .str [10])], [], false, [], []⟩⟩
def e_rule_words : Ent := ⟨110, "rule_words", t_rule_words, tops 20, ["rule"], ⟨["rule", "prefix", "size", "word"], (defScope (tops 20)).names, true, ["str"], [("EMPTY", .str [42])], [], false, [], []⟩⟩
def e_table_text : Ent := ⟨111, "table_text", t_table_text, tops 21, ["table"], ⟨["table", "rule"], (defScope (tops 21)).names, true, [], [], [("rows_text", 109), ("rule_words", 110)], false, [], []⟩⟩
def e_sample_text : Ent := ⟨112, "sample_text", t_sample_text, tops 22, ["sample"], ⟨["sample", "rows", "number", "word"], (defScope (tops 22)).names, true, [], [("NOT_GOOD", .str [45])], [("rows_text", 109)], false, [], []⟩⟩
def e_need : Ent := ⟨113, "need", t_need, tops 23, ["good"], ⟨["good"], (defScope (tops 23)).names, true, [], [], [], false, [], [("NoText", 3)]⟩⟩
def e_rows_of : Ent := ⟨114, "rows_of", t_rows_of, tops 24, ["text"], ⟨["text", "rows", "row"], (defScope (tops 24)).names, true, [], [("ROW_END", .str [10])], [("need", 113)], false, [], []⟩⟩
def e_rule_of : Ent := ⟨115, "rule_of", t_rule_of, tops 25, ["words"], ⟨["words", "prefix", "sign"], (defScope (tops 25)).names, true, ["all", "int", "len"], [("FIGURES", .str [48, 49, 50, 51, 52, 53, 54, 55, 56, 57]), ("EMPTY", .str [42])], [("need", 113)], false, [], []⟩⟩
def e_read_table : Ent := ⟨116, "read_table", t_read_table, tops 26, ["text"], ⟨["text", "found", "words"], (defScope (tops 26)).names, true, ["tuple"], [], [("rows_of", 114), ("rule_of", 115), ("need", 113), ("table_text", 111), ("is_table", 4)], false, [], []⟩⟩
def e_pair_of : Ent := ⟨117, "pair_of", t_pair_of, tops 27, ["words"], ⟨["words"], (defScope (tops 27)).names, true, ["len"], [("NOT_GOOD", .str [45])], [("need", 113), ("is_number", 1), ("is_word", 2)], false, [], []⟩⟩
def e_read_sample : Ent := ⟨118, "read_sample", t_read_sample, tops 28, ["text"], ⟨["text", "found", "words", "one", "other"], (defScope (tops 28)).names, true, ["all", "len", "tuple", "zip"], [("MOST_SAMPLE", .int 16)], [("rows_of", 114), ("pair_of", 117), ("need", 113)], false, [], []⟩⟩
def e_cell_at : Ent := ⟨5, "_law_cell_at", t_cell_at, tops 30, ["_law_script", "_law_k"], ⟨["_law_script", "_law_k"], (defScope (tops 30)).names, true, ["len"], [], [], false, [], []⟩⟩
def e_mixed : Ent := ⟨6, "_law_mixed", t_mixed, tops 31, ["_law_script", "_law_k"], ⟨["_law_script", "_law_k", "_law_drawn_here"], (defScope (tops 31)).names, true, [], [], [("_law_cell_at", 5)], false, [], []⟩⟩
def e_drawn : Ent := ⟨7, "_law_drawn", t_drawn, tops 32, ["_law_number", "_law_k"], ⟨["_law_number", "_law_k", "_law_drawn_here"], (defScope (tops 32)).names, true, [], [], [], false, [], []⟩⟩
def e_figures : Ent := ⟨8, "_law_figures", t_figures, tops 33, ["_law_number", "_law_most"], ⟨["_law_number", "_law_most", "_law_found", "_law_k"], (defScope (tops 33)).names, true, ["range"], [], [("_law_drawn", 7)], false, [], []⟩⟩
def e_rule : Ent := ⟨9, "_law_rule", t_rule, tops 34, ["_law_number"], ⟨["_law_number", "_law_prefix", "_law_drawn_here", "_law_size"], (defScope (tops 34)).names, true, ["len", "max", "min"], [], [("_law_figures", 8), ("_law_drawn", 7)], false, [], []⟩⟩
def e_table : Ent := ⟨10, "_law_table", t_table, tops 35, ["_law_number", "_law_most"], ⟨["_law_number", "_law_most", "_law_found", "_law_k", "_law_rule_here", "_law_prefix"], (defScope (tops 35)).names, true, ["range", "sorted", "tuple"], [], [("_law_rule", 9), ("_law_drawn", 7)], false, [], []⟩⟩
def e_sample : Ent := ⟨80, "_law_sample", t_sample, tops 36, ["_law_number", "_law_most"], ⟨["_law_number", "_law_most", "_law_found", "_law_k", "_law_drawn_here", "_law_figures_here", "_law_j", "_law_kind", "_law_one"], (defScope (tops 36)).names, true, ["range", "sorted", "tuple"], [], [("_law_drawn", 7)], false, [], []⟩⟩
def e_law_k63 : Ent := ⟨126, "law", t_law_k63, tops 37, ["_law_script"], ⟨["_law_script", "_law_table_here", "_law_sample_here", "_law_number", "_law_text", "_law_told", "_law_at", "_law_place", "_law_line", "_law_rule_here", "_law_pair"], (defScope (tops 37)).names, true, ["len", "zip"], [], [("_law_table", 10), ("_law_mixed", 6), ("_law_sample", 80), ("table_text", 111), ("read_table", 116), ("sample_text", 112), ("read_sample", 118)], false, [], []⟩⟩
def ents : List Ent := [e_are_figures, e_is_number, e_is_word, e_is_rule, e_is_table, e_rows_text, e_rule_words, e_table_text, e_sample_text, e_need, e_rows_of, e_rule_of, e_read_table, e_pair_of, e_read_sample, e_cell_at, e_mixed, e_drawn, e_figures, e_rule, e_table, e_sample, e_law_k63]
theorem look : lookAll ents = true := by decide +kernel
theorem hlaw : H_law_k63 (txtOf ents).P := ⟨rfl, ⟨rfl, ⟨rfl, ⟨rfl, rfl⟩, rfl⟩, rfl⟩, ⟨rfl, rfl⟩, ⟨rfl, rfl⟩, ⟨rfl, rfl, rfl⟩, ⟨rfl, ⟨rfl, rfl⟩, ⟨rfl, rfl⟩, rfl, ⟨rfl, rfl, rfl⟩, ⟨rfl, ⟨rfl, rfl, rfl⟩⟩⟩, ⟨rfl, rfl⟩, ⟨rfl, ⟨rfl, rfl⟩, ⟨rfl, rfl, ⟨rfl, rfl⟩, rfl⟩, rfl⟩⟩
set_option maxHeartbeats 0 in
theorem all_mk {l : PySem.W.OpenLaw} {w : World} {K : PySem.W.Frag} {h : Heap} {mg : Str → Option Value} {fa f1 f2 f3 f4 f5 f6 f7 f8 f9 f10 f11 f12 f13 f14 f15 f16 f17 f18 f19 f20 f21 f22 f23 : Addr} (X : K.In h) (G : h.Ns mainGlobals mg) (hfa : mg "law" = some (.ref fa))
    {od1 od2 od3 od4 od5 od6 od7 od8 od9 od10 od11 od12 od13 od14 od15 od16 od17 od18 od19 od20 od21 od22 od23 an1 an2 an3 an4 an5 an6 an7 an8 an9 an10 an11 an12 an13 an14 an15 an16 an17 an18 an19 an20 an21 an22 an23 : Option Addr} {sl1 sl2 sl3 sl4 sl5 sl6 sl7 sl8 sl9 sl10 sl11 sl12 sl13 sl14 sl15 sl16 sl17 sl18 sl19 sl20 sl21 sl22 sl23 : Array (Option Value)} {oc1 oc2 oc3 oc4 oc5 oc6 oc7 oc8 oc9 oc10 oc11 oc12 oc13 oc14 oc15 oc16 oc17 oc18 oc19 oc20 oc21 oc22 oc23 kV1 kV2 kV3 kV4 kV5 kV6 kV7 kV8 kV9 kV10 kV11 kV12 kV13 kV14 kV15 kV16 kV17 kV18 kV19 kV20 kV21 kV22 kV23 dc1 dc2 dc3 dc4 dc5 dc6 dc7 dc8 dc9 dc10 dc11 dc12 dc13 dc14 dc15 dc16 dc17 dc18 dc19 dc20 dc21 dc22 dc23 pm1 pm2 pm3 pm4 pm5 pm6 pm7 pm8 pm9 pm10 pm11 pm12 pm13 pm14 pm15 pm16 pm17 pm18 pm19 pm20 pm21 pm22 pm23 cd1 cd2 cd3 cd4 cd5 cd6 cd7 cd8 cd9 cd10 cd11 cd12 cd13 cd14 cd15 cd16 cd17 cd18 cd19 cd20 cd21 cd22 cd23 ct1 ct2 ct3 ct4 ct5 ct6 ct7 ct8 ct9 ct10 ct11 ct12 ct13 ct14 ct15 ct16 ct17 ct18 ct19 ct20 ct21 ct22 ct23 : Value}
    (a1 : PySem.W.nsIn K mainGlobals "are_figures" = some (some (.ref f1))) (l1 : K.lookup f1 = some ⟨oc1, od1, .func (PySem.W.fnOf "are_figures" "are_figures" (defArgs (tops 9)) (defBody (tops 9)) (defScope (tops 9)) .none kV1 dc1 pm1 an1 cd1 ct1), sl1⟩) (c1 : PySem.W.codeIn K cd1 "are_figures" = true) (k1 : PySem.W.keepIn K (.ref f1) = true)
    (a2 : PySem.W.nsIn K mainGlobals "is_number" = some (some (.ref f2))) (l2 : K.lookup f2 = some ⟨oc2, od2, .func (PySem.W.fnOf "is_number" "is_number" (defArgs (tops 10)) (defBody (tops 10)) (defScope (tops 10)) .none kV2 dc2 pm2 an2 cd2 ct2), sl2⟩) (c2 : PySem.W.codeIn K cd2 "is_number" = true) (k2 : PySem.W.keepIn K (.ref f2) = true)
    (a3 : PySem.W.nsIn K mainGlobals "is_word" = some (some (.ref f3))) (l3 : K.lookup f3 = some ⟨oc3, od3, .func (PySem.W.fnOf "is_word" "is_word" (defArgs (tops 11)) (defBody (tops 11)) (defScope (tops 11)) .none kV3 dc3 pm3 an3 cd3 ct3), sl3⟩) (c3 : PySem.W.codeIn K cd3 "is_word" = true) (k3 : PySem.W.keepIn K (.ref f3) = true)
    (a4 : PySem.W.nsIn K mainGlobals "is_rule" = some (some (.ref f4))) (l4 : K.lookup f4 = some ⟨oc4, od4, .func (PySem.W.fnOf "is_rule" "is_rule" (defArgs (tops 12)) (defBody (tops 12)) (defScope (tops 12)) .none kV4 dc4 pm4 an4 cd4 ct4), sl4⟩) (c4 : PySem.W.codeIn K cd4 "is_rule" = true) (k4 : PySem.W.keepIn K (.ref f4) = true)
    (a5 : PySem.W.nsIn K mainGlobals "is_table" = some (some (.ref f5))) (l5 : K.lookup f5 = some ⟨oc5, od5, .func (PySem.W.fnOf "is_table" "is_table" (defArgs (tops 13)) (defBody (tops 13)) (defScope (tops 13)) .none kV5 dc5 pm5 an5 cd5 ct5), sl5⟩) (c5 : PySem.W.codeIn K cd5 "is_table" = true) (k5 : PySem.W.keepIn K (.ref f5) = true)
    (a6 : PySem.W.nsIn K mainGlobals "rows_text" = some (some (.ref f6))) (l6 : K.lookup f6 = some ⟨oc6, od6, .func (PySem.W.fnOf "rows_text" "rows_text" (defArgs (tops 19)) (defBody (tops 19)) (defScope (tops 19)) .none kV6 dc6 pm6 an6 cd6 ct6), sl6⟩) (c6 : PySem.W.codeIn K cd6 "rows_text" = true) (k6 : PySem.W.keepIn K (.ref f6) = true)
    (a7 : PySem.W.nsIn K mainGlobals "rule_words" = some (some (.ref f7))) (l7 : K.lookup f7 = some ⟨oc7, od7, .func (PySem.W.fnOf "rule_words" "rule_words" (defArgs (tops 20)) (defBody (tops 20)) (defScope (tops 20)) .none kV7 dc7 pm7 an7 cd7 ct7), sl7⟩) (c7 : PySem.W.codeIn K cd7 "rule_words" = true) (k7 : PySem.W.keepIn K (.ref f7) = true)
    (a8 : PySem.W.nsIn K mainGlobals "table_text" = some (some (.ref f8))) (l8 : K.lookup f8 = some ⟨oc8, od8, .func (PySem.W.fnOf "table_text" "table_text" (defArgs (tops 21)) (defBody (tops 21)) (defScope (tops 21)) .none kV8 dc8 pm8 an8 cd8 ct8), sl8⟩) (c8 : PySem.W.codeIn K cd8 "table_text" = true) (k8 : PySem.W.keepIn K (.ref f8) = true)
    (a9 : PySem.W.nsIn K mainGlobals "sample_text" = some (some (.ref f9))) (l9 : K.lookup f9 = some ⟨oc9, od9, .func (PySem.W.fnOf "sample_text" "sample_text" (defArgs (tops 22)) (defBody (tops 22)) (defScope (tops 22)) .none kV9 dc9 pm9 an9 cd9 ct9), sl9⟩) (c9 : PySem.W.codeIn K cd9 "sample_text" = true) (k9 : PySem.W.keepIn K (.ref f9) = true)
    (a10 : PySem.W.nsIn K mainGlobals "need" = some (some (.ref f10))) (l10 : K.lookup f10 = some ⟨oc10, od10, .func (PySem.W.fnOf "need" "need" (defArgs (tops 23)) (defBody (tops 23)) (defScope (tops 23)) .none kV10 dc10 pm10 an10 cd10 ct10), sl10⟩) (c10 : PySem.W.codeIn K cd10 "need" = true) (k10 : PySem.W.keepIn K (.ref f10) = true)
    (a11 : PySem.W.nsIn K mainGlobals "rows_of" = some (some (.ref f11))) (l11 : K.lookup f11 = some ⟨oc11, od11, .func (PySem.W.fnOf "rows_of" "rows_of" (defArgs (tops 24)) (defBody (tops 24)) (defScope (tops 24)) .none kV11 dc11 pm11 an11 cd11 ct11), sl11⟩) (c11 : PySem.W.codeIn K cd11 "rows_of" = true) (k11 : PySem.W.keepIn K (.ref f11) = true)
    (a12 : PySem.W.nsIn K mainGlobals "rule_of" = some (some (.ref f12))) (l12 : K.lookup f12 = some ⟨oc12, od12, .func (PySem.W.fnOf "rule_of" "rule_of" (defArgs (tops 25)) (defBody (tops 25)) (defScope (tops 25)) .none kV12 dc12 pm12 an12 cd12 ct12), sl12⟩) (c12 : PySem.W.codeIn K cd12 "rule_of" = true) (k12 : PySem.W.keepIn K (.ref f12) = true)
    (a13 : PySem.W.nsIn K mainGlobals "read_table" = some (some (.ref f13))) (l13 : K.lookup f13 = some ⟨oc13, od13, .func (PySem.W.fnOf "read_table" "read_table" (defArgs (tops 26)) (defBody (tops 26)) (defScope (tops 26)) .none kV13 dc13 pm13 an13 cd13 ct13), sl13⟩) (c13 : PySem.W.codeIn K cd13 "read_table" = true) (k13 : PySem.W.keepIn K (.ref f13) = true)
    (a14 : PySem.W.nsIn K mainGlobals "pair_of" = some (some (.ref f14))) (l14 : K.lookup f14 = some ⟨oc14, od14, .func (PySem.W.fnOf "pair_of" "pair_of" (defArgs (tops 27)) (defBody (tops 27)) (defScope (tops 27)) .none kV14 dc14 pm14 an14 cd14 ct14), sl14⟩) (c14 : PySem.W.codeIn K cd14 "pair_of" = true) (k14 : PySem.W.keepIn K (.ref f14) = true)
    (a15 : PySem.W.nsIn K mainGlobals "read_sample" = some (some (.ref f15))) (l15 : K.lookup f15 = some ⟨oc15, od15, .func (PySem.W.fnOf "read_sample" "read_sample" (defArgs (tops 28)) (defBody (tops 28)) (defScope (tops 28)) .none kV15 dc15 pm15 an15 cd15 ct15), sl15⟩) (c15 : PySem.W.codeIn K cd15 "read_sample" = true) (k15 : PySem.W.keepIn K (.ref f15) = true)
    (a16 : PySem.W.nsIn K mainGlobals "_law_cell_at" = some (some (.ref f16))) (l16 : K.lookup f16 = some ⟨oc16, od16, .func (PySem.W.fnOf "_law_cell_at" "_law_cell_at" (defArgs (tops 30)) (defBody (tops 30)) (defScope (tops 30)) .none kV16 dc16 pm16 an16 cd16 ct16), sl16⟩) (c16 : PySem.W.codeIn K cd16 "_law_cell_at" = true) (k16 : PySem.W.keepIn K (.ref f16) = true)
    (a17 : PySem.W.nsIn K mainGlobals "_law_mixed" = some (some (.ref f17))) (l17 : K.lookup f17 = some ⟨oc17, od17, .func (PySem.W.fnOf "_law_mixed" "_law_mixed" (defArgs (tops 31)) (defBody (tops 31)) (defScope (tops 31)) .none kV17 dc17 pm17 an17 cd17 ct17), sl17⟩) (c17 : PySem.W.codeIn K cd17 "_law_mixed" = true) (k17 : PySem.W.keepIn K (.ref f17) = true)
    (a18 : PySem.W.nsIn K mainGlobals "_law_drawn" = some (some (.ref f18))) (l18 : K.lookup f18 = some ⟨oc18, od18, .func (PySem.W.fnOf "_law_drawn" "_law_drawn" (defArgs (tops 32)) (defBody (tops 32)) (defScope (tops 32)) .none kV18 dc18 pm18 an18 cd18 ct18), sl18⟩) (c18 : PySem.W.codeIn K cd18 "_law_drawn" = true) (k18 : PySem.W.keepIn K (.ref f18) = true)
    (a19 : PySem.W.nsIn K mainGlobals "_law_figures" = some (some (.ref f19))) (l19 : K.lookup f19 = some ⟨oc19, od19, .func (PySem.W.fnOf "_law_figures" "_law_figures" (defArgs (tops 33)) (defBody (tops 33)) (defScope (tops 33)) .none kV19 dc19 pm19 an19 cd19 ct19), sl19⟩) (c19 : PySem.W.codeIn K cd19 "_law_figures" = true) (k19 : PySem.W.keepIn K (.ref f19) = true)
    (a20 : PySem.W.nsIn K mainGlobals "_law_rule" = some (some (.ref f20))) (l20 : K.lookup f20 = some ⟨oc20, od20, .func (PySem.W.fnOf "_law_rule" "_law_rule" (defArgs (tops 34)) (defBody (tops 34)) (defScope (tops 34)) .none kV20 dc20 pm20 an20 cd20 ct20), sl20⟩) (c20 : PySem.W.codeIn K cd20 "_law_rule" = true) (k20 : PySem.W.keepIn K (.ref f20) = true)
    (a21 : PySem.W.nsIn K mainGlobals "_law_table" = some (some (.ref f21))) (l21 : K.lookup f21 = some ⟨oc21, od21, .func (PySem.W.fnOf "_law_table" "_law_table" (defArgs (tops 35)) (defBody (tops 35)) (defScope (tops 35)) .none kV21 dc21 pm21 an21 cd21 ct21), sl21⟩) (c21 : PySem.W.codeIn K cd21 "_law_table" = true) (k21 : PySem.W.keepIn K (.ref f21) = true)
    (a22 : PySem.W.nsIn K mainGlobals "_law_sample" = some (some (.ref f22))) (l22 : K.lookup f22 = some ⟨oc22, od22, .func (PySem.W.fnOf "_law_sample" "_law_sample" (defArgs (tops 36)) (defBody (tops 36)) (defScope (tops 36)) .none kV22 dc22 pm22 an22 cd22 ct22), sl22⟩) (c22 : PySem.W.codeIn K cd22 "_law_sample" = true) (k22 : PySem.W.keepIn K (.ref f22) = true)
    (a23 : PySem.W.nsIn K mainGlobals "law" = some (some (.ref f23))) (l23 : K.lookup f23 = some ⟨oc23, od23, .func (PySem.W.fnOf "law" "law" (defArgs (tops 37)) (defBody (tops 37)) (defScope (tops 37)) .none kV23 dc23 pm23 an23 cd23 ct23), sl23⟩) (c23 : PySem.W.codeIn K cd23 "law" = true) (k23 : PySem.W.keepIn K (.ref f23) = true)
    (z1 : PySem.W.nsIn K mainGlobals "all" = some none)
    (z2 : PySem.W.nsIn K mainGlobals "bool" = some none)
    (z3 : PySem.W.nsIn K mainGlobals "int" = some none)
    (z4 : PySem.W.nsIn K mainGlobals "isinstance" = some none)
    (z5 : PySem.W.nsIn K mainGlobals "len" = some none)
    (z6 : PySem.W.nsIn K mainGlobals "max" = some none)
    (z7 : PySem.W.nsIn K mainGlobals "min" = some none)
    (z8 : PySem.W.nsIn K mainGlobals "range" = some none)
    (z9 : PySem.W.nsIn K mainGlobals "sorted" = some none)
    (z10 : PySem.W.nsIn K mainGlobals "str" = some none)
    (z11 : PySem.W.nsIn K mainGlobals "tuple" = some none)
    (z12 : PySem.W.nsIn K mainGlobals "zip" = some none)
    {g1 : Tok} (y1 : PySem.W.nsIn K mainGlobals "FIGURES" = some (some (.str "0123456789" g1)))
    {g2 : Tok} (y2 : PySem.W.nsIn K mainGlobals "MOST_FIGURES" = some (some (.int (12) g2)))
    {g3 : Tok} (y3 : PySem.W.nsIn K mainGlobals "LETTERS" = some (some (.str "abcdefghijklmnopqrstuvwxyz" g3)))
    {g4 : Tok} (y4 : PySem.W.nsIn K mainGlobals "MOST_WORD" = some (some (.int (4) g4)))
    {g5 : Tok} (y5 : PySem.W.nsIn K mainGlobals "MOST_RULES" = some (some (.int (30) g5)))
    {g6 : Tok} (y6 : PySem.W.nsIn K mainGlobals "ROW_END" = some (some (.str "\n" g6)))
    {g7 : Tok} (y7 : PySem.W.nsIn K mainGlobals "EMPTY" = some (some (.str "*" g7)))
    {g8 : Tok} (y8 : PySem.W.nsIn K mainGlobals "NOT_GOOD" = some (some (.str "-" g8)))
    {g9 : Tok} (y9 : PySem.W.nsIn K mainGlobals "MOST_SAMPLE" = some (some (.int (16) g9)))
    {x1 : Addr} (xa1 : PySem.W.nsIn K mainGlobals "NoText" = some (some (.ref x1))) (xk1 : PySem.W.keepIn K (.ref x1) = true) (xq1 : PySem.W.excIn K x1 [.type "ValueError", .type "Exception", .type "BaseException", .type "object"] "ValueError.__new__" = true) (xs1 : PySem.W.subIn K (.ref x1) (.type "BaseException") = some true) (xt1 : PySem.W.typeIn K (.ref x1) = some (.type "type"))
    : LamX.LawAtS l w K (L2.CX l.prog w) 14 63 "_law_script" mg fa h := by
  have e := hfa.symm.trans (PySem.W.mg_of X G a23)
  cases e
  have F1 := fun_mk (st := tops 9) l1 c1 k1
  have b1 := F1.binds (ps := ["thing", "least", "most"]) fun _ _ _ _ _ _ us hl => match us, hl with | [_, _, _], _ => rfl
  have F2 := fun_mk (st := tops 10) l2 c2 k2
  have b2 := F2.binds (ps := ["thing"]) fun _ _ _ _ _ _ us hl => match us, hl with | [_], _ => rfl
  have F3 := fun_mk (st := tops 11) l3 c3 k3
  have b3 := F3.binds (ps := ["thing"]) fun _ _ _ _ _ _ us hl => match us, hl with | [_], _ => rfl
  have F4 := fun_mk (st := tops 12) l4 c4 k4
  have b4 := F4.binds (ps := ["thing"]) fun _ _ _ _ _ _ us hl => match us, hl with | [_], _ => rfl
  have F5 := fun_mk (st := tops 13) l5 c5 k5
  have b5 := F5.binds (ps := ["thing"]) fun _ _ _ _ _ _ us hl => match us, hl with | [_], _ => rfl
  have F6 := fun_mk (st := tops 19) l6 c6 k6
  have b6 := F6.binds (ps := ["rows"]) fun _ _ _ _ _ _ us hl => match us, hl with | [_], _ => rfl
  have F7 := fun_mk (st := tops 20) l7 c7 k7
  have b7 := F7.binds (ps := ["rule"]) fun _ _ _ _ _ _ us hl => match us, hl with | [_], _ => rfl
  have F8 := fun_mk (st := tops 21) l8 c8 k8
  have b8 := F8.binds (ps := ["table"]) fun _ _ _ _ _ _ us hl => match us, hl with | [_], _ => rfl
  have F9 := fun_mk (st := tops 22) l9 c9 k9
  have b9 := F9.binds (ps := ["sample"]) fun _ _ _ _ _ _ us hl => match us, hl with | [_], _ => rfl
  have F10 := fun_mk (st := tops 23) l10 c10 k10
  have b10 := F10.binds (ps := ["good"]) fun _ _ _ _ _ _ us hl => match us, hl with | [_], _ => rfl
  have F11 := fun_mk (st := tops 24) l11 c11 k11
  have b11 := F11.binds (ps := ["text"]) fun _ _ _ _ _ _ us hl => match us, hl with | [_], _ => rfl
  have F12 := fun_mk (st := tops 25) l12 c12 k12
  have b12 := F12.binds (ps := ["words"]) fun _ _ _ _ _ _ us hl => match us, hl with | [_], _ => rfl
  have F13 := fun_mk (st := tops 26) l13 c13 k13
  have b13 := F13.binds (ps := ["text"]) fun _ _ _ _ _ _ us hl => match us, hl with | [_], _ => rfl
  have F14 := fun_mk (st := tops 27) l14 c14 k14
  have b14 := F14.binds (ps := ["words"]) fun _ _ _ _ _ _ us hl => match us, hl with | [_], _ => rfl
  have F15 := fun_mk (st := tops 28) l15 c15 k15
  have b15 := F15.binds (ps := ["text"]) fun _ _ _ _ _ _ us hl => match us, hl with | [_], _ => rfl
  have F16 := fun_mk (st := tops 30) l16 c16 k16
  have b16 := F16.binds (ps := ["_law_script", "_law_k"]) fun _ _ _ _ _ _ us hl => match us, hl with | [_, _], _ => rfl
  have F17 := fun_mk (st := tops 31) l17 c17 k17
  have b17 := F17.binds (ps := ["_law_script", "_law_k"]) fun _ _ _ _ _ _ us hl => match us, hl with | [_, _], _ => rfl
  have F18 := fun_mk (st := tops 32) l18 c18 k18
  have b18 := F18.binds (ps := ["_law_number", "_law_k"]) fun _ _ _ _ _ _ us hl => match us, hl with | [_, _], _ => rfl
  have F19 := fun_mk (st := tops 33) l19 c19 k19
  have b19 := F19.binds (ps := ["_law_number", "_law_most"]) fun _ _ _ _ _ _ us hl => match us, hl with | [_, _], _ => rfl
  have F20 := fun_mk (st := tops 34) l20 c20 k20
  have b20 := F20.binds (ps := ["_law_number"]) fun _ _ _ _ _ _ us hl => match us, hl with | [_], _ => rfl
  have F21 := fun_mk (st := tops 35) l21 c21 k21
  have b21 := F21.binds (ps := ["_law_number", "_law_most"]) fun _ _ _ _ _ _ us hl => match us, hl with | [_, _], _ => rfl
  have F22 := fun_mk (st := tops 36) l22 c22 k22
  have b22 := F22.binds (ps := ["_law_number", "_law_most"]) fun _ _ _ _ _ _ us hl => match us, hl with | [_, _], _ => rfl
  have F23 := fun_mk (st := tops 37) l23 c23 k23
  have b23 := F23.binds (ps := ["_law_script"]) fun _ _ _ _ _ _ us hl => match us, hl with | [_], _ => rfl
  have hf : ∀ e ∈ ents, EntOk K mg e := by
    intro e he
    unfold ents at he
    simp only [List.mem_cons, List.not_mem_nil, or_false] at he
    rcases he with rfl | rfl | rfl | rfl | rfl | rfl | rfl | rfl | rfl | rfl | rfl | rfl | rfl | rfl | rfl | rfl | rfl | rfl | rfl | rfl | rfl | rfl | rfl
    · exact ⟨_, _, PySem.W.mg_of X G a1, F1, b1⟩
    · exact ⟨_, _, PySem.W.mg_of X G a2, F2, b2⟩
    · exact ⟨_, _, PySem.W.mg_of X G a3, F3, b3⟩
    · exact ⟨_, _, PySem.W.mg_of X G a4, F4, b4⟩
    · exact ⟨_, _, PySem.W.mg_of X G a5, F5, b5⟩
    · exact ⟨_, _, PySem.W.mg_of X G a6, F6, b6⟩
    · exact ⟨_, _, PySem.W.mg_of X G a7, F7, b7⟩
    · exact ⟨_, _, PySem.W.mg_of X G a8, F8, b8⟩
    · exact ⟨_, _, PySem.W.mg_of X G a9, F9, b9⟩
    · exact ⟨_, _, PySem.W.mg_of X G a10, F10, b10⟩
    · exact ⟨_, _, PySem.W.mg_of X G a11, F11, b11⟩
    · exact ⟨_, _, PySem.W.mg_of X G a12, F12, b12⟩
    · exact ⟨_, _, PySem.W.mg_of X G a13, F13, b13⟩
    · exact ⟨_, _, PySem.W.mg_of X G a14, F14, b14⟩
    · exact ⟨_, _, PySem.W.mg_of X G a15, F15, b15⟩
    · exact ⟨_, _, PySem.W.mg_of X G a16, F16, b16⟩
    · exact ⟨_, _, PySem.W.mg_of X G a17, F17, b17⟩
    · exact ⟨_, _, PySem.W.mg_of X G a18, F18, b18⟩
    · exact ⟨_, _, PySem.W.mg_of X G a19, F19, b19⟩
    · exact ⟨_, _, PySem.W.mg_of X G a20, F20, b20⟩
    · exact ⟨_, _, PySem.W.mg_of X G a21, F21, b21⟩
    · exact ⟨_, _, PySem.W.mg_of X G a22, F22, b22⟩
    · exact ⟨_, _, PySem.W.mg_of X G a23, F23, b23⟩
  have hb : ∀ x ∈ (["all", "bool", "int", "isinstance", "len", "max", "min", "range", "sorted", "str", "tuple", "zip"] : List Str), mg x = none := by
    intro x hx
    simp only [List.mem_cons, List.not_mem_nil, or_false] at hx
    rcases hx with rfl | rfl | rfl | rfl | rfl | rfl | rfl | rfl | rfl | rfl | rfl | rfl
    · exact PySem.W.mg_none_of X G z1
    · exact PySem.W.mg_none_of X G z2
    · exact PySem.W.mg_none_of X G z3
    · exact PySem.W.mg_none_of X G z4
    · exact PySem.W.mg_none_of X G z5
    · exact PySem.W.mg_none_of X G z6
    · exact PySem.W.mg_none_of X G z7
    · exact PySem.W.mg_none_of X G z8
    · exact PySem.W.mg_none_of X G z9
    · exact PySem.W.mg_none_of X G z10
    · exact PySem.W.mg_none_of X G z11
    · exact PySem.W.mg_none_of X G z12
  have hg : ∀ e ∈ ents, ∀ p ∈ e.G.gd, ∃ u v, mg p.1 = some u ∧ RelV v u ∧ ∀ H, Rep K H v p.2 := by
    intro e he p hp
    unfold ents at he
    simp only [List.mem_cons, List.not_mem_nil, or_false] at he
    rcases he with rfl | rfl | rfl | rfl | rfl | rfl | rfl | rfl | rfl | rfl | rfl | rfl | rfl | rfl | rfl | rfl | rfl | rfl | rfl | rfl | rfl | rfl | rfl
    · have hp : p ∈ [(("FIGURES" : Str), (D.str [48, 49, 50, 51, 52, 53, 54, 55, 56, 57] : D))] := hp
      simp only [List.mem_cons, List.not_mem_nil, or_false] at hp
      rcases hp with rfl
      · exact ⟨_, .str (Sx [48, 49, 50, 51, 52, 53, 54, 55, 56, 57]), PySem.W.mg_of X G y1, ⟨_, rfl⟩, fun H => .str _⟩
    · have hp : p ∈ [(("MOST_FIGURES" : Str), (D.int 12 : D))] := hp
      simp only [List.mem_cons, List.not_mem_nil, or_false] at hp
      rcases hp with rfl
      · exact ⟨_, .int (12), PySem.W.mg_of X G y2, ⟨_, rfl⟩, fun H => .int _⟩
    · have hp : p ∈ [(("LETTERS" : Str), (D.str [97, 98, 99, 100, 101, 102, 103, 104, 105, 106, 107, 108, 109, 110, 111, 112, 113, 114, 115, 116, 117, 118, 119, 120, 121, 122] : D)), (("MOST_WORD" : Str), (D.int 4 : D))] := hp
      simp only [List.mem_cons, List.not_mem_nil, or_false] at hp
      rcases hp with rfl | rfl
      · exact ⟨_, .str (Sx [97, 98, 99, 100, 101, 102, 103, 104, 105, 106, 107, 108, 109, 110, 111, 112, 113, 114, 115, 116, 117, 118, 119, 120, 121, 122]), PySem.W.mg_of X G y3, ⟨_, rfl⟩, fun H => .str _⟩
      · exact ⟨_, .int (4), PySem.W.mg_of X G y4, ⟨_, rfl⟩, fun H => .int _⟩
    · have hp : p ∈ [(("MOST_FIGURES" : Str), (D.int 12 : D))] := hp
      simp only [List.mem_cons, List.not_mem_nil, or_false] at hp
      rcases hp with rfl
      · exact ⟨_, .int (12), PySem.W.mg_of X G y2, ⟨_, rfl⟩, fun H => .int _⟩
    · have hp : p ∈ [(("MOST_RULES" : Str), (D.int 30 : D))] := hp
      simp only [List.mem_cons, List.not_mem_nil, or_false] at hp
      rcases hp with rfl
      · exact ⟨_, .int (30), PySem.W.mg_of X G y5, ⟨_, rfl⟩, fun H => .int _⟩
    · have hp : p ∈ [(("ROW_END" : Str), (D.str [10] : D))] := hp
      simp only [List.mem_cons, List.not_mem_nil, or_false] at hp
      rcases hp with rfl
      · exact ⟨_, .str (Sx [10]), PySem.W.mg_of X G y6, ⟨_, rfl⟩, fun H => .str _⟩
    · have hp : p ∈ [(("EMPTY" : Str), (D.str [42] : D))] := hp
      simp only [List.mem_cons, List.not_mem_nil, or_false] at hp
      rcases hp with rfl
      · exact ⟨_, .str (Sx [42]), PySem.W.mg_of X G y7, ⟨_, rfl⟩, fun H => .str _⟩
    · cases hp
    · have hp : p ∈ [(("NOT_GOOD" : Str), (D.str [45] : D))] := hp
      simp only [List.mem_cons, List.not_mem_nil, or_false] at hp
      rcases hp with rfl
      · exact ⟨_, .str (Sx [45]), PySem.W.mg_of X G y8, ⟨_, rfl⟩, fun H => .str _⟩
    · cases hp
    · have hp : p ∈ [(("ROW_END" : Str), (D.str [10] : D))] := hp
      simp only [List.mem_cons, List.not_mem_nil, or_false] at hp
      rcases hp with rfl
      · exact ⟨_, .str (Sx [10]), PySem.W.mg_of X G y6, ⟨_, rfl⟩, fun H => .str _⟩
    · have hp : p ∈ [(("FIGURES" : Str), (D.str [48, 49, 50, 51, 52, 53, 54, 55, 56, 57] : D)), (("EMPTY" : Str), (D.str [42] : D))] := hp
      simp only [List.mem_cons, List.not_mem_nil, or_false] at hp
      rcases hp with rfl | rfl
      · exact ⟨_, .str (Sx [48, 49, 50, 51, 52, 53, 54, 55, 56, 57]), PySem.W.mg_of X G y1, ⟨_, rfl⟩, fun H => .str _⟩
      · exact ⟨_, .str (Sx [42]), PySem.W.mg_of X G y7, ⟨_, rfl⟩, fun H => .str _⟩
    · cases hp
    · have hp : p ∈ [(("NOT_GOOD" : Str), (D.str [45] : D))] := hp
      simp only [List.mem_cons, List.not_mem_nil, or_false] at hp
      rcases hp with rfl
      · exact ⟨_, .str (Sx [45]), PySem.W.mg_of X G y8, ⟨_, rfl⟩, fun H => .str _⟩
    · have hp : p ∈ [(("MOST_SAMPLE" : Str), (D.int 16 : D))] := hp
      simp only [List.mem_cons, List.not_mem_nil, or_false] at hp
      rcases hp with rfl
      · exact ⟨_, .int (16), PySem.W.mg_of X G y9, ⟨_, rfl⟩, fun H => .int _⟩
    · cases hp
    · cases hp
    · cases hp
    · cases hp
    · cases hp
    · cases hp
    · cases hp
    · cases hp
  have hxc : ∀ e ∈ ents, ∀ p ∈ e.G.exc, ExcOk (cfgX [] [(3, x1)]) K mg p := by
    intro e he p hp
    unfold ents at he
    simp only [List.mem_cons, List.not_mem_nil, or_false] at he
    rcases he with rfl | rfl | rfl | rfl | rfl | rfl | rfl | rfl | rfl | rfl | rfl | rfl | rfl | rfl | rfl | rfl | rfl | rfl | rfl | rfl | rfl | rfl | rfl
    · cases hp
    · cases hp
    · cases hp
    · cases hp
    · cases hp
    · cases hp
    · cases hp
    · cases hp
    · cases hp
    · have hp : p ∈ [(("NoText" : Str), (3 : Nat))] := hp
      simp only [List.mem_cons, List.not_mem_nil, or_false] at hp
      rcases hp with rfl
      · exact ⟨x1, PySem.W.mg_of X G xa1, xk1, xq1, xs1, xt1, rfl⟩
    · cases hp
    · cases hp
    · cases hp
    · cases hp
    · cases hp
    · cases hp
    · cases hp
    · cases hp
    · cases hp
    · cases hp
    · cases hp
    · cases hp
    · cases hp
  exact ⟨_, [], spOf (cfgX [] [(3, x1)]) K (tbl (txtOf ents).P 12 0 126), by simp, by simp, by simp, fun s v => .of_eq rfl, fun H a ns _ _ _ hS => end_sp rfl (Ev.run_law63 hlaw (by decide) ns) hS, fun base _ _ _ => all_ok (base := base) (facts_of (P := l.prog) (w := w) look hf ["all", "bool", "int", "isinstance", "len", "max", "min", "range", "sorted", "str", "tuple", "zip"] hb (by decide +kernel) hg hxc) (lamFacts_no (by decide +kernel)) 12 126 t_law_k63 _ _ rfl (PySem.W.mg_of X G a23) F23⟩
end Rk63
open PySem PySem.W PyProof.Rows
set_option maxHeartbeats 0 in
theorem PySem.Challenge.cw_dialrules_k63_whole_texts_put_together_holds : PySem.Challenge.rw_dialrules_k63_whole_texts_put_together.Holds := by
  w_on; o_law; k_head; (case hw => w_witness2)
  k_fill
  refine LamX.walk_ofTs (l := PySem.Challenge.rw_dialrules_k63_whole_texts_put_together) (n := 63) (k := 14) (x := "_law_script") (CX := fun w => L2.CX PySem.Challenge.rw_dialrules_k63_whole_texts_put_together.prog w) rfl (by decide) rfl ⟨rfl, by decide, by decide⟩ (fun w h Y => PySem.W.kIn_of Y) ?F (fun w H s e s' h => by obtain ⟨_, _, _, _, _, _, _, _, _, _, _, _, z⟩ := h; exact z)
  case F =>
    intro w mg fa h Y KX G hmg
    refine' Rk63.all_mk KX G hmg ?a1 ?l1 ?c1 ?k1 ?a2 ?l2 ?c2 ?k2 ?a3 ?l3 ?c3 ?k3 ?a4 ?l4 ?c4 ?k4 ?a5 ?l5 ?c5 ?k5 ?a6 ?l6 ?c6 ?k6 ?a7 ?l7 ?c7 ?k7 ?a8 ?l8 ?c8 ?k8 ?a9 ?l9 ?c9 ?k9 ?a10 ?l10 ?c10 ?k10 ?a11 ?l11 ?c11 ?k11 ?a12 ?l12 ?c12 ?k12 ?a13 ?l13 ?c13 ?k13 ?a14 ?l14 ?c14 ?k14 ?a15 ?l15 ?c15 ?k15 ?a16 ?l16 ?c16 ?k16 ?a17 ?l17 ?c17 ?k17 ?a18 ?l18 ?c18 ?k18 ?a19 ?l19 ?c19 ?k19 ?a20 ?l20 ?c20 ?k20 ?a21 ?l21 ?c21 ?k21 ?a22 ?l22 ?c22 ?k22 ?a23 ?l23 ?c23 ?k23 ?z1 ?z2 ?z3 ?z4 ?z5 ?z6 ?z7 ?z8 ?z9 ?z10 ?z11 ?z12 ?y1 ?y2 ?y3 ?y4 ?y5 ?y6 ?y7 ?y8 ?y9 ?xa1 ?xk1 ?xq1 ?xs1 ?xt1
    (case a1 => k_is); (case l1 => k_is); (case c1 => k_is); (case k1 => k_is)
    (case a2 => k_is); (case l2 => k_is); (case c2 => k_is); (case k2 => k_is)
    (case a3 => k_is); (case l3 => k_is); (case c3 => k_is); (case k3 => k_is)
    (case a4 => k_is); (case l4 => k_is); (case c4 => k_is); (case k4 => k_is)
    (case a5 => k_is); (case l5 => k_is); (case c5 => k_is); (case k5 => k_is)
    (case a6 => k_is); (case l6 => k_is); (case c6 => k_is); (case k6 => k_is)
    (case a7 => k_is); (case l7 => k_is); (case c7 => k_is); (case k7 => k_is)
    (case a8 => k_is); (case l8 => k_is); (case c8 => k_is); (case k8 => k_is)
    (case a9 => k_is); (case l9 => k_is); (case c9 => k_is); (case k9 => k_is)
    (case a10 => k_is); (case l10 => k_is); (case c10 => k_is); (case k10 => k_is)
    (case a11 => k_is); (case l11 => k_is); (case c11 => k_is); (case k11 => k_is)
    (case a12 => k_is); (case l12 => k_is); (case c12 => k_is); (case k12 => k_is)
    (case a13 => k_is); (case l13 => k_is); (case c13 => k_is); (case k13 => k_is)
    (case a14 => k_is); (case l14 => k_is); (case c14 => k_is); (case k14 => k_is)
    (case a15 => k_is); (case l15 => k_is); (case c15 => k_is); (case k15 => k_is)
    (case a16 => k_is); (case l16 => k_is); (case c16 => k_is); (case k16 => k_is)
    (case a17 => k_is); (case l17 => k_is); (case c17 => k_is); (case k17 => k_is)
    (case a18 => k_is); (case l18 => k_is); (case c18 => k_is); (case k18 => k_is)
    (case a19 => k_is); (case l19 => k_is); (case c19 => k_is); (case k19 => k_is)
    (case a20 => k_is); (case l20 => k_is); (case c20 => k_is); (case k20 => k_is)
    (case a21 => k_is); (case l21 => k_is); (case c21 => k_is); (case k21 => k_is)
    (case a22 => k_is); (case l22 => k_is); (case c22 => k_is); (case k22 => k_is)
    (case a23 => k_is); (case l23 => k_is); (case c23 => k_is); (case k23 => k_is)
    (case z1 => k_is)
    (case z2 => k_is)
    (case z3 => k_is)
    (case z4 => k_is)
    (case z5 => k_is)
    (case z6 => k_is)
    (case z7 => k_is)
    (case z8 => k_is)
    (case z9 => k_is)
    (case z10 => k_is)
    (case z11 => k_is)
    (case z12 => k_is)
    (case y1 => k_is)
    (case y2 => k_is)
    (case y3 => k_is)
    (case y4 => k_is)
    (case y5 => k_is)
    (case y6 => k_is)
    (case y7 => k_is)
    (case y8 => k_is)
    (case y9 => k_is)
    (case xa1 => k_is); (case xk1 => k_is); (case xq1 => first | kx_is | k_exc); (case xs1 => k_is); (case xt1 => k_is)

