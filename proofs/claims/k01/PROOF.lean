import PyProof.Rows.All
import Wide.All
import OpenK.AllK
import Wide.FinOn
import HandS.ForMost
import HandS.Exc
import HandS.ExcOwn
import HandS.WordsExc
import HandS.TupAny
import HandS.Zip
import HandS.Deep
import HandS.IsInst
import HandS.ExcCtx
import HandS.CallLocal
import HandS.Lambda
import KE.KRevSl
import HandS.Style
import HandS.TupMul
import HandS.SortInts
import KE.SortData
import HandS.Small
import KE.GoesEnum
import KE.GoesZip
import HandS.TupSets
import KE.KDictList
import KE.KDictSum
import HandS.Iter
import HandS.More
import HandS.HotCalls
import HandS.ExcIs
import HandS.Codes
import KE.KNestM
import KE.KLam
import HandS.EndTab
import PySem.Challenge.RW_fullsigns_k01_houses_and_books_recognize
set_option Elab.async false
set_option linter.all false
set_option maxRecDepth 100000
set_option maxHeartbeats 4000000
/-! The mirror interpreter: pure data, slots, a small IR and its evaluator. -/
namespace Ir
open PySem L2

abbrev D := PyData
/-- what a slot holds: data; a list or dict of the def's own that it may still change; a def -/
inductive Val where
  | d (x : D)
  | own (xs : List D)
  | dk (kvs : List (Key × D))
  | dt (kvs : List (List Key × D))
  | fn (i : Nat)
abbrev Sl := List (Option Val)
structure Exn where
  cls : Nat
  lim : Option Int := none
  deriving DecidableEq
inductive Res (α : Type) where
  | ok (a : α) (s : Sl)
  | exc (x : Exn) (s : Sl)
  | bad
def Res.bind {α β : Type} (r : Res α) (k : α → Sl → Res β) : Res β := match r with
  | .ok a s => k a s
  | .exc x s => .exc x s
  | .bad => .bad
def Val.toD : Val → Option D
  | .d x => some x
  | .own xs => some (.list xs)
  | _ => none
/-- the value as data (what is new is frozen) -/
def Res.dat {β : Type} (r : Res Val) (k : D → Sl → Res β) : Res β := r.bind fun v s => match v.toD with
  | some x => k x s
  | none => .bad
/-- the items that are walked -/
def Res.itm {β : Type} (r : Res Val) (k : List D → Sl → Res β) : Res β := r.bind fun v s => match v with
  | .d (.list xs) => k xs s
  | _ => .bad
/-- the value as a bool -/
def Res.bl {β : Type} (r : Res Val) (k : Bool → Sl → Res β) : Res β := r.bind fun v s => match v with
  | .d (.bool b) => k b s
  | _ => .bad
def pureD (x : D) (s : Sl) : Res Val := .ok (.d x) s
def optD (o : Option D) (s : Sl) : Res Val := match o with
  | some x => .ok (.d x) s
  | none => .bad
def optV (o : Option Val) (s : Sl) : Res Val := match o with
  | some x => .ok x s
  | none => .bad
/-- what a call gives: with what the borrowed list holds behind it -/
inductive FRes where
  | ok (v : Val) (io : List D)
  | exc (x : Exn) (io : List D)
  | bad
/-- defs by number: the borrowed list, the arguments -/
abbrev Fs := Nat → List D → List D → FRes

/-! ### operators on data -/
inductive Bop where | add | sub | mul | fdiv | mod | pow
inductive Cop where | eq | ne | lt | le | gt | ge | is | isnot | inn | notin
  deriving DecidableEq
inductive Ty where | int | bool | str | tuple | list | tuplist
inductive Bif where | len | all | any | min1 | max1 | min2 | max2 | sum | sorted | list | tuple | int | str | sortedSet
abbrev lineMax : Nat := 16777216

def intsOf : List D → Option (List Int)
  | [] => some []
  | .int i :: r => (intsOf r).map (i :: ·)
  | _ => none
def blsOf : List D → Option (List Bool)
  | [] => some []
  | .bool i :: r => (blsOf r).map (i :: ·)
  | _ => none
def strsOf : List D → Option (List Str)
  | [] => some []
  | .str i :: r => (strsOf r).map (i :: ·)
  | _ => none
def small64 (i : Int) : Bool := decide (-(2 ^ 64) < i) && decide (i < 2 ^ 64)
def bop : Bop → D → D → Option D
  | .add, .int i, .int j => some (.int (i + j))
  | .add, .str x, .str y => if x.length + y.length ≤ lineMax then some (.str (x ++ y)) else none
  | .add, .list x, .list y => if x.length + y.length ≤ lineMax then some (.list (x ++ y)) else none
  | .add, .tuple x, .tuple y => if x.length + y.length ≤ lineMax then some (.tuple (x ++ y)) else none
  | .sub, .int i, .int j => some (.int (i - j))
  | .mul, .int i, .int j => if small64 i || small64 j then some (.int (i * j)) else none
  | .mul, .list x, .int k => if 0 ≤ k ∧ k ≤ 1000 ∧ x.length ≤ 1000 then some (.list (List.replicate k.toNat x).flatten) else none
  | .mul, .tuple x, .int k => if k = 1 ∨ x ≠ [] ∧ 2 ≤ k ∧ k ≤ 1000 ∧ x.length ≤ 1000 then some (.tuple (List.replicate k.toNat x).flatten) else none
  | .fdiv, .int i, .int j => if 0 < j ∧ j < 1073741824 then some (.int (i / j)) else none
  | .mod, .int i, .int j => if 0 < j then some (.int (i % j)) else none
  | .pow, .int i, .int j => if 0 ≤ j ∧ j ≤ 1000000 ∧ i.natAbs < 2 ^ 64 then some (.int (i ^ j.toNat)) else none
  | _, _, _ => none
def bopV (o : Bop) (x y : D) : Option Val := match bop o x y with
  | some (.list zs) => some (.own zs)
  | some z => some (.d z)
  | none => none
def lexLt : List Int → List Int → Bool
  | [], [] => false
  | [], _ :: _ => true
  | _ :: _, [] => false
  | x :: xs, y :: ys => if x = y then lexLt xs ys else decide (x < y)
def shp (x : D) : Bool := SeqAt.shaped x
def cop : Cop → D → D → Option Bool
  | .eq, x, y => if shp x && shp y then some (PyData.eqv x y) else none
  | .ne, x, y => if shp x && shp y then some (!PyData.eqv x y) else none
  | .lt, .int i, .int j => some (decide (i < j))
  | .lt, .tuple x, .tuple y => match intsOf x, intsOf y with
    | some a, some b => some (lexLt a b)
    | _, _ => none
  | .le, .int i, .int j => some (decide (i ≤ j))
  | .gt, .int i, .int j => some (decide (j < i))
  | .ge, .int i, .int j => some (decide (j ≤ i))
  | .is, x, .none => some (match x with | .none => true | _ => false)
  | .isnot, x, .none => some (match x with | .none => false | _ => true)
  | .inn, x, .list ys => if shp x && shp (.list ys) then some (ys.any fun z => PyData.eqv z x) else none
  | .inn, x, .tuple ys => if shp x && shp (.tuple ys) then some (ys.any fun z => PyData.eqv z x) else none
  | .inn, .str x, .str y => some (!(Builtin.Str.occurrences y x 0 y.length 1).isEmpty)
  | .notin, x, .list ys => if shp x && shp (.list ys) then some (!ys.any fun z => PyData.eqv z x) else none
  | .notin, x, .tuple ys => if shp x && shp (.tuple ys) then some (!ys.any fun z => PyData.eqv z x) else none
  | .notin, .str x, .str y => some (!(!(Builtin.Str.occurrences y x 0 y.length 1).isEmpty))
  | _, _, _ => none
def isTy : Ty → D → Bool
  | .int, .int _ => true
  | .int, .bool _ => true
  | .bool, .bool _ => true
  | .str, .str _ => true
  | .tuple, .tuple _ => true
  | .list, .list _ => true
  | .tuplist, .tuple _ => true
  | .tuplist, .list _ => true
  | _, _ => false
def ixD (x i : D) : Option D := match x, i with
  | .list xs, .int k => atI xs k
  | .tuple xs, .int k => atI xs k
  | .str z, .int k => if z.length ≤ lineMax then (atI z.cps.toList k).map fun c => .str ⟨#[c]⟩ else none
  | _, _ => none
def cutL (xs : List D) (lo hi : Option Int) : List D := (xs.drop (HT.sIx xs.length 0 lo)).take (HT.sIx xs.length xs.length hi - HT.sIx xs.length 0 lo)
def optI : D → Option (Option Int)
  | .none => some none
  | .int i => some (some i)
  | _ => none
/-- a list's slice is a list of one's own -/
def slD (x : D) (lo hi : Option Int) : Option Val := match x with
  | .list xs => some (.own (cutL xs lo hi))
  | .tuple xs => some (.d (.tuple (cutL xs lo hi)))
  | _ => none
def revD (x : D) : Option Val := match x with
  | .list xs => some (.own xs.reverse)
  | .tuple xs => some (.d (.tuple xs.reverse))
  | _ => none
def keyD : D → Option Key
  | .int i => some (.inl i)
  | .str x => some (.inr x)
  | _ => none
def keysD : List D → Option (List Key)
  | [] => some []
  | x :: r => match keyD x, keysD r with
    | some k, some ks => some (k :: ks)
    | _, _ => none
def tkeyD : D → Option (List Key)
  | .tuple xs => keysD xs
  | _ => none
def unkey : Key → D
  | .inl i => .int i
  | .inr x => .str x
section
variable {κ α : Type} [DecidableEq κ]
def dget (kvs : List (κ × α)) (k : κ) : Option α := (kvs.find? fun kv => decide (kv.1 = k)).map (·.2)
def dput (kvs : List (κ × α)) (k : κ) (v : α) : List (κ × α) :=
  if (kvs.any fun kv => decide (kv.1 = k)) then kvs.map (fun kv => if kv.1 = k then (kv.1, v) else kv) else kvs ++ [(k, v)]
end
/-- the value at a key of a dict slot -/
def dlook (v : Val) (k : D) : Option (Option D) := match v with
  | .dk kvs => (keyD k).map fun k => dget kvs k
  | .dt kvs => (tkeyD k).map fun k => dget kvs k
  | _ => none
def minL : List Int → Option Int
  | [] => none
  | x :: r => some (r.foldl min x)
def maxL : List Int → Option Int
  | [] => none
  | x :: r => some (r.foldl max x)
/-- lists of tuples of ints, all of one length -/
def tupsOf : List D → Option (List (List Int))
  | [] => some []
  | .tuple x :: r => match intsOf x, tupsOf r with
    | some a, some b => some (a :: b)
    | _, _ => none
  | _ => none
def lexLe (a b : List Int) : Bool := !lexLt b a
def insI (x : Int) : List Int → List Int
  | [] => [x]
  | y :: r => if x ≤ y then x :: y :: r else y :: insI x r
def sortI : List Int → List Int
  | [] => []
  | x :: r => insI x (sortI r)
def insT (x : List Int) : List (List Int) → List (List Int)
  | [] => [x]
  | y :: r => if lexLe x y then x :: y :: r else y :: insT x r
def sortT : List (List Int) → List (List Int)
  | [] => []
  | x :: r => insT x (sortT r)
def ofInts (x : List Int) : List D := x.map .int
def ofTups (x : List (List Int)) : List D := x.map fun t => .tuple (ofInts t)
def sortD (xs : List D) : Option (List D) := match intsOf xs with
  | some a => if a.length ≤ lineMax then some (ofInts (sortI a)) else none
  | none => match tupsOf xs with
    | some a => if a.length ≤ lineMax && a.all (fun t => !t.isEmpty) then some (ofTups (sortT a)) else none
    | none => none
def dedupT : List (List Int) → List (List Int)
  | [] => []
  | x :: r => if r.elem x then dedupT r else x :: dedupT r
def dedupI : List Int → List Int
  | [] => []
  | x :: r => if r.elem x then dedupI r else x :: dedupI r
def tstr (i : Int) : Str := toString i
def bfn : Bif → List D → Option Val
  | .len, [.list x] => some (.d (.int x.length))
  | .len, [.tuple x] => some (.d (.int x.length))
  | .len, [.str x] => if x.length ≤ lineMax then some (.d (.int x.length)) else none
  | .all, [.list x] => (blsOf x).map fun b => .d (.bool (b.all id))
  | .any, [.list x] => (blsOf x).map fun b => .d (.bool (b.any id))
  | .min1, [.list x] => match intsOf x with | some a => (minL a).map fun m => .d (.int m) | none => none
  | .max1, [.list x] => match intsOf x with | some a => (maxL a).map fun m => .d (.int m) | none => none
  | .min2, [.int i, .int j] => some (.d (.int (if j < i then j else i)))
  | .max2, [.int i, .int j] => some (.d (.int (if j > i then j else i)))
  | .sum, [.list x] => (intsOf x).map fun a => .d (.int a.sum)
  | .sorted, [.list x] => (sortD x).map .own
  | .list, [.list x] => some (.own x)
  | .list, [.tuple x] => some (.own x)
  | .tuple, [.list x] => some (.d (.tuple x))
  | .tuple, [.tuple x] => some (.d (.tuple x))
  | .int, [.int i] => some (.d (.int i))
  | .int, [.bool b] => some (.d (.int (if b then 1 else 0)))
  | .str, [.int i] => if i.natAbs.log2 < 1920 then some (.d (.str (tstr i))) else none
  | .sortedSet, [.list x] => match tupsOf x with
    | some a => if a.length < 64 ∧ a.all (fun t => t.length == 2 && t.all fun z => decide (0 ≤ z) && decide (z < 64)) = true then some (.own (ofTups (sortT (dedupT a)))) else none
    | none => none
  | _, _ => none
def pairsK : List D → Option (List (Key × D))
  | [] => some []
  | .tuple [k, v] :: r => match keyD k, pairsK r with
    | some a, some b => some ((a, v) :: b)
    | _, _ => none
  | _ => none
def pairsT : List D → Option (List (List Key × D))
  | [] => some []
  | .tuple [k, v] :: r => match tkeyD k, pairsT r with
    | some a, some b => some ((a, v) :: b)
    | _, _ => none
  | _ => none
def mergeL {κ : Type} [DecidableEq κ] (more : List (κ × D)) : List (κ × D) := more.foldl (fun acc kv => dput acc kv.1 kv.2) []

/-! ### the IR -/
inductive Tg where
  | nm (i : Nat)
  | nil
  | cons (a b : Tg)
  | tup (a : Tg)
inductive Ex where
  | var (i : Nat)
  | take (i : Nat)
  | cst (c : D)
  | glob (x : Str) (c : Int)
  | nil
  | cons (a b : Ex)
  | pair (k v b : Ex)
  | tup (a : Ex)
  | lst (a : Ex)
  | bin (o : Bop) (a b : Ex)
  | neg (a : Ex)
  | and (a b : Ex)
  | or (a b : Ex)
  | not (a : Ex)
  | cmp (o : Cop) (a b : Ex)
  | cmpS (o : Cop) (i : Nat) (b : Ex)
  | inS (n : Bool) (a : Ex) (i : Nat)
  | chain (o o' : Cop) (a b c : Ex)
  | ife (c a b : Ex)
  | call (f : Nat) (a : Ex)
  | io (f : Nat) (i : Nat) (a : Ex)
  | callV (i : Nat) (fs : List Nat) (a : Ex)
  | bi (b : Bif) (a : Ex)
  | lenS (i : Nat)
  | isi (t : Ty) (a : Ex)
  | ix (a b : Ex)
  | ixS (i : Nat) (b : Ex)
  | sl (a lo hi : Ex)
  | slL (a lo : Ex)
  | slH (a hi : Ex)
  | rev (a : Ex)
  | getS (i : Nat) (k d : Ex)
  | pop0 (i : Nat)
  | dnk
  | dnt
  | disp (a : Ex)
  | dictK (a : Ex)
  | dictT (a : Ex)
  | sortedKeys (i : Nat)
  | join (z : Str) (b : Ex)
  | split (a : Ex) (c : Str)
  | comp (e : Ex) (t : Tg) (it : Ex) (c : Ex) (own : List Nat)
  | comp2 (e : Ex) (t : Tg) (it : Ex) (t2 : Tg) (it2 : Ex) (own : List Nat)
  | itSeq (a : Ex)
  | itRng1 (a : Ex)
  | itRng (a b : Ex)
  | itDown (a b : Ex)
  | itZip (a b : Ex)
  | itZip3 (a b c : Ex)
  | itEnum (a : Ex)
  | itKeys (i : Nat)
  | isF (i : Nat) (b : Bool)
  | ltry (e : Ex)
inductive Sm where
  | set (i : Nat) (e : Ex)
  | setT (t : Tg) (e : Ex)
  | par (i j : Nat) (a b : Ex)
  | setIx (i : Nat) (k e : Ex)
  | setIx2 (i : Nat) (k k2 e e2 : Ex)
  | app (i : Nat) (e : Ex)
  | ife (c : Ex) (a b : Sm)
  | for_ (t : Tg) (it : Ex) (b : Sm)
  | forFn (i : Nat) (fs : List Nat) (b : Sm)
  | while_ (n : Nat) (c : Ex) (b : Sm)
  | ret (e : Ex)
  | retn
  | raise (x : Exn)
  | expr (e : Ex)
  | seq (a b : Sm)
  | skip
  | brk
  | cont

def slGet (s : Sl) (i : Nat) : Option Val := match s[i]? with
  | some (some v) => some v
  | _ => none
def hasS (s : Sl) (i : Nat) : Bool := (slGet s i).isSome
def hasDict (s : Sl) (i : Nat) : Bool := match slGet s i with
  | some (.dk _) => true
  | some (.dt _) => true
  | _ => false
def hasOwn (s : Sl) (i : Nat) : Bool := match slGet s i with
  | some (.own _) => true
  | _ => false
/-- a target bound to data -/
def tgSet : Tg → List D → Sl → Option Sl
  | .nm i, [x], s => if i < s.length then some (s.set i (some (.d x))) else none
  | .nil, [], s => some s
  | .cons a b, x :: r, s => match tgSet a [x] s with
    | some s1 => tgSet b r s1
    | none => none
  | .tup a, [.tuple xs], s => tgSet a xs s
  | _, _, _ => none
def rngL (a : Int) (n : Nat) : List D := (List.range n).map fun (k : Nat) => .int (a + k)
def downL (a : Int) (n : Nat) : List D := (List.range n).map fun (k : Nat) => .int (a - k)
def zipD : List D → List D → List D
  | x :: r, y :: q => .tuple [x, y] :: zipD r q
  | _, _ => []
def zip3D : List D → List D → List D → List D
  | x :: r, y :: q, z :: p => .tuple [x, y, z] :: zip3D r q p
  | _, _, _ => []
def enumD : Nat → List D → List D
  | _, [] => []
  | k, x :: r => .tuple [.int k, x] :: enumD (k + 1) r
def seqOf : D → Option (List D)
  | .list x => some x
  | .tuple x => some x
  | _ => none
def small62 (i : Int) : Bool := decide (-(2 ^ 62) ≤ i) && decide (i < 2 ^ 62)
/-- forget the slots of a block's own names -/
def wipeS : Sl → List Nat → Sl
  | s, [] => s
  | s, i :: r => wipeS (s.set i none) r
/-- and give them back -/
def backS (old : Sl) : Sl → List Nat → Sl
  | s, [] => s
  | s, i :: r => backS old (s.set i (match old[i]? with | some v => v | none => none)) r
def plainSlots (s : Sl) (own : List Nat) : Bool := own.all fun i => match s[i]? with
  | some none => true
  | some (some (.d _)) => true
  | _ => false
/-- the turns of a comprehension: c, e the condition's and the element's evaluators -/
def compL (c : Sl → Res Val) (e : Sl → Res Val) (t : Tg) (own : List Nat) : List D → List D → Sl → Res (List D)
  | [], acc, s => .ok acc s
  | x :: r, acc, s => match tgSet t [x] (wipeS s own) with
    | none => .bad
    | some s1 => match c s1 with
      | .ok (.d (.bool false)) s2 => compL c e t own r acc s2
      | .ok (.d (.bool true)) s2 => match e s2 with
        | .ok v s3 => match v.toD with
          | some y => if acc.length < lineMax then compL c e t own r (acc ++ [y]) s3 else .bad
          | none => .bad
        | _ => .bad
      | _ => .bad
def namesOf (x : Exn) : Str := "?"
/-- what _law_try tells of an error: given as data -/
def tryRes (kin : Exn → D) (r : Res Val) : Res Val := match r with
  | .ok v s => match v.toD with
    | some x => .ok (.d (.tuple [.str "told", x])) s
    | none => .bad
  | .exc x s => if x.lim = none ∧ x.cls < 13 then .ok (.d (kin x)) s else .bad
  | .bad => .bad
def ofF (r : FRes) (s : Sl) : Res Val := match r with
  | .ok v _ => .ok v s
  | .exc x _ => .exc x s
  | .bad => .bad
def ofIo (i : Nat) (r : FRes) (s : Sl) : Res Val := match r with
  | .ok v xs => .ok v (s.set i (some (.own xs)))
  | .exc x xs => .exc x (s.set i (some (.own xs)))
  | .bad => .bad

section
variable (Φ : Fs) (kin : Exn → D)
mutual
def ev : Ex → Sl → Res Val
  | .var i, s => match slGet s i with
    | some (.d x) => .ok (.d x) s
    | some (.own xs) => .ok (.d (.list xs)) (s.set i (some (.d (.list xs))))
    | _ => .bad
  | .take i, s => match slGet s i with
    | some (.d x) => .ok (.d x) s
    | some (.own xs) => .ok (.own xs) (s.set i none)
    | some (.dk xs) => .ok (.dk xs) (s.set i none)
    | some (.dt xs) => .ok (.dt xs) (s.set i none)
    | _ => .bad
  | .cst c, s => .ok (.d c) s
  | .glob _ c, s => .ok (.d (.int c)) s
  | .nil, _ => .bad
  | .cons _ _, _ => .bad
  | .pair _ _ _, _ => .bad
  | .tup a, s => (evs a s).bind fun xs s => if xs.length ≤ lineMax then .ok (.d (.tuple xs)) s else .bad
  | .lst a, s => (evs a s).bind fun xs s => if xs.length ≤ lineMax then .ok (.own xs) s else .bad
  | .bin o a b, s => (ev a s).dat fun x s => (ev b s).dat fun y s => optV (bopV o x y) s
  | .neg a, s => (ev a s).dat fun x s => match x with
    | .int i => .ok (.d (.int (-i))) s
    | _ => .bad
  | .and a b, s => (ev a s).bl fun x s => if x then ev b s else .ok (.d (.bool false)) s
  | .or a b, s => (ev a s).bl fun x s => if x then .ok (.d (.bool true)) s else ev b s
  | .not a, s => (ev a s).bl fun x s => .ok (.d (.bool (!x))) s
  | .cmp o a b, s => (ev a s).dat fun x s => (ev b s).dat fun y s => match cop o x y with
    | some z => .ok (.d (.bool z)) s
    | none => .bad
  | .cmpS o i b, s => if hasS s i then (ev b s).dat fun y s => match slGet s i with
    | some v => match v.toD with
      | some x => match cop o x y with
        | some z => .ok (.d (.bool z)) s
        | none => .bad
      | none => .bad
    | none => .bad
    else .bad
  | .inS n a i, s => if hasDict s i then (ev a s).dat fun x s => match slGet s i with
      | some v => match dlook v x with
        | some o => .ok (.d (.bool (if n then !o.isSome else o.isSome))) s
        | none => .bad
      | none => .bad
    else (ev a s).dat fun x s => match slGet s i with
      | some v => match v.toD with
        | some y => match cop (if n then .notin else .inn) x y with
          | some z => .ok (.d (.bool z)) s
          | none => .bad
        | none => .bad
      | none => .bad
  | .chain o o' a b c, s => (ev a s).dat fun x s => (ev b s).dat fun y s => match cop o x y with
    | some true => (ev c s).dat fun z s => match cop o' y z with
      | some k => .ok (.d (.bool k)) s
      | none => .bad
    | some false => .ok (.d (.bool false)) s
    | none => .bad
  | .ife c a b, s => (ev c s).bl fun x s => if x then ev a s else ev b s
  | .call f a, s => (evs a s).bind fun xs s => ofF (Φ f [] xs) s
  | .io f i a, s => if hasS s i then (evs a s).bind fun xs s => match slGet s i with
    | some (.own cur) => ofIo i (Φ f cur xs) s
    | _ => .bad
    else .bad
  | .callV i fs a, s => match slGet s i with
    | some (.fn f) => if fs.elem f then (evs a s).bind fun xs s => ofF (Φ f [] xs) s else .bad
    | _ => .bad
  | .bi b a, s => (evs a s).bind fun xs s => optV (Ir.bfn b xs) s
  | .lenS i, s => match slGet s i with
    | some v => match v.toD with
      | some x => optV (Ir.bfn .len [x]) s
      | none => .bad
    | none => .bad
  | .isi t a, s => (ev a s).dat fun x s => .ok (.d (.bool (isTy t x))) s
  | .ix a b, s => (ev a s).dat fun x s => (ev b s).dat fun y s => optD (ixD x y) s
  | .ixS i b, s => if hasDict s i then (ev b s).dat fun y s => match slGet s i with
      | some v => match dlook v y with
        | some (some z) => .ok (.d z) s
        | _ => .bad
      | none => .bad
    else if hasS s i then (ev b s).dat fun y s => match slGet s i with
      | some v => match v.toD with
        | some x => optD (ixD x y) s
        | none => .bad
      | none => .bad
    else .bad
  | .sl a lo hi, s => (ev a s).dat fun x s => (ev lo s).dat fun l s => match l with
    | .int l => (ev hi s).dat fun h s => match h with
      | .int h => optV (slD x (some l) (some h)) s
      | _ => .bad
    | _ => .bad
  | .slL a lo, s => (ev a s).dat fun x s => (ev lo s).dat fun l s => match l with
    | .int l => optV (slD x (some l) none) s
    | _ => .bad
  | .slH a hi, s => (ev a s).dat fun x s => (ev hi s).dat fun h s => match h with
    | .int h => optV (slD x none (some h)) s
    | _ => .bad
  | .rev a, s => (ev a s).dat fun x s => optV (revD x) s
  | .getS i k d, s => if hasDict s i then (ev k s).dat fun k s => (ev d s).dat fun d s => match slGet s i with
    | some v => match dlook v k with
      | some o => .ok (.d (o.getD d)) s
      | none => .bad
    | none => .bad
    else .bad
  | .pop0 i, s => match slGet s i with
    | some (.own (x :: r)) => .ok (.d x) (s.set i (some (.own r)))
    | _ => .bad
  | .dnk, s => .ok (.dk []) s
  | .dnt, s => .ok (.dt []) s
  | .disp a, s => (evp a s).bind fun kvs s => if kvs.length ≤ 15 then .ok (.dk (mergeL kvs)) s else .bad
  | .dictK a, s => (ev a s).dat fun x s => match x with
    | .list xs => match pairsK xs with
      | some kvs => if kvs.length ≤ lineMax then .ok (.dk (mergeL kvs)) s else .bad
      | none => .bad
    | _ => .bad
  | .dictT a, s => (ev a s).dat fun x s => match x with
    | .list xs => match pairsT xs with
      | some kvs => if kvs.length ≤ lineMax then .ok (.dt (mergeL kvs)) s else .bad
      | none => .bad
    | _ => .bad
  | .sortedKeys i, s => match slGet s i with
    | some (.dk kvs) => match sortD (kvs.map fun p => unkey p.1) with
      | some xs => .ok (.own xs) s
      | none => .bad
    | some (.dt kvs) => match sortD (kvs.map fun p => .tuple (p.1.map unkey)) with
      | some xs => .ok (.own xs) s
      | none => .bad
    | _ => .bad
  | .join z b, s => (ev b s).dat fun y s => match y with
    | .list ys => match strsOf ys with
      | some l => if (l.map (·.length)).sum + l.length * z.length ≤ lineMax then .ok (.d (.str (Txt.join z l))) s else .bad
      | none => .bad
    | _ => .bad
  | .split a c, s => (ev a s).dat fun x s => match x with
    | .str z => if c.length ≠ 0 ∧ z.length + 2 ≤ lineMax then .ok (.own ((Txt.split z c).map .str)) s else .bad
    | _ => .bad
  | .comp e t it c own, s => (ev it s).itm fun items s => if plainSlots s own then (compL (ev c) (ev e) t own items [] s).bind fun ys s' => .ok (.own ys) (backS s s' own) else .bad
  | .comp2 _ _ _ _ _ _, _ => .bad
  | .itSeq a, s => (ev a s).dat fun x s => match seqOf x with
    | some xs => .ok (.d (.list xs)) s
    | none => .bad
  | .itRng1 a, s => (ev a s).dat fun x s => match x with
    | .int j => if small62 j then .ok (.d (.list (rngL 0 j.toNat))) s else .bad
    | _ => .bad
  | .itRng a b, s => (ev a s).dat fun x s => (ev b s).dat fun y s => match x, y with
    | .int i, .int j => if small62 i && small62 j then .ok (.d (.list (rngL i (j - i).toNat))) s else .bad
    | _, _ => .bad
  | .itDown a b, s => (ev a s).dat fun x s => (ev b s).dat fun y s => match x, y with
    | .int i, .int j => if small62 i && small62 j then .ok (.d (.list (downL i (i - j).toNat))) s else .bad
    | _, _ => .bad
  | .itZip a b, s => (ev a s).dat fun x s => (ev b s).dat fun y s => match x, y with
    | .list xs, .list ys => .ok (.d (.list (zipD xs ys))) s
    | .tuple xs, .tuple ys => .ok (.d (.list (zipD xs ys))) s
    | _, _ => .bad
  | .itZip3 a b c, s => (ev a s).dat fun x s => (ev b s).dat fun y s => (ev c s).dat fun z s => match x, y, z with
    | .tuple xs, .tuple ys, .tuple zs => .ok (.d (.list (zip3D xs ys zs))) s
    | _, _, _ => .bad
  | .itEnum a, s => (ev a s).dat fun x s => match seqOf x with
    | some xs => .ok (.d (.list (enumD 0 xs))) s
    | none => .bad
  | .itKeys i, s => match slGet s i with
    | some (.dk kvs) => .ok (.d (.list (kvs.map fun p => unkey p.1))) s
    | some (.dt kvs) => .ok (.d (.list (kvs.map fun p => .tuple (p.1.map unkey)))) s
    | _ => .bad
  | .isF i b, s => match slGet s i with
    | some (.fn _) => .ok (.d (.bool b)) s
    | _ => .bad
  | .ltry e, s => tryRes kin (ev e s)
/-- a display's pairs: .cons (.cons k v) rest -/
def evp : Ex → Sl → Res (List (Key × D))
  | .nil, s => .ok [] s
  | .pair k v b, s => (ev k s).dat fun k s => (ev v s).dat fun v s => (evp b s).bind fun xs s => match keyD k with
    | some k => .ok ((k, v) :: xs) s
    | none => .bad
  | _, _ => .bad
def evs : Ex → Sl → Res (List D)
  | .nil, s => .ok [] s
  | .cons a b, s => (ev a s).dat fun x s => (evs b s).bind fun xs s => .ok (x :: xs) s
  | _, _ => .bad
end
inductive Flo where
  | next (s : Sl) | ret (v : Val) (s : Sl) | brk (s : Sl) | cont (s : Sl) | exc (x : Exn) (s : Sl) | bad
def Res.go {α : Type} (r : Res α) (k : α → Sl → Flo) : Flo := match r with
  | .ok a s => k a s
  | .exc x s => .exc x s
  | .bad => .bad
def Res.goD (r : Res Val) (k : D → Sl → Flo) : Flo := r.go fun v s => match v.toD with
  | some x => k x s
  | none => .bad
def Res.goB (r : Res Val) (k : Bool → Sl → Flo) : Flo := r.go fun v s => match v with
  | .d (.bool b) => k b s
  | _ => .bad
def Flo.then_ (f : Flo) (k : Sl → Flo) : Flo := match f with
  | .next s => k s
  | f => f
def forL (b : Sl → Flo) (t : Tg) : List D → Sl → Flo
  | [], s => .next s
  | x :: r, s => match tgSet t [x] s with
    | none => .bad
    | some s1 => match b s1 with
      | .next s2 => forL b t r s2
      | .cont s2 => forL b t r s2
      | .brk s2 => .next s2
      | f => f
def forF (b : Sl → Flo) (i : Nat) : List Nat → Sl → Flo
  | [], s => .next s
  | f :: r, s => if i < s.length then match b (s.set i (some (.fn f))) with
      | .next s2 => forF b i r s2
      | .cont s2 => forF b i r s2
      | .brk s2 => .next s2
      | f => f
    else .bad
def whileL (c : Sl → Res Val) (b : Sl → Flo) : Nat → Sl → Flo
  | 0, _ => .bad
  | n + 1, s => (c s).goB fun x s1 => if x then match b s1 with
      | .next s2 => whileL c b n s2
      | .cont s2 => whileL c b n s2
      | .brk s2 => .next s2
      | f => f
    else .next s1
/-- x[k] = y of an owned list, of an owned dict -/
def putL (i : Nat) (k x : D) (s : Sl) : Option Sl := match slGet s i, k with
  | some (.own xs), .int j => match ixN xs.length j with
    | some j => some (s.set i (some (.own (xs.set j x))))
    | none => none
  | _, _ => none
def putD (i : Nat) (k x : D) (s : Sl) : Option Sl := match slGet s i with
  | some (.dk kvs) => match keyD k with
    | some a => if kvs.length < lineMax then some (s.set i (some (.dk (dput kvs a x)))) else none
    | none => none
  | some (.dt kvs) => match tkeyD k with
    | some a => if kvs.length < lineMax then some (s.set i (some (.dt (dput kvs a x)))) else none
    | none => none
  | _ => none
def optF (o : Option Sl) : Flo := match o with
  | some s => .next s
  | none => .bad
def run : Sm → Sl → Flo
  | .set i e, s => (ev Φ kin e s).go fun v s => if i < s.length then .next (s.set i (some v)) else .bad
  | .setT t e, s => (ev Φ kin e s).goD fun x s => optF (tgSet t [x] s)
  | .par i j a b, s => (ev Φ kin a s).go fun v s => (ev Φ kin b s).go fun u s => if i < s.length ∧ j < s.length ∧ i ≠ j then .next ((s.set i (some v)).set j (some u)) else .bad
  | .setIx i k e, s => if hasDict s i then (ev Φ kin e s).goD fun x s => if hasDict s i then (ev Φ kin k s).goD fun k s => optF (putD i k x s) else .bad
    else (ev Φ kin e s).goD fun x s => if hasS s i then (ev Φ kin k s).goD fun k s => optF (putL i k x s) else .bad
  | .setIx2 i k k2 e e2, s => (ev Φ kin e s).goD fun x s => (ev Φ kin e2 s).goD fun x2 s => if hasS s i then (ev Φ kin k s).goD fun k s => match putL i k x s with
    | some s => (ev Φ kin k2 s).goD fun k2 s => optF (putL i k2 x2 s)
    | none => .bad
    else .bad
  | .app i e, s => if hasOwn s i then (ev Φ kin e s).goD fun x s => match slGet s i with
    | some (.own xs) => if xs.length < lineMax then .next (s.set i (some (.own (xs ++ [x])))) else .bad
    | _ => .bad
    else .bad
  | .ife c a b, s => (ev Φ kin c s).goB fun x s => if x then run a s else run b s
  | .for_ t it b, s => (ev Φ kin it s).go fun v s => match v with
    | .d (.list items) => forL (run b) t items s
    | _ => .bad
  | .forFn i fs b, s => forF (run b) i fs s
  | .while_ n c b, s => whileL (ev Φ kin c) (run b) n s
  | .ret e, s => (ev Φ kin e s).go fun v s => .ret v s
  | .retn, s => .ret (.d .none) s
  | .raise x, s => .exc x s
  | .expr e, s => (ev Φ kin e s).go fun _ s => .next s
  | .seq a b, s => (run a s).then_ (run b)
  | .skip, s => .next s
  | .brk, s => .brk s
  | .cont, s => .cont s
end

/-- a def: whether its first parameter is a list that it may change, the other parameters, all slots, the body -/
structure Fn where
  name : Str
  io : Bool
  np : Nat
  ns : List Str
  body : Sm
def startS (f : Fn) (io : List D) (as : List D) : Sl :=
  (if f.io then [some (.own io)] else []) ++ as.map (fun x => some (.d x)) ++ List.replicate (f.ns.length - f.np) none
/-- what the borrowed list holds at the end -/
def ioOf : Bool → Sl → Option (List D)
  | false, _ => some []
  | true, some (.own xs) :: _ => some xs
  | true, _ => none
def fin (f : Fn) (r : Flo) : FRes := match r with
  | .ret v s => match ioOf f.io s with | some xs => .ok v xs | none => .bad
  | .next s => match ioOf f.io s with | some xs => .ok (.d .none) xs | none => .bad
  | .exc x s => match ioOf f.io s with | some xs => .exc x xs | none => .bad
  | _ => .bad
def callF (Φ : Fs) (kin : Exn → D) (f : Fn) (io : List D) (as : List D) : FRes :=
  if (as.length + if f.io then 1 else 0) = f.np ∧ f.np ≤ f.ns.length then fin f (run Φ kin f.body (startS f io as)) else .bad
/-- the defs of a table, by levels -/
def sem (T : Nat → Option Fn) (kin : Exn → D) : Nat → Fs
  | 0 => fun _ _ _ => .bad
  | n + 1 => fun f io as => match T f with
    | some fn => callF (sem T kin n) kin fn io as
    | none => .bad
end Ir

set_option Elab.async false
set_option linter.all false
set_option maxRecDepth 100000
set_option maxHeartbeats 4000000
/-! How the mirror's slots and data stand in the abstract heap; what an expression's reading asks. -/
namespace Ir
open PySem PySem.Spec PyProof.Rows L2

/-! ### data in the heap -/
mutual
/-- data as it stands: tuples and lists that are tracked (a list may be locked) -/
inductive Dp (K : PySem.W.Frag) (H : Hp) : V → PyData → Prop
  | non : Dp K H .non .none
  | bl (b : Bool) : Dp K H (.bl b) (.bool b)
  | int (i : Int) : Dp K H (.int i) (.int i)
  | str (x : Str) : Dp K H (.str x) (.str x)
  | lst {a : Addr} {xs : List V} {ds : List PyData} : Rd H a (.lst xs) → DpAll K H xs ds → Dp K H (.ref a) (.list ds)
  | tup {a : Addr} {xs : List V} {ds : List PyData} : H a = some (.tup xs) → DpAll K H xs ds → Dp K H (.ref a) (.tuple ds)
inductive DpAll (K : PySem.W.Frag) (H : Hp) : List V → List PyData → Prop
  | nil : DpAll K H [] []
  | cons {v : V} {vs : List V} {d : PyData} {ds : List PyData} : Dp K H v d → DpAll K H vs ds → DpAll K H (v :: vs) (d :: ds)
end
mutual
theorem Dp.to {K : PySem.W.Frag} {H : Hp} : ∀ {v : V} {d : PyData}, Dp K H v d → L2.Dp K H v d
  | _, _, .non => .non
  | _, _, .bl b => .bl b
  | _, _, .int i => .int i
  | _, _, .str x => .str x
  | _, _, .lst h r => .lst (.inl h) (DpAll.to r)
  | _, _, .tup h r => .tup (.of h) (DpAll.to r)
theorem DpAll.to {K : PySem.W.Frag} {H : Hp} : ∀ {vs : List V} {ds : List PyData}, DpAll K H vs ds → L2.DpAll K H vs ds
  | _, _, .nil => .nil
  | _, _, .cons h r => .cons (Dp.to h) (DpAll.to r)
end
theorem rd_mono {H H' : Hp} (e : Same H H') {a : Addr} {u : HO} (h : Rd H a u) : Rd H' a u := by
  rcases h with h | ⟨o, h⟩
  · exact .inl (e _ _ h)
  · exact .inr ⟨o, e _ _ h⟩
mutual
theorem Dp.mono {K : PySem.W.Frag} {H H' : Hp} (e : Same H H') : ∀ {v : V} {d : PyData}, Dp K H v d → Dp K H' v d
  | _, _, .non => .non
  | _, _, .bl b => .bl b
  | _, _, .int i => .int i
  | _, _, .str x => .str x
  | _, _, .lst h r => .lst (rd_mono e h) (DpAll.mono e r)
  | _, _, .tup h r => .tup (e _ _ h) (DpAll.mono e r)
theorem DpAll.mono {K : PySem.W.Frag} {H H' : Hp} (e : Same H H') : ∀ {vs : List V} {ds : List PyData}, DpAll K H vs ds → DpAll K H' vs ds
  | _, _, .nil => .nil
  | _, _, .cons h r => .cons (Dp.mono e h) (DpAll.mono e r)
end
/-- a sequence that may be read: its top is the state's, its items are data of the frozen part -/
def TopD (K : PySem.W.Frag) (Hf H : Hp) (x : V) : PyData → Prop
  | .list ds => ∃ a vs, x = .ref a ∧ Rd H a (.lst vs) ∧ DpAll K Hf vs ds
  | .tuple ds => ∃ a vs, x = .ref a ∧ H a = some (.tup vs) ∧ DpAll K Hf vs ds
  | d => Dp K Hf x d
theorem Dp.top {K : PySem.W.Frag} {Hf H : Hp} (e : Same Hf H) {x : V} {d : PyData} (h : Dp K Hf x d) : TopD K Hf H x d := by
  cases h with
  | non => exact .non
  | bl b => exact .bl b
  | int b => exact .int b
  | str b => exact .str b
  | lst h r => exact ⟨_, _, rfl, rd_mono e h, r⟩
  | tup h r => exact ⟨_, _, rfl, e _ _ h, r⟩
theorem TopD.dp {K : PySem.W.Frag} {Hf H : Hp} (e : Same Hf H) {x : V} {d : PyData} (h : TopD K Hf H x d) : Dp K H x d := by
  cases d with
  | list ds =>
    obtain ⟨a, vs, rfl, h, r⟩ := h
    exact .lst h (DpAll.mono e r)
  | tuple ds =>
    obtain ⟨a, vs, rfl, h, r⟩ := h
    exact .tup h (DpAll.mono e r)
  | none => exact Dp.mono e h
  | bool b => exact Dp.mono e h
  | int b => exact Dp.mono e h
  | str b => exact Dp.mono e h
  | dict b => exact Dp.mono e h
theorem DpAll.len {K : PySem.W.Frag} {H : Hp} : ∀ {vs : List V} {ds : List PyData}, DpAll K H vs ds → vs.length = ds.length
  | _, _, .nil => rfl
  | _, _, .cons _ r => congrArg (· + 1) (DpAll.len r)
theorem DpAll.get {K : PySem.W.Frag} {H : Hp} : ∀ {vs : List V} {ds : List PyData} {i : Nat} {d : PyData}, DpAll K H vs ds → ds[i]? = some d → ∃ v, vs[i]? = some v ∧ Dp K H v d
  | _, _, _, _, .nil, h => by simp at h
  | _, _, 0, _, .cons h _, e => by
    simp only [List.getElem?_cons_zero, Option.some.injEq] at e
    subst e
    exact ⟨_, rfl, h⟩
  | _, _, i + 1, _, .cons _ r, e => by
    simp only [List.getElem?_cons_succ] at e ⊢
    exact DpAll.get r e
theorem DpAll.getV {K : PySem.W.Frag} {H : Hp} : ∀ {vs : List V} {ds : List PyData} {i : Nat} {v : V}, DpAll K H vs ds → vs[i]? = some v → ∃ d, ds[i]? = some d ∧ Dp K H v d
  | _, _, _, _, .nil, h => by simp at h
  | _, _, 0, _, .cons h _, e => by
    simp only [List.getElem?_cons_zero, Option.some.injEq] at e
    subst e
    exact ⟨_, rfl, h⟩
  | _, _, i + 1, _, .cons _ r, e => by
    simp only [List.getElem?_cons_succ] at e ⊢
    exact DpAll.getV r e
theorem DpAll.app {K : PySem.W.Frag} {H : Hp} : ∀ {vs us : List V} {ds es : List PyData}, DpAll K H vs ds → DpAll K H us es → DpAll K H (vs ++ us) (ds ++ es)
  | _, _, _, _, .nil, s => s
  | _, _, _, _, .cons h r, s => .cons h (DpAll.app r s)
theorem DpAll.set {K : PySem.W.Frag} {H : Hp} {v : V} {d : PyData} (h : Dp K H v d) : ∀ {vs : List V} {ds : List PyData} (i : Nat), DpAll K H vs ds → DpAll K H (vs.set i v) (ds.set i d)
  | _, _, _, .nil => .nil
  | _, _, 0, .cons _ r => .cons h r
  | _, _, i + 1, .cons q r => .cons q (DpAll.set h i r)
theorem DpAll.drop {K : PySem.W.Frag} {H : Hp} : ∀ {vs : List V} {ds : List PyData} (n : Nat), DpAll K H vs ds → DpAll K H (vs.drop n) (ds.drop n)
  | _, _, 0, r => r
  | _, _, _ + 1, .nil => .nil
  | _, _, n + 1, .cons _ r => DpAll.drop n r
theorem DpAll.take {K : PySem.W.Frag} {H : Hp} : ∀ {vs : List V} {ds : List PyData} (n : Nat), DpAll K H vs ds → DpAll K H (vs.take n) (ds.take n)
  | _, _, 0, r => .nil
  | _, _, _ + 1, .nil => .nil
  | _, _, n + 1, .cons h r => .cons h (DpAll.take n r)
theorem DpAll.rev {K : PySem.W.Frag} {H : Hp} : ∀ {vs : List V} {ds : List PyData}, DpAll K H vs ds → DpAll K H vs.reverse ds.reverse
  | _, _, .nil => .nil
  | _, _, .cons h r => by
    rw [List.reverse_cons, List.reverse_cons]
    exact DpAll.app (DpAll.rev r) (.cons h .nil)

/-! ### slots -/
/-- the tables of lambdas -/
abbrev Tbs := List (Addr × Str)
/-- the static world of a proof: where the defs and the classes stand -/
structure Wd where
  K : PySem.W.Frag
  tb : Tbs
  fa : Nat → Addr
  ca : Nat → Addr
def KVD {κ : Type} (K : PySem.W.Frag) (H : Hp) : List (κ × V) → List (κ × D) → Prop := Paired fun (p : κ × V) (q : κ × D) => p.1 = q.1 ∧ Dp K H p.2 q.2
def RpV (w : Wd) (Hf H : Hp) (x : V) : Val → Prop
  | .d y => Dp w.K Hf x y
  | .own ys => ∃ a vs, x = .ref a ∧ H a = some (.lst vs) ∧ Hf a = none ∧ DpAll w.K Hf vs ys
  | .dk kvs => ∃ a kv, x = .ref a ∧ H a = some (.dK kv) ∧ Hf a = none ∧ KVD w.K Hf kv kvs
  | .dt kvs => ∃ a kv, x = .ref a ∧ H a = some (.dT kv) ∧ Hf a = none ∧ KVD w.K Hf kv kvs
  | .fn i => x = .ref (w.fa i)
def isOwn : Val → Bool
  | .own _ => true
  | .dk _ => true
  | .dt _ => true
  | _ => false
theorem KVD.mono {κ : Type} {K : PySem.W.Frag} {H H' : Hp} (e : Same H H') {a : List (κ × V)} {b : List (κ × D)} (h : KVD K H a b) : KVD K H' a b :=
  Paired.mapP h fun _ _ z => ⟨z.1, Dp.mono e z.2⟩
theorem KVD.len {κ : Type} {K : PySem.W.Frag} {H : Hp} {a : List (κ × V)} {b : List (κ × D)} (h : KVD K H a b) : a.length = b.length := Paired.length h
/-- an owned thing's address -/
theorem RpV.addr {w : Wd} {Hf H : Hp} {x : V} {v : Val} (h : RpV w Hf H x v) (o : isOwn v = true) : ∃ a, x = .ref a ∧ Hf a = none ∧ H a ≠ none := by
  cases v with
  | d y => cases o
  | fn i => cases o
  | own ys =>
    obtain ⟨a, vs, e, h1, h2, _⟩ := h
    exact ⟨a, e, h2, by rw [h1]; exact fun z => nomatch z⟩
  | dk ys =>
    obtain ⟨a, vs, e, h1, h2, _⟩ := h
    exact ⟨a, e, h2, by rw [h1]; exact fun z => nomatch z⟩
  | dt ys =>
    obtain ⟨a, vs, e, h1, h2, _⟩ := h
    exact ⟨a, e, h2, by rw [h1]; exact fun z => nomatch z⟩
theorem RpV.mono {w : Wd} {Hf H Hf' H' : Hp} {x : V} {v : Val} (h : RpV w Hf H x v) (e : Same Hf Hf') (k : ∀ a, isOwn v = true → x = .ref a → H' a = H a ∧ Hf' a = none) : RpV w Hf' H' x v := by
  cases v with
  | d y => exact Dp.mono e h
  | fn i => exact h
  | own ys =>
    obtain ⟨a, vs, q, h1, h2, h3⟩ := h
    obtain ⟨k1, k2⟩ := k a rfl q
    exact ⟨a, vs, q, k1.trans h1, k2, DpAll.mono e h3⟩
  | dk ys =>
    obtain ⟨a, vs, q, h1, h2, h3⟩ := h
    obtain ⟨k1, k2⟩ := k a rfl q
    exact ⟨a, vs, q, k1.trans h1, k2, KVD.mono e h3⟩
  | dt ys =>
    obtain ⟨a, vs, q, h1, h2, h3⟩ := h
    obtain ⟨k1, k2⟩ := k a rfl q
    exact ⟨a, vs, q, k1.trans h1, k2, KVD.mono e h3⟩
/-- no table of lambdas -/
def Solid (o : HO) : Prop := ∀ ps, o ≠ .tbl ps
theorem so_tup {vs : List V} : Solid (.tup vs) := fun _ z => nomatch z
theorem so_lst {vs : List V} : Solid (.lst vs) := fun _ z => nomatch z
theorem so_dK {vs : List (Key × V)} : Solid (.dK vs) := fun _ z => nomatch z
theorem so_dT {vs : List (List Key × V)} : Solid (.dT vs) := fun _ z => nomatch z
theorem not_solid {o : HO} (k : ¬ Solid o) : ∃ ps, o = .tbl ps := by
  obtain ⟨ps, z⟩ := Classical.not_forall.1 k
  exact ⟨ps, Classical.not_not.1 z⟩
/-- a table, or code -/
def Tough (o : HO) : Prop := (∃ ps, o = .tbl ps) ∨ ∃ f, o = .ext f
theorem tabs_ext {T : Tbs} {H H' : Hp} (t : LamX.Tabs T H) (e : ∀ b o, H b = some o → Tough o → H' b = some o) : LamX.Tabs T H' := fun p hp => by
  obtain ⟨ps, h1, h2, h3⟩ := t p hp
  refine ⟨ps, e _ _ h1 (.inl ⟨_, rfl⟩), h2, fun pos cv hc => ?_⟩
  obtain ⟨c, e1, e2⟩ := h3 pos cv hc
  exact ⟨c, e1, e _ _ e2 (.inr ⟨_, rfl⟩)⟩
theorem RpV.soft {w : Wd} {Hf H : Hp} {a : Addr} {v : Val} {o : HO} (h : RpV w Hf H (.ref a) v) (ov : isOwn v = true) (e : H a = some o) : ¬ Tough o := by
  rintro (⟨ps, rfl⟩ | ⟨f, rfl⟩) <;> cases v <;> first | (obtain ⟨b, vs, q, h1, _⟩ := h; cases q; rw [h1] at e; cases e; done) | (cases ov; done)
theorem RpV.solid {w : Wd} {Hf H : Hp} {a : Addr} {v : Val} {o : HO} (h : RpV w Hf H (.ref a) v) (ov : isOwn v = true) (e : H a = some o) : Solid o := fun ps z => h.soft ov e (.inl ⟨ps, z⟩)
/-- the address is an owned slot's -/
def Own (s : Sl) (σ : L2.St) (a : Addr) : Prop := ∃ i v, slGet s i = some v ∧ isOwn v = true ∧ σ[i]? = some (some (.ref a))
structure SR (w : Wd) (Hf : Hp) (s : Sl) (σ : L2.St) (H : Hp) : Prop where
  sub : Same Hf H
  len : s.length = σ.length
  sl : ∀ i v, slGet s i = some v → ∃ x, σ[i]? = some (some x) ∧ RpV w Hf H x v
  sep : ∀ i j v u a, slGet s i = some v → slGet s j = some u → isOwn v = true → isOwn u = true → σ[i]? = some (some (.ref a)) → σ[j]? = some (some (.ref a)) → i = j
  tab : LamX.Tabs w.tb H
  ntb : ∀ a o, Hf a = some o → Solid o
theorem SR.own {w : Wd} {Hf H : Hp} {s : Sl} {σ : L2.St} {a : Addr} (h : SR w Hf s σ H) (o : Own s σ a) : Hf a = none ∧ H a ≠ none := by
  obtain ⟨i, v, e, ov, q⟩ := o
  obtain ⟨x, e2, r⟩ := h.sl i v e
  obtain ⟨b, rfl, r1, r2⟩ := r.addr ov
  rw [q] at e2
  cases e2
  exact ⟨r1, r2⟩
/-- an address that may come to be frozen: new, or a tuple's -/
def Loose (H : Hp) (a : Addr) : Prop := H a = none ∨ (∃ xs, H a = some (.tup xs)) ∨ ∃ ps, H a = some (.tbl ps)
theorem RpV.nt {w : Wd} {Hf H : Hp} {a : Addr} {v : Val} (h : RpV w Hf H (.ref a) v) (o : isOwn v = true) : ¬ Loose H a := by
  rintro (z | ⟨xs, z⟩ | ⟨xs, z⟩)
  · obtain ⟨b, e, _, h2⟩ := h.addr o
    cases e
    exact h2 z
  all_goals
    cases v <;> first | (obtain ⟨b, vs, q, h1, _⟩ := h; cases q; rw [h1] at z; cases z; done) | (cases o; done)
/-- what an evaluation does to the state -/
structure Stp (Hf : Hp) (s : Sl) (σ : L2.St) (H : Hp) (Hf' : Hp) (s' : Sl) (σ' : L2.St) (H' : Hp) : Prop where
  frz : Same Hf Hf'
  keep : ∀ a o, H a = some o → ¬ Own s σ a → Solid o → H' a = some o
  there : ∀ a, H a ≠ none → H' a ≠ none
  own : ∀ a, Own s' σ' a → Own s σ a ∨ H a = none
  new : ∀ a, Hf' a ≠ none → Hf a ≠ none ∨ Own s σ a ∨ Loose H a
theorem Stp.refl {Hf H : Hp} {s : Sl} {σ : L2.St} : Stp Hf s σ H Hf s σ H :=
  ⟨Same.refl _, fun _ _ h _ _ => h, fun _ h => h, fun _ h => .inl h, fun _ h => .inl h⟩
theorem Stp.trans {Hf H Hf1 H1 Hf2 H2 : Hp} {s s1 s2 : Sl} {σ σ1 σ2 : L2.St} (a : Stp Hf s σ H Hf1 s1 σ1 H1) (b : Stp Hf1 s1 σ1 H1 Hf2 s2 σ2 H2) : Stp Hf s σ H Hf2 s2 σ2 H2 where
  frz := a.frz.trans b.frz
  keep := fun c o h n k => b.keep c o (a.keep c o h n k) (fun z => (a.own c z).elim n fun q => by rw [h] at q; cases q) k
  there := fun c h => b.there c (a.there c h)
  own := fun c h => by
    rcases b.own c h with z | z
    · exact a.own c z
    · refine .inr ?_
      cases e : H c with
      | none => rfl
      | some o => exact absurd z (a.there c (by rw [e]; exact fun q => nomatch q))
  new := fun c h => by
    rcases b.new c h with z | z | z
    · exact a.new c z
    · rcases a.own c z with q | q
      · exact .inr (.inl q)
      · exact .inr (.inr (.inl q))
    · cases e : H c with
      | none => exact .inr (.inr (.inl e))
      | some o =>
        by_cases ow : Own s σ c
        · exact .inr (.inl ow)
        by_cases k : Solid o
        · have := a.keep c o e ow k
          rcases z with z | ⟨xs, z⟩ | ⟨xs, z⟩
          · exact absurd z (a.there c (by rw [e]; exact fun q => nomatch q))
          · rw [z] at this
            cases this
            exact .inr (.inr (.inr (.inl ⟨xs, e⟩)))
          · rw [z] at this
            cases this
            exact .inr (.inr (.inr (.inr ⟨xs, e⟩)))
        · obtain ⟨ps, z⟩ := Classical.not_forall.1 k
          exact .inr (.inr (.inr (.inr ⟨ps, by rw [e, Classical.not_not.1 z]⟩)))
theorem Stp.back {Hf H Hf' H' : Hp} {s s' : Sl} {σ σ' : L2.St} (a : Stp Hf s σ H Hf' s' σ' H') {c : Addr} (h : H' c = none) : H c = none := by
  cases e : H c with
  | none => rfl
  | some o => exact absurd h (a.there c (by rw [e]; exact fun q => nomatch q))
theorem SR.free {w : Wd} {Hf H : Hp} {s : Sl} {σ : L2.St} {a : Addr} (h : SR w Hf s σ H) (n : H a = none) : Hf a = none := by
  cases e : Hf a with
  | none => rfl
  | some o => rw [h.sub a o e] at n; cases n
theorem SR.notOwn {w : Wd} {Hf H : Hp} {s : Sl} {σ : L2.St} {a : Addr} (h : SR w Hf s σ H) (n : H a = none) : ¬ Own s σ a := fun o => (h.own o).2 n
/-- a new object, frozen at once -/
theorem SR.newF {w : Wd} {Hf H : Hp} {s : Sl} {σ : L2.St} {p : Addr} {o : HO} (h : SR w Hf s σ H) (n : H p = none) (so : Solid o) : SR w (upd Hf p o) s σ (upd H p o) ∧ Stp Hf s σ H (upd Hf p o) s σ (upd H p o) := by
  have fr : Same Hf (upd Hf p o) := fun b u e => by rw [upd_ne (ne_of_none e (h.free n))]; exact e
  have hn : ∀ a, H a ≠ none → a ≠ p := fun a z q => z (by rw [q]; exact n)
  refine ⟨⟨fun b u e => ?_, h.len, fun i v e => ?_, h.sep, tabs_ext h.tab fun b u e _ => by rw [upd_ne (ne_of_none e n)]; exact e, fun a u e => ?_⟩, ⟨fr, fun a u e _ _ => ?_, fun a z => ?_, fun a z => .inl z, fun a z => ?_⟩⟩
  · by_cases q : b = p
    · rw [q, upd_same] at e ⊢
      exact e
    · rw [upd_ne q] at e ⊢
      exact h.sub b u e
  · obtain ⟨x, e1, r⟩ := h.sl i v e
    refine ⟨x, e1, r.mono fr fun a ov ea => ?_⟩
    subst ea
    obtain ⟨b, q, r1, r2⟩ := r.addr ov
    cases q
    rw [upd_ne (hn a r2), upd_ne (hn a r2)]
    exact ⟨rfl, r1⟩
  · by_cases q : a = p
    · rw [q, upd_same] at e
      cases e
      exact so
    · rw [upd_ne q] at e
      exact h.ntb a u e
  · rw [upd_ne (ne_of_none e n)]
    exact e
  · rw [upd_ne (hn a z)]
    exact z
  · by_cases q : a = p
    · exact .inr (.inr (.inl (by rw [q]; exact n)))
    · rw [upd_ne q] at z
      exact .inl z
/-- a new object that is not frozen -/
theorem SR.newO {w : Wd} {Hf H : Hp} {s : Sl} {σ : L2.St} {p : Addr} {o : HO} (h : SR w Hf s σ H) (n : H p = none) : SR w Hf s σ (upd H p o) ∧ Stp Hf s σ H Hf s σ (upd H p o) := by
  have hn : ∀ a, H a ≠ none → a ≠ p := fun a z q => z (by rw [q]; exact n)
  refine ⟨⟨fun b u e => ?_, h.len, fun i v e => ?_, h.sep, tabs_ext h.tab fun b u e _ => by rw [upd_ne (ne_of_none e n)]; exact e, h.ntb⟩, ⟨Same.refl _, fun a u e _ _ => ?_, fun a z => ?_, fun a z => .inl z, fun a z => .inl z⟩⟩
  · rw [upd_ne (ne_of_none (h.sub b u e) n)]
    exact h.sub b u e
  · obtain ⟨x, e1, r⟩ := h.sl i v e
    refine ⟨x, e1, r.mono (Same.refl _) fun a ov ea => ?_⟩
    subst ea
    obtain ⟨b, q, r1, r2⟩ := r.addr ov
    cases q
    rw [upd_ne (hn a r2)]
    exact ⟨rfl, r1⟩
  · rw [upd_ne (ne_of_none e n)]
    exact e
  · rw [upd_ne (hn a z)]
    exact z
/-- what stands unfrozen and belongs to no slot is frozen as it is -/
theorem SR.freeze {w : Wd} {Hf H : Hp} {s : Sl} {σ : L2.St} {p : Addr} {o : HO} (h : SR w Hf s σ H) (e : H p = some o) (n : Hf p = none) (no : ¬ Own s σ p) (so : Solid o) : SR w (upd Hf p o) s σ H ∧ Same Hf (upd Hf p o) := by
  have fr : Same Hf (upd Hf p o) := fun b u e => by rw [upd_ne (ne_of_none e n)]; exact e
  refine ⟨⟨fun b u q => ?_, h.len, fun i v q => ?_, h.sep, h.tab, fun a u q => ?_⟩, fr⟩
  · by_cases z : b = p
    · rw [z, upd_same] at q
      rw [z, e]
      exact q
    · rw [upd_ne z] at q
      exact h.sub b u q
  · obtain ⟨x, e1, r⟩ := h.sl i v q
    refine ⟨x, e1, r.mono fr fun a ov ea => ⟨rfl, ?_⟩⟩
    subst ea
    obtain ⟨b, q', r1, r2⟩ := r.addr ov
    cases q'
    rw [upd_ne fun z => no (by rw [← z]; exact ⟨i, v, q, ov, e1⟩)]
    exact r1
  · by_cases z : a = p
    · rw [z, upd_same] at q
      cases q
      exact so
    · rw [upd_ne z] at q
      exact h.ntb a u q

/-! ### readings -/
def excW (w : Wd) (W : WX) (e : Exn) (σ : L2.St) (H : Hp) : Prop := match e.lim with
  | none => W (.ref (w.ca e.cls)) none σ H
  | some n => ∀ d, H d = some (.xd [("limit", .int n)]) → W (.ref (w.ca e.cls)) (some d) σ H
/-- an exception from r is well received -/
def PostX (w : Wd) (W : WX) (Hf : Hp) (s : Sl) (σ : L2.St) (H : Hp) (e : Exn) (s' : Sl) : Prop :=
  ∀ Hf' H', Stp Hf s σ H Hf' s' σ H' → SR w Hf' s' σ H' → excW w W e σ H'
def PostE (w : Wd) (W : WX) (Hf : Hp) (s : Sl) (σ : L2.St) (H : Hp) (r : Res Val) (Q : V → Hp → Prop) : Prop := match r with
  | .ok v s' => ∀ x Hf' H', Stp Hf s σ H Hf' s' σ H' → SR w Hf' s' σ H' → RpV w Hf' H' x v → (isOwn v = true → ∀ a, x = .ref a → (H a = none ∨ Own s σ a) ∧ ¬ Own s' σ a) → Q x H'
  | .exc e s' => PostX w W Hf s σ H e s'
  | .bad => False
def PostD (w : Wd) (W : WX) (Hf : Hp) (s : Sl) (σ : L2.St) (H : Hp) (r : Res Val) (Q : V → D → Sl → Hp → Hp → Prop) : Prop := match r with
  | .ok v s' => match v.toD with
    | some y => ∀ x Hf' H', Stp Hf s σ H Hf' s' σ H' → SR w Hf' s' σ H' → Dp w.K Hf' x y → Q x y s' Hf' H'
    | none => False
  | .exc e s' => PostX w W Hf s σ H e s'
  | .bad => False
def PostB (w : Wd) (W : WX) (Hf : Hp) (s : Sl) (σ : L2.St) (H : Hp) (r : Res Val) (Q : Bool → Sl → Hp → Hp → Prop) : Prop := match r with
  | .ok v s' => match v with
    | .d (.bool b) => ∀ Hf' H', Stp Hf s σ H Hf' s' σ H' → SR w Hf' s' σ H' → Q b s' Hf' H'
    | _ => False
  | .exc e s' => PostX w W Hf s σ H e s'
  | .bad => False
def PostA (w : Wd) (W : WX) (Hf : Hp) (s : Sl) (σ : L2.St) (H : Hp) (r : Res (List D)) (Q : List V → List D → Sl → Hp → Hp → Prop) : Prop := match r with
  | .ok ys s' => ∀ xs Hf' H', Stp Hf s σ H Hf' s' σ H' → SR w Hf' s' σ H' → DpAll w.K Hf' xs ys → Q xs ys s' Hf' H'
  | .exc e s' => PostX w W Hf s σ H e s'
  | .bad => False
abbrev Evl := Sl → Res Val
def tE (w : Wd) (W : WX) (f : Evl) : TE := fun σ H Q => ∃ Hf s, SR w Hf s σ H ∧ PostE w W Hf s σ H (f s) Q
def tD (w : Wd) (W : WX) (f : Evl) : TE := fun σ H Q => ∃ Hf s, SR w Hf s σ H ∧ PostD w W Hf s σ H (f s) fun x _ _ _ H' => Q x H'
def tBo (w : Wd) (W : WX) (f : Evl) : TT := fun σ H Q => ∃ Hf s, SR w Hf s σ H ∧ PostB w W Hf s σ H (f s) fun b _ _ H' => Q b H'
def tAr (w : Wd) (W : WX) (f : Sl → Res (List D)) : TA := fun σ H Q => ∃ Hf s, SR w Hf s σ H ∧ PostA w W Hf s σ H (f s) fun x _ _ _ H' => Q x H'

theorem PE_imp {X : Cx} {e : Expr} {t t' : TE} (h : PE X e t) (i : ∀ σ H Q, t' σ H Q → t σ H Q) : PE X e t' := ⟨fun pins s σ H Q I q => h.run pins s σ H Q I (i σ H Q q)⟩
theorem PT_imp {X : Cx} {e : Expr} {t t' : TT} (h : PT X e t) (i : ∀ σ H Q, t' σ H Q → t σ H Q) : PT X e t' := ⟨fun pins s σ H Q I q => h.run pins s σ H Q I (i σ H Q q)⟩
theorem PW_imp {X : Cx} {e : Expr} {t t' : TT} (h : PW X e t) (i : ∀ σ H Q, t' σ H Q → t σ H Q) : PW X e t' := ⟨fun wh pins s σ H Q I q => h.run wh pins s σ H Q I (i σ H Q q)⟩
theorem PA_imp {X : Cx} {e : List Expr} {t t' : TA} (h : PA X e t) (i : ∀ σ H Q, t' σ H Q → t σ H Q) : PA X e t' := ⟨fun pos pins s σ H Q I q => h.run pos pins s σ H Q I (i σ H Q q)⟩
theorem PS_imp {X : Cx} {e : Stmt} {t t' : TS} (h : PS X e t) (i : ∀ D σ H, t' D σ H → t D σ H) : PS X e t' := ⟨fun pins s σ H D I q => h.run pins s σ H D I (i D σ H q)⟩
theorem PSs_imp {X : Cx} {e : List Stmt} {t t' : TS} (h : PSs X e t) (i : ∀ D σ H, t' D σ H → t D σ H) : PSs X e t' := ⟨fun pins s σ H D I q => h.run pins s σ H D I (i D σ H q)⟩

section
variable {w : Wd} {W : WX} {Hf H : Hp} {s : Sl} {σ : L2.St}
theorem PostX.after {Hf1 H1 : Hp} {s1 s2 : Sl} {e : Exn} (h : PostX w W Hf s σ H e s2) (a : Stp Hf s σ H Hf1 s1 σ H1) : PostX w W Hf1 s1 σ H1 e s2 := fun Hf' H' b r => h Hf' H' (a.trans b) r
/-- from data wanted to a value wanted -/
theorem tD_tE {f : Evl} {Q : VK} (h : tD w W f σ H Q) : tE w W f σ H Q := by
  obtain ⟨Hf, s, hs, h⟩ := h
  refine ⟨Hf, s, hs, ?_⟩
  unfold PostE
  unfold PostD at h
  cases e : f s with
  | bad => rw [e] at h; exact h
  | exc x s' => rw [e] at h; exact h
  | ok v s' =>
    rw [e] at h
    dsimp only at h ⊢
    cases v with
    | d y => exact fun x Hf' H' st sr r _ => h x Hf' H' st sr r
    | own ys =>
      refine fun x Hf' H' st sr r fr => ?_
      obtain ⟨a, vs, rfl, h1, h2, h3⟩ := r
      obtain ⟨f1, f2⟩ := fr rfl a rfl
      obtain ⟨sr2, sm⟩ := sr.freeze h1 h2 f2 fun _ z => nomatch z
      refine h _ _ H' ⟨st.frz.trans sm, st.keep, st.there, st.own, fun c z => ?_⟩ sr2 (.lst (.of upd_same) (DpAll.mono sm h3))
      by_cases q : c = a
      · rw [q]
        exact f1.elim (fun z => .inr (.inr (.inl z))) fun z => .inr (.inl z)
      · rw [upd_ne q] at z
        exact st.new c z
    | dk _ => exact h.elim
    | dt _ => exact h.elim
    | fn _ => exact h.elim
theorem pe_D {X : Cx} {e : Expr} {f : Evl} (h : PE X e (tE w W f)) : PE X e (tD w W f) := PE_imp h fun _ _ _ => tD_tE
/-- data wanted, then on -/
theorem tD_of {f : Evl} {Q : VK} {k : D → Sl → Res Val} {R : V → V → D → Sl → Hp → Hp → Prop} (hs : SR w Hf s σ H) (h : PostD w W Hf s σ H (f s) fun x _ _ _ H' => Q x H') : tD w W f σ H Q := ⟨Hf, s, hs, h⟩
/-- ok with data: a value given -/
theorem PostE.okD {x : V} {y : D} {s' : Sl} {Hf' H' : Hp} {Q : VK} (h : PostE w W Hf s σ H (.ok (.d y) s') Q) (st : Stp Hf s σ H Hf' s' σ H') (sr : SR w Hf' s' σ H') (r : Dp w.K Hf' x y) : Q x H' :=
  h x Hf' H' st sr r fun z => nomatch z
/-- a later stretch of an evaluation -/
theorem PostE.after {Hf1 H1 : Hp} {s1 : Sl} {r : Res Val} {Q : VK} (h : PostE w W Hf s σ H r Q) (a : Stp Hf s σ H Hf1 s1 σ H1) : PostE w W Hf1 s1 σ H1 r Q := by
  unfold PostE at h ⊢
  cases r with
  | bad => exact h
  | exc x s' => exact h.after a
  | ok v s' => exact fun x Hf' H' st sr r fr => h x Hf' H' (a.trans st) sr r fun o b e => ⟨(fr o b e).1.elim (fun z => .inl (a.back z)) fun z => (a.own b z).elim .inr .inl, (fr o b e).2⟩
/-- one operand as data, then the rest of the evaluation k -/
theorem bindD {f : Evl} {k : D → Sl → Res Val} {Q : VK} {R : V → Hp → Prop} (hs : SR w Hf s σ H) (h : PostE w W Hf s σ H ((f s).dat k) Q)
    (hk : ∀ x y s1 Hf1 H1, Stp Hf s σ H Hf1 s1 σ H1 → SR w Hf1 s1 σ H1 → Dp w.K Hf1 x y → PostE w W Hf1 s1 σ H1 (k y s1) Q → R x H1) : tD w W f σ H R := by
  refine ⟨Hf, s, hs, ?_⟩
  unfold PostD
  unfold Res.dat Res.bind at h
  cases e : f s with
  | bad => rw [e] at h; exact h
  | exc x s' => rw [e] at h; exact h
  | ok v s' =>
    rw [e] at h
    dsimp only at h ⊢
    cases q : v.toD with
    | none => rw [q] at h; exact h
    | some y =>
      rw [q] at h
      exact fun x Hf' H' st sr r => hk x y s' Hf' H' st sr r (h.after st)
theorem bindB {f : Evl} {k : Bool → Sl → Res Val} {Q : VK} {R : Bool → Hp → Prop} (hs : SR w Hf s σ H) (h : PostE w W Hf s σ H ((f s).bl k) Q)
    (hk : ∀ b s1 Hf1 H1, Stp Hf s σ H Hf1 s1 σ H1 → SR w Hf1 s1 σ H1 → PostE w W Hf1 s1 σ H1 (k b s1) Q → R b H1) : tBo w W f σ H R := by
  refine ⟨Hf, s, hs, ?_⟩
  unfold PostB
  unfold Res.bl Res.bind at h
  cases e : f s with
  | bad => rw [e] at h; exact h
  | exc x s' => rw [e] at h; exact h
  | ok v s' =>
    rw [e] at h
    dsimp only at h ⊢
    cases v with
    | d y =>
      cases y with
      | bool b => exact fun Hf' H' st sr => hk b s' Hf' H' st sr (h.after st)
      | _ => exact h.elim
    | _ => exact h.elim
/-- arguments, then the rest -/
theorem bindA {f : Sl → Res (List D)} {k : List D → Sl → Res Val} {Q : VK} {R : List V → Hp → Prop} (hs : SR w Hf s σ H) (h : PostE w W Hf s σ H ((f s).bind k) Q)
    (hk : ∀ xs ys s1 Hf1 H1, Stp Hf s σ H Hf1 s1 σ H1 → SR w Hf1 s1 σ H1 → DpAll w.K Hf1 xs ys → PostE w W Hf1 s1 σ H1 (k ys s1) Q → R xs H1) : tAr w W f σ H R := by
  refine ⟨Hf, s, hs, ?_⟩
  unfold PostA
  unfold Res.bind at h
  cases e : f s with
  | bad => rw [e] at h; exact h
  | exc x s' => rw [e] at h; exact h
  | ok ys s' =>
    rw [e] at h
    exact fun xs Hf' H' st sr r => hk xs ys s' Hf' H' st sr r (h.after st)
end
end Ir

set_option Elab.async false
set_option linter.all false
set_option maxRecDepth 100000
set_option maxHeartbeats 4000000
/-! tuple[::-1]; tuple * int. -/
namespace Ir
open PySem PySem.Spec PyProof.Rows L2 PyProof
section
variable {prog : Program} {w : World} {A : Around} {E : Value → Shared → Prop} {s : Shared}
theorem adjust_rev (n : Nat) : Builtin.Slice.sliceAdjust none none (-1) (n : Int) = ((n : Int) - 1, -1) := by
  unfold Builtin.Slice.sliceAdjust
  simp
theorem places_rev (n : Nat) : Builtin.Slice.slicePlaces ((n : Int) - 1) (-1) (-1) = n := by
  unfold Builtin.Slice.slicePlaces
  simp
  omega
theorem slicePart_int' {i : Int} {t : Tok} {Q : Option Int → Shared → Prop} (h : Q (some i) s) : wpAny (model prog w) A (Builtin.Slice.slicePartIndex (.int i t)) Q E s := HT.slicePart_ (.int i t) h
theorem sliceApplied_rev {sl : Addr} {t : Tok} {n : Nat} {Q : Int × Int × Nat → Shared → Prop} (hs : s.heap.IsSliceOf sl .none .none (.int (-1) t))
    (h : Q ((n : Int) - 1, -1, n) s) : wpAny (model prog w) A (Builtin.Slice.sliceApplied (.ref sl) (pure (n : Int))) Q E s := by
  obtain ⟨os, hos, hcs, hds⟩ := id hs
  unfold Builtin.Slice.sliceApplied Builtin.Slice.sliceFields
  refine wpAny_bind (wpAny_bind (wpAny_field hos hds (x := .none) rfl (wpAny_bind (wpAny_field hos hds (x := .none) rfl (wpAny_bind (wpAny_field hos hds (x := .int (-1) t) rfl (wpAny_pure ?_)))))))
  refine wpAny_bind (slicePart_int' ?_)
  show wpAny _ _ (if ((-1 : Int) == 0) = true then _ else _) _ _ s
  rw [if_neg (by decide)]
  refine wpAny_bind (HT.slicePart_ .none (wpAny_bind (HT.slicePart_ .none (wpAny_bind (wpAny_pure ?_)))))
  show wpAny _ _ (match Builtin.Slice.sliceAdjust none none (-1) (n : Int) with | (lo, hi) => pure (lo, (-1 : Int), Builtin.Slice.slicePlaces lo hi (-1))) _ _ s
  rw [adjust_rev n]
  show wpAny _ _ (pure ((n : Int) - 1, (-1 : Int), Builtin.Slice.slicePlaces ((n : Int) - 1) (-1) (-1))) _ _ s
  rw [places_rev]
  exact wpAny_pure h
theorem pick_rev (xs : Array Value) : ((List.range xs.size).filterMap fun (m : Nat) => xs[(((xs.size : Int) - 1) + (m : Int) * (-1)).toNat]?).toArray = xs.toList.reverse.toArray := by
  have e : (List.range xs.size).filterMap (fun (m : Nat) => xs[(((xs.size : Int) - 1) + (m : Int) * (-1)).toNat]?) = ((List.range xs.size).map fun k => xs.size - 1 - k).filterMap (xs[·]?) := by
    rw [List.filterMap_map]
    congr 1
    funext m
    have : (((xs.size : Int) - 1) + (m : Int) * (-1)).toNat = xs.size - 1 - m := by omega
    rw [this]
    rfl
  rw [e, PySem.W.krv_range, List.filterMap_reverse, PySem.W.krv_all]
theorem getItem_tuple_rev {t sl : Addr} {items : Array Value} {tk : Tok} {Q : Value → Shared → Prop} (ht : IsTup s.heap t items) (hs : s.heap.IsSliceOf sl .none .none (.int (-1) tk))
    (h : Q (.ref s.heap.objs.size) { s with heap := s.heap.push { cls := .type "tuple", data := .seq items.toList.reverse.toArray } })
    (hsz : items.size ≤ sizeLine) : wpAny (model prog w) A (getItem (.ref t) (.ref sl)) Q E s := by
  have htake : sizeOk (.seq items.toList.reverse.toArray) := by
    show items.toList.reverse.toArray.size ≤ sizeLine
    rw [List.size_toArray, List.length_reverse, Array.length_toList]
    exact hsz
  obtain ⟨os, hos, hcs, hds⟩ := id hs
  have hTs : s.TypeIs (.ref sl) "slice" := ⟨os, hos, hcs⟩
  unfold getItem
  try with_reducible refine wpAny_holding ?_
  first | refine wpAny_bind (wpAny_pure ?_) | skip
  refine wpAny_bind (wpAny_sequenceKey ht.typeIs (by decide) ?_)
  refine wpAny_bind (wpAny_callSpecial?_slot (name := Str.ofString "__getitem__") ht.typeIs PyProof.Rows.slot_tuple_getitem
    (wpAny_call_entry PyProof.Rows.slot_tuple_getitem ht.typeIs entry_tuple_getitem ?_ (args_tuple_getitem _ _)))
  show wpAny _ _ (Builtin.Tuple.tupleItemsOf (.ref t) >>= _) _ _ s
  refine wpAny_bind (tupleItemsOf_ ht ?_)
  refine wpAny_bind (wpAny_typeOf hTs ?_)
  rw [if_pos (by decide)]
  refine wpAny_bind (sliceApplied_rev hs ?_)
  show wpAny _ _ (if (((items.size : Int) - 1) == 0 && (-1 : Int) == 1 && items.size == items.size) = true then _ else _) _ _ s
  rw [if_neg (by simp), pick_rev]
  first
    | exact wpAny_bind (m := Builtin.Tuple.tupleExact _) (wpAny_newObj_type (wpAny_pure ⟨_, rfl, wpAny_pure h⟩) htake)
    | exact wpAny_bind (m := Builtin.Tuple.tupleExact _) (wpAny_newObj_type (wpAny_bind (wpAny_pure (wpAny_pure ⟨_, rfl, wpAny_pure h⟩))) htake)
    | exact wpAny_bind (wpAny_bind (m := Builtin.Tuple.tupleExact _) (wpAny_newObj_type (wpAny_pure (wpAny_pure ⟨_, rfl, wpAny_pure h⟩)) htake))
    | exact wpAny_bind (wpAny_bind (m := Builtin.Tuple.tupleExact _) (wpAny_newObj_type (wpAny_pure ⟨_, rfl, wpAny_pure h⟩) htake))
end
def tRevLT (K : PySem.W.Frag) (te : TE) : TE := fun σ H Q => te σ H fun x H1 => ∃ a xs, x = .ref a ∧ ((SqL K H1 a xs ∧ ∀ p, H1 p = none → Q (.ref p) (upd H1 p (.lst xs.reverse))) ∨ (SqT K H1 a xs ∧ ∀ p, H1 p = none → Q (.ref p) (upd H1 p (.tup xs.reverse))))
theorem pe_revLT {X : Cx} {e : Expr} {te : TE} {k : Nat} {p1 p2 p3 pos : Pos} (he : PE X e te) : PE X (.Subscript e (.Slice none none (some (.UnaryOp .USub (.Constant (.int 1) k p1) p2)) p3) pos) (tRevLT X.K te) := by
  refine ⟨fun pins s σ H Q I h => ?_⟩
  refine Subscript_ (thn (he.run pins s σ H _ I h) fun v s1 ⟨x, H1, I1, r1, q1⟩ => ?_)
  obtain ⟨a, xs, ex, q⟩ := q1
  subst ex
  cases r1
  have hst : PO X (some (.UnaryOp .USub (.Constant (.int 1) k p1) p2)) (tPart (tUn (rU fun i => .int (-i)) (tC (.int 1)))) := po_some (pe_un un_neg pe_int)
  refine wpAny_Slice (thn (po_none.run pins s1 σ H1 (fun o H2 => o = none ∧ H2 = H1) I1 ⟨rfl, rfl⟩) fun vl s2 ⟨l, H2, I2, pl, el, e2⟩ => ?_)
  subst el e2
  refine thn (po_none.run pins s2 σ H2 (fun o H3 => o = none ∧ H3 = H2) I2 ⟨rfl, rfl⟩) fun vu s3 ⟨u, H3, I3, pu, eu, e3⟩ => ?_
  subst eu e3
  refine thn (hst.run pins s3 σ H3 (fun o H4 => o = some (-1) ∧ H4 = H3) I3 ⟨1, rfl, -1, rfl, rfl, rfl⟩) fun vs s4 ⟨o, H4, I4, ps, eo, e4⟩ => ?_
  subst eo e4
  have I5 : Inv X pins σ H4 { s4 with heap := s4.heap.push { cls := .type "slice", data := .fields #[vl, vu, vs] } } := I4.kept (t' := s4.toks) fun b ob q => Heap.get?_push_of_some _ q
  show wpAny (model X.prog X.w) X.A (subscriptTail e (.Slice none none (some (.UnaryOp .USub (.Constant (.int 1) k p1) p2)) p3) (.ref a) (.ref s4.heap.objs.size)) (EP X pins σ Q) X.xe { s4 with heap := s4.heap.push { cls := .type "slice", data := .fields #[vl, vu, vs] } }
  rcases q with ⟨hx, q⟩ | ⟨hx, q⟩
  · obtain ⟨its, r, ht, hz⟩ := I5.list hx
    have hlen := r.length
    refine tail_any (ops := [.ref a, .ref s4.heap.objs.size]) ht.isList.typeIs (PySem.slot_list_getitem.lookup) ?_ (by with_unfolding_all rfl)
    refine wpAny_getItem_list_slice ht.isList (Heap.IsSliceOf.new _ vl vu vs) pl pu ps (by decide) ?_ (by rw [List.size_toArray]; omega)
    rw [PySem.W.krv_pick]
    refine ⟨.ref _, _, I5.laid (t' := s4.toks) (o := .lst xs.reverse) (fun b ob q => Heap.get?_push_of_some _ q) (Nat.le_refl _) ?_, rfl, q _ (I5.hok.fresh (Nat.le_refl _))⟩
    exact ⟨by rw [List.length_reverse]; exact hz, _, 0, r.reverse, Heap.get?_push_size _ rfl⟩
  · obtain ⟨its, r, ht, hz⟩ := I5.tuple hx
    have hlen := r.length
    cases pl
    cases pu
    cases ps
    refine tail_any (ops := [.ref a, .ref s4.heap.objs.size]) ht.typeIs (PyProof.Rows.slot_tuple_getitem.lookup) ?_ (by with_unfolding_all rfl)
    refine getItem_tuple_rev ht (Heap.IsSliceOf.new _ _ _ _) ?_ (by rw [List.size_toArray]; omega)
    refine ⟨.ref _, _, I5.laid (t' := s4.toks) (o := .tup xs.reverse) (fun b ob q => Heap.get?_push_of_some _ q) (Nat.le_refl _) ?_, rfl, q _ (I5.hok.fresh (Nat.le_refl _))⟩
    exact ⟨by rw [List.length_reverse]; exact hz, _, r.reverse, IsTup.new _ _⟩
/-! tuple * int -/
theorem tuple_mul1W (l : Addr) (items : Array Value) (n : Nat) (dd : Option Addr) (sl : Array (Option Value)) (u : Tok) :
    Meets (Builtin.«tuple.__mul__» ⟨[.ref l, .int 1 u], []⟩) (fun _ R s => s.heap.get? l = some { cls := .type "tuple", dict := dd, data := .seq items n, slots := sl } ∧
      R (.ok (.ret (Value.ref l))) s) :=
  .of_wp fun prog w A R s h => by
    obtain ⟨hp, g, d, tk, os⟩ := s
    obtain ⟨hl, h⟩ := h
    have f1 := AutoSeq1.idx_int
    wp_walk using wpAny_loadPart' hl
    exact ⟨_, rfl, h⟩
/-- t * k: k is 1 (the tuple itself), or greater -/
def rRepT2 (K : PySem.W.Frag) : R2 := fun x y H Q => ∃ l k xs, x = .ref l ∧ y = .int k ∧ SqT K H l xs ∧ ((k = 1 ∧ Q (.ref l) H) ∨ xs ≠ [] ∧ 2 ≤ k ∧ k ≤ 1000 ∧ xs.length ≤ 1000 ∧ ∀ p, H p = none → Q (.ref p) (upd H p (.tup (List.replicate k.toNat xs).flatten)))
theorem op_repT2 {X : Cx} : OpR X (binaryOp .Mult) (rRepT2 X.K) := by
  intro pins s σ H x y v u Q I rx ry h
  obtain ⟨l, k, xs, rfl, rfl, hT, h⟩ := h
  rcases h with ⟨rfl, q⟩ | ⟨h0, h1, h2, h3, q⟩
  · cases rx
    obtain ⟨t, rfl⟩ := ry
    obtain ⟨its, r, ⟨⟨cls, dd, data, sl⟩, ho, hc, n, hd⟩, hs⟩ := I.tuple hT
    simp only at hc hd
    subst hc hd
    refine wpAny_binaryOp_repeat_ref (T := "tuple") (U := "int") (by decide) ⟨_, ho, rfl⟩ (fun s' => typeIs_int s' 1 t) noFill_tuple_mul F.fills_int_mul F.slot_int_rmul repeat_tuple F.slot_int_index.lookup
      (call_meets F.slot_int_rmul (typeIs_int s 1 t) F.entry_int_rmul (F.args_int_rmul_2 _ _) (int_rmul_tuple 1 t l its.toArray n dd sl)
        ⟨ho, rfl, ⟨_, ho, rfl⟩, call_meets F.slot_tuple_mul ⟨_, ho, rfl⟩ F.entry_tuple_mul (F.args_tuple_mul_2 _ _) (tuple_mul1W l its.toArray n dd sl t) ⟨ho, ?_⟩⟩)
    exact ⟨.ref l, H, I, rfl, q⟩
  · exact op_repT pins s σ H _ _ v u Q I rx ry ⟨l, k, xs, rfl, rfl, hT, h0, h1, h2, h3, q⟩
def rRepL2 : R2 := fun x y H Q => ∃ l k xs, x = .ref l ∧ y = .int k ∧ Rd H l (.lst xs) ∧ 0 ≤ k ∧ k ≤ 1000 ∧ xs.length ≤ 1000 ∧ ∀ p, H p = none → Q (.ref p) (upd H p (.lst (List.replicate k.toNat xs).flatten))
theorem op_repL2 {X : Cx} : OpR X (binaryOp .Mult) rRepL2 := by
  intro pins s σ H x y v u Q I rx ry h
  obtain ⟨l, k, xs, rfl, rfl, hH, h1, h2, h3, q⟩ := h
  cases rx
  obtain ⟨t, rfl⟩ := ry
  obtain ⟨z, its, n, r, e⟩ := hH.ok I.hok
  have hl := r.length
  have hz : xs.length * k.toNat ≤ sizeLine := by
    rw [sizeLine_eq]
    have a1 : xs.length * k.toNat ≤ 1000 * 1000 := Nat.mul_le_mul h3 (by omega)
    omega
  have hlen : its.toArray.size * k.toNat ≤ sizeLine := by rw [List.size_toArray, ← hl]; exact hz
  have hcap : ¬ its.toArray.size * k.toNat > (2 ^ 63 - 1) / 8 := by
    have : (sizeLine : Nat) ≤ (2 ^ 63 - 1) / 8 := by decide
    omega
  have hfit : ¬ (!Builtin.List.listFitsIndex k) = true := by
    rw [fitsIndex_both (by omega) (by omega)]
    exact Bool.false_ne_true
  have hlong : ¬ Builtin.List.listTooLong (its.toArray.size * k.toNat) = true := by
    rw [notLongL hlen]
    exact Bool.false_ne_true
  have hnew : List.foldl (fun x1 x2 => x1 ++ x2) #[] (List.replicate (if its.toArray.isEmpty = true then 0 else k.toNat) its.toArray) = (List.replicate k.toNat its).flatten.toArray := by
    have f0 : ∀ m : Nat, List.foldl (fun x1 x2 => x1 ++ x2) #[] (List.replicate m its.toArray) = (List.replicate m its).flatten.toArray := fun m => by
      have := foldl_rep its m []
      rw [List.nil_append] at this
      exact this
    rw [f0]
    cases its with
    | nil => simp
    | cons a r' => rw [if_neg (by simp)]
  refine wpAny_binaryOp_repeat_ref (T := "list") (U := "int") (by decide) ⟨_, e, rfl⟩ (fun s' => typeIs_int s' k t) noFill_list_mul F.fills_int_mul F.slot_int_rmul repeat_list F.slot_int_index.lookup
    (call_meets F.slot_int_rmul (typeIs_int s k t) F.entry_int_rmul (F.args_int_rmul_2 _ _) (int___rmul___int_list k t l its.toArray n)
      ⟨e, rfl, ⟨_, e, rfl⟩, call_meets F.slot_list_mul ⟨_, e, rfl⟩ F.entry_list_mul (F.args_list_mul_2 _ _) (AutoListH.list___mul___list_int_3 l its.toArray n k t hfit hcap hlong) ⟨e, ?_⟩⟩)
  rw [hnew]
  exact ⟨.ref _, _, I.lnew (t' := s.toks) (r.rep k.toNat) (by rw [PyProof.Rows.lm_len_rep_flat, Nat.mul_comm]; exact hz), rfl, q _ I.fresh⟩
theorem DpAll.rep {K : PySem.W.Frag} {H : Hp} {vs : List V} {ds : List D} (h : DpAll K H vs ds) : ∀ n : Nat, DpAll K H (List.replicate n vs).flatten (List.replicate n ds).flatten
  | 0 => .nil
  | n + 1 => by
    rw [List.replicate_succ, List.replicate_succ, List.flatten_cons, List.flatten_cons]
    exact h.app (DpAll.rep h n)
end Ir

set_option Elab.async false
set_option linter.all false
set_option maxRecDepth 100000
set_option maxHeartbeats 4000000
/-! Operators and built-ins, by the mirror's functions on data. -/
namespace Ir
open PySem PySem.Spec PyProof.Rows L2

/-- a value given by an operation: there already, or new -/
def NewR (K : PySem.W.Frag) (Hf H : Hp) (v : Val) (x : V) (H' : Hp) : Prop := match v with
  | .d z => (H' = H ∧ Dp K Hf x z) ∨ ∃ p vs zs, z = .tuple zs ∧ H p = none ∧ x = .ref p ∧ H' = upd H p (.tup vs) ∧ DpAll K Hf vs zs
  | .own zs => ∃ p vs, H p = none ∧ x = .ref p ∧ H' = upd H p (.lst vs) ∧ DpAll K Hf vs zs
  | .dk kvs => ∃ p kv, H p = none ∧ x = .ref p ∧ H' = upd H p (.dK kv) ∧ KVD K Hf kv kvs
  | .dt kvs => ∃ p kv, H p = none ∧ x = .ref p ∧ H' = upd H p (.dT kv) ∧ KVD K Hf kv kvs
  | .fn _ => False
section
variable {w : Wd} {W : WX} {Hf H : Hp} {s : Sl} {σ : L2.St}
theorem newR_post {v : Val} {x : V} {H' : Hp} {Q : VK} (sr : SR w Hf s σ H) (h : PostE w W Hf s σ H (.ok v s) Q) (n : NewR w.K Hf H v x H') : Q x H' := by
  cases v with
  | d z =>
    rcases n with ⟨rfl, r⟩ | ⟨p, vs, zs, rfl, hp, rfl, rfl, r⟩
    · exact h x Hf H' .refl sr r fun z => nomatch z
    · obtain ⟨sr2, st2⟩ := sr.newF (o := .tup vs) hp so_tup
      exact h _ _ _ st2 sr2 (.tup upd_same (DpAll.mono st2.frz r)) fun z => nomatch z
  | own zs =>
    obtain ⟨p, vs, hp, rfl, rfl, r⟩ := n
    obtain ⟨sr2, st2⟩ := sr.newO (o := .lst vs) hp
    exact h _ _ _ st2 sr2 ⟨p, vs, rfl, upd_same, sr.free hp, r⟩ fun _ a e => by
      cases e
      exact ⟨.inl hp, sr.notOwn hp⟩
  | dk zs =>
    obtain ⟨p, vs, hp, rfl, rfl, r⟩ := n
    obtain ⟨sr2, st2⟩ := sr.newO (o := .dK vs) hp
    exact h _ _ _ st2 sr2 ⟨p, vs, rfl, upd_same, sr.free hp, r⟩ fun _ a e => by
      cases e
      exact ⟨.inl hp, sr.notOwn hp⟩
  | dt zs =>
    obtain ⟨p, vs, hp, rfl, rfl, r⟩ := n
    obtain ⟨sr2, st2⟩ := sr.newO (o := .dT vs) hp
    exact h _ _ _ st2 sr2 ⟨p, vs, rfl, upd_same, sr.free hp, r⟩ fun _ a e => by
      cases e
      exact ⟨.inl hp, sr.notOwn hp⟩
  | fn _ => exact n.elim
end

/-! ### shapes of data in the heap -/
section
variable {K : PySem.W.Frag} {H : Hp} {x : V}
theorem dp_int {i : Int} (h : Dp K H x (.int i)) : x = .int i := by cases h; rfl
theorem dp_str {i : Str} (h : Dp K H x (.str i)) : x = .str i := by cases h; rfl
theorem dp_bl {i : Bool} (h : Dp K H x (.bool i)) : x = .bl i := by cases h; rfl
theorem dp_non (h : Dp K H x .none) : x = .non := by cases h; rfl
theorem dp_lst {ys : List D} (h : Dp K H x (.list ys)) : ∃ a vs, x = .ref a ∧ Rd H a (.lst vs) ∧ DpAll K H vs ys := by
  cases h with
  | lst h r => exact ⟨_, _, rfl, h, r⟩
theorem dp_tup {ys : List D} (h : Dp K H x (.tuple ys)) : ∃ a vs, x = .ref a ∧ H a = some (.tup vs) ∧ DpAll K H vs ys := by
  cases h with
  | tup h r => exact ⟨_, _, rfl, h, r⟩
theorem dp_nodict {ys : List (D × D)} (h : Dp K H x (.dict ys)) : False := by cases h
theorem ints_dp : ∀ {ys : List D} {a : List Int} {vs : List V}, intsOf ys = some a → DpAll K H vs ys → vs = a.map V.int
  | [], a, vs, e, h => by
    cases h
    simp only [intsOf, Option.some.injEq] at e
    rw [← e]
    rfl
  | .int i :: r, a, vs, e, h => by
    cases h with
    | cons h1 h2 =>
      cases q : intsOf r with
      | none => simp [intsOf, q] at e
      | some b =>
        simp only [intsOf, q, Option.map_some, Option.some.injEq] at e
        rw [← e, dp_int h1, ints_dp q h2]
        rfl
  | .none :: _, _, _, e, _ => by simp [intsOf] at e
  | .bool _ :: _, _, _, e, _ => by simp [intsOf] at e
  | .str _ :: _, _, _, e, _ => by simp [intsOf] at e
  | .list _ :: _, _, _, e, _ => by simp [intsOf] at e
  | .tuple _ :: _, _, _, e, _ => by simp [intsOf] at e
  | .dict _ :: _, _, _, e, _ => by simp [intsOf] at e
theorem bls_dp : ∀ {ys : List D} {a : List Bool} {vs : List V}, blsOf ys = some a → DpAll K H vs ys → vs = a.map V.bl
  | [], a, vs, e, h => by
    cases h
    simp only [blsOf, Option.some.injEq] at e
    rw [← e]
    rfl
  | .bool i :: r, a, vs, e, h => by
    cases h with
    | cons h1 h2 =>
      cases q : blsOf r with
      | none => simp [blsOf, q] at e
      | some b =>
        simp only [blsOf, q, Option.map_some, Option.some.injEq] at e
        rw [← e, dp_bl h1, bls_dp q h2]
        rfl
  | .none :: _, _, _, e, _ => by simp [blsOf] at e
  | .int _ :: _, _, _, e, _ => by simp [blsOf] at e
  | .str _ :: _, _, _, e, _ => by simp [blsOf] at e
  | .list _ :: _, _, _, e, _ => by simp [blsOf] at e
  | .tuple _ :: _, _, _, e, _ => by simp [blsOf] at e
  | .dict _ :: _, _, _, e, _ => by simp [blsOf] at e
theorem strs_dp : ∀ {ys : List D} {a : List Str} {vs : List V}, strsOf ys = some a → DpAll K H vs ys → vs = a.map V.str
  | [], a, vs, e, h => by
    cases h
    simp only [strsOf, Option.some.injEq] at e
    rw [← e]
    rfl
  | .str i :: r, a, vs, e, h => by
    cases h with
    | cons h1 h2 =>
      cases q : strsOf r with
      | none => simp [strsOf, q] at e
      | some b =>
        simp only [strsOf, q, Option.map_some, Option.some.injEq] at e
        rw [← e, dp_str h1, strs_dp q h2]
        rfl
  | .none :: _, _, _, e, _ => by simp [strsOf] at e
  | .int _ :: _, _, _, e, _ => by simp [strsOf] at e
  | .bool _ :: _, _, _, e, _ => by simp [strsOf] at e
  | .list _ :: _, _, _, e, _ => by simp [strsOf] at e
  | .tuple _ :: _, _, _, e, _ => by simp [strsOf] at e
  | .dict _ :: _, _, _, e, _ => by simp [strsOf] at e
theorem all_ints : ∀ a : List Int, DpAll K H (a.map V.int) (ofInts a)
  | [] => .nil
  | _ :: r => .cons (.int _) (all_ints r)
theorem all_strs : ∀ a : List Str, DpAll K H (a.map V.str) (a.map PyData.str)
  | [] => .nil
  | _ :: r => .cons (.str _) (all_strs r)
end
theorem rdS {K : PySem.W.Frag} {Hf H : Hp} (e : Same Hf H) {a : Addr} {xs : List V} (h : Rd Hf a (.lst xs)) : SqL K H a xs := .inl (rd_mono e h)
theorem seqL_of {K : PySem.W.Frag} {Hf H : Hp} (e : Same Hf H) {a : Addr} {xs : List V} (h : SqL K Hf a xs) : SqL K H a xs := e.seq h

/-! ### operators -/
section
variable {X : Cx}
theorem op_catS : OpR X (binaryOp .Add) (fun x y H Q => ∃ a b xs ys, x = .ref a ∧ y = .ref b ∧ SqL X.K H a xs ∧ SqL X.K H b ys ∧ xs.length + ys.length ≤ sizeLine ∧ ∀ p, H p = none → Q (.ref p) (upd H p (.lst (xs ++ ys)))) := by
  intro pins s σ H x y v u Q I rx ry h
  obtain ⟨l, b, xs, zs, rfl, rfl, hH, hB, hz, q⟩ := h
  cases rx
  cases ry
  obtain ⟨its, r, pl, z⟩ := I.list hH
  obtain ⟨its2, r2, pl2, z2⟩ := I.list hB
  have l1 := r.length
  have l2 := r2.length
  obtain ⟨⟨cls, dd, data, sl⟩, ho, hc, n, hd⟩ := pl.isList
  obtain ⟨⟨cls2, dd2, data2, sl2⟩, ho2, hc2, n2, hd2⟩ := pl2.isList
  dsimp only at hc hd hc2 hd2
  subst hc hd hc2 hd2
  have ea : its.toArray ++ its2.toArray = (its ++ its2).toArray := by simp
  refine concat_meets ⟨_, ho, rfl⟩ ⟨_, ho2, rfl⟩ noFill_list_add seq_list_add PySem.F.slot_list_add PySem.F.entry_list_add (PySem.F.args_list_add_2 _ _) (list_addW l b its.toArray its2.toArray n n2 dd dd2 sl sl2 (by simp only [List.size_toArray]; omega)) ⟨ho, ho2, ?_⟩
  rw [ea]
  exact ⟨.ref _, _, I.lnew (t' := s.toks) (r.append r2) (by rw [List.length_append]; omega), rfl, q _ I.fresh⟩
def bopO : Bop → Operator
  | .add => .Add
  | .sub => .Sub
  | .mul => .Mult
  | .fdiv => .FloorDiv
  | .mod => .Mod
  | .pow => .Pow
def rBop (K : PySem.W.Frag) (o : Bop) : R2 := fun x y H Q => ∃ Hf dx dy v, Same Hf H ∧ Dp K Hf x dx ∧ Dp K Hf y dy ∧ bopV o dx dy = some v ∧ ∀ z H', NewR K Hf H v z H' → Q z H'
theorem lineMax_eq : lineMax = sizeLine := by rw [sizeLine_eq]
theorem op_bop (o : Bop) : OpR X (binaryOp (bopO o)) (rBop X.K o) := by
  intro pins s σ H x y v u Q I rx ry h
  obtain ⟨Hf, dx, dy, vv, sm, hx, hy, e, q⟩ := h
  unfold bopV bop at e
  split at e
  · rename_i zs e1
    cases e
    split at e1
    all_goals first | (cases e1; done) | skip
    all_goals (split at e1 <;> cases e1)
    rotate_left
    · rename_i x1 k1 hl
      obtain ⟨a, vs, rfl, ha, ra⟩ := dp_lst hx
      rw [dp_int hy] at ry
      have l1 := DpAll.len ra
      exact op_repL2 pins s σ H _ _ v u Q I rx ry ⟨a, _, vs, rfl, rfl, rd_mono sm ha, hl.1, hl.2.1, by rw [l1]; exact hl.2.2, fun p hp => q _ _ ⟨p, _, hp, rfl, rfl, DpAll.rep ra _⟩⟩
    rename_i x1 y1 hl
    obtain ⟨a, vs, rfl, ha, ra⟩ := dp_lst hx
    obtain ⟨b, us, rfl, hb, rb⟩ := dp_lst hy
    have l1 := DpAll.len ra
    have l2 := DpAll.len rb
    refine op_catS pins s σ H _ _ v u Q I rx ry ⟨a, b, vs, us, rfl, rfl, rdS sm ha, rdS sm hb, by rw [← lineMax_eq, l1, l2]; exact hl, fun p hp => q _ _ ?_⟩
    exact ⟨p, _, hp, rfl, rfl, DpAll.app ra rb⟩
  · rename_i z hz e1
    cases e
    split at e1
    · cases e1
      rw [dp_int hx] at rx
      rw [dp_int hy] at ry
      exact op_add pins s σ H _ _ v u Q I rx ry ⟨_, _, rfl, rfl, q _ _ (.inl ⟨rfl, .int _⟩)⟩
    · split at e1
      · rename_i hl
        cases e1
        rw [dp_str hx] at rx
        rw [dp_str hy] at ry
        exact op_add_str pins s σ H _ _ v u Q I rx ry ⟨_, _, rfl, rfl, by rw [← lineMax_eq]; exact hl, q _ _ (.inl ⟨rfl, .str _⟩)⟩
      · cases e1
    · split at e1
      · cases e1
        exact absurd rfl (hz _)
      · cases e1
    · split at e1
      · rename_i x1 y1 hl
        cases e1
        obtain ⟨a, vs, rfl, ha, ra⟩ := dp_tup hx
        obtain ⟨b, us, rfl, hb, rb⟩ := dp_tup hy
        have l1 := DpAll.len ra
        have l2 := DpAll.len rb
        refine op_catA pins s σ H _ _ v u Q I rx ry ⟨a, b, vs, us, rfl, rfl, .of (sm _ _ ha), .of (sm _ _ hb), by rw [← lineMax_eq, l1, l2]; exact hl, fun h0 => q _ _ (.inl ⟨rfl, ?_⟩), fun h0 h1 => q _ _ (.inl ⟨rfl, ?_⟩), fun _ _ p hp => q _ _ (.inr ?_)⟩
        · subst h0
          cases ra
          exact .tup hb rb
        · subst h1
          cases rb
          rw [List.append_nil]
          exact .tup ha ra
        · exact ⟨p, _, _, rfl, hp, rfl, rfl, DpAll.app ra rb⟩
      · cases e1
    · cases e1
      rw [dp_int hx] at rx
      rw [dp_int hy] at ry
      exact op_sub pins s σ H _ _ v u Q I rx ry ⟨_, _, rfl, rfl, q _ _ (.inl ⟨rfl, .int _⟩)⟩
    · split at e1
      · rename_i hl
        cases e1
        rw [dp_int hx] at rx
        rw [dp_int hy] at ry
        refine op_mul pins s σ H _ _ v u Q I rx ry ⟨_, _, rfl, rfl, ?_, q _ _ (.inl ⟨rfl, .int _⟩)⟩
        simpa [small64, CMul] using hl
      · cases e1
    · split at e1
      · cases e1
        exact absurd rfl (hz _)
      · cases e1
    · split at e1
      · rename_i hl
        cases e1
        obtain ⟨a, vs, rfl, ha, ra⟩ := dp_tup hx
        rw [dp_int hy] at ry
        have l1 := DpAll.len ra
        refine op_repT2 pins s σ H _ _ v u Q I rx ry ⟨a, _, vs, rfl, rfl, .of (sm _ _ ha), ?_⟩
        rcases hl with rfl | ⟨h0, h1, h2, h3⟩
        · refine .inl ⟨rfl, q _ _ (.inl ⟨rfl, ?_⟩)⟩
          have e1 : (1 : Int).toNat = 1 := rfl
          rw [e1, List.replicate_one, List.flatten_singleton]
          exact .tup ha ra
        · exact .inr ⟨fun z => h0 (by subst z; cases ra; rfl), h1, h2, by rw [l1]; exact h3, fun p hp => q _ _ (.inr ⟨p, _, _, rfl, hp, rfl, rfl, DpAll.rep ra _⟩)⟩
      · cases e1
    · split at e1
      · rename_i hl
        cases e1
        rw [dp_int hx] at rx
        rw [dp_int hy] at ry
        exact op_fdiv pins s σ H _ _ v u Q I rx ry ⟨_, _, rfl, rfl, hl, q _ _ (.inl ⟨rfl, .int _⟩)⟩
      · cases e1
    · split at e1
      · rename_i hl
        cases e1
        rw [dp_int hx] at rx
        rw [dp_int hy] at ry
        exact op_mod pins s σ H _ _ v u Q I rx ry ⟨_, _, rfl, rfl, hl, q _ _ (.inl ⟨rfl, .int _⟩)⟩
      · cases e1
    · split at e1
      · rename_i hl
        cases e1
        rw [dp_int hx] at rx
        rw [dp_int hy] at ry
        exact op_pow pins s σ H _ _ v u Q I rx ry ⟨_, _, rfl, rfl, hl, q _ _ (.inl ⟨rfl, .int _⟩)⟩
      · cases e1
    · cases e1
  · cases e
/-- in, not in of data in tuples -/
theorem op_inT (hu : X.A.units + 65 < cLine) : OpR X (compareOp .In) (fun x y H Q => ∃ d ds, Dp X.K H x d ∧ Dp X.K H y (.tuple ds) ∧ SeqAt.shaped d = true ∧ SeqAt.shaped (.tuple ds) = true ∧ Q (.bl (ds.any fun z => PyData.eqv z d)) H) := by
  intro pins s σ H x y v u Q I rx ry h
  obtain ⟨d, ds, hd, he, sd, se, q⟩ := h
  obtain ⟨as, r1⟩ := L2.Dp.reads I d x v hd.to rx
  obtain ⟨bs, r2⟩ := L2.Dp.reads I (.tuple ds) y u he.to ry
  exact SeqAt.in_tuple_reads r2 r1 (SeqAt.canLay_of_shaped se) (SeqAt.canLay_of_shaped sd) (room_in_shaped sd hu) ⟨.bl _, H, I, rfl, q⟩
theorem op_ninT (hu : X.A.units + 65 < cLine) : OpR X (compareOp .NotIn) (fun x y H Q => ∃ d ds, Dp X.K H x d ∧ Dp X.K H y (.tuple ds) ∧ SeqAt.shaped d = true ∧ SeqAt.shaped (.tuple ds) = true ∧ Q (.bl (!ds.any fun z => PyData.eqv z d)) H) := by
  intro pins s σ H x y v u Q I rx ry h
  obtain ⟨d, ds, hd, he, sd, se, q⟩ := h
  obtain ⟨as, r1⟩ := L2.Dp.reads I d x v hd.to rx
  obtain ⟨bs, r2⟩ := L2.Dp.reads I (.tuple ds) y u he.to ry
  exact SeqAt.notIn_tuple_reads r2 r1 (SeqAt.canLay_of_shaped se) (SeqAt.canLay_of_shaped sd) (room_in_shaped sd hu) ⟨.bl _, H, I, rfl, q⟩
def copO : Cop → CmpOp
  | .eq => .Eq
  | .ne => .NotEq
  | .lt => .Lt
  | .le => .LtE
  | .gt => .Gt
  | .ge => .GtE
  | .is => .Is
  | .isnot => .IsNot
  | .inn => .In
  | .notin => .NotIn
theorem lexLt_eq : ∀ a b : List Int, HT.lexLt a b = Ir.lexLt a b
  | [], [] => rfl
  | [], _ :: _ => rfl
  | _ :: _, [] => rfl
  | x :: xs, y :: ys => by rw [HT.lexLt_cons, Ir.lexLt, lexLt_eq xs ys]
def rCop (K : PySem.W.Frag) (o : Cop) : R2 := fun x y H Q => ∃ dx dy b, Dp K H x dx ∧ Dp K H y dy ∧ cop o dx dy = some b ∧ Q (.bl b) H
theorem op_cop (o : Cop) (hu : X.A.units + 65 < cLine) : OpR X (compareOp (copO o)) (rCop X.K o) := by
  intro pins s σ H x y v u Q I rx ry h
  obtain ⟨dx, dy, b, hx, hy, e, q⟩ := h
  have hu2 : X.A.units + 64 < cLine := by omega
  have hu3 : X.A.units < cLine := by omega
  unfold cop at e
  split at e
  · split at e
    · rename_i hs
      cases e
      simp only [shp, Bool.and_eq_true] at hs
      exact op_eqD hu2 pins s σ H _ _ v u Q I rx ry ⟨_, _, hx.to, hy.to, hs.1, hs.2, q⟩
    · cases e
  · split at e
    · rename_i hs
      cases e
      simp only [shp, Bool.and_eq_true] at hs
      exact op_neD hu2 pins s σ H _ _ v u Q I rx ry ⟨_, _, hx.to, hy.to, hs.1, hs.2, q⟩
    · cases e
  · cases e
    rw [dp_int hx] at rx
    rw [dp_int hy] at ry
    exact op_lt pins s σ H _ _ v u Q I rx ry ⟨_, _, rfl, rfl, q⟩
  · split at e
    · rename_i a1 b1 e1 e2
      cases e
      obtain ⟨a, vs, rfl, ha, ra⟩ := dp_tup hx
      obtain ⟨b, us, rfl, hb, rb⟩ := dp_tup hy
      rw [ints_dp e1 ra] at ha
      rw [ints_dp e2 rb] at hb
      exact op_ltT hu3 pins s σ H _ _ v u Q I rx ry ⟨a, b, _, _, rfl, rfl, .of ha, .of hb, by rw [lexLt_eq]; exact q⟩
    · cases e
  · cases e
    rw [dp_int hx] at rx
    rw [dp_int hy] at ry
    exact op_le pins s σ H _ _ v u Q I rx ry ⟨_, _, rfl, rfl, q⟩
  · cases e
    rw [dp_int hx] at rx
    rw [dp_int hy] at ry
    exact op_gt pins s σ H _ _ v u Q I rx ry ⟨_, _, rfl, rfl, q⟩
  · cases e
    rw [dp_int hx] at rx
    rw [dp_int hy] at ry
    exact op_ge pins s σ H _ _ v u Q I rx ry ⟨_, _, rfl, rfl, q⟩
  · cases e
    rw [dp_non hy] at ry
    refine op_isN pins s σ H _ _ v u Q I rx ry ⟨rfl, ?_⟩
    cases hx <;> exact q
  · cases e
    rw [dp_non hy] at ry
    refine op_notN pins s σ H _ _ v u Q I rx ry ⟨rfl, ?_⟩
    cases hx <;> exact q
  · split at e
    · rename_i hs
      cases e
      simp only [shp, Bool.and_eq_true] at hs
      exact op_inD hu pins s σ H _ _ v u Q I rx ry ⟨_, _, hx.to, hy.to, hs.1, hs.2, q⟩
    · cases e
  · split at e
    · rename_i hs
      cases e
      simp only [shp, Bool.and_eq_true] at hs
      exact op_inT hu pins s σ H _ _ v u Q I rx ry ⟨_, _, hx, hy, hs.1, hs.2, q⟩
    · cases e
  · cases e
    rw [dp_str hx] at rx
    rw [dp_str hy] at ry
    exact op_in_str pins s σ H _ _ v u Q I rx ry ⟨_, _, rfl, rfl, q⟩
  · split at e
    · rename_i hs
      cases e
      simp only [shp, Bool.and_eq_true] at hs
      exact op_notInD hu pins s σ H _ _ v u Q I rx ry ⟨_, _, hx.to, hy.to, hs.1, hs.2, q⟩
    · cases e
  · split at e
    · rename_i hs
      cases e
      simp only [shp, Bool.and_eq_true] at hs
      exact op_ninT hu pins s σ H _ _ v u Q I rx ry ⟨_, _, hx, hy, hs.1, hs.2, q⟩
    · cases e
  · cases e
    rw [dp_str hx] at rx
    rw [dp_str hy] at ry
    exact op_notin_str pins s σ H _ _ v u Q I rx ry ⟨_, _, rfl, rfl, q⟩
  · cases e
end
end Ir

set_option Elab.async false
set_option linter.all false
set_option maxRecDepth 100000
set_option maxHeartbeats 4000000
/-! Built-ins by name. -/
namespace Ir
open PySem PySem.Spec PyProof.Rows L2

theorem insI_perm (x : Int) : ∀ l : List Int, (insI x l).Perm (x :: l)
  | [] => .refl _
  | y :: r => by
    unfold insI
    split
    · exact .refl _
    · exact (List.Perm.cons y (insI_perm x r)).trans (List.Perm.swap x y r)
theorem sortI_perm : ∀ l : List Int, (sortI l).Perm l
  | [] => .refl _
  | x :: r => (insI_perm x _).trans (List.Perm.cons x (sortI_perm r))
theorem insI_mem {x z : Int} : ∀ {l : List Int}, z ∈ insI x l → z = x ∨ z ∈ l := fun {l} h => by
  have := (insI_perm x l).mem_iff.mp h
  simpa using this
theorem insI_sorted (x : Int) : ∀ l : List Int, l.Pairwise (· ≤ ·) → (insI x l).Pairwise (· ≤ ·)
  | [], _ => by simp [insI]
  | y :: r, h => by
    unfold insI
    rw [List.pairwise_cons] at h
    split
    · rename_i hx
      refine List.pairwise_cons.mpr ⟨fun z hz => ?_, List.pairwise_cons.mpr h⟩
      rcases List.mem_cons.mp hz with e | e
      · rw [e]; exact hx
      · exact Int.le_trans hx (h.1 z e)
    · rename_i hx
      refine List.pairwise_cons.mpr ⟨fun z hz => ?_, insI_sorted x r h.2⟩
      rcases insI_mem hz with e | e
      · rw [e]; omega
      · exact h.1 z e
theorem sortI_sorted : ∀ l : List Int, (sortI l).Pairwise (· ≤ ·)
  | [] => List.Pairwise.nil
  | x :: r => insI_sorted x _ (sortI_sorted r)
theorem sorted_one : ∀ {a b : List Int}, a.Perm b → a.Pairwise (· ≤ ·) → b.Pairwise (· ≤ ·) → a = b
  | [], b, p, _, _ => (List.nil_perm.mp p).symm
  | x :: r, [], p, _, _ => nomatch List.perm_nil.mp p
  | x :: r, y :: q, p, h1, h2 => by
    rw [List.pairwise_cons] at h1 h2
    have e : x = y := by
      have m1 : x ∈ y :: q := p.mem_iff.mp List.mem_cons_self
      have m2 : y ∈ x :: r := p.mem_iff.mpr List.mem_cons_self
      rcases List.mem_cons.mp m1 with e | e
      · exact e
      · rcases List.mem_cons.mp m2 with e' | e'
        · exact e'.symm
        · exact Int.le_antisymm (h1.1 y e') (h2.1 x e)
    subst e
    rw [sorted_one (List.Perm.cons_inv p) h1.2 h2.2]
theorem foldl_min_mem : ∀ (l : List Int) (x : Int), l.foldl min x ∈ x :: l ∧ ∀ y ∈ x :: l, l.foldl min x ≤ y
  | [], x => by simp
  | z :: r, x => by
    obtain ⟨h1, h2⟩ := foldl_min_mem r (min x z)
    rw [List.foldl_cons]
    have q := h2 (min x z) List.mem_cons_self
    refine ⟨?_, fun y hy => ?_⟩
    · rcases List.mem_cons.mp h1 with e | e
      · rw [e]
        rcases Int.le_total x z with l | l
        · rw [Int.min_eq_left l]; exact List.mem_cons_self
        · rw [Int.min_eq_right l]; exact List.mem_cons_of_mem _ List.mem_cons_self
      · exact List.mem_cons_of_mem _ (List.mem_cons_of_mem _ e)
    · rcases List.mem_cons.mp hy with e | e
      · rw [e]; omega
      · rcases List.mem_cons.mp e with e | e
        · rw [e]; omega
        · exact h2 y (List.mem_cons_of_mem _ e)
theorem foldl_max_mem : ∀ (l : List Int) (x : Int), l.foldl max x ∈ x :: l ∧ ∀ y ∈ x :: l, y ≤ l.foldl max x
  | [], x => by simp
  | z :: r, x => by
    obtain ⟨h1, h2⟩ := foldl_max_mem r (max x z)
    rw [List.foldl_cons]
    have q := h2 (max x z) List.mem_cons_self
    refine ⟨?_, fun y hy => ?_⟩
    · rcases List.mem_cons.mp h1 with e | e
      · rw [e]
        rcases Int.le_total x z with l | l
        · rw [Int.max_eq_right l]; exact List.mem_cons_of_mem _ List.mem_cons_self
        · rw [Int.max_eq_left l]; exact List.mem_cons_self
      · exact List.mem_cons_of_mem _ (List.mem_cons_of_mem _ e)
    · rcases List.mem_cons.mp hy with e | e
      · rw [e]; omega
      · rcases List.mem_cons.mp e with e | e
        · rw [e]; omega
        · exact h2 y (List.mem_cons_of_mem _ e)
theorem minL_is {l : List Int} {m : Int} (h : minL l = some m) : 0 < l.length ∧ ∀ k, k ∈ l → (∀ y, y ∈ l → k ≤ y) → k = m := by
  cases l with
  | nil => cases h
  | cons x r =>
    cases h
    obtain ⟨h1, h2⟩ := foldl_min_mem r x
    exact ⟨Nat.succ_pos _, fun k hk hle => Int.le_antisymm (hle _ h1) (h2 k hk)⟩
theorem maxL_is {l : List Int} {m : Int} (h : maxL l = some m) : 0 < l.length ∧ ∀ k, k ∈ l → (∀ y, y ∈ l → y ≤ k) → k = m := by
  cases l with
  | nil => cases h
  | cons x r =>
    cases h
    obtain ⟨h1, h2⟩ := foldl_max_mem r x
    exact ⟨Nat.succ_pos _, fun k hk hle => Int.le_antisymm (h2 k hk) (hle _ h1)⟩

/-- the built-in's value -/
def bifV : Bif → Value
  | .len => .builtin "len"
  | .all => .builtin "all"
  | .any => .builtin "any"
  | .min1 => .builtin "min"
  | .max1 => .builtin "max"
  | .min2 => .builtin "min"
  | .max2 => .builtin "max"
  | .sum => .builtin "sum"
  | .sorted => .builtin "sorted"
  | .list => .type "list"
  | .tuple => .type "tuple"
  | .int => .type "int"
  | .str => .type "str"
  | .sortedSet => .type "set"
def rBif (K : PySem.W.Frag) (b : Bif) : List V → Hp → VK → Prop := fun vs H Q => ∃ Hf ds v, Same Hf H ∧ DpAll K Hf vs ds ∧ bfn b ds = some v ∧ ∀ x H', NewR K Hf H v x H' → Q x H'
theorem all1 {K : PySem.W.Frag} {H : Hp} {vs : List V} {d : D} (h : DpAll K H vs [d]) : ∃ v, vs = [v] ∧ Dp K H v d := by
  cases h with
  | cons h r =>
    cases r
    exact ⟨_, rfl, h⟩
theorem all2 {K : PySem.W.Frag} {H : Hp} {vs : List V} {d e : D} (h : DpAll K H vs [d, e]) : ∃ v u, vs = [v, u] ∧ Dp K H v d ∧ Dp K H u e := by
  cases h with
  | cons h r =>
    cases r with
    | cons h2 r =>
      cases r
      exact ⟨_, _, rfl, h, h2⟩
theorem map_some {α β : Type} {o : Option α} {f : α → β} {y : β} (h : o.map f = some y) : ∃ x, o = some x ∧ f x = y := by
  cases o with
  | none => cases h
  | some x => exact ⟨x, rfl, Option.some.inj h⟩
section
variable {X : Cx}
/-- sorting by the tuples' branch is told apart -/
def sortsTup : Bif → List D → Bool
  | .sorted, [.list x] => (intsOf x).isNone
  | .sortedSet, _ => true
  | _, _ => false
theorem call_bif0 (b : Bif) (hc : X.calm = true) : CallR X (bifV b) (fun vs H Q => ∃ Hf ds v, Same Hf H ∧ DpAll X.K Hf vs ds ∧ bfn b ds = some v ∧ sortsTup b ds = false ∧ ∀ x H', NewR X.K Hf H v x H' → Q x H') := by
  intro pins s σ H vs us Q I r h
  obtain ⟨Hf, ds, v, sm, hv, e, hns, q⟩ := h
  unfold bfn at e
  split at e
  · cases e
    obtain ⟨x, rfl, hx⟩ := all1 hv
    obtain ⟨a, ys, rfl, ha, ra⟩ := dp_lst hx
    exact call_len_seq pins s σ H _ us Q I r ⟨a, ys, rfl, .inl (rdS sm ha), q _ _ (.inl ⟨rfl, by rw [DpAll.len ra]; exact .int _⟩)⟩
  · cases e
    obtain ⟨x, rfl, hx⟩ := all1 hv
    obtain ⟨a, ys, rfl, ha, ra⟩ := dp_tup hx
    exact call_len_seq pins s σ H _ us Q I r ⟨a, ys, rfl, .inr (.of (sm _ _ ha)), q _ _ (.inl ⟨rfl, by rw [DpAll.len ra]; exact .int _⟩)⟩
  · split at e
    · rename_i hl
      cases e
      obtain ⟨x, rfl, hx⟩ := all1 hv
      rw [dp_str hx] at r
      exact call_len_str pins s σ H _ us Q I r ⟨_, rfl, by rw [← lineMax_eq]; exact hl, q _ _ (.inl ⟨rfl, .int _⟩)⟩
    · cases e
  · obtain ⟨bs, e1, e2⟩ := map_some e
    cases e2
    obtain ⟨x, rfl, hx⟩ := all1 hv
    obtain ⟨a, ys, rfl, ha, ra⟩ := dp_lst hx
    rw [bls_dp e1 ra] at ha
    exact cr_all hc pins s σ H _ us Q I r ⟨a, bs, rfl, rdS sm ha, q _ _ (.inl ⟨rfl, .bl _⟩)⟩
  · obtain ⟨bs, e1, e2⟩ := map_some e
    cases e2
    obtain ⟨x, rfl, hx⟩ := all1 hv
    obtain ⟨a, ys, rfl, ha, ra⟩ := dp_lst hx
    rw [bls_dp e1 ra] at ha
    exact cr_any hc pins s σ H _ us Q I r ⟨a, bs, rfl, rdS sm ha, q _ _ (.inl ⟨rfl, .bl _⟩)⟩
  · split at e
    · rename_i ns e1
      obtain ⟨m, e2, e3⟩ := map_some e
      cases e3
      obtain ⟨x, rfl, hx⟩ := all1 hv
      obtain ⟨a, ys, rfl, ha, ra⟩ := dp_lst hx
      rw [ints_dp e1 ra] at ha
      obtain ⟨h1, h2⟩ := minL_is e2
      refine cr_min hc pins s σ H _ us Q I r ⟨a, ns, rfl, rdS sm ha, h1, fun k hk hle => ?_⟩
      rw [h2 k hk hle]
      exact q _ _ (.inl ⟨rfl, .int _⟩)
    · cases e
  · split at e
    · rename_i ns e1
      obtain ⟨m, e2, e3⟩ := map_some e
      cases e3
      obtain ⟨x, rfl, hx⟩ := all1 hv
      obtain ⟨a, ys, rfl, ha, ra⟩ := dp_lst hx
      rw [ints_dp e1 ra] at ha
      obtain ⟨h1, h2⟩ := maxL_is e2
      refine cr_max hc pins s σ H _ us Q I r ⟨a, ns, rfl, rdS sm ha, h1, fun k hk hle => ?_⟩
      rw [h2 k hk hle]
      exact q _ _ (.inl ⟨rfl, .int _⟩)
    · cases e
  · cases e
    obtain ⟨x, y, rfl, hx, hy⟩ := all2 hv
    rw [dp_int hx, dp_int hy] at r
    exact call_min2 hc pins s σ H _ us Q I r ⟨_, _, rfl, q _ _ (.inl ⟨rfl, .int _⟩)⟩
  · cases e
    obtain ⟨x, y, rfl, hx, hy⟩ := all2 hv
    rw [dp_int hx, dp_int hy] at r
    exact call_max2 hc pins s σ H _ us Q I r ⟨_, _, rfl, q _ _ (.inl ⟨rfl, .int _⟩)⟩
  · obtain ⟨ns, e1, e2⟩ := map_some e
    cases e2
    obtain ⟨x, rfl, hx⟩ := all1 hv
    obtain ⟨a, ys, rfl, ha, ra⟩ := dp_lst hx
    rw [ints_dp e1 ra] at ha
    exact cr_sum hc pins s σ H _ us Q I r ⟨a, ns, rfl, rdS sm ha, q _ _ (.inl ⟨rfl, .int _⟩)⟩
  · obtain ⟨zs, e1, e2⟩ := map_some e
    cases e2
    obtain ⟨x, rfl, hx⟩ := all1 hv
    obtain ⟨a, ys, rfl, ha, ra⟩ := dp_lst hx
    unfold sortD at e1
    split at e1
    · rename_i ns e3
      split at e1
      · cases e1
        rw [ints_dp e3 ra] at ha
        refine cr_sortedI pins s σ H _ us Q I r ⟨a, ns, rfl, rdS sm ha, fun ns' p p1 p2 p3 => ?_⟩
        rw [sorted_one (p1.trans (sortI_perm ns).symm) p2 (sortI_sorted ns)]
        exact q _ _ ⟨p, _, p3, rfl, rfl, all_ints _⟩
      · cases e1
    · rename_i e3
      simp [sortsTup, e3] at hns
  · cases e
    obtain ⟨x, rfl, hx⟩ := all1 hv
    obtain ⟨a, ys, rfl, ha, ra⟩ := dp_lst hx
    exact call_list_of pins s σ H _ us Q I r ⟨a, ys, rfl, .inl (rdS sm ha), fun l hl => q _ _ ⟨l, ys, hl, rfl, rfl, ra⟩⟩
  · cases e
    obtain ⟨x, rfl, hx⟩ := all1 hv
    obtain ⟨a, ys, rfl, ha, ra⟩ := dp_tup hx
    exact call_list_of pins s σ H _ us Q I r ⟨a, ys, rfl, .inr (.of (sm _ _ ha)), fun l hl => q _ _ ⟨l, ys, hl, rfl, rfl, ra⟩⟩
  · cases e
    obtain ⟨x, rfl, hx⟩ := all1 hv
    obtain ⟨a, ys, rfl, ha, ra⟩ := dp_lst hx
    exact call_tuple_of pins s σ H _ us Q I r ⟨a, ys, rfl, .inl ⟨rdS sm ha, fun l hl => q _ _ (.inr ⟨l, ys, _, rfl, hl, rfl, rfl, ra⟩)⟩⟩
  · cases e
    obtain ⟨x, rfl, hx⟩ := all1 hv
    obtain ⟨a, ys, rfl, ha, ra⟩ := dp_tup hx
    exact call_tuple_of pins s σ H _ us Q I r ⟨a, ys, rfl, .inr ⟨.of (sm _ _ ha), q _ _ (.inl ⟨rfl, .tup ha ra⟩)⟩⟩
  · cases e
    obtain ⟨x, rfl, hx⟩ := all1 hv
    rw [dp_int hx] at r
    exact call_int1 pins s σ H _ us Q I r (.inl ⟨_, rfl, q _ _ (.inl ⟨rfl, .int _⟩)⟩)
  · cases e
    obtain ⟨x, rfl, hx⟩ := all1 hv
    rw [dp_bl hx] at r
    exact call_int1 pins s σ H _ us Q I r (.inr ⟨_, rfl, q _ _ (.inl ⟨rfl, .int _⟩)⟩)
  · split at e
    · rename_i hl
      cases e
      obtain ⟨x, rfl, hx⟩ := all1 hv
      rw [dp_int hx] at r
      exact call_str_int pins s σ H _ us Q I r ⟨_, rfl, hl, q _ _ (.inl ⟨rfl, .str _⟩)⟩
    · cases e
  · simp [sortsTup] at hns
  · cases e

/-! ### isinstance -/
def tyN : Ty → String
  | .int => "int"
  | .bool => "bool"
  | .str => "str"
  | .tuple => "tuple"
  | .list => "list"
  | .tuplist => "tuple"
def dTy : D → String
  | .none => "NoneType"
  | .bool _ => "bool"
  | .int _ => "int"
  | .str _ => "str"
  | .list _ => "list"
  | .tuple _ => "tuple"
  | .dict _ => "dict"
theorem dp_ty {K : PySem.W.Frag} {H : Hp} {x : V} {d : D} (h : Dp K H x d) : TyX K H x (.type (dTy d)) := by
  cases h with
  | non => exact .base .non
  | bl b => exact .base (.bl b)
  | int i => exact .base (.int i)
  | str z => exact .base (.str z)
  | lst h r =>
    rcases h with h | ⟨o, h⟩
    · exact .base (.lst h)
    · exact .base (.frz h)
  | tup h r => exact .base (.tup h)
def sixT : List String := ["NoneType", "bool", "int", "str", "list", "tuple"]
theorem dTy_six (d : D) (h : dTy d ≠ "dict") : dTy d ∈ sixT := by
  cases d <;> first | exact absurd rfl h | simp [dTy, sixT]
theorem kt_int : ∀ a ∈ sixT, kitB a "int" = some (a == "int" || a == "bool") := by decide +kernel
theorem kt_bool : ∀ a ∈ sixT, kitB a "bool" = some (a == "bool") := by decide +kernel
theorem kt_str : ∀ a ∈ sixT, kitB a "str" = some (a == "str") := by decide +kernel
theorem kt_tuple : ∀ a ∈ sixT, kitB a "tuple" = some (a == "tuple") := by decide +kernel
theorem kt_list : ∀ a ∈ sixT, kitB a "list" = some (a == "list") := by decide +kernel
theorem kit_int (d : D) (h : dTy d ≠ "dict") : kitB (dTy d) "int" = some (isTy .int d) := by
  rw [kt_int _ (dTy_six d h)]
  cases d <;> simp [dTy, isTy]
theorem kit_bool (d : D) (h : dTy d ≠ "dict") : kitB (dTy d) "bool" = some (isTy .bool d) := by
  rw [kt_bool _ (dTy_six d h)]
  cases d <;> simp [dTy, isTy]
theorem kit_str (d : D) (h : dTy d ≠ "dict") : kitB (dTy d) "str" = some (isTy .str d) := by
  rw [kt_str _ (dTy_six d h)]
  cases d <;> simp [dTy, isTy]
theorem kit_tuple (d : D) (h : dTy d ≠ "dict") : kitB (dTy d) "tuple" = some (isTy .tuple d) := by
  rw [kt_tuple _ (dTy_six d h)]
  cases d <;> simp [dTy, isTy]
theorem kit_list (d : D) (h : dTy d ≠ "dict") : kitB (dTy d) "list" = some (isTy .list d) := by
  rw [kt_list _ (dTy_six d h)]
  cases d <;> simp [dTy, isTy]
theorem dp_notdict {K : PySem.W.Frag} {H : Hp} {x : V} {d : D} (h : Dp K H x d) : dTy d ≠ "dict" := by
  cases h <;> simp [dTy]
theorem kit_any (t : Ty) (d : D) (ht : t ≠ .tuplist) (h : dTy d ≠ "dict") : kitB (dTy d) (tyN t) = some (isTy t d) := by
  cases t with
  | int => exact kit_int d h
  | bool => exact kit_bool d h
  | str => exact kit_str d h
  | tuple => exact kit_tuple d h
  | list => exact kit_list d h
  | tuplist => exact absurd rfl ht
/-- isinstance(x, T) -/
theorem call_isiD (t : Ty) (ht : t ≠ .tuplist) : CallR X (.builtin "isinstance") (fun vs H Q => ∃ x d, vs = [x, .ty (tyN t)] ∧ Dp X.K H x d ∧ Q (.bl (isTy t d)) H) := by
  intro pins s σ H vs us Q I r h
  obtain ⟨x, d, rfl, hd, q⟩ := h
  exact call_isi pins s σ H _ us Q I r ⟨x, _, _, _, _, rfl, .ty _, dp_ty hd, kit_ty (kit_any t d ht (dp_notdict hd)), q⟩
/-- isinstance(x, (tuple, list)) -/
theorem call_isiTL : CallR X (.builtin "isinstance") (fun vs H Q => ∃ x d tp, vs = [x, .ref tp] ∧ H tp = some (.tup [.ty "tuple", .ty "list"]) ∧ Dp X.K H x d ∧ Q (.bl (isTy .tuplist d)) H) := by
  intro pins s σ H vs us Q I r h
  obtain ⟨x, d, tp, rfl, htp, hd, q⟩ := h
  have nd := dp_notdict hd
  refine call_isiT pins s σ H _ us Q I r ⟨x, tp, _, _, [.type "tuple", .type "list"], _, rfl, htp, .cons (.ty _) (.cons (.ty _) .nil), dp_ty hd, ?_, q⟩
  refine kitAny_cons (kit_ty (kit_any .tuple d (fun z => nomatch z) nd)) (fun h1 => kitAny_cons (kit_ty (kit_any .list d (fun z => nomatch z) nd)) (fun h2 => ?_) fun h2 => ?_) fun h1 => ?_
  · rw [kitAny_nil]
    cases d <;> first | rfl | (simp [isTy] at h1 h2)
  · cases d <;> first | rfl | (simp [isTy] at h1 h2)
  · cases d <;> first | rfl | (simp [isTy] at h1)
end
end Ir

set_option Elab.async false
set_option linter.all false
set_option maxRecDepth 100000
set_option maxHeartbeats 4000000
/-! Expressions, node by node (1). -/
namespace Ir
open PySem PySem.Spec PyProof.Rows L2

abbrev Wx (X : Cx) (tb : Tbs) (fa ca : Nat → Addr) : Wd := ⟨X.K, tb, fa, ca⟩
abbrev PEx (X : Cx) (tb : Tbs) (fa ca : Nat → Addr) (W : WX) (Φ : Fs) (kin : Exn → D) (e : Expr) (ir : Ex) : Prop := PE X e (tE (Wx X tb fa ca) W (ev Φ kin ir))
abbrev PTx (X : Cx) (tb : Tbs) (fa ca : Nat → Addr) (W : WX) (Φ : Fs) (kin : Exn → D) (e : Expr) (ir : Ex) : Prop := PT X e (tBo (Wx X tb fa ca) W (ev Φ kin ir))
abbrev PWx (X : Cx) (tb : Tbs) (fa ca : Nat → Addr) (W : WX) (Φ : Fs) (kin : Exn → D) (e : Expr) (ir : Ex) : Prop := PW X e (tBo (Wx X tb fa ca) W (ev Φ kin ir))
abbrev PAx (X : Cx) (tb : Tbs) (fa ca : Nat → Addr) (W : WX) (Φ : Fs) (kin : Exn → D) (e : List Expr) (ir : Ex) : Prop := PA X e (tAr (Wx X tb fa ca) W (evs Φ kin ir))

theorem slGet_set {s : Sl} {i j : Nat} {v : Option Val} : slGet (s.set i v) j = if i = j ∧ i < s.length then v else slGet s j := by
  unfold slGet
  rw [List.getElem?_set]
  by_cases h : i = j
  · subst h
    by_cases hl : i < s.length
    · simp [hl]
      cases v <;> rfl
    · simp [hl]
  · simp [h]
theorem slGet_lt {s : Sl} {i : Nat} {v : Val} (h : slGet s i = some v) : i < s.length := by
  unfold slGet at h
  cases e : s[i]? with
  | none => rw [e] at h; cases h
  | some u => exact (List.getElem?_eq_some_iff.mp e).1

section
variable {w : Wd} {W : WX} {Hf H : Hp} {s : Sl} {σ : L2.St}
/-- a slot forgotten -/
theorem SR.forget (h : SR w Hf s σ H) (i : Nat) : SR w Hf (s.set i none) σ H ∧ Stp Hf s σ H Hf (s.set i none) σ H := by
  have g : ∀ {j v}, slGet (s.set i none) j = some v → slGet s j = some v := fun {j v} e => by
    rw [slGet_set] at e
    split at e
    · cases e
    · exact e
  refine ⟨⟨h.sub, by rw [List.length_set]; exact h.len, fun j v e => h.sl j v (g e), fun j k v u a e1 e2 => h.sep j k v u a (g e1) (g e2), h.tab, h.ntb⟩, ⟨Same.refl _, fun _ _ e _ _ => e, fun _ e => e, fun a ⟨j, v, e, o, q⟩ => .inl ⟨j, v, g e, o, q⟩, fun _ e => .inl e⟩⟩
/-- an owned slot's list is frozen -/
theorem SR.freezeSlot {i : Nat} {xs : List D} (h : SR w Hf s σ H) (e : slGet s i = some (.own xs)) : ∃ a vs, σ[i]? = some (some (.ref a)) ∧ H a = some (.lst vs) ∧ Hf a = none ∧ SR w (upd Hf a (.lst vs)) (s.set i (some (.d (.list xs)))) σ H ∧
    Stp Hf s σ H (upd Hf a (.lst vs)) (s.set i (some (.d (.list xs)))) σ H ∧ Dp w.K (upd Hf a (.lst vs)) (.ref a) (.list xs) := by
  obtain ⟨x, e1, a, vs, rfl, h1, h2, h3⟩ := h.sl i _ e
  obtain ⟨sr0, st0⟩ := h.forget i
  have no : ¬ Own (s.set i none) σ a := fun ⟨j, v, q1, q2, q3⟩ => by
    rw [slGet_set] at q1
    split at q1
    · cases q1
    · rename_i hn
      have := h.sep i j _ v a e q1 rfl q2 e1 q3
      exact hn ⟨this, slGet_lt e⟩
  obtain ⟨sr1, sm⟩ := sr0.freeze h1 h2 no so_lst
  have dp : Dp w.K (upd Hf a (.lst vs)) (.ref a) (.list xs) := .lst (.of upd_same) (DpAll.mono sm h3)
  have hi := slGet_lt e
  have g : ∀ {j v}, slGet (s.set i (some (.d (.list xs)))) j = some v → (j = i ∧ v = .d (.list xs)) ∨ slGet (s.set i none) j = some v := fun {j v} q => by
    rw [slGet_set] at q ⊢
    split at q
    · rename_i hh
      cases q
      exact .inl ⟨hh.1.symm, rfl⟩
    · rename_i hh
      rw [if_neg hh]
      exact .inr q
  refine ⟨a, vs, e1, h1, h2, ⟨sr1.sub, by rw [List.length_set]; exact h.len, fun j v q => ?_, fun j k v u b q1 q2 o1 o2 => ?_, sr1.tab, sr1.ntb⟩, ⟨sm, fun _ _ q _ _ => q, fun _ q => q, fun b ⟨j, v, q, o, z⟩ => ?_, fun b q => ?_⟩, dp⟩
  · rcases g q with ⟨rfl, rfl⟩ | q
    · exact ⟨_, e1, dp⟩
    · exact sr1.sl j v q
  · rcases g q1 with ⟨_, rfl⟩ | q1
    · cases o1
    · rcases g q2 with ⟨_, rfl⟩ | q2
      · cases o2
      · exact sr1.sep j k v u b q1 q2 o1 o2
  · rcases g q with ⟨_, rfl⟩ | q
    · cases o
    · exact st0.own b ⟨j, v, q, o, z⟩
  · by_cases hb : b = a
    · rw [hb]
      exact .inr (.inl ⟨i, _, e, rfl, e1⟩)
    · rw [upd_ne hb] at q
      exact .inl q
theorem slGet_some {s : Sl} {i : Nat} {v : Val} (h : slGet s i = some v) : s[i]? = some (some v) := by
  unfold slGet at h
  cases e : s[i]? with
  | none => rw [e] at h; cases h
  | some u =>
    rw [e] at h
    cases u with
    | none => cases h
    | some u => cases h; rfl
theorem var_read {Φ : Fs} {kin : Exn → D} {i : Nat} {Q : VK} (h : tE w W (ev Φ kin (.var i)) σ H Q) : tVar i σ H Q := by
  obtain ⟨Hf, s, sr, h⟩ := h
  unfold ev at h
  split at h
  · rename_i x e
    obtain ⟨y, e1, r⟩ := sr.sl i _ e
    exact ⟨y, e1, h y Hf H .refl sr r fun z => nomatch z⟩
  · rename_i xs e
    obtain ⟨a, vs, e1, h1, h2, sr1, st1, dp⟩ := sr.freezeSlot e
    exact ⟨_, e1, h _ _ H st1 sr1 dp fun z => nomatch z⟩
  · exact h.elim
theorem SR.takeSlot {i : Nat} {v : Val} {a : Addr} (h : SR w Hf s σ H) (e : slGet s i = some v) (ov : isOwn v = true) (e1 : σ[i]? = some (some (.ref a))) : (H a = none ∨ Own s σ a) ∧ ¬ Own (s.set i none) σ a :=
  ⟨.inr ⟨i, v, e, ov, e1⟩, fun ⟨j, u, q1, q2, q3⟩ => by
    rw [slGet_set] at q1
    split at q1
    · cases q1
    · rename_i hn
      exact hn ⟨h.sep i j _ u a e q1 ov q2 e1 q3, slGet_lt e⟩⟩
theorem take_read {Φ : Fs} {kin : Exn → D} {i : Nat} {Q : VK} (h : tE w W (ev Φ kin (.take i)) σ H Q) : tVar i σ H Q := by
  obtain ⟨Hf, s, sr, h⟩ := h
  unfold ev at h
  split at h
  · rename_i x e
    obtain ⟨y, e1, r⟩ := sr.sl i _ e
    exact ⟨y, e1, h y Hf H .refl sr r fun z => nomatch z⟩
  · rename_i xs e
    obtain ⟨y, e1, r⟩ := sr.sl i _ e
    obtain ⟨sr1, st1⟩ := sr.forget i
    exact ⟨y, e1, h _ _ H st1 sr1 r fun o a ea => by subst ea; exact sr.takeSlot e o e1⟩
  · rename_i xs e
    obtain ⟨y, e1, r⟩ := sr.sl i _ e
    obtain ⟨sr1, st1⟩ := sr.forget i
    exact ⟨y, e1, h _ _ H st1 sr1 r fun o a ea => by subst ea; exact sr.takeSlot e o e1⟩
  · rename_i xs e
    obtain ⟨y, e1, r⟩ := sr.sl i _ e
    obtain ⟨sr1, st1⟩ := sr.forget i
    exact ⟨y, e1, h _ _ H st1 sr1 r fun o a ea => by subst ea; exact sr.takeSlot e o e1⟩
  · exact h.elim
end

section
variable {X : Cx} {tb : Tbs} {fa ca : Nat → Addr} {W : WX} {Φ : Fs} {kin : Exn → D} {i : Nat} {x : Str} {pos : Pos} {a b c : Ex} {ea eb ec : Expr} {es : List Expr}
theorem n_var (h : PE X (.Name x pos) (tVar i)) : PEx X tb fa ca W Φ kin (.Name x pos) (.var i) := PE_imp h fun _ _ _ => var_read
theorem n_take (h : PE X (.Name x pos) (tVar i)) : PEx X tb fa ca W Φ kin (.Name x pos) (.take i) := PE_imp h fun _ _ _ => take_read
/-- a constant of no heap -/
theorem n_cst {e : Expr} {v : V} {y : D} (h : PE X e (tC v)) (hv : ∀ H, Dp X.K H v y) : PEx X tb fa ca W Φ kin e (.cst y) := PE_imp h fun σ H Q ⟨Hf, s, sr, q⟩ =>
  q v Hf H .refl sr (hv Hf) fun z => nomatch z
theorem n_glob {e : Expr} {c : Int} (h : PE X e (tC (.int c))) : PEx X tb fa ca W Φ kin e (.glob x c) := PE_imp h fun σ H Q ⟨Hf, s, sr, q⟩ =>
  q _ Hf H .refl sr (.int c) fun z => nomatch z
/-! arguments -/
theorem n_nil : PAx X tb fa ca W Φ kin [] .nil := PA_imp pa_nil fun σ H Q ⟨Hf, s, sr, q⟩ => q [] Hf H .refl sr .nil
theorem PostA.after {w : Wd} {Hf H Hf1 H1 : Hp} {s s1 : Sl} {σ : L2.St} {r : Res (List D)} {Q : List V → List D → Sl → Hp → Hp → Prop} (h : PostA w W Hf s σ H r Q) (a : Stp Hf s σ H Hf1 s1 σ H1) : PostA w W Hf1 s1 σ H1 r Q := by
  unfold PostA at h ⊢
  cases r with
  | bad => exact h
  | exc x s' => exact PostX.after h a
  | ok v s' => exact fun x Hf' H' st sr r => h x Hf' H' (a.trans st) sr r
theorem n_cons (ha : PEx X tb fa ca W Φ kin ea a) (hb : PAx X tb fa ca W Φ kin es b) (hs : starEach (ea :: es) X.env = (false, eval ea X.env) :: starEach es X.env) : PAx X tb fa ca W Φ kin (ea :: es) (.cons a b) := by
  refine PA_imp (pa_cons (pe_D ha) hb hs) fun σ H Q ⟨Hf, s, sr, h⟩ => ?_
  refine ⟨Hf, s, sr, ?_⟩
  unfold PostD
  unfold PostA evs Res.dat Res.bind at h
  cases e : ev Φ kin a s with
  | bad => rw [e] at h; exact h
  | exc x s' => rw [e] at h; exact h
  | ok v s' =>
    rw [e] at h
    dsimp only at h ⊢
    cases q : v.toD with
    | none => rw [q] at h; exact h
    | some y =>
      rw [q] at h
      intro x Hf1 H1 st1 sr1 r1
      refine ⟨Hf1, s', sr1, ?_⟩
      unfold PostA
      dsimp only at h
      cases e2 : evs Φ kin b s' with
      | bad => rw [e2] at h; exact h
      | exc z s2 => rw [e2] at h; exact PostX.after h st1
      | ok ys s2 =>
        rw [e2] at h
        intro xs Hf2 H2 st2 sr2 r2
        exact h (x :: xs) Hf2 H2 (st1.trans st2) sr2 (.cons (Dp.mono st2.frz r1) r2)
theorem n_tup {k : Nat} (h : PAx X tb fa ca W Φ kin es a) : PEx X tb fa ca W Φ kin (.Tuple es k pos) (.tup a) := by
  refine PE_imp (pe_tup h) fun σ H Q ⟨Hf, s, sr, q⟩ => ?_
  unfold ev at q
  refine bindA sr q fun xs ys s1 Hf1 H1 st1 sr1 r1 q1 => ?_
  have hl := DpAll.len r1
  split at q1
  · rename_i hz
    exact ⟨by rw [← lineMax_eq, hl]; exact hz, fun p hp => newR_post sr1 q1 (.inr ⟨p, xs, ys, rfl, hp, rfl, rfl, r1⟩)⟩
  · exact q1.elim
theorem n_lst (h : PAx X tb fa ca W Φ kin es a) : PEx X tb fa ca W Φ kin (.List es pos) (.lst a) := by
  refine PE_imp (pe_lst h) fun σ H Q ⟨Hf, s, sr, q⟩ => ?_
  unfold ev at q
  refine bindA sr q fun xs ys s1 Hf1 H1 st1 sr1 r1 q1 => ?_
  have hl := DpAll.len r1
  split at q1
  · rename_i hz
    exact ⟨by rw [← lineMax_eq, hl]; exact hz, fun p hp => newR_post sr1 q1 ⟨p, xs, hp, rfl, rfl, r1⟩⟩
  · exact q1.elim
/-! operators -/
theorem optV_post {w : Wd} {Hf H : Hp} {s : Sl} {σ : L2.St} {o : Option Val} {Q : VK} (h : PostE w W Hf s σ H (optV o s) Q) : ∃ v, o = some v ∧ PostE w W Hf s σ H (.ok v s) Q := by
  cases o with
  | none => exact h.elim
  | some v => exact ⟨v, rfl, h⟩
theorem optD_post {w : Wd} {Hf H : Hp} {s : Sl} {σ : L2.St} {o : Option D} {Q : VK} (h : PostE w W Hf s σ H (optD o s) Q) : ∃ v, o = some v ∧ PostE w W Hf s σ H (.ok (.d v) s) Q := by
  cases o with
  | none => exact h.elim
  | some v => exact ⟨v, rfl, h⟩
theorem n_bin (o : Bop) (ha : PEx X tb fa ca W Φ kin ea a) (hb : PEx X tb fa ca W Φ kin eb b) : PEx X tb fa ca W Φ kin (.BinOp ea (bopO o) eb pos) (.bin o a b) := by
  refine PE_imp (pe_op (op_bop o) (pe_D ha) (pe_D hb)) fun σ H Q ⟨Hf, s, sr, q⟩ => ?_
  unfold ev at q
  refine bindD sr q fun x dx s1 Hf1 H1 st1 sr1 r1 q1 => bindD sr1 q1 fun y dy s2 Hf2 H2 st2 sr2 r2 q2 => ?_
  obtain ⟨v, e, q2⟩ := optV_post q2
  exact ⟨Hf2, dx, dy, v, sr2.sub, Dp.mono st2.frz r1, r2, e, fun z H' n => newR_post sr2 q2 n⟩
theorem n_neg (ha : PEx X tb fa ca W Φ kin ea a) : PEx X tb fa ca W Φ kin (.UnaryOp .USub ea pos) (.neg a) := by
  refine PE_imp (pe_un un_neg (pe_D ha)) fun σ H Q ⟨Hf, s, sr, q⟩ => ?_
  unfold ev at q
  refine bindD sr q fun x dx s1 Hf1 H1 st1 sr1 r1 q1 => ?_
  split at q1
  · exact ⟨_, dp_int r1, newR_post sr1 q1 (.inl ⟨rfl, .int _⟩)⟩
  · exact q1.elim
theorem n_cmp (o : Cop) (hu : X.A.units + 65 < cLine) (ha : PEx X tb fa ca W Φ kin ea a) (hb : PEx X tb fa ca W Φ kin eb b) (hm : behindInMarks (copO o) eb = false) : PEx X tb fa ca W Φ kin (.Compare ea [copO o] [eb] pos) (.cmp o a b) := by
  refine PE_imp (pe_cmpR (op_cop o hu) (pe_D ha) (pe_D hb) hm) fun σ H Q ⟨Hf, s, sr, q⟩ => ?_
  unfold ev at q
  refine bindD sr q fun x dx s1 Hf1 H1 st1 sr1 r1 q1 => bindD sr1 q1 fun y dy s2 Hf2 H2 st2 sr2 r2 q2 => ?_
  split at q2
  · rename_i z e
    exact ⟨dx, dy, z, Dp.mono (st2.frz.trans sr2.sub) r1, Dp.mono sr2.sub r2, e, newR_post sr2 q2 (.inl ⟨rfl, .bl _⟩)⟩
  · exact q2.elim
/-- what stands in a slot, read at once -/
theorem SR.peek {w : Wd} {Hf H : Hp} {s : Sl} {σ : L2.St} {i : Nat} {v : Val} {x : D} (sr : SR w Hf s σ H) (e : slGet s i = some v) (q : v.toD = some x) : ∃ y, σ[i]? = some (some y) ∧ Dp w.K H y x ∧ TopD w.K Hf H y x := by
  obtain ⟨y, e1, r⟩ := sr.sl i _ e
  have t : TopD w.K Hf H y x := by
    cases v with
    | d z => cases q; exact Dp.top sr.sub r
    | own zs =>
      cases q
      obtain ⟨a, vs, rfl, h1, h2, h3⟩ := r
      exact ⟨a, vs, rfl, .of h1, h3⟩
    | _ => cases q
  exact ⟨y, e1, t.dp sr.sub, t⟩
theorem SR.has {w : Wd} {Hf H : Hp} {s : Sl} {σ : L2.St} {i : Nat} (sr : SR w Hf s σ H) (e : hasS s i = true) : ∃ y, σ[i]? = some (some y) := by
  unfold hasS at e
  obtain ⟨v, e⟩ := Option.isSome_iff_exists.mp e
  obtain ⟨y, e1, _⟩ := sr.sl i _ e
  exact ⟨y, e1⟩
theorem n_cmpS (o : Cop) (hu : X.A.units + 65 < cLine) (ha : PE X (.Name x pos) (tVar i)) (hb : PEx X tb fa ca W Φ kin eb b) (hm : behindInMarks (copO o) eb = false) {pos' : Pos} : PEx X tb fa ca W Φ kin (.Compare (.Name x pos) [copO o] [eb] pos') (.cmpS o i b) := by
  refine PE_imp (pe_cmpR (op_cop o hu) ha (pe_D hb) hm) fun σ H Q ⟨Hf, s, sr, q⟩ => ?_
  unfold ev at q
  split at q
  · rename_i hh
    obtain ⟨u, eu⟩ := sr.has hh
    refine ⟨u, eu, bindD sr q fun y dy s2 Hf2 H2 st2 sr2 r2 q2 => ?_⟩
    split at q2
    · rename_i v e
      split at q2
      · rename_i dx ex
        split at q2
        · rename_i z ez
          obtain ⟨u', eu', r1, _⟩ := sr2.peek e ex
          rw [eu] at eu'
          cases eu'
          exact ⟨dx, dy, z, r1, Dp.mono sr2.sub r2, ez, newR_post sr2 q2 (.inl ⟨rfl, .bl _⟩)⟩
        · exact q2.elim
      · exact q2.elim
    · exact q2.elim
  · exact q.elim
/-- what a call of a built-in by its name asks of the text -/
structure Blt (X : Cx) (f : Str) (v : Value) : Prop where
  g : Gl X f
  m : X.mg f = none
  v : bootBuiltins f = some v
  n : f ≠ "__name__"
  d : (f == ("__debug__" : Str)) = false
structure Plain (X : Cx) (ea : Expr) (es : List Expr) (pos : Pos) : Prop where
  he : starEach (ea :: es) X.env = (false, eval ea X.env) :: starEach es X.env
  hpl : (backTo pos (starEach es X.env)).any (·.1) = false
theorem n_biB {r : List V → Hp → VK → Prop} {v : Value} (hc : CallR X v r) {f : Str} {p : Pos} (hf : Blt X f v) (hv : (∃ id, v = .builtin id) ∨ ∃ T, v = .type T) {t : TA} (h : PA X (ea :: es) t) (hp : Plain X ea es pos) : PE X (.Call (.Name f p) (ea :: es) [] pos) (tCB r t) := by
  rcases hv with ⟨id, rfl⟩ | ⟨T, rfl⟩
  · exact pe_callB hc hf.g hf.m hf.v h hf.n hf.d hp.he hp.hpl
  · exact pe_callTy hc hf.g hf.m hf.v h hf.n hf.d hp.he hp.hpl
theorem bifV_kind (b : Bif) : (∃ id, bifV b = .builtin id) ∨ ∃ T, bifV b = .type T := by
  cases b <;> first | exact .inl ⟨_, rfl⟩ | exact .inr ⟨_, rfl⟩
theorem n_bi (bf : Bif) (hcr : CallR X (bifV bf) (rBif X.K bf)) {f : Str} {p : Pos} (hf : Blt X f (bifV bf)) (h : PAx X tb fa ca W Φ kin (ea :: es) a) (hp : Plain X ea es pos) : PEx X tb fa ca W Φ kin (.Call (.Name f p) (ea :: es) [] pos) (.bi bf a) := by
  refine PE_imp (n_biB hcr hf (bifV_kind bf) h hp) fun σ H Q ⟨Hf, s, sr, q⟩ => ?_
  unfold ev at q
  refine bindA sr q fun xs ys s1 Hf1 H1 st1 sr1 r1 q1 => ?_
  obtain ⟨v, e, q1⟩ := optV_post q1
  exact ⟨Hf1, ys, v, sr1.sub, r1, e, fun z H' n => newR_post sr1 q1 n⟩
theorem n_lenS (hc : X.calm = true) {f : Str} {p q : Pos} (hf : Blt X f (.builtin "len")) (h : PE X (.Name x p) (tVar i)) (hp : Plain X (.Name x p) [] pos) : PEx X tb fa ca W Φ kin (.Call (.Name f q) [.Name x p] [] pos) (.lenS i) := by
  refine PE_imp (n_biB (call_bif0 .len hc) hf (.inl ⟨_, rfl⟩) (pa_cons h pa_nil) hp) fun σ H Q ⟨Hf, s, sr, q⟩ => ?_
  unfold ev at q
  split at q
  · rename_i v e
    split at q
    · rename_i dx ex
      obtain ⟨y, e1, r1, _⟩ := sr.peek e ex
      obtain ⟨u, eu, q1⟩ := optV_post q
      refine ⟨y, e1, H, [dx], u, Same.refl _, .cons r1 .nil, eu, by cases dx <;> rfl, fun z H' n => ?_⟩
      cases u with
      | d z' =>
        rcases n with ⟨rfl, n⟩ | ⟨_, _, _, rfl, _⟩
        · have ez : ∃ k, z' = .int k := by
            cases dx <;> simp [bfn] at eu
            all_goals first | exact ⟨_, eu.symm⟩ | exact ⟨_, eu.2.symm⟩
          obtain ⟨k, rfl⟩ := ez
          exact newR_post sr q1 (.inl ⟨rfl, by rw [dp_int n]; exact .int _⟩)
        · cases dx <;> simp [bfn] at eu
      | own _ => cases dx <;> simp [bfn] at eu
      | dk _ => cases dx <;> simp [bfn] at eu
      | dt _ => cases dx <;> simp [bfn] at eu
      | fn _ => exact n.elim
    · exact q.elim
  · exact q.elim
theorem n_isi (t : Ty) (ht : t ≠ .tuplist) {p q : Pos} (hf : Blt X "isinstance" (.builtin "isinstance")) (ha : PEx X tb fa ca W Φ kin ea a) (hT : PE X eb (tC (.ty (tyN t)))) (hs : starEach [eb] X.env = (false, eval eb X.env) :: starEach [] X.env) (hp : Plain X ea [eb] pos) :
    PEx X tb fa ca W Φ kin (.Call (.Name "isinstance" q) [ea, eb] [] pos) (.isi t a) := by
  refine PE_imp (n_biB (call_isiD t ht) hf (.inl ⟨_, rfl⟩) (pa_cons (pe_D ha) (pa_cons hT pa_nil hs) hp.he) hp) fun σ H Q ⟨Hf, s, sr, q⟩ => ?_
  unfold ev at q
  exact bindD sr q fun x dx s1 Hf1 H1 st1 sr1 r1 q1 => ⟨x, dx, rfl, Dp.mono sr1.sub r1, newR_post sr1 q1 (.inl ⟨rfl, .bl _⟩)⟩
theorem n_isiTL {p q : Pos} {k : Nat} (hf : Blt X "isinstance" (.builtin "isinstance")) (ha : PEx X tb fa ca W Φ kin ea a) (hT : PE X eb (tC (.ty "tuple"))) (hT2 : PE X ec (tC (.ty "list"))) {pt : Pos} (hs0 : starEach [ec] X.env = (false, eval ec X.env) :: starEach [] X.env) (hs1 : starEach [eb, ec] X.env = (false, eval eb X.env) :: starEach [ec] X.env)
    (hp : Plain X ea [.Tuple [eb, ec] k pt] pos) : PEx X tb fa ca W Φ kin (.Call (.Name "isinstance" q) [ea, .Tuple [eb, ec] k pt] [] pos) (.isi .tuplist a) := by
  refine PE_imp (n_biB call_isiTL hf (.inl ⟨_, rfl⟩) (pa_cons (pe_D ha) (pa_cons (pe_tup (pa_cons hT (pa_cons hT2 pa_nil hs0) hs1)) pa_nil) hp.he) hp) fun σ H Q ⟨Hf, s, sr, q⟩ => ?_
  unfold ev at q
  refine bindD sr q fun x dx s1 Hf1 H1 st1 sr1 r1 q1 => ⟨by show 2 ≤ sizeLine; rw [sizeLine_eq]; decide, fun tp htp => ?_⟩
  obtain ⟨sr2, st2⟩ := sr1.newO (o := .tup [.ty "tuple", .ty "list"]) htp
  exact ⟨x, dx, tp, rfl, upd_same, Dp.mono sr2.sub r1, newR_post sr2 (q1.after st2) (.inl ⟨rfl, .bl _⟩)⟩
/-! subscripts -/
theorem atI_all {K : PySem.W.Frag} {H : Hp} {vs : List V} {ds : List D} {k : Int} {d : D} (r : DpAll K H vs ds) (h : atI ds k = some d) : ∃ v, atI vs k = some v ∧ Dp K H v d := by
  unfold atI at h ⊢
  rw [DpAll.len r]
  cases e : ixN ds.length k with
  | none => rw [e] at h; cases h
  | some j =>
    rw [e] at h
    exact DpAll.get r h
theorem ix_dp : IxR X (fun x y H Q => ∃ Hf dx dy z, TopD X.K Hf H x dx ∧ Dp X.K Hf y dy ∧ ixD dx dy = some z ∧ ∀ v, Dp X.K Hf v z → Q v H) := by
  intro value slice pins s σ H x y v u Q I rx ry h hs
  obtain ⟨Hf, dx, dy, z, hx, hy, e, q⟩ := h
  unfold ixD at e
  split at e
  · obtain ⟨a, vs, rfl, ha, ra⟩ := hx
    rw [dp_int hy] at ry
    obtain ⟨y, e1, r1⟩ := atI_all ra e
    exact ix_list value slice pins s σ H _ _ v u Q I rx ry ⟨a, vs, _, y, rfl, rfl, .inl ha, e1, q _ r1⟩ hs
  · obtain ⟨a, vs, rfl, ha, ra⟩ := hx
    rw [dp_int hy] at ry
    obtain ⟨y, e1, r1⟩ := atI_all ra e
    exact ix_tup value slice pins s σ H _ _ v u Q I rx ry ⟨a, vs, _, y, rfl, rfl, .of ha, e1, q _ r1⟩ hs
  · split at e
    · rename_i hl
      obtain ⟨c, e1, e2⟩ := map_some e
      cases e2
      rw [dp_str hx] at rx
      rw [dp_int hy] at ry
      exact ix_str value slice pins s σ H _ _ v u Q I rx ry ⟨_, _, c, rfl, rfl, by rw [← lineMax_eq]; exact hl, e1, q _ (.str _)⟩ hs
    · cases e
  · cases e
theorem n_ix (ha : PEx X tb fa ca W Φ kin ea a) (hb : PEx X tb fa ca W Φ kin eb b) (hp : PlainIx eb) : PEx X tb fa ca W Φ kin (.Subscript ea eb pos) (.ix a b) := by
  refine PE_imp (pe_ix ix_dp (pe_D ha) (pe_D hb) hp) fun σ H Q ⟨Hf, s, sr, q⟩ => ?_
  unfold ev at q
  refine bindD sr q fun x dx s1 Hf1 H1 st1 sr1 r1 q1 => bindD sr1 q1 fun y dy s2 Hf2 H2 st2 sr2 r2 q2 => ?_
  obtain ⟨z, e, q2⟩ := optD_post q2
  exact ⟨Hf2, dx, dy, z, Dp.top sr2.sub (Dp.mono st2.frz r1), r2, e, fun v hv => newR_post sr2 q2 (.inl ⟨rfl, hv⟩)⟩
end
end Ir

set_option Elab.async false
set_option linter.all false
set_option maxRecDepth 100000
set_option maxHeartbeats 4000000
/-! Expressions, node by node (2): tests, dicts, slices, texts, calls. -/
namespace Ir
open PySem PySem.Spec PyProof.Rows L2

section
variable {w : Wd} {W : WX} {Hf H : Hp} {s : Sl} {σ : L2.St}
/-- a bool wanted, from a value -/
theorem tBo_tE {f : Evl} {Q : Bool → Hp → Prop} (h : tBo w W f σ H Q) : tE w W f σ H fun x H1 => ∃ c, x = .bl c ∧ Q c H1 := by
  obtain ⟨Hf, s, sr, h⟩ := h
  refine ⟨Hf, s, sr, ?_⟩
  unfold PostB at h
  unfold PostE
  cases e : f s with
  | bad => rw [e] at h; exact h
  | exc x s' => rw [e] at h; exact h
  | ok v s' =>
    rw [e] at h
    dsimp only at h ⊢
    cases v with
    | d y =>
      cases y with
      | bool b => exact fun x Hf' H' st sr r _ => ⟨b, dp_bl r, h Hf' H' st sr⟩
      | _ => exact h.elim
    | _ => exact h.elim
theorem PostB.after {Hf1 H1 : Hp} {s1 : Sl} {r : Res Val} {Q : Bool → Sl → Hp → Hp → Prop} (h : PostB w W Hf s σ H r Q) (a : Stp Hf s σ H Hf1 s1 σ H1) : PostB w W Hf1 s1 σ H1 r Q := by
  unfold PostB at h ⊢
  cases r with
  | bad => exact h
  | exc x s' => exact PostX.after h a
  | ok v s' =>
    cases v with
    | d y =>
      cases y with
      | bool b => exact fun Hf' H' st sr => h Hf' H' (a.trans st) sr
      | _ => exact h
    | _ => exact h
/-- one test, then the rest of a test -/
theorem bindBB {f : Evl} {k : Bool → Sl → Res Val} {Q : Bool → Sl → Hp → Hp → Prop} {R : Bool → Hp → Prop} (hs : SR w Hf s σ H) (h : PostB w W Hf s σ H ((f s).bl k) Q)
    (hk : ∀ b s1 Hf1 H1, Stp Hf s σ H Hf1 s1 σ H1 → SR w Hf1 s1 σ H1 → PostB w W Hf1 s1 σ H1 (k b s1) Q → R b H1) : tBo w W f σ H R := by
  refine ⟨Hf, s, hs, ?_⟩
  unfold Res.bl Res.bind at h
  cases e : f s with
  | bad => rw [e] at h; exact h
  | exc x s' => rw [e] at h; exact h
  | ok v s' =>
    rw [e] at h
    dsimp only at h
    cases v with
    | d y =>
      cases y with
      | bool b => exact fun Hf' H' st sr => hk b s' Hf' H' st sr (h.after st)
      | _ => exact h.elim
    | _ => exact h.elim
/-- a value's reading by a test's -/
theorem PostB.toE {r : Res Val} {Q : Bool → Hp → Prop} (h : PostB w W Hf s σ H r fun b _ _ H' => Q b H') : PostE w W Hf s σ H r fun x H1 => ∃ c, x = .bl c ∧ Q c H1 := by
  unfold PostB at h
  unfold PostE
  cases r with
  | bad => exact h
  | exc x s' => exact h
  | ok v s' =>
    cases v with
    | d y =>
      cases y with
      | bool b => exact fun x Hf' H' st sr r _ => ⟨b, dp_bl r, h Hf' H' st sr⟩
      | _ => exact h.elim
    | _ => exact h.elim
/-- one operand as data, then the rest of a test -/
theorem bindDB {f : Evl} {k : D → Sl → Res Val} {Q : Bool → Hp → Prop} {R : V → Hp → Prop} (hs : SR w Hf s σ H) (h : PostB w W Hf s σ H ((f s).dat k) fun b _ _ H' => Q b H')
    (hk : ∀ x y s1 Hf1 H1, Stp Hf s σ H Hf1 s1 σ H1 → SR w Hf1 s1 σ H1 → Dp w.K Hf1 x y → PostB w W Hf1 s1 σ H1 (k y s1) (fun b _ _ H' => Q b H') → R x H1) : tD w W f σ H R := by
  refine ⟨Hf, s, hs, ?_⟩
  unfold PostD
  unfold Res.dat Res.bind at h
  cases e : f s with
  | bad => rw [e] at h; exact h
  | exc x s' => rw [e] at h; exact h
  | ok v s' =>
    rw [e] at h
    dsimp only at h ⊢
    cases q : v.toD with
    | none => rw [q] at h; exact h
    | some y =>
      rw [q] at h
      exact fun x Hf' H' st sr r => hk x y s' Hf' H' st sr r (h.after st)
end
section
variable {X : Cx} {tb : Tbs} {fa ca : Nat → Addr} {W : WX} {Φ : Fs} {kin : Exn → D} {i : Nat} {x : Str} {pos : Pos} {a b c : Ex} {ea eb ec : Expr} {es rest : List Expr}
/-! ### tests -/
theorem n_tval (h : PEx X tb fa ca W Φ kin ea a) (he : ∀ whole, isTrue ea X.env whole = (do let v ← whole; standAt ea.pos; holding [v] (truthy v))) : PTx X tb fa ca W Φ kin ea a :=
  PT_imp (pt_val h he) fun σ H Q q => tBo_tE q
theorem n_tnot (h : PTx X tb fa ca W Φ kin ea a) : PTx X tb fa ca W Φ kin (.UnaryOp .Not ea pos) (.not a) := by
  refine PT_imp (pt_not h) fun σ H Q ⟨Hf, s, sr, q⟩ => ?_
  unfold ev at q
  exact bindBB sr q fun b s1 Hf1 H1 st1 sr1 q1 => q1 Hf1 H1 .refl sr1
theorem n_tand1 (h : PTx X tb fa ca W Φ kin ea a) : PWx X tb fa ca W Φ kin (.BoolOp .And [ea] pos) a := pw_and1 h
theorem n_tor1 (h : PTx X tb fa ca W Φ kin ea a) : PWx X tb fa ca W Φ kin (.BoolOp .Or [ea] pos) a := pw_or1 h
theorem n_tand (ha : PTx X tb fa ca W Φ kin ea a) (hb : PWx X tb fa ca W Φ kin (.BoolOp .And (eb :: rest) pos) b) : PWx X tb fa ca W Φ kin (.BoolOp .And (ea :: eb :: rest) pos) (.and a b) := by
  refine PW_imp (pw_and ha hb) fun σ H Q ⟨Hf, s, sr, q⟩ => ?_
  unfold ev at q
  refine bindBB sr q fun b s1 Hf1 H1 st1 sr1 q1 => ?_
  cases b with
  | true => exact iteT ⟨Hf1, s1, sr1, q1⟩
  | false => exact iteF (q1 Hf1 H1 .refl sr1)
theorem n_tor (ha : PTx X tb fa ca W Φ kin ea a) (hb : PWx X tb fa ca W Φ kin (.BoolOp .Or (eb :: rest) pos) b) : PWx X tb fa ca W Φ kin (.BoolOp .Or (ea :: eb :: rest) pos) (.or a b) := by
  refine PW_imp (pw_or ha hb) fun σ H Q ⟨Hf, s, sr, q⟩ => ?_
  unfold ev at q
  refine bindBB sr q fun b s1 Hf1 H1 st1 sr1 q1 => ?_
  cases b with
  | true => exact iteT (q1 Hf1 H1 .refl sr1)
  | false => exact iteF ⟨Hf1, s1, sr1, q1⟩
theorem n_tcmp (o : Cop) (hu : X.A.units + 65 < cLine) (ha : PEx X tb fa ca W Φ kin ea a) (hb : PEx X tb fa ca W Φ kin eb b) (hm : behindInMarks (copO o) eb = false) : PTx X tb fa ca W Φ kin (.Compare ea [copO o] [eb] pos) (.cmp o a b) := by
  refine PT_imp (pt_cmpR (op_cop o hu) (pe_D ha) (pe_D hb) hm) fun σ H Q ⟨Hf, s, sr, q⟩ => ?_
  unfold ev at q
  refine bindDB sr q fun x dx s1 Hf1 H1 st1 sr1 r1 q1 => bindDB sr1 q1 fun y dy s2 Hf2 H2 st2 sr2 r2 q2 => ?_
  split at q2
  · rename_i z e
    exact ⟨dx, dy, z, Dp.mono (st2.frz.trans sr2.sub) r1, Dp.mono sr2.sub r2, e, z, rfl, q2 Hf2 H2 .refl sr2⟩
  · exact q2.elim
theorem n_tcmpS (o : Cop) (hu : X.A.units + 65 < cLine) {pn : Pos} (ha : PE X (.Name x pn) (tVar i)) (hb : PEx X tb fa ca W Φ kin eb b) (hm : behindInMarks (copO o) eb = false) : PTx X tb fa ca W Φ kin (.Compare (.Name x pn) [copO o] [eb] pos) (.cmpS o i b) := by
  refine PT_imp (pt_cmpR (op_cop o hu) ha (pe_D hb) hm) fun σ H Q ⟨Hf, s, sr, q⟩ => ?_
  unfold ev at q
  split at q
  · rename_i hh
    obtain ⟨u, eu⟩ := sr.has hh
    refine ⟨u, eu, bindDB sr q fun y dy s2 Hf2 H2 st2 sr2 r2 q2 => ?_⟩
    split at q2
    · rename_i v e
      split at q2
      · rename_i dx ex
        split at q2
        · rename_i z ez
          obtain ⟨u', eu', r1, _⟩ := sr2.peek e ex
          rw [eu] at eu'
          cases eu'
          exact ⟨dx, dy, z, r1, Dp.mono sr2.sub r2, ez, z, rfl, q2 Hf2 H2 .refl sr2⟩
        · exact q2.elim
      · exact q2.elim
    · exact q2.elim
  · exact q.elim
theorem n_tchain (o o' : Cop) (hu : X.A.units + 65 < cLine) (ha : PEx X tb fa ca W Φ kin ea a) (hb : PEx X tb fa ca W Φ kin eb b) (hc : PEx X tb fa ca W Φ kin ec c) (hm : lastMarks [copO o, copO o'] [eb, ec] = false) :
    PTx X tb fa ca W Φ kin (.Compare ea [copO o, copO o'] [eb, ec] pos) (.chain o o' a b c) := by
  refine PT_imp (pt_chain (op_cop o hu) (op_cop o' hu) (pe_D ha) (pe_D hb) (pe_D hc) hm) fun σ H Q ⟨Hf, s, sr, q⟩ => ?_
  unfold ev at q
  refine bindDB sr q fun x dx s1 Hf1 H1 st1 sr1 r1 q1 => bindDB sr1 q1 fun y dy s2 Hf2 H2 st2 sr2 r2 q2 => ?_
  split at q2
  · rename_i e
    refine ⟨dx, dy, true, Dp.mono (st2.frz.trans sr2.sub) r1, Dp.mono sr2.sub r2, e, true, rfl, iteT (bindDB sr2 q2 fun z dz s3 Hf3 H3 st3 sr3 r3 q3 => ?_)⟩
    split at q3
    · rename_i k e3
      exact ⟨dy, dz, k, Dp.mono (st3.frz.trans sr3.sub) r2, Dp.mono sr3.sub r3, e3, k, rfl, q3 Hf3 H3 .refl sr3⟩
    · exact q3.elim
  · rename_i e
    exact ⟨dx, dy, false, Dp.mono (st2.frz.trans sr2.sub) r1, Dp.mono sr2.sub r2, e, false, rfl, iteF ⟨false, rfl, q2 Hf2 H2 .refl sr2⟩⟩
  · exact q2.elim
theorem n_chain (o o' : Cop) (hu : X.A.units + 65 < cLine) (ha : PEx X tb fa ca W Φ kin ea a) (hb : PEx X tb fa ca W Φ kin eb b) (hc : PEx X tb fa ca W Φ kin ec c) (hm : lastMarks [copO o, copO o'] [eb, ec] = false) :
    PEx X tb fa ca W Φ kin (.Compare ea [copO o, copO o'] [eb, ec] pos) (.chain o o' a b c) := by
  refine PE_imp (pe_chain (op_cop o hu) (op_cop o' hu) (pe_D ha) (pe_D hb) (pe_D hc) hm) fun σ H Q ⟨Hf, s, sr, q⟩ => ?_
  unfold ev at q
  refine bindD sr q fun x dx s1 Hf1 H1 st1 sr1 r1 q1 => bindD sr1 q1 fun y dy s2 Hf2 H2 st2 sr2 r2 q2 => ?_
  split at q2
  · rename_i e
    refine ⟨dx, dy, true, Dp.mono (st2.frz.trans sr2.sub) r1, Dp.mono sr2.sub r2, e, true, rfl, iteT (bindD sr2 q2 fun z dz s3 Hf3 H3 st3 sr3 r3 q3 => ?_)⟩
    split at q3
    · rename_i k e3
      exact ⟨dy, dz, k, Dp.mono (st3.frz.trans sr3.sub) r2, Dp.mono sr3.sub r3, e3, newR_post sr3 q3 (.inl ⟨rfl, .bl _⟩)⟩
    · exact q3.elim
  · rename_i e
    exact ⟨dx, dy, false, Dp.mono (st2.frz.trans sr2.sub) r1, Dp.mono sr2.sub r2, e, false, rfl, iteF (newR_post sr2 q2 (.inl ⟨rfl, .bl _⟩))⟩
  · exact q2.elim
/-! and, or, not as values -/
theorem blE {w : Wd} {Hf H : Hp} {s : Sl} {σ : L2.St} {f : Evl} {k : Bool → Sl → Res Val} {Q : VK} {R : Bool → Hp → Prop} (hs : SR w Hf s σ H) (h : PostE w W Hf s σ H ((f s).bl k) Q)
    (hk : ∀ b s1 Hf1 H1, Stp Hf s σ H Hf1 s1 σ H1 → SR w Hf1 s1 σ H1 → PostE w W Hf1 s1 σ H1 (k b s1) Q → R b H1) : tE w W f σ H fun x H1 => ∃ c, x = .bl c ∧ R c H1 := tBo_tE (bindB hs h hk)
theorem n_and1 {op : BoolOp} (h : PEx X tb fa ca W Φ kin ea a) : PEx X tb fa ca W Φ kin (.BoolOp op [ea] pos) a := pe_one h
theorem n_and (ha : PEx X tb fa ca W Φ kin ea a) (hb : PEx X tb fa ca W Φ kin (.BoolOp .And (eb :: rest) pos) b) : PEx X tb fa ca W Φ kin (.BoolOp .And (ea :: eb :: rest) pos) (.and a b) := by
  refine PE_imp (pe_and ha hb) fun σ H Q ⟨Hf, s, sr, q⟩ => ?_
  unfold ev at q
  refine blE sr q fun b s1 Hf1 H1 st1 sr1 q1 => ?_
  cases b with
  | true => exact iteT ⟨Hf1, s1, sr1, q1⟩
  | false => exact iteF (newR_post sr1 q1 (.inl ⟨rfl, .bl _⟩))
theorem n_or (ha : PEx X tb fa ca W Φ kin ea a) (hb : PEx X tb fa ca W Φ kin (.BoolOp .Or (eb :: rest) pos) b) : PEx X tb fa ca W Φ kin (.BoolOp .Or (ea :: eb :: rest) pos) (.or a b) := by
  refine PE_imp (pe_or ha hb) fun σ H Q ⟨Hf, s, sr, q⟩ => ?_
  unfold ev at q
  refine blE sr q fun b s1 Hf1 H1 st1 sr1 q1 => ?_
  cases b with
  | true => exact iteT (newR_post sr1 q1 (.inl ⟨rfl, .bl _⟩))
  | false => exact iteF ⟨Hf1, s1, sr1, q1⟩
theorem n_not (ha : PEx X tb fa ca W Φ kin ea a) : PEx X tb fa ca W Φ kin (.UnaryOp .Not ea pos) (.not a) := by
  refine PE_imp (pe_not ha) fun σ H Q ⟨Hf, s, sr, q⟩ => ?_
  unfold ev at q
  exact blE sr q fun b s1 Hf1 H1 st1 sr1 q1 => newR_post sr1 q1 (.inl ⟨rfl, .bl _⟩)
theorem n_ife (hc : PTx X tb fa ca W Φ kin ec c) (ha : PEx X tb fa ca W Φ kin ea a) (hb : PEx X tb fa ca W Φ kin eb b) : PEx X tb fa ca W Φ kin (.IfExp ec ea eb pos) (.ife c a b) := by
  refine PE_imp (pe_ifExp hc ha hb) fun σ H Q ⟨Hf, s, sr, q⟩ => ?_
  unfold ev at q
  refine bindB sr q fun b s1 Hf1 H1 st1 sr1 q1 => ?_
  cases b with
  | true => exact iteT ⟨Hf1, s1, sr1, q1⟩
  | false => exact iteF ⟨Hf1, s1, sr1, q1⟩
/-! ### dicts in slots -/
theorem KVD.val {κ : Type} [DecidableEq κ] {K : PySem.W.Frag} {H : Hp} {a : List (κ × V)} {b : List (κ × D)} (h : KVD K H a b) (k : κ) : (dget b k = none ∧ valV a k = none) ∨ ∃ z v, dget b k = some z ∧ valV a k = some v ∧ Dp K H v z := by
  induction h with
  | nil => exact .inl ⟨rfl, rfl⟩
  | @cons p q r t hh hr ih =>
    obtain ⟨h1, h2⟩ := hh
    by_cases e : q.1 = k
    · refine .inr ⟨q.2, p.2, ?_, valV_pos (h1.trans e), h2⟩
      simp [dget, e]
    · have e' : ¬ p.1 = k := by rw [h1]; exact e
      have e3 : dget (q :: t) k = dget t k := by simp [dget, List.find?_cons, e]
      rw [e3, valV_neg e']
      exact ih
theorem keyD_V {K : PySem.W.Frag} {H : Hp} {y : V} {d : D} {k : Key} (r : Dp K H y d) (e : keyD d = some k) : y = kV k := by
  cases r <;> simp [keyD] at e
  all_goals (subst e; rfl)
theorem keysD_V {K : PySem.W.Frag} {H : Hp} : ∀ {ds : List D} {vs : List V} {ks : List Key}, DpAll K H vs ds → keysD ds = some ks → vs = ks.map kV
  | [], _, _, .nil, e => by
    simp only [keysD, Option.some.injEq] at e
    subst e
    rfl
  | d :: ds, _, _, .cons h r, e => by
    unfold keysD at e
    cases e1 : keyD d with
    | none => simp [e1] at e
    | some k =>
      cases e2 : keysD ds with
      | none => simp [e1, e2] at e
      | some ks =>
        simp only [e1, e2, Option.some.injEq] at e
        subst e
        rw [keyD_V h e1, keysD_V r e2]
        rfl
theorem tkeyD_V {K : PySem.W.Frag} {H : Hp} {y : V} {d : D} {ks : List Key} (r : Dp K H y d) (e : tkeyD d = some ks) : ∃ b, y = .ref b ∧ H b = some (.tup (ks.map kV)) := by
  cases r with
  | tup h r => exact ⟨_, rfl, by rw [← keysD_V r e]; exact h⟩
  | _ => simp [tkeyD] at e
/-- a look into a dict slot -/
theorem SR.dict {w : Wd} {Hf H : Hp} {s : Sl} {σ : L2.St} {i : Nat} {v : Val} {x : V} {d : D} {o : Option D} (sr : SR w Hf s σ H) (e : slGet s i = some v) (r : Dp w.K Hf x d) (l : dlook v d = some o) :
    ∃ p o', σ[i]? = some (some (.ref p)) ∧ DGet H p x o' ∧ ((o = none ∧ o' = none) ∨ ∃ z y, o = some z ∧ o' = some y ∧ Dp w.K Hf y z) := by
  obtain ⟨y, e1, rv⟩ := sr.sl i _ e
  unfold dlook at l
  split at l
  · obtain ⟨k, ek, l2⟩ := map_some l
    obtain ⟨p, kv, rfl, h1, h2, h3⟩ := rv
    rw [keyD_V r ek]
    refine ⟨p, _, e1, .k h1, ?_⟩
    rcases h3.val k with ⟨q1, q2⟩ | ⟨z, v, q1, q2, q3⟩
    · exact .inl ⟨by rw [← l2]; exact q1, q2⟩
    · exact .inr ⟨z, v, by rw [← l2]; exact q1, q2, q3⟩
  · obtain ⟨k, ek, l2⟩ := map_some l
    obtain ⟨p, kv, rfl, h1, h2, h3⟩ := rv
    obtain ⟨b, rfl, hb⟩ := tkeyD_V r ek
    refine ⟨p, _, e1, .t h1 (sr.sub _ _ hb), ?_⟩
    rcases h3.val k with ⟨q1, q2⟩ | ⟨z, v, q1, q2, q3⟩
    · exact .inl ⟨by rw [← l2]; exact q1, q2⟩
    · exact .inr ⟨z, v, by rw [← l2]; exact q1, q2, q3⟩
  · cases l
theorem SR.isDict {w : Wd} {Hf H : Hp} {s : Sl} {σ : L2.St} {i : Nat} (sr : SR w Hf s σ H) (e : hasDict s i = true) : ∃ p, σ[i]? = some (some (.ref p)) ∧ IsD H p := by
  unfold hasDict at e
  split at e
  · rename_i kvs q
    obtain ⟨y, e1, p, kv, rfl, h1, _⟩ := sr.sl i _ q
    exact ⟨p, e1, .inl ⟨kv, .inl h1⟩⟩
  · rename_i kvs q
    obtain ⟨y, e1, p, kv, rfl, h1, _⟩ := sr.sl i _ q
    exact ⟨p, e1, .inr ⟨kv, .inl h1⟩⟩
  · cases e
theorem PE_or {e : Expr} {t t' : TE} (h : PE X e t) (h' : PE X e t') : PE X e (fun σ H Q => t σ H Q ∨ t' σ H Q) := ⟨fun pins s σ H Q I q => q.elim (h.run pins s σ H Q I) (h'.run pins s σ H Q I)⟩
theorem PT_or {e : Expr} {t t' : TT} (h : PT X e t) (h' : PT X e t') : PT X e (fun σ H Q => t σ H Q ∨ t' σ H Q) := ⟨fun pins s σ H Q I q => q.elim (h.run pins s σ H Q I) (h'.run pins s σ H Q I)⟩
theorem n_ixS (hu : X.A.units + 1 < cLine) {pn : Pos} (h : PE X (.Name x pn) (tVar i)) (hb : PEx X tb fa ca W Φ kin eb b) (hp : PlainIx eb) (hp2 : NoSl eb) : PEx X tb fa ca W Φ kin (.Subscript (.Name x pn) eb pos) (.ixS i b) := by
  refine PE_imp (PE_or (pe_ix ix_dp h (pe_D hb) hp) (pe_dget hu h (pe_D hb) hp2)) fun σ H Q ⟨Hf, s, sr, q⟩ => ?_
  unfold ev at q
  split at q
  · rename_i hd
    obtain ⟨p, ep, hp⟩ := sr.isDict hd
    refine .inr ⟨_, ep, bindD sr q fun y dy s2 Hf2 H2 st2 sr2 r2 q2 => ?_⟩
    split at q2
    · rename_i v e
      split at q2
      · rename_i z ez
        obtain ⟨p', o', e3, g, c⟩ := sr2.dict e r2 ez
        rw [ep] at e3
        cases e3
        rcases c with ⟨c1, _⟩ | ⟨z', y', c1, c2, c3⟩
        · cases c1
        · cases c1
          subst c2
          exact ⟨p, y', rfl, g, newR_post sr2 q2 (.inl ⟨rfl, c3⟩)⟩
      · exact q2.elim
    · exact q2.elim
  · split at q
    · rename_i hh
      obtain ⟨u, eu⟩ := sr.has hh
      refine .inl ⟨u, eu, bindD sr q fun y dy s2 Hf2 H2 st2 sr2 r2 q2 => ?_⟩
      split at q2
      · rename_i v e
        split at q2
        · rename_i dx ex
          obtain ⟨u', eu', _, tp⟩ := sr2.peek e ex
          rw [eu] at eu'
          cases eu'
          obtain ⟨z, ez, q2⟩ := optD_post q2
          exact ⟨Hf2, dx, dy, z, tp, r2, ez, fun v hv => newR_post sr2 q2 (.inl ⟨rfl, hv⟩)⟩
        · exact q2.elim
      · exact q2.elim
    · exact q.elim
theorem n_inS (n : Bool) (hu : X.A.units + 65 < cLine) {pn : Pos} (ha : PEx X tb fa ca W Φ kin ea a) (h : PE X (.Name x pn) (tVar i)) : PEx X tb fa ca W Φ kin (.Compare ea [if n then .NotIn else .In] [.Name x pn] pos) (.inS n a i) := by
  have hu1 : X.A.units + 1 < cLine := by omega
  cases n with
  | false =>
    refine PE_imp (PE_or (pe_cmpR (op_cop .inn hu) (pe_D ha) h rfl) (pe_cmp (pc_din hu1 (pe_D ha) h) rfl)) fun σ H Q ⟨Hf, s, sr, q⟩ => ?_
    unfold ev at q
    split at q
    · rename_i hd
      refine .inr (bindD sr q fun y dy s2 Hf2 H2 st2 sr2 r2 q2 => ?_)
      split at q2
      · rename_i v e
        split at q2
        · rename_i o eo
          obtain ⟨p, o', e3, g, c⟩ := sr2.dict e r2 eo
          have eo' : o.isSome = o'.isSome := by
            rcases c with ⟨c1, c2⟩ | ⟨z', y', c1, c2, c3⟩
            · rw [c1, c2]; rfl
            · rw [c1, c2]; rfl
          refine ⟨_, e3, p, o', rfl, g, ?_⟩
          rw [← eo']
          exact newR_post sr2 q2 (.inl ⟨rfl, .bl _⟩)
        · exact q2.elim
      · exact q2.elim
    · refine .inl (bindD sr q fun y dy s2 Hf2 H2 st2 sr2 r2 q2 => ?_)
      split at q2
      · rename_i v e
        split at q2
        · rename_i dx ex
          split at q2
          · rename_i z ez
            obtain ⟨u', eu', r1, _⟩ := sr2.peek e ex
            exact ⟨_, eu', dy, dx, z, Dp.mono sr2.sub r2, r1, ez, newR_post sr2 q2 (.inl ⟨rfl, .bl _⟩)⟩
          · exact q2.elim
        · exact q2.elim
      · exact q2.elim
  | true =>
    refine PE_imp (PE_or (pe_cmpR (op_cop .notin hu) (pe_D ha) h rfl) (pe_cmp (pc_dnotin hu1 (pe_D ha) h) rfl)) fun σ H Q ⟨Hf, s, sr, q⟩ => ?_
    unfold ev at q
    split at q
    · rename_i hd
      refine .inr (bindD sr q fun y dy s2 Hf2 H2 st2 sr2 r2 q2 => ?_)
      split at q2
      · rename_i v e
        split at q2
        · rename_i o eo
          obtain ⟨p, o', e3, g, c⟩ := sr2.dict e r2 eo
          have eo' : o.isSome = o'.isSome := by
            rcases c with ⟨c1, c2⟩ | ⟨z', y', c1, c2, c3⟩
            · rw [c1, c2]; rfl
            · rw [c1, c2]; rfl
          refine ⟨_, e3, p, o', rfl, g, ?_⟩
          rw [← eo']
          exact newR_post sr2 q2 (.inl ⟨rfl, .bl _⟩)
        · exact q2.elim
      · exact q2.elim
    · refine .inl (bindD sr q fun y dy s2 Hf2 H2 st2 sr2 r2 q2 => ?_)
      split at q2
      · rename_i v e
        split at q2
        · rename_i dx ex
          split at q2
          · rename_i z ez
            obtain ⟨u', eu', r1, _⟩ := sr2.peek e ex
            exact ⟨_, eu', dy, dx, z, Dp.mono sr2.sub r2, r1, ez, newR_post sr2 q2 (.inl ⟨rfl, .bl _⟩)⟩
          · exact q2.elim
        · exact q2.elim
      · exact q2.elim
/-- a comparison's value as a test: for every node whose value is a bool -/
theorem pt_ofPE {e : Expr} {t : TE} (h : PE X e t) (hp : PT X e (tB t)) : PT X e (tB t) := hp
theorem n_getS (hu : X.A.units + 1 < cLine) {pn apos : Pos} (h : PE X (.Name x pn) (tVar i)) (ha : PEx X tb fa ca W Φ kin ea a) (hb : PEx X tb fa ca W Φ kin eb b) (m : M2 X (.Name x pn) "get" apos ea eb pos) : PEx X tb fa ca W Φ kin (.Call (.Attribute (.Name x pn) "get" apos) [ea, eb] [] pos) (.getS i a b) := by
  refine PE_imp (pe_dget2 hu h (pe_D ha) (pe_D hb) m) fun σ H Q ⟨Hf, s, sr, q⟩ => ?_
  unfold ev at q
  split at q
  · rename_i hd
    obtain ⟨p, ep, hp⟩ := sr.isDict hd
    refine ⟨_, ep, p, rfl, hp, bindD sr q fun y dy s1 Hf1 H1 st1 sr1 r1 q1 => bindD sr1 q1 fun z dz s2 Hf2 H2 st2 sr2 r2 q2 => ?_⟩
    split at q2
    · rename_i v e
      split at q2
      · rename_i o eo
        obtain ⟨p', o', e3, g, c⟩ := sr2.dict e (Dp.mono st2.frz r1) eo
        rw [ep] at e3
        cases e3
        refine ⟨o', g, newR_post sr2 q2 (.inl ⟨rfl, ?_⟩)⟩
        rcases c with ⟨c1, c2⟩ | ⟨z', y', c1, c2, c3⟩
        · rw [c1, c2]; exact r2
        · rw [c1, c2]; exact c3
      · exact q2.elim
    · exact q2.elim
  · exact q.elim
theorem n_dnk : PEx X tb fa ca W Φ kin (.Dict [] [] pos) .dnk := by
  refine PE_imp pe_dnewK fun σ H Q ⟨Hf, s, sr, q⟩ => fun p hp => ?_
  unfold ev at q
  exact newR_post sr q ⟨p, [], hp, rfl, rfl, .nil⟩
theorem n_dnt : PEx X tb fa ca W Φ kin (.Dict [] [] pos) .dnt := by
  refine PE_imp pe_dnewT fun σ H Q ⟨Hf, s, sr, q⟩ => fun p hp => ?_
  unfold ev at q
  exact newR_post sr q ⟨p, [], hp, rfl, rfl, .nil⟩
end
end Ir

set_option Elab.async false
set_option linter.all false
set_option maxRecDepth 100000
set_option maxHeartbeats 4000000
/-! Expressions, node by node (3): slices, pop, displays, texts, calls. -/
namespace Ir
open PySem PySem.Spec PyProof.Rows L2

section
variable {w : Wd} {W : WX} {Hf H : Hp} {s : Sl} {σ : L2.St}
/-- an owned slot's thing is changed in place -/
theorem SR.mut {i : Nat} {v v' : Val} {a : Addr} {o : HO} (h : SR w Hf s σ H) (e : slGet s i = some v) (ov : isOwn v = true) (e1 : σ[i]? = some (some (.ref a))) (ov' : isOwn v' = true) (r : RpV w Hf (upd H a o) (.ref a) v') :
    SR w Hf (s.set i (some v')) σ (upd H a o) ∧ Stp Hf s σ H Hf (s.set i (some v')) σ (upd H a o) := by
  have oa : Own s σ a := ⟨i, v, e, ov, e1⟩
  have hfa := (h.own oa).1
  have hi := slGet_lt e
  have g : ∀ {j u}, slGet (s.set i (some v')) j = some u → (j = i ∧ u = v') ∨ (j ≠ i ∧ slGet s j = some u) := fun {j u} q => by
    rw [slGet_set] at q
    split at q
    · rename_i hh
      cases q
      exact .inl ⟨hh.1.symm, rfl⟩
    · rename_i hh
      exact .inr ⟨fun z => hh ⟨z.symm, hi⟩, q⟩
  have ow : ∀ {j u}, slGet (s.set i (some v')) j = some u → isOwn u = true → ∃ u', slGet s j = some u' ∧ isOwn u' = true := fun {j u} q o => by
    rcases g q with ⟨rfl, rfl⟩ | ⟨_, q⟩
    · exact ⟨v, e, ov⟩
    · exact ⟨u, q, o⟩
  refine ⟨⟨fun b u q => ?_, by rw [List.length_set]; exact h.len, fun j u q => ?_, fun j k u t b q1 q2 o1 o2 => ?_, tabs_ext h.tab fun b u q tu => ?_, h.ntb⟩, ⟨Same.refl _, fun b u q no _ => ?_, fun b q => ?_, fun b ⟨j, u, q, o, z⟩ => .inl ?_, fun b q => .inl q⟩⟩
  · rw [upd_ne (ne_of_none q hfa)]
    exact h.sub b u q
  · rcases g q with ⟨rfl, rfl⟩ | ⟨nj, q⟩
    · exact ⟨_, e1, r⟩
    · obtain ⟨x, e2, rx⟩ := h.sl j u q
      refine ⟨x, e2, rx.mono (Same.refl _) fun b ob eb => ?_⟩
      subst eb
      obtain ⟨c, ec, r1, r2⟩ := rx.addr ob
      cases ec
      refine ⟨upd_ne fun z => nj ?_, r1⟩
      subst z
      exact h.sep j i u v _ q e ob ov e2 e1
  · obtain ⟨u', q1', o1'⟩ := ow q1 o1
    obtain ⟨t', q2', o2'⟩ := ow q2 o2
    exact h.sep j k u' t' b q1' q2' o1' o2'
  · obtain ⟨x, e2, rx⟩ := h.sl i v e
    rw [e1] at e2
    cases e2
    rw [upd_ne fun z => rx.soft ov (by rw [← z]; exact q) tu]
    exact q
  · rw [upd_ne fun z => no (by rw [z]; exact oa)]
    exact q
  · by_cases z : b = a
    · rw [z, upd_same]
      exact fun k => nomatch k
    · rw [upd_ne z]
      exact q
  · obtain ⟨u', q', o'⟩ := ow q o
    exact ⟨j, u', q', o', z⟩
end
section
variable {X : Cx} {tb : Tbs} {fa ca : Nat → Addr} {W : WX} {Φ : Fs} {kin : Exn → D} {i : Nat} {x : Str} {pos : Pos} {a b c : Ex} {ea eb ec : Expr} {es rest : List Expr}
theorem n_pop0 {pn apos pc : Pos} {k : Nat} (h : PE X (.Name x pn) (tVar i)) (hline : (apos.endLine == pos.line) = true) : PEx X tb fa ca W Φ kin (.Call (.Attribute (.Name x pn) "pop" apos) [.Constant (.int 0) k pc] [] pos) (.pop0 i) := by
  refine PE_imp (pe_bm (r := rPopAt) PySem.F.plainAttrs_list PySem.F.slot_list_pop PySem.F.type_list_pop mt_popAt h (pa_cons pe_int pa_nil) rfl (by rfl) hline) fun σ H Q ⟨Hf, s, sr, q⟩ => ?_
  unfold ev at q
  split at q
  · rename_i y r e
    obtain ⟨z, e1, p, vs, rfl, h1, h2, h3⟩ := sr.sl i _ e
    cases h3 with
    | @cons v0 vr _ _ hv hr =>
      refine ⟨_, e1, .inl ⟨rfl, _, .of h1⟩, p, _, 0, 0, v0, rfl, rfl, h1, by decide, by decide, by simp [seqIndex?], rfl, ?_⟩
      have er : (v0 :: vr).eraseIdx 0 = vr := rfl
      rw [er]
      obtain ⟨sr2, st2⟩ := sr.mut (v' := .own r) (o := .lst vr) e rfl e1 rfl ⟨p, vr, rfl, upd_same, h2, hr⟩
      exact q v0 Hf _ st2 sr2 hv fun z => nomatch z
  · exact q.elim
/-! slices -/
theorem cutV_all {K : PySem.W.Frag} {H : Hp} {vs : List V} {ds : List D} (r : DpAll K H vs ds) (lo hi : Option Int) : DpAll K H (cutV vs lo hi) (cutL ds lo hi) := by
  unfold cutV cutL
  rw [DpAll.len r]
  exact DpAll.take _ (DpAll.drop _ r)
theorem sIx_le' (n d : Nat) (hd : d ≤ n) (o : Option Int) : HT.sIx n d o ≤ n := HT.sIx_le n d hd o
theorem cut_whole {ds : List D} {lo hi : Option Int} (h : HT.sIx ds.length 0 lo = 0 ∧ HT.sIx ds.length ds.length hi = ds.length) : cutL ds lo hi = ds := by
  unfold cutL
  rw [h.1, h.2, List.drop_zero, Nat.sub_zero, List.take_length]
theorem sl_dp : SlR X (fun x lo hi H Q => ∃ Hf dx v, Same Hf H ∧ Dp X.K Hf x dx ∧ slD dx lo hi = some v ∧ ∀ z H', NewR X.K Hf H v z H' → Q z H') := by
  intro pins s σ H x v vl vu lo hi sl Q I rx hs pl pu h
  obtain ⟨Hf, dx, vv, sm, hx, e, q⟩ := h
  unfold slD at e
  split at e
  · cases e
    obtain ⟨a, vs, rfl, ha, ra⟩ := dp_lst hx
    exact sl_list pins s σ H _ v vl vu lo hi sl Q I rx hs pl pu ⟨a, vs, rfl, rdS sm ha, fun p hp => q _ _ ⟨p, _, hp, rfl, rfl, cutV_all ra lo hi⟩⟩
  · cases e
    obtain ⟨a, vs, rfl, ha, ra⟩ := dp_tup hx
    have hl := DpAll.len ra
    refine sl_tupA pins s σ H _ v vl vu lo hi sl Q I rx hs pl pu ⟨a, vs, rfl, .of (sm _ _ ha), fun hw => ?_, fun hw p hp => ?_⟩
    · rw [hl] at hw
      refine q _ _ (.inl ⟨rfl, ?_⟩)
      rw [cut_whole hw]
      exact hx
    · exact q _ _ (.inr ⟨p, _, _, rfl, hp, rfl, rfl, cutV_all ra lo hi⟩)
  · cases e
theorem n_sl {p2 : Pos} (ha : PEx X tb fa ca W Φ kin ea a) (hb : PEx X tb fa ca W Φ kin eb b) (hc : PEx X tb fa ca W Φ kin ec c) : PEx X tb fa ca W Φ kin (.Subscript ea (.Slice (some eb) (some ec) none p2) pos) (.sl a b c) := by
  refine PE_imp (pe_slice sl_dp (pe_D ha) (po_some (pe_D hb)) (po_some (pe_D hc))) fun σ H Q ⟨Hf, s, sr, q⟩ => ?_
  unfold ev at q
  refine bindD sr q fun x dx s1 Hf1 H1 st1 sr1 r1 q1 => ?_
  refine bindD sr1 q1 fun y dy s2 Hf2 H2 st2 sr2 r2 q2 => ?_
  cases dy with
  | int k =>
    refine ⟨k, dp_int r2, bindD sr2 q2 fun z dz s3 Hf3 H3 st3 sr3 r3 q3 => ?_⟩
    cases dz with
    | int l =>
      refine ⟨l, dp_int r3, ?_⟩
      obtain ⟨v, ev, q3⟩ := optV_post q3
      exact ⟨Hf3, dx, v, sr3.sub, Dp.mono (st2.frz.trans st3.frz) r1, ev, fun z H' n => newR_post sr3 q3 n⟩
    | _ => exact q3.elim
  | _ => exact q2.elim
theorem n_slL {p2 : Pos} (ha : PEx X tb fa ca W Φ kin ea a) (hb : PEx X tb fa ca W Φ kin eb b) : PEx X tb fa ca W Φ kin (.Subscript ea (.Slice (some eb) none none p2) pos) (.slL a b) := by
  refine PE_imp (pe_slice sl_dp (pe_D ha) (po_some (pe_D hb)) po_none) fun σ H Q ⟨Hf, s, sr, q⟩ => ?_
  unfold ev at q
  refine bindD sr q fun x dx s1 Hf1 H1 st1 sr1 r1 q1 => bindD sr1 q1 fun y dy s2 Hf2 H2 st2 sr2 r2 q2 => ?_
  cases dy with
  | int k =>
    refine ⟨k, dp_int r2, ?_⟩
    obtain ⟨v, ev, q2⟩ := optV_post q2
    exact ⟨Hf2, dx, v, sr2.sub, Dp.mono st2.frz r1, ev, fun z H' n => newR_post sr2 q2 n⟩
  | _ => exact q2.elim
theorem n_slH {p2 : Pos} (ha : PEx X tb fa ca W Φ kin ea a) (hb : PEx X tb fa ca W Φ kin eb b) : PEx X tb fa ca W Φ kin (.Subscript ea (.Slice none (some eb) none p2) pos) (.slH a b) := by
  refine PE_imp (pe_slice sl_dp (pe_D ha) po_none (po_some (pe_D hb))) fun σ H Q ⟨Hf, s, sr, q⟩ => ?_
  unfold ev at q
  refine bindD sr q fun x dx s1 Hf1 H1 st1 sr1 r1 q1 => bindD sr1 q1 fun y dy s2 Hf2 H2 st2 sr2 r2 q2 => ?_
  cases dy with
  | int k =>
    refine ⟨k, dp_int r2, ?_⟩
    obtain ⟨v, ev, q2⟩ := optV_post q2
    exact ⟨Hf2, dx, v, sr2.sub, Dp.mono st2.frz r1, ev, fun z H' n => newR_post sr2 q2 n⟩
  | _ => exact q2.elim
/-- a list back to front -/
theorem n_rev {k : Nat} {p1 p2 p3 : Pos} (ha : PEx X tb fa ca W Φ kin ea a) : PEx X tb fa ca W Φ kin (.Subscript ea (.Slice none none (some (.UnaryOp .USub (.Constant (.int 1) k p1) p2)) p3) pos) (.rev a) := by
  refine PE_imp (pe_revLT (pe_D ha)) fun σ H Q ⟨Hf, s, sr, q⟩ => ?_
  unfold ev at q
  refine bindD sr q fun x dx s1 Hf1 H1 st1 sr1 r1 q1 => ?_
  obtain ⟨v, e, q1⟩ := optV_post q1
  unfold revD at e
  split at e
  · cases e
    obtain ⟨p, vs, rfl, h1, h2⟩ := dp_lst r1
    exact ⟨p, vs, rfl, .inl ⟨rdS sr1.sub h1, fun p' hp => newR_post sr1 q1 ⟨p', _, hp, rfl, rfl, DpAll.rev h2⟩⟩⟩
  · cases e
    obtain ⟨p, vs, rfl, h1, h2⟩ := dp_tup r1
    exact ⟨p, vs, rfl, .inr ⟨.of (sr1.sub _ _ h1), fun p' hp => newR_post sr1 q1 (.inr ⟨p', _, _, rfl, hp, rfl, rfl, DpAll.rev h2⟩)⟩⟩
  · cases e
/-! texts -/
theorem n_join {apos pz : Pos} {z : Str} {k : Nat} (hb : PEx X tb fa ca W Φ kin eb b) (hs : starEach [eb] X.env = [(false, eval eb X.env)]) (hline : (apos.endLine == pos.line) = true) : PEx X tb fa ca W Φ kin (.Call (.Attribute (.Constant (.str z) k pz) "join" apos) [eb] [] pos) (.join z b) := by
  refine PE_imp (pe_join pe_str (pe_D hb) hs rfl hline) fun σ H Q ⟨Hf, s, sr, q⟩ => ⟨⟨z, rfl⟩, ?_⟩
  unfold ev at q
  refine bindD sr q fun x dx s1 Hf1 H1 st1 sr1 r1 q1 => ?_
  split at q1
  · rename_i ys
    split at q1
    · rename_i l el
      split at q1
      · rename_i hz
        obtain ⟨p, vs, rfl, h1, h2⟩ := dp_lst r1
        rw [strs_dp el h2] at h1
        exact ⟨z, p, l, rfl, rfl, .inl (rdS sr1.sub h1), hz, newR_post sr1 q1 (.inl ⟨rfl, .str _⟩)⟩
      · exact q1.elim
    · exact q1.elim
  · exact q1.elim
theorem n_split {apos pz : Pos} {z : Str} {k : Nat} (ha : PEx X tb fa ca W Φ kin ea a) (hs : starEach [.Constant (.str z) k pz] X.env = [(false, eval (.Constant (.str z) k pz) X.env)]) (hbase : attributeBase ea "split" X.env (eval ea X.env) = eval ea X.env) (hline : (apos.endLine == pos.line) = true) :
    PEx X tb fa ca W Φ kin (.Call (.Attribute ea "split" apos) [.Constant (.str z) k pz] [] pos) (.split a z) := by
  refine PE_imp (pe_split (pe_D ha) pe_str hs hbase hline) fun σ H Q ⟨Hf, s, sr, q⟩ => ?_
  unfold ev at q
  refine bindD sr q fun x dx s1 Hf1 H1 st1 sr1 r1 q1 => ?_
  split at q1
  · rename_i t
    split at q1
    · rename_i hz
      have ex := dp_str r1
      subst ex
      exact ⟨⟨t, rfl⟩, t, z, rfl, rfl, by simpa using hz.1, by rw [← lineMax_eq]; exact hz.2, fun p hp => newR_post sr1 q1 ⟨p, _, hp, rfl, rfl, all_strs _⟩⟩
    · exact q1.elim
  · exact q1.elim
end
/-! ### calls -/
/-- what stands behind a call: what was frozen is, what was not is not; only the borrowed list has changed -/
structure Fin (w : Wd) (Hf H : Hp) (io : Option Addr) (xs : List D) (Hf' H' : Hp) : Prop where
  frz : Same Hf Hf'
  sub : Same Hf' H'
  tab : LamX.Tabs w.tb H'
  ntb : ∀ a o, Hf' a = some o → Solid o
  there : ∀ a, H a ≠ none → H' a ≠ none
  old : ∀ a o, H a = some o → Hf a = none → Solid o → ((∀ xs, o ≠ .tup xs) → Hf' a = none) ∧ (io ≠ some a → H' a = some o)
  io : ∀ a, io = some a → ∃ vs, H' a = some (.lst vs) ∧ DpAll w.K Hf' vs xs
/-- what a def promises, by its mirror: the first letter its borrowed list (where it has one) -/
def spOf (w : Wd) (io : Bool) (g : List D → List D → FRes) : Sp := fun vs H Q E => ∃ Hf cur ds us ia, Same Hf H ∧ LamX.Tabs w.tb H ∧ (∀ a o, Hf a = some o → Solid o) ∧ DpAll w.K Hf us ds ∧
  (if io = true then ∃ a ws, ia = some a ∧ vs = .ref a :: us ∧ H a = some (.lst ws) ∧ Hf a = none ∧ DpAll w.K Hf ws cur else ia = none ∧ vs = us ∧ cur = []) ∧
  match g cur ds with
  | .ok v xs => ∀ x Hf' H', Fin w Hf H ia xs Hf' H' → RpV w Hf' H' x v → (isOwn v = true → ∀ a, x = .ref a → H a = none) → Q x H'
  | .exc e xs => ∀ Hf' H', Fin w Hf H ia xs Hf' H' → match e.lim with
    | none => E (.ref (w.ca e.cls)) none H'
    | some n => ∀ d, H' d = some (.xd [("limit", .int n)]) → E (.ref (w.ca e.cls)) (some d) H'
  | .bad => False
section
variable {w : Wd} {W : WX} {Hf H Hf' H' : Hp} {s : Sl} {σ : L2.St}
theorem Fin.keep {io : Option Addr} {xs : List D} (f : Fin w Hf H io xs Hf' H') (sub : Same Hf H) {a : Addr} {o : HO} (h : H a = some o) (n : io ≠ some a) (so : Solid o) : H' a = some o := by
  cases e : Hf a with
  | none => exact (f.old a o h e so).2 n
  | some u =>
    have := sub a u e
    rw [h] at this
    cases this
    exact f.sub _ _ (f.frz _ _ e)
theorem Fin.new {io : Option Addr} {xs : List D} (f : Fin w Hf H io xs Hf' H') {a : Addr} (h : Hf' a ≠ none) : Hf a ≠ none ∨ Loose H a := by
  cases e : H a with
  | none => exact .inr (.inl e)
  | some o =>
    by_cases t : ∃ xs, o = .tup xs
    · obtain ⟨xs, t⟩ := t
      subst t
      exact .inr (.inr (.inl ⟨xs, e⟩))
    · by_cases k : Solid o
      · refine .inl fun z => ?_
        exact h ((f.old a o e z k).1 fun xs y => t ⟨xs, y⟩)
      · obtain ⟨ps, k⟩ := not_solid k
        exact .inr (.inr (.inr ⟨ps, by rw [e, k]⟩))
/-- a plain call -/
theorem Fin.stp (f : Fin w Hf H none [] Hf' H') (sr : SR w Hf s σ H) : SR w Hf' s σ H' ∧ Stp Hf s σ H Hf' s σ H' := by
  have keep : ∀ {a o}, H a = some o → Solid o → H' a = some o := fun h so => f.keep sr.sub h (fun z => nomatch z) so
  refine ⟨⟨f.sub, sr.len, fun i v e => ?_, sr.sep, f.tab, f.ntb⟩, ⟨f.frz, fun a o h _ so => keep h so, f.there, fun a h => .inl h, fun a h => (f.new h).elim .inl fun z => .inr (.inr z)⟩⟩
  · obtain ⟨x, e1, r⟩ := sr.sl i v e
    refine ⟨x, e1, r.mono f.frz fun a ov ea => ?_⟩
    subst ea
    obtain ⟨b, eb, r1, r2⟩ := r.addr ov
    cases eb
    cases q : H a with
    | none => exact absurd q r2
    | some o => exact ⟨keep q (r.solid ov q), (f.old a o q r1 (r.solid ov q)).1 fun xs z => r.nt ov (.inr (.inl ⟨xs, by rw [q, z]⟩))⟩
/-- a call that borrows the list of slot i -/
theorem Fin.stpIo {i : Nat} {cur xs : List D} {a : Addr} (f : Fin w Hf H (some a) xs Hf' H') (sr : SR w Hf s σ H) (e : slGet s i = some (.own cur)) (e1 : σ[i]? = some (some (.ref a))) :
    SR w Hf' (s.set i (some (.own xs))) σ H' ∧ Stp Hf s σ H Hf' (s.set i (some (.own xs))) σ H' := by
  have keep : ∀ {b o}, H b = some o → b ≠ a → Solid o → H' b = some o := fun h n so => f.keep sr.sub h (fun z => n (Option.some.inj z).symm) so
  have oa : Own s σ a := ⟨i, _, e, rfl, e1⟩
  obtain ⟨vs, hv, rv⟩ := f.io a rfl
  have ha := sr.own oa
  have hfa : Hf' a = none := by
    cases q : H a with
    | none => exact absurd q ha.2
    | some o =>
      obtain ⟨x, ex, rx⟩ := sr.sl i _ e
      rw [e1] at ex
      cases ex
      refine (f.old a o q ha.1 (rx.solid rfl q)).1 fun xs z => ?_
      exact rx.nt rfl (.inr (.inl ⟨xs, by rw [q, z]⟩))
  have hi := slGet_lt e
  have g : ∀ {j u}, slGet (s.set i (some (.own xs))) j = some u → (j = i ∧ u = .own xs) ∨ (j ≠ i ∧ slGet s j = some u) := fun {j u} q => by
    rw [slGet_set] at q
    split at q
    · rename_i hh
      cases q
      exact .inl ⟨hh.1.symm, rfl⟩
    · rename_i hh
      exact .inr ⟨fun z => hh ⟨z.symm, hi⟩, q⟩
  have ow : ∀ {j u}, slGet (s.set i (some (.own xs))) j = some u → isOwn u = true → ∃ u', slGet s j = some u' ∧ isOwn u' = true := fun {j u} q o => by
    rcases g q with ⟨rfl, rfl⟩ | ⟨_, q⟩
    · exact ⟨_, e, rfl⟩
    · exact ⟨u, q, o⟩
  refine ⟨⟨f.sub, by rw [List.length_set]; exact sr.len, fun j u q => ?_, fun j k u t b q1 q2 o1 o2 => ?_, f.tab, f.ntb⟩, ⟨f.frz, fun b o h no so => keep h (fun z => no (by rw [z]; exact oa)) so, f.there, fun b ⟨j, u, q, o, z⟩ => .inl ?_, fun b h => (f.new h).elim .inl fun z => .inr (.inr z)⟩⟩
  · rcases g q with ⟨rfl, rfl⟩ | ⟨nj, q⟩
    · exact ⟨_, e1, a, vs, rfl, hv, hfa, rv⟩
    · obtain ⟨x, e2, r⟩ := sr.sl j u q
      refine ⟨x, e2, r.mono f.frz fun b ov eb => ?_⟩
      subst eb
      obtain ⟨c, ec, r1, r2⟩ := r.addr ov
      cases ec
      cases q' : H b with
      | none => exact absurd q' r2
      | some o => exact ⟨keep q' (fun z => nj (by subst z; exact sr.sep j i u _ _ q e ov rfl e2 e1)) (r.solid ov q'), (f.old b o q' r1 (r.solid ov q')).1 fun xs z => r.nt ov (.inr (.inl ⟨xs, by rw [q', z]⟩))⟩
  · obtain ⟨u', q1', o1'⟩ := ow q1 o1
    obtain ⟨t', q2', o2'⟩ := ow q2 o2
    exact sr.sep j k u' t' b q1' q2' o1' o2'
  · obtain ⟨u', q', o'⟩ := ow q o
    exact ⟨j, u', q', o', z⟩
end
theorem Fin.noio {w : Wd} {Hf H Hf' H' : Hp} {xs : List D} (f : Fin w Hf H none xs Hf' H') : Fin w Hf H none [] Hf' H' := ⟨f.frz, f.sub, f.tab, f.ntb, f.there, f.old, fun _ z => nomatch z⟩
section
variable {X : Cx} {tb : Tbs} {fa ca : Nat → Addr} {W : WX} {Φ : Fs} {kin : Exn → D} {i : Nat} {x : Str} {pos : Pos} {a b c : Ex} {ea eb ec : Expr} {es rest : List Expr}
/-- the def number f, as it may be called -/
structure Fok (X : Cx) (tb : Tbs) (fa ca : Nat → Addr) (k : Nat) (io : Bool) (g : List D → List D → FRes) (f : Nat) : Prop where
  ok : ∃ fd ps, FnOk X.prog X.w X.K X.mg X.base (L2N.CX X.prog X.w) k (fa f) fd ps (spOf (Wx X tb fa ca) io g) ∧ Binds X.K fd ps []
  kp : PySem.W.keepIn X.K (.ref (fa f)) = true
structure Nm (X : Cx) (fa : Nat → Addr) (x : Str) (f : Nat) : Prop where
  g : Gl X x
  m : X.mg x = some (.ref (fa f))
  d : (x == ("__debug__" : Str)) = false
theorem ofF_post {f : Nat} {ys us' : List D} {s : Sl} {σ : L2.St} {Hf H : Hp} {us : List V} {Q : VK} (sr : SR (Wx X tb fa ca) Hf s σ H) (r : DpAll X.K Hf us ys) (q : PostE (Wx X tb fa ca) W Hf s σ H (ofF (Φ f [] ys) s) Q) : spOf (Wx X tb fa ca) false (Φ f) us H Q (WE W σ) := by
  refine ⟨Hf, [], ys, us, none, sr.sub, sr.tab, sr.ntb, r, by rw [if_neg Bool.false_ne_true]; exact ⟨rfl, rfl, rfl⟩, ?_⟩
  unfold ofF at q
  cases e : Φ f [] ys with
  | bad => rw [e] at q; exact q
  | ok v xs =>
    rw [e] at q
    intro x Hf' H' fin rp fr
    obtain ⟨sr2, st2⟩ := fin.noio.stp sr
    exact q x Hf' H' st2 sr2 rp fun o a ea => ⟨.inl (fr o a ea), sr.notOwn (fr o a ea)⟩
  | exc z xs =>
    rw [e] at q
    intro Hf' H' fin
    obtain ⟨sr2, st2⟩ := fin.noio.stp sr
    exact q Hf' H' st2 sr2
theorem n_call {f : Nat} {k : Nat} (F : Fok X tb fa ca k false (Φ f) f) (hr : Room k X.A) (tk : L2N.Takes X W) (n : Nm X fa x f) {p : Pos} (h : PAx X tb fa ca W Φ kin (ea :: es) a) (hp : Plain X ea es pos) : PEx X tb fa ca W Φ kin (.Call (.Name x p) (ea :: es) [] pos) (.call f a) := by
  obtain ⟨fd, ps, ok, bi⟩ := F.ok
  refine PE_imp (pe_callS (E := WE W) ok hr n.g n.m F.kp bi (fun σ => L2N.passAt tk σ) h n.d hp.he hp.hpl) fun σ H Q ⟨Hf, s, sr, q⟩ => ?_
  unfold ev at q
  exact bindA sr q fun xs ys s1 Hf1 H1 st1 sr1 r1 q1 => ofF_post (us' := []) sr1 r1 q1
theorem pe_callS0 {CX : CXT} {k : Nat} {f : Addr} {fd : FuncData} {ps : List Str} {sp : Sp} {E : L2.St → XK} {q : Pos} (F : FnOk X.prog X.w X.K X.mg X.base CX k f fd ps sp) (hr : Room k X.A) (hg : Gl X x) (hm : X.mg x = some (.ref f)) (hk : PySem.W.keepIn X.K (.ref f) = true) (hb : Binds X.K fd ps []) (hx : ∀ σ, PassesAt CX X σ (E σ))
    (hdb : (x == ("__debug__" : Str)) = false) : PE X (.Call (.Name x q) [] [] pos) (tCallS sp E tNil) := by
  refine ⟨fun pins s σ H Q I h => ?_⟩
  refine wpAny_Call_Name_kw (ld_glob I hg hm ?_ hdb)
  exact PySem.W.callWith_K0 I.kIn hk (run_fnS F hr hb (hx σ) I .nil h)
end
end Ir

set_option Elab.async false
set_option linter.all false
set_option maxRecDepth 100000
set_option maxHeartbeats 4000000
/-! Calls that borrow, displays, targets. -/
namespace Ir
open PySem PySem.Spec PyProof.Rows L2

section
variable {X : Cx} {tb : Tbs} {fa ca : Nat → Addr} {W : WX} {Φ : Fs} {kin : Exn → D} {i : Nat} {x : Str} {pos : Pos} {a b c : Ex} {ea eb ec : Expr} {es rest : List Expr}
theorem n_call0 {f : Nat} {k : Nat} (F : Fok X tb fa ca k false (Φ f) f) (hr : Room k X.A) (tk : L2N.Takes X W) (n : Nm X fa x f) {p : Pos} : PEx X tb fa ca W Φ kin (.Call (.Name x p) [] [] pos) (.call f .nil) := by
  obtain ⟨fd, ps, ok, bi⟩ := F.ok
  refine PE_imp (pe_callS0 (E := WE W) ok hr n.g n.m F.kp bi (fun σ => L2N.passAt tk σ) n.d) fun σ H Q ⟨Hf, s, sr, q⟩ => ?_
  unfold ev evs Res.bind at q
  exact ofF_post (us' := []) sr .nil q
theorem ofIo_post {f : Nat} {ys cur : List D} {s : Sl} {σ : L2.St} {Hf H : Hp} {us : List V} {v : V} {Q : VK} (sr : SR (Wx X tb fa ca) Hf s σ H) (r : DpAll X.K Hf us ys) (e : slGet s i = some (.own cur)) (ev : σ[i]? = some (some v)) (q : PostE (Wx X tb fa ca) W Hf s σ H (ofIo i (Φ f cur ys) s) Q) :
    spOf (Wx X tb fa ca) true (Φ f) (v :: us) H Q (WE W σ) := by
  obtain ⟨y, e1, p, ws, rfl, h1, h2, h3⟩ := sr.sl i _ e
  rw [ev] at e1
  cases e1
  refine ⟨Hf, cur, ys, us, some p, sr.sub, sr.tab, sr.ntb, r, by rw [if_pos rfl]; exact ⟨p, ws, rfl, rfl, h1, h2, h3⟩, ?_⟩
  unfold ofIo at q
  cases e2 : Φ f cur ys with
  | bad => rw [e2] at q; exact q
  | ok v xs =>
    rw [e2] at q
    intro x Hf' H' fin rp fr
    obtain ⟨sr2, st2⟩ := fin.stpIo sr e ev
    exact q x Hf' H' st2 sr2 rp fun o a ea => ⟨.inl (fr o a ea), fun ow => by
      rcases st2.own a ow with z | z
      · exact sr.notOwn (fr o a ea) z
      · obtain ⟨j, u, q1, q2, q3⟩ := ow
        by_cases hj : j = i
        · subst hj
          rw [ev] at q3
          cases q3
          rw [h1] at z
          cases z
        · rw [slGet_set] at q1
          split at q1
          · rename_i hh
            exact hj hh.1.symm
          · exact sr.notOwn (fr o a ea) ⟨j, u, q1, q2, q3⟩⟩
  | exc z xs =>
    rw [e2] at q
    intro Hf' H' fin
    obtain ⟨sr2, st2⟩ := fin.stpIo sr e ev
    exact q Hf' H' st2 sr2
theorem n_io {f : Nat} {k : Nat} (F : Fok X tb fa ca k true (Φ f) f) (hr : Room k X.A) (tk : L2N.Takes X W) {y : Str} (n : Nm X fa y f) {p pn : Pos} (hv : PE X (.Name x pn) (tVar i)) (h : PAx X tb fa ca W Φ kin es a) (hp : Plain X (.Name x pn) es pos) : PEx X tb fa ca W Φ kin (.Call (.Name y p) (.Name x pn :: es) [] pos) (.io f i a) := by
  obtain ⟨fd, ps, ok, bi⟩ := F.ok
  refine PE_imp (pe_callS (E := WE W) ok hr n.g n.m F.kp bi (fun σ => L2N.passAt tk σ) (pa_cons hv h hp.he) n.d hp.he hp.hpl) fun σ H Q ⟨Hf, s, sr, q⟩ => ?_
  unfold ev at q
  split at q
  · rename_i hh
    obtain ⟨u, eu⟩ := sr.has hh
    refine ⟨u, eu, bindA sr q fun xs ys s1 Hf1 H1 st1 sr1 r1 q1 => ?_⟩
    split at q1
    · rename_i cur e
      exact ofIo_post sr1 r1 e eu q1
    · exact q1.elim
  · exact q.elim
/-- x(..), x a name that holds one of several defs -/
theorem pe_callLS {CX : CXT} {k : Nat} {f : Addr} {fd : FuncData} {ps : List Str} {sp : Sp} {E : L2.St → XK} {q : Pos} {t : TA} (F : FnOk X.prog X.w X.K X.mg X.base CX k f fd ps sp) (hr : Room k X.A) (hv : PE X (.Name x q) (tVar i)) (hk : PySem.W.keepIn X.K (.ref f) = true) (hb : Binds X.K fd ps []) (hx : ∀ σ, PassesAt CX X σ (E σ))
    (ha : PA X (ea :: es) t) (hp : Plain X ea es pos) : PE X (.Call (.Name x q) (ea :: es) [] pos) (fun σ H Q => σ[i]? = some (some (.ref f)) ∧ tCallS sp E t σ H Q) := by
  refine ⟨fun pins s σ H Q I h => ?_⟩
  obtain ⟨hs, ht⟩ := h
  refine wpAny_Call_Name_kw (thn (hv.run pins s σ H (fun v H1 => v = .ref f ∧ H1 = H) I ⟨.ref f, hs, rfl, rfl⟩) fun u s1 ⟨v, H1, I1, r1, q1⟩ => ?_)
  obtain ⟨ev, eH⟩ := q1
  subst ev eH
  obtain rfl : u = Value.ref f := r1
  refine PySem.W.callWith_K (h₀ := X.base) I.ok.mod.kin hk (thn (ha.run pos pins s1 σ _ _ I1 ht) fun us s2 ⟨vs, H2, I2, r, q⟩ => ⟨I2.kIn, ?_⟩) hp.he hp.hpl
  exact run_fnS F hr hb (hx σ) I2 r q
theorem PE_ex {α : Type} {e : Expr} {t : α → TE} {P : α → Prop} (h : ∀ f, P f → PE X e (t f)) : PE X e (fun σ H Q => ∃ f, P f ∧ t f σ H Q) := ⟨fun pins s σ H Q I ⟨f, p, q⟩ => (h f p).run pins s σ H Q I q⟩
theorem n_callV {k : Nat} {fs : List Nat} (F : ∀ f ∈ fs, Fok X tb fa ca k false (Φ f) f) (hr : Room k X.A) (tk : L2N.Takes X W) {q : Pos} (hv : PE X (.Name x q) (tVar i)) (h : PAx X tb fa ca W Φ kin (ea :: es) a) (hp : Plain X ea es pos) : PEx X tb fa ca W Φ kin (.Call (.Name x q) (ea :: es) [] pos) (.callV i fs a) := by
  have key : ∀ f, f ∈ fs → PE X (.Call (.Name x q) (ea :: es) [] pos) (fun σ H Q => σ[i]? = some (some (.ref (fa f))) ∧ tCallS (spOf (Wx X tb fa ca) false (Φ f)) (WE W) (tAr (Wx X tb fa ca) W (evs Φ kin a)) σ H Q) := fun f hf => by
    obtain ⟨fd, ps, ok, bi⟩ := (F f hf).ok
    exact pe_callLS (E := WE W) ok hr hv (F f hf).kp bi (fun σ => L2N.passAt tk σ) h hp
  refine PE_imp (PE_ex (P := fun f => f ∈ fs) key) fun σ H Q ⟨Hf, s, sr, q⟩ => ?_
  unfold ev at q
  split at q
  · rename_i f e
    split at q
    · rename_i hf
      obtain ⟨y, e1, r⟩ := sr.sl i _ e
      have r : y = .ref (fa f) := r
      subst r
      exact ⟨f, List.elem_iff.mp hf, e1, bindA sr q fun xs ys s1 Hf1 H1 st1 sr1 r1 q1 => ofF_post (us' := []) sr1 r1 q1⟩
    · exact q.elim
  · exact q.elim

/-! ### displays of dicts -/
def PostP (w : Wd) (W : WX) (Hf : Hp) (s : Sl) (σ : L2.St) (H : Hp) (r : Res (List (Key × D))) (Q : List (Key × V) → List (Key × D) → Sl → Hp → Hp → Prop) : Prop := match r with
  | .ok ys s' => ∀ xs Hf' H', Stp Hf s σ H Hf' s' σ H' → SR w Hf' s' σ H' → KVD w.K Hf' xs ys → Q xs ys s' Hf' H'
  | .exc e s' => PostX w W Hf s σ H e s'
  | .bad => False
theorem PostP.after {w : Wd} {Hf H Hf1 H1 : Hp} {s s1 : Sl} {σ : L2.St} {r : Res (List (Key × D))} {Q : List (Key × V) → List (Key × D) → Sl → Hp → Hp → Prop} (h : PostP w W Hf s σ H r Q) (a : Stp Hf s σ H Hf1 s1 σ H1) : PostP w W Hf1 s1 σ H1 r Q := by
  unfold PostP at h ⊢
  cases r with
  | bad => exact h
  | exc x s' => exact PostX.after h a
  | ok v s' => exact fun x Hf' H' st sr r => h x Hf' H' (a.trans st) sr r
/-- the pairs of a display -/
structure PPx (X : Cx) (tb : Tbs) (fa ca : Nat → Addr) (W : WX) (Φ : Fs) (kin : Exn → D) (pos : Pos) (ks : List (Option Expr)) (vs : List Expr) (ir : Ex) : Prop where
  ex : ∃ trs, PPs X pos ks vs trs ∧ ∀ σ H Hf s (R : List (V × V) → Hp → Prop), SR (Wx X tb fa ca) Hf s σ H → PostP (Wx X tb fa ca) W Hf s σ H (evp Φ kin ir s) (fun kvs _ _ _ H' => R (kvs.map fun kv => (kV kv.1, kv.2)) H') → tPairs trs σ H R
theorem n_pnil : PPx X tb fa ca W Φ kin pos [] [] .nil := ⟨[], pps_nil, fun σ H Hf s R sr q => by
  unfold evp at q
  exact q [] Hf H .refl sr .nil⟩
theorem n_pcons {ks : List (Option Expr)} {vs : List Expr} (ha : PEx X tb fa ca W Φ kin ea a) (hb : PEx X tb fa ca W Φ kin eb b) (hc : PPx X tb fa ca W Φ kin pos ks vs c) : PPx X tb fa ca W Φ kin pos (some ea :: ks) (eb :: vs) (.pair a b c) := by
  obtain ⟨trs, h1, h2⟩ := hc.ex
  refine ⟨_, pps_cons (pe_D ha) (pe_D hb) h1, fun σ H Hf s R sr q => ?_⟩
  show tD (Wx X tb fa ca) W (ev Φ kin a) σ H _
  refine ⟨Hf, s, sr, ?_⟩
  unfold PostD
  unfold evp Res.dat Res.bind at q
  cases e1 : ev Φ kin a s with
  | bad => rw [e1] at q; exact q
  | exc z s1 => rw [e1] at q; exact q
  | ok v1 s1 =>
    rw [e1] at q
    dsimp only at q ⊢
    cases t1 : v1.toD with
    | none => rw [t1] at q; exact q
    | some y1 =>
      rw [t1] at q
      intro x1 Hf1 H1 st1 sr1 r1
      refine ⟨Hf1, s1, sr1, ?_⟩
      unfold PostD
      dsimp only at q
      cases e2 : ev Φ kin b s1 with
      | bad => rw [e2] at q; exact q
      | exc z s2 => rw [e2] at q; exact PostX.after q st1
      | ok v2 s2 =>
        rw [e2] at q
        dsimp only at q ⊢
        cases t2 : v2.toD with
        | none => rw [t2] at q; exact q
        | some y2 =>
          rw [t2] at q
          dsimp only at q
          intro x2 Hf2 H2 st2 sr2 r2
          refine h2 σ H2 Hf2 s2 (fun ps H3 => R ((x1, x2) :: ps) H3) sr2 ?_
          have q' := PostP.after q (st1.trans st2)
          unfold PostP at q' ⊢
          cases e3 : evp Φ kin c s2 with
          | bad => rw [e3] at q'; exact q'
          | exc z s3 => rw [e3] at q'; exact q'
          | ok ds s3 =>
            rw [e3] at q'
            dsimp only at q'
            cases kk : keyD y1 with
            | none => rw [kk] at q'; exact q'.elim
            | some k =>
              rw [kk] at q'
              dsimp only at q' ⊢
              intro kvs Hf3 H3 st3 sr3 r3
              have := q' ((k, x2) :: kvs) Hf3 H3 st3 sr3 (.cons ⟨rfl, Dp.mono st3.frz r2⟩ r3)
              rw [keyD_V r1 kk]
              exact this
theorem KVD.put {κ : Type} [DecidableEq κ] {K : PySem.W.Frag} {H : Hp} {a : List (κ × V)} {b : List (κ × D)} (h : KVD K H a b) (k : κ) {v : V} {z : D} (r : Dp K H v z) : KVD K H (putK a k v) (dput b k z) := by
  have hany : ∀ {a : List (κ × V)} {b : List (κ × D)}, KVD K H a b → (a.any fun kv => decide (kv.1 = k)) = b.any fun kv => decide (kv.1 = k) := fun {a b} h => by
    induction h with
    | nil => rfl
    | @cons p q r t hh hr ih => rw [List.any_cons, List.any_cons, ih, hh.1]
  have hmap : ∀ {a : List (κ × V)} {b : List (κ × D)}, KVD K H a b → KVD K H (a.map fun kv => if kv.1 = k then (kv.1, v) else kv) (b.map fun kv => if kv.1 = k then (kv.1, z) else kv) := fun {a b} h => by
    induction h with
    | nil => exact .nil
    | @cons p q r' t hh hr ih =>
      refine .cons ?_ ih
      obtain ⟨h1, h2⟩ := hh
      by_cases e : q.1 = k
      · have e' : p.1 = k := h1.trans e
        simp only [if_pos e, if_pos e']
        exact ⟨h1, r⟩
      · have e' : ¬ p.1 = k := fun z => e (h1.symm.trans z)
        simp only [if_neg e, if_neg e']
        exact ⟨h1, h2⟩
  have happ : ∀ {a : List (κ × V)} {b : List (κ × D)}, KVD K H a b → KVD K H (a ++ [(k, v)]) (b ++ [(k, z)]) := fun {a b} h => by
    induction h with
    | nil => exact .cons ⟨rfl, r⟩ .nil
    | cons hh hr ih => exact .cons hh ih
  unfold putK dput
  rw [hany h]
  split
  · exact hmap h
  · exact happ h
theorem KVD.merge {K : PySem.W.Frag} {H : Hp} {more : List (Key × V)} {mb : List (Key × D)} (h : KVD K H more mb) : ∀ {a : List (Key × V)} {b : List (Key × D)}, KVD K H a b → KVD K H (mergeK a more) (mb.foldl (fun acc kv => dput acc kv.1 kv.2) b) := by
  unfold mergeK
  induction h with
  | nil => exact fun h => h
  | @cons p q r t hh hr ih =>
    intro a b hab
    rw [List.foldl_cons, List.foldl_cons]
    rw [hh.1]
    exact ih (hab.put q.1 hh.2)
theorem n_disp {ks : List (Option Expr)} {vs : List Expr} (h : PPx X tb fa ca W Φ kin pos ks vs a) (hall : ks.all (·.isSome) = true) (hl : ks.length = vs.length) (h0 : ks ≠ []) (h15 : ks.length ≤ 15) : PEx X tb fa ca W Φ kin (.Dict ks vs pos) (.disp a) := by
  obtain ⟨trs, h1, h2⟩ := h.ex
  refine PE_imp (pe_disp h1 hall hl h0 h15) fun σ H Q ⟨Hf, s, sr, q⟩ => fun p hp => ?_
  obtain ⟨sr0, st0⟩ := sr.newO (o := .dK []) hp
  refine h2 σ _ Hf s _ sr0 ?_
  unfold ev Res.bind at q
  unfold PostP
  cases e : evp Φ kin a s with
  | bad => rw [e] at q; exact q
  | exc z s1 => rw [e] at q; exact PostX.after q st0
  | ok ds s1 =>
    rw [e] at q
    dsimp only at q ⊢
    intro kvs Hf1 H1 st1 sr1 r1
    have no0 : ¬ Own s σ p := sr.notOwn hp
    have hH1 : H1 p = some (.dK []) := st1.keep p _ upd_same no0 so_dK
    split at q
    · rename_i hle
      have hf1 : Hf1 p = none := by
        cases z : Hf1 p with
        | none => rfl
        | some o =>
          rcases st1.new p (by rw [z]; exact fun k => nomatch k) with y | y | y
          · exact absurd (sr.free hp) y
          · exact absurd y no0
          · rcases y with y | ⟨_, y⟩ | ⟨_, y⟩ <;> (rw [upd_same] at y; cases y)
      have no1 : ¬ Own s1 σ p := fun z => (st1.own p z).elim no0 fun y => by rw [upd_same] at y; cases y
      refine ⟨hH1, kvs, rfl, by rw [r1.len]; exact hle, ?_⟩
      -- the display holds its pairs
      have rv : KVD X.K Hf1 (mergeK [] kvs) (mergeL ds) := r1.merge .nil
      have sub : Same Hf1 (upd H1 p (.dK (mergeK [] kvs))) := fun b u z => by
        rw [upd_ne (ne_of_none z hf1)]
        exact sr1.sub b u z
      have sr2 : SR (Wx X tb fa ca) Hf1 s1 σ (upd H1 p (.dK (mergeK [] kvs))) := by
        refine ⟨sub, sr1.len, fun j v z => ?_, sr1.sep, tabs_ext sr1.tab fun b u z tu => by
          rw [upd_ne fun y => by rw [y, hH1] at z; cases z; exact tu.elim (fun ⟨_, k⟩ => nomatch k) fun ⟨_, k⟩ => nomatch k]
          exact z, sr1.ntb⟩
        obtain ⟨y, e1, r⟩ := sr1.sl j v z
        refine ⟨y, e1, r.mono (Same.refl _) fun b ob eb => ?_⟩
        subst eb
        obtain ⟨c, ec, r3, r4⟩ := r.addr ob
        cases ec
        exact ⟨upd_ne fun y => no1 (by rw [← y]; exact ⟨j, v, z, ob, e1⟩), r3⟩
      have st2 : Stp Hf s σ H Hf1 s1 σ (upd H1 p (.dK (mergeK [] kvs))) := by
        have t := st0.trans st1
        refine ⟨t.frz, fun b u z n so => ?_, fun b z => ?_, t.own, t.new⟩
        · rw [upd_ne (ne_of_none z hp)]
          exact t.keep b u z n so
        · by_cases y : b = p
          · rw [y, upd_same]
            exact fun k => nomatch k
          · rw [upd_ne y]
            exact t.there b z
      exact q (.ref p) Hf1 _ st2 sr2 ⟨p, _, rfl, upd_same, hf1, rv⟩ fun _ b eb => by
        cases eb
        exact ⟨.inl hp, no1⟩
    · exact q.elim

/-! ### targets -/
def tgSlots : Tg → List Nat
  | .nm i => [i]
  | .nil => []
  | .cons a b => tgSlots a ++ tgSlots b
  | .tup a => tgSlots a
/-- the slots off the target stay -/
def Off (vs : List Nat) (σ σ' : L2.St) : Prop := σ'.length = σ.length ∧ ∀ j, j ∉ vs → σ'[j]? = σ[j]?
def gT (w : Wd) (t : Tg) : TG := fun v σ H Q => ∃ Hf s d, SR w Hf s σ H ∧ Dp w.K Hf v d ∧ match tgSet t [d] s with
  | some s' => ∀ σ', Off (tgSlots t) σ σ' → SR w Hf s' σ' H → Stp Hf s σ H Hf s' σ' H → Q σ' H
  | none => False
def gTs (w : Wd) (t : Tg) : TGs := fun vs σ H Q => ∃ Hf s ds, SR w Hf s σ H ∧ DpAll w.K Hf vs ds ∧ match tgSet t ds s with
  | some s' => ∀ σ', Off (tgSlots t) σ σ' → SR w Hf s' σ' H → Stp Hf s σ H Hf s' σ' H → Q σ' H
  | none => False
/-- data put into a slot -/
theorem SR.put {w : Wd} {Hf H : Hp} {s : Sl} {σ : L2.St} {v : V} {d : D} (h : SR w Hf s σ H) (hi : i < s.length) (r : Dp w.K Hf v d) : SR w Hf (s.set i (some (.d d))) (σ.set i (some v)) H ∧ Stp Hf s σ H Hf (s.set i (some (.d d))) (σ.set i (some v)) H := by
  have hiσ : i < σ.length := by rw [← h.len]; exact hi
  have g : ∀ {j u}, slGet (s.set i (some (.d d))) j = some u → (j = i ∧ u = .d d) ∨ (j ≠ i ∧ slGet s j = some u) := fun {j u} q => by
    rw [slGet_set] at q
    split at q
    · rename_i hh
      cases q
      exact .inl ⟨hh.1.symm, rfl⟩
    · rename_i hh
      exact .inr ⟨fun z => hh ⟨z.symm, hi⟩, q⟩
  refine ⟨⟨h.sub, by rw [List.length_set, List.length_set]; exact h.len, fun j u q => ?_, fun j k u t b q1 q2 o1 o2 e1 e2 => ?_, h.tab, h.ntb⟩, ⟨Same.refl _, fun _ _ q _ _ => q, fun _ q => q, fun b ⟨j, u, q, o, z⟩ => ?_, fun _ q => .inl q⟩⟩
  · rcases g q with ⟨rfl, rfl⟩ | ⟨nj, q⟩
    · exact ⟨v, List.getElem?_set_self hiσ, r⟩
    · obtain ⟨x, e1, rx⟩ := h.sl j u q
      exact ⟨x, by rw [List.getElem?_set_ne (Ne.symm nj)]; exact e1, rx⟩
  · rcases g q1 with ⟨_, rfl⟩ | ⟨n1, q1⟩
    · cases o1
    · rcases g q2 with ⟨_, rfl⟩ | ⟨n2, q2⟩
      · cases o2
      · rw [List.getElem?_set_ne (Ne.symm n1)] at e1
        rw [List.getElem?_set_ne (Ne.symm n2)] at e2
        exact h.sep j k u t b q1 q2 o1 o2 e1 e2
  · rcases g q with ⟨_, rfl⟩ | ⟨n1, q⟩
    · cases o
    · rw [List.getElem?_set_ne (Ne.symm n1)] at z
      exact .inl ⟨j, u, q, o, z⟩
theorem off_set {σ : L2.St} {v : Option V} : Off [i] σ (σ.set i v) := ⟨List.length_set, fun j hj => List.getElem?_set_ne fun z => hj (by simp [z])⟩
theorem Off.trans {a b : List Nat} {σ σ1 σ2 : L2.St} (h : Off a σ σ1) (k : Off b σ1 σ2) : Off (a ++ b) σ σ2 :=
  ⟨k.1.trans h.1, fun j hj => (k.2 j fun z => hj (List.mem_append_right _ z)).trans (h.2 j fun z => hj (List.mem_append_left _ z))⟩
theorem PG_imp {e : Expr} {g g' : TG} (h : PG X e g) (k : ∀ v σ H Q, g' v σ H Q → g v σ H Q) : PG X e g' := ⟨fun pins s σ H v u Q I r q => h.run pins s σ H v u Q I r (k v σ H Q q)⟩
theorem PGs_imp {e : List Expr} {g g' : TGs} (h : PGs X e g) (k : ∀ v σ H Q, g' v σ H Q → g v σ H Q) : PGs X e g' := ⟨fun pins s σ H v u Q I r q => h.run pins s σ H v u Q I r (k v σ H Q q)⟩
theorem n_gnm (h : PG X (.Name x pos) (gName i)) : PG X (.Name x pos) (gT (Wx X tb fa ca) (.nm i)) := by
  refine PG_imp h fun v σ H Q ⟨Hf, s, d, sr, r, q⟩ => ?_
  unfold tgSet at q
  by_cases hi : i < s.length
  · rw [if_pos hi] at q
    obtain ⟨sr2, st2⟩ := sr.put hi r
    exact q _ off_set sr2 st2
  · rw [if_neg hi] at q
    exact q.elim
theorem n_gnil : PGs X [] (gTs (Wx X tb fa ca) .nil) := by
  refine PGs_imp pgs_nil fun v σ H Q ⟨Hf, s, d, sr, r, q⟩ => ?_
  cases r with
  | nil =>
    unfold tgSet at q
    exact ⟨rfl, q σ ⟨rfl, fun _ _ => rfl⟩ sr .refl⟩
  | cons _ _ =>
    unfold tgSet at q
    exact q.elim
theorem n_gcons {t t2 : Tg} (h1 : PG X ea (gT (Wx X tb fa ca) t)) (h2 : PGs X es (gTs (Wx X tb fa ca) t2)) (hs : (assignEach (ea :: es) X.env).map (·.2) = assign ea X.env :: (assignEach es X.env).map (·.2)) : PGs X (ea :: es) (gTs (Wx X tb fa ca) (.cons t t2)) := by
  refine PGs_imp (pgs_cons h1 h2 hs) fun v σ H Q ⟨Hf, s, d, sr, r, q⟩ => ?_
  cases r with
  | nil =>
    unfold tgSet at q
    exact q.elim
  | @cons v0 vr d0 dr r0 rr =>
    refine ⟨v0, vr, rfl, Hf, s, d0, sr, r0, ?_⟩
    unfold tgSet at q
    cases e : tgSet t [d0] s with
    | none => rw [e] at q; exact q
    | some s1 =>
      rw [e] at q
      dsimp only at q ⊢
      intro σ1 o1 sr1 st1
      refine ⟨Hf, s1, dr, sr1, rr, ?_⟩
      cases e2 : tgSet t2 dr s1 with
      | none => rw [e2] at q; exact q
      | some s2 =>
        rw [e2] at q
        exact fun σ2 o2 sr2 st2 => q σ2 (o1.trans o2) sr2 (st1.trans st2)
theorem tgSet_len : ∀ {t : Tg} {ds : List D} {s s' : Sl} {es : List Expr} {X : Cx} {tb : Tbs} {fa ca : Nat → Addr}, tgSet t ds s = some s' → True := fun _ => trivial
def tgLen : Tg → Nat
  | .cons _ b => tgLen b + 1
  | _ => 0
def tgChain : Tg → Bool
  | .nil => true
  | .cons _ b => tgChain b
  | _ => false
theorem tgSet_n : ∀ {t : Tg} {ds : List D} {s s' : Sl}, tgChain t = true → tgSet t ds s = some s' → ds.length = tgLen t
  | .nil, ds, s, s', _, h => by
    cases ds with
    | nil => rfl
    | cons _ _ => simp [tgSet] at h
  | .cons a b, ds, s, s', hc, h => by
    cases ds with
    | nil => simp [tgSet] at h
    | cons d r =>
      unfold tgSet at h
      cases e : tgSet a [d] s with
      | none => rw [e] at h; cases h
      | some s1 =>
        rw [e] at h
        have := tgSet_n (t := b) (by simpa [tgChain] using hc) h
        show r.length + 1 = tgLen b + 1
        rw [this]
  | .nm _, _, _, _, hc, _ => by simp [tgChain] at hc
  | .tup _, _, _, _, hc, _ => by simp [tgChain] at hc
theorem n_gtup {t : Tg} {k : Nat} (hc : X.calm = true) (h : PGs X es (gTs (Wx X tb fa ca) t)) (hn : (assignEach es X.env).length = tgLen t) (hst : (assignEach es X.env).findIdx? (·.1) = none) (hch : tgChain t = true) : PG X (.Tuple es k pos) (gT (Wx X tb fa ca) (.tup t)) := by
  refine PG_imp (pg_tup hc h hn hst) fun v σ H Q ⟨Hf, s, d, sr, r, q⟩ => ?_
  cases d with
  | tuple ds =>
    obtain ⟨a, vs, rfl, h1, h2⟩ := dp_tup r
    unfold tgSet at q
    cases e : tgSet t ds s with
    | none => rw [e] at q; exact q.elim
    | some s' =>
      rw [e] at q
      refine ⟨a, vs, rfl, .of (sr.sub _ _ h1), by rw [DpAll.len h2]; exact tgSet_n hch e, Hf, s, ds, sr, h2, ?_⟩
      rw [e]
      exact q
  | _ => exact q.elim
end
end Ir

set_option Elab.async false
set_option linter.all false
set_option maxRecDepth 100000
set_option maxHeartbeats 4000000
/-! What is walked; comprehensions. -/
namespace Ir
open PySem PySem.Spec PyProof.Rows L2

/-- J walks the items, wherever what was frozen at Hf stands -/
structure Wk (K : PySem.W.Frag) (Hf : Hp) (J : It) (items : List D) : Prop where
  stop : ∀ H, Same Hf H → J.stop items.length H
  go : ∀ i H, i < items.length → Same Hf H → J.go i H
  yld : ∀ i d x H H', items[i]? = some d → Same Hf H → J.yld i H x H' → NewR K Hf H (.d d) x H'
def PostI (w : Wd) (W : WX) (Hf : Hp) (s : Sl) (σ : L2.St) (H : Hp) (r : Res Val) (R : It → Hp → Prop) : Prop := match r with
  | .ok v s' => match v with
    | .d (.list items) => ∀ J Hf' H', Stp Hf s σ H Hf' s' σ H' → SR w Hf' s' σ H' → Wk w.K Hf' J items → R J H'
    | _ => False
  | .exc e s' => PostX w W Hf s σ H e s'
  | .bad => False
def tIt (w : Wd) (W : WX) (f : Evl) : TI := fun σ H R => ∃ Hf s, SR w Hf s σ H ∧ PostI w W Hf s σ H (f s) R
abbrev PIx (X : Cx) (tb : Tbs) (fa ca : Nat → Addr) (W : WX) (Φ : Fs) (kin : Exn → D) (tg e : Expr) (ir : Ex) : Prop := PI X tg e (tIt (Wx X tb fa ca) W (ev Φ kin ir))
theorem PI_imp {X : Cx} {tg e : Expr} {t t' : TI} (h : PI X tg e t) (i : ∀ σ H R, t' σ H R → t σ H R) : PI X tg e t' := ⟨fun pins s σ H R I q => h.run pins s σ H R I (i σ H R q)⟩
theorem PI_or {X : Cx} {tg e : Expr} {t t' : TI} (h : PI X tg e t) (h' : PI X tg e t') : PI X tg e (fun σ H R => t σ H R ∨ t' σ H R) := ⟨fun pins s σ H R I q => q.elim (h.run pins s σ H R I) (h'.run pins s σ H R I)⟩
section
variable {w : Wd} {W : WX} {Hf H : Hp} {s : Sl} {σ : L2.St}
theorem PostI.after {Hf1 H1 : Hp} {s1 : Sl} {r : Res Val} {R : It → Hp → Prop} (h : PostI w W Hf s σ H r R) (a : Stp Hf s σ H Hf1 s1 σ H1) : PostI w W Hf1 s1 σ H1 r R := by
  unfold PostI at h ⊢
  cases r with
  | bad => exact h
  | exc x s' => exact PostX.after h a
  | ok v s' =>
    cases v with
    | d y =>
      cases y with
      | list l => exact fun J Hf' H' st sr k => h J Hf' H' (a.trans st) sr k
      | _ => exact h
    | _ => exact h
theorem bindI {f : Evl} {k : D → Sl → Res Val} {R0 : It → Hp → Prop} {R : V → Hp → Prop} (hs : SR w Hf s σ H) (h : PostI w W Hf s σ H ((f s).dat k) R0)
    (hk : ∀ x y s1 Hf1 H1, Stp Hf s σ H Hf1 s1 σ H1 → SR w Hf1 s1 σ H1 → Dp w.K Hf1 x y → PostI w W Hf1 s1 σ H1 (k y s1) R0 → R x H1) : tD w W f σ H R := by
  refine ⟨Hf, s, hs, ?_⟩
  unfold PostD
  unfold Res.dat Res.bind at h
  cases e : f s with
  | bad => rw [e] at h; exact h
  | exc x s' => rw [e] at h; exact h
  | ok v s' =>
    rw [e] at h
    dsimp only at h ⊢
    cases q : v.toD with
    | none => rw [q] at h; exact h
    | some y =>
      rw [q] at h
      exact fun x Hf' H' st sr r => hk x y s' Hf' H' st sr r (h.after st)
end
section
variable {K : PySem.W.Frag} {Hf : Hp} {a b : Addr} {vs us : List V} {ds es : List D}
theorem wk_list (h : Rd Hf a (.lst vs)) (r : DpAll K Hf vs ds) : Wk K Hf (Itl K a) ds where
  stop := fun H sm => ⟨vs, rdS sm h, by rw [DpAll.len r]; exact Nat.le_refl _⟩
  go := fun i H hi sm => ⟨vs, vs[i]'(by rw [DpAll.len r]; exact hi), rdS sm h, List.getElem?_eq_getElem _⟩
  yld := fun i d x H H' e sm ⟨e1, q⟩ => by
    obtain ⟨v, ev, rv⟩ := DpAll.get r e
    have := q vs (rdS sm h)
    rw [ev] at this
    cases this
    exact .inl ⟨e1, rv⟩
theorem wk_tup (h : Hf a = some (.tup vs)) (r : DpAll K Hf vs ds) : Wk K Hf (Itt K a) ds where
  stop := fun H sm => ⟨vs, .of (sm _ _ h), by rw [DpAll.len r]; exact Nat.le_refl _⟩
  go := fun i H hi sm => ⟨vs, vs[i]'(by rw [DpAll.len r]; exact hi), .of (sm _ _ h), List.getElem?_eq_getElem _⟩
  yld := fun i d x H H' e sm ⟨e1, q⟩ => by
    obtain ⟨v, ev, rv⟩ := DpAll.get r e
    have := q vs (.of (sm _ _ h))
    rw [ev] at this
    cases this
    exact .inl ⟨e1, rv⟩
theorem rngL_len (lo : Int) (n : Nat) : (rngL lo n).length = n := by simp [rngL]
theorem wk_rng (lo : Int) (n : Nat) : Wk K Hf (Itr lo n) (rngL lo n) where
  stop := fun H sm => by rw [rngL_len]; exact Nat.le_refl n
  go := fun i H hi sm => by rw [rngL_len] at hi; exact hi
  yld := fun i d x H H' e sm ⟨e1, q⟩ => by
    have hi : i < n := by
      have := (List.getElem?_eq_some_iff.mp e).1
      rwa [rngL_len] at this
    simp only [rngL, List.getElem?_map, List.getElem?_range hi, Option.map_some, Option.some.injEq] at e
    rw [q, ← e]
    exact .inl ⟨e1, .int _⟩
theorem downL_len (lo : Int) (n : Nat) : (downL lo n).length = n := by simp [downL]
theorem wk_down (lo : Int) (n : Nat) : Wk K Hf (Itc lo (-1) n) (downL lo n) where
  stop := fun H sm => by rw [downL_len]; exact Nat.le_refl n
  go := fun i H hi sm => by rw [downL_len] at hi; exact hi
  yld := fun i d x H H' e sm ⟨e1, q⟩ => by
    have hi : i < n := by
      have := (List.getElem?_eq_some_iff.mp e).1
      rwa [downL_len] at this
    simp only [downL, List.getElem?_map, List.getElem?_range hi, Option.map_some, Option.some.injEq] at e
    rw [q, ← e]
    have e2 : lo + (i : Int) * (-1) = lo - (i : Int) := by omega
    rw [e2]
    exact .inl ⟨e1, .int _⟩
theorem zipD_get : ∀ {xs ys : List D} {i : Nat} {d : D}, (zipD xs ys)[i]? = some d → ∃ x y, xs[i]? = some x ∧ ys[i]? = some y ∧ d = .tuple [x, y]
  | [], _, _, _, h => by simp [zipD] at h
  | _ :: _, [], _, _, h => by simp [zipD] at h
  | x :: xs, y :: ys, 0, d, h => by
    simp only [zipD, List.getElem?_cons_zero, Option.some.injEq] at h
    exact ⟨x, y, rfl, rfl, h.symm⟩
  | x :: xs, y :: ys, i + 1, d, h => by
    simp only [zipD, List.getElem?_cons_succ] at h ⊢
    exact zipD_get h
theorem zipD_len : ∀ (xs ys : List D), (zipD xs ys).length = min xs.length ys.length
  | [], _ => by simp [zipD]
  | _ :: _, [] => by simp [zipD]
  | x :: xs, y :: ys => by simp [zipD, zipD_len xs ys, Nat.succ_min_succ]
theorem wk_zip (h : Rd Hf a (.lst vs)) (h2 : Rd Hf b (.lst us)) (r : DpAll K Hf vs ds) (r2 : DpAll K Hf us es) : Wk K Hf (Itz K a b) (zipD ds es) where
  stop := fun H sm => ⟨vs, us, rdS sm h, rdS sm h2, by rw [zipD_len, DpAll.len r, DpAll.len r2]; omega⟩
  go := fun i H hi sm => by
    rw [zipD_len] at hi
    have l1 := DpAll.len r
    have l2 := DpAll.len r2
    exact ⟨vs, us, vs[i]'(by omega), us[i]'(by omega), rdS sm h, rdS sm h2, List.getElem?_eq_getElem _, List.getElem?_eq_getElem _⟩
  yld := fun i d x H H' e sm ⟨T, x1, y1, e1, e2, e3, q1, q2⟩ => by
    obtain ⟨dx, dy, g1, g2, rfl⟩ := zipD_get e
    obtain ⟨v, ev, rv⟩ := DpAll.get r g1
    obtain ⟨u, eu, ru⟩ := DpAll.get r2 g2
    have z1 := q1 vs (rdS sm h)
    have z2 := q2 us (rdS sm h2)
    rw [ev] at z1
    rw [eu] at z2
    cases z1
    cases z2
    exact .inr ⟨T, _, _, rfl, e2, e1, e3, .cons rv (.cons ru .nil)⟩
theorem wk_zipT (h : Hf a = some (.tup vs)) (h2 : Hf b = some (.tup us)) (r : DpAll K Hf vs ds) (r2 : DpAll K Hf us es) : Wk K Hf (RZ.ItzT K a b) (zipD ds es) where
  stop := fun H sm => ⟨vs, us, .of (sm _ _ h), .of (sm _ _ h2), by rw [zipD_len, DpAll.len r, DpAll.len r2]; omega⟩
  go := fun i H hi sm => by
    rw [zipD_len] at hi
    have l1 := DpAll.len r
    have l2 := DpAll.len r2
    exact ⟨vs, us, vs[i]'(by omega), us[i]'(by omega), .of (sm _ _ h), .of (sm _ _ h2), List.getElem?_eq_getElem _, List.getElem?_eq_getElem _⟩
  yld := fun i d x H H' e sm ⟨T, x1, y1, e1, e2, e3, q1, q2⟩ => by
    obtain ⟨dx, dy, g1, g2, rfl⟩ := zipD_get e
    obtain ⟨v, ev, rv⟩ := DpAll.get r g1
    obtain ⟨u, eu, ru⟩ := DpAll.get r2 g2
    have z1 := q1 vs (.of (sm _ _ h))
    have z2 := q2 us (.of (sm _ _ h2))
    rw [ev] at z1
    rw [eu] at z2
    cases z1
    cases z2
    exact .inr ⟨T, _, _, rfl, e2, e1, e3, .cons rv (.cons ru .nil)⟩
theorem enumD_get : ∀ {xs : List D} {k i : Nat} {d : D}, (enumD k xs)[i]? = some d → ∃ x, xs[i]? = some x ∧ d = .tuple [.int ((k + i : Nat) : Int), x]
  | [], _, _, _, h => by simp [enumD] at h
  | x :: xs, k, 0, d, h => by
    simp only [enumD, List.getElem?_cons_zero, Option.some.injEq] at h
    exact ⟨x, rfl, h.symm⟩
  | x :: xs, k, i + 1, d, h => by
    simp only [enumD, List.getElem?_cons_succ] at h ⊢
    obtain ⟨y, e1, e2⟩ := enumD_get h
    refine ⟨y, e1, ?_⟩
    rw [e2]
    have : k + 1 + i = k + (i + 1) := by omega
    rw [this]
theorem enumD_len : ∀ (k : Nat) (xs : List D), (enumD k xs).length = xs.length
  | _, [] => rfl
  | k, x :: xs => by simp [enumD, enumD_len (k + 1) xs]
theorem wk_enum (h : Rd Hf a (.lst vs)) (r : DpAll K Hf vs ds) : Wk K Hf (Ite K a) (enumD 0 ds) where
  stop := fun H sm => ⟨vs, rdS sm h, by rw [enumD_len, DpAll.len r]; exact Nat.le_refl _⟩
  go := fun i H hi sm => by
    rw [enumD_len] at hi
    exact ⟨vs, vs[i]'(by rw [DpAll.len r]; exact hi), rdS sm h, List.getElem?_eq_getElem _⟩
  yld := fun i d x H H' e sm ⟨T, x1, e1, e2, e3, q⟩ => by
    obtain ⟨dx, g1, rfl⟩ := enumD_get e
    obtain ⟨v, ev, rv⟩ := DpAll.get r g1
    have z1 := q vs (rdS sm h)
    rw [ev] at z1
    cases z1
    rw [Nat.zero_add]
    exact .inr ⟨T, _, _, rfl, e2, e1, e3, .cons (.int _) (.cons rv .nil)⟩
end
section
variable {X : Cx} {tb : Tbs} {fa ca : Nat → Addr} {W : WX} {Φ : Fs} {kin : Exn → D} {i : Nat} {x : Str} {pos : Pos} {a b c : Ex} {ea eb ec tg : Expr} {es rest : List Expr}
theorem n_itSeq (h : PEx X tb fa ca W Φ kin ea a) : PIx X tb fa ca W Φ kin tg ea (.itSeq a) := by
  refine PI_imp (PI_or (pi_list (pe_D h)) (pi_tup (pe_D h))) fun σ H R ⟨Hf, s, sr, q⟩ => ?_
  unfold ev at q
  have left : (∀ v s1, ev Φ kin a s = .ok v s1 → ∃ ds, v.toD = some (.list ds)) → iList X.K (tD (Wx X tb fa ca) W (ev Φ kin a)) σ H R := fun hl => by
    refine ⟨Hf, s, sr, ?_⟩
    unfold PostD
    unfold Res.dat Res.bind at q
    cases e : ev Φ kin a s with
    | bad => rw [e] at q; exact q
    | exc z s1 => rw [e] at q; exact q
    | ok v s1 =>
      obtain ⟨ds, t⟩ := hl v s1 e
      rw [e] at q
      dsimp only at q ⊢
      rw [t] at q
      rw [t]
      intro y Hf1 H1 st1 sr1 r1
      obtain ⟨p, vs, rfl, h1, h2⟩ := dp_lst r1
      exact ⟨p, rfl, ⟨vs, rdS sr1.sub h1⟩, q _ Hf1 H1 st1 sr1 (wk_list h1 h2)⟩
  cases e : ev Φ kin a s with
  | bad => exact .inl (left fun v s1 z => by rw [e] at z; cases z)
  | exc z s1 => exact .inl (left fun v s1 z => by rw [e] at z; cases z)
  | ok v s1 =>
    cases t : v.toD with
    | none =>
      unfold Res.dat Res.bind at q
      rw [e] at q
      dsimp only at q
      rw [t] at q
      exact q.elim
    | some y =>
      cases y with
      | list ds => exact .inl (left fun v' s2 z => by rw [e] at z; cases z; exact ⟨ds, t⟩)
      | tuple ds =>
        refine .inr ⟨Hf, s, sr, ?_⟩
        unfold PostD
        unfold Res.dat Res.bind at q
        rw [e] at q ⊢
        dsimp only at q ⊢
        rw [t] at q
        rw [t]
        intro y Hf1 H1 st1 sr1 r1
        obtain ⟨p, vs, rfl, h1, h2⟩ := dp_tup r1
        exact ⟨p, rfl, ⟨vs, .of (sr1.sub _ _ h1)⟩, q _ Hf1 H1 st1 sr1 (wk_tup h1 h2)⟩
      | _ =>
        unfold Res.dat Res.bind at q
        rw [e] at q
        dsimp only at q
        rw [t] at q
        exact q.elim
theorem small62_of {i : Int} (h : small62 i = true) : -(2 ^ 62) ≤ i ∧ i < 2 ^ 62 := by
  unfold small62 at h
  simpa using h
theorem n_itRng1 {p : Pos} (hg : Gl X "range") (hm : X.mg "range" = none) (h : PEx X tb fa ca W Φ kin ea a) (hs : starEach [ea] X.env = [(false, eval ea X.env)]) : PIx X tb fa ca W Φ kin tg (.Call (.Name "range" p) [ea] [] pos) (.itRng1 a) := by
  refine PI_imp (pi_range1 hg hm (pa_cons (pe_D h) pa_nil hs) hs) fun σ H R ⟨Hf, s, sr, q⟩ => ?_
  unfold ev at q
  refine bindI sr q fun x dx s1 Hf1 H1 st1 sr1 r1 q1 => ?_
  split at q1
  · rename_i j
    split at q1
    · rename_i hz
      obtain ⟨h1, h2⟩ := small62_of hz
      rw [dp_int r1]
      exact ⟨j, rfl, h1, h2, q1 _ Hf1 H1 .refl sr1 (wk_rng 0 j.toNat)⟩
    · exact q1.elim
  · exact q1.elim
theorem n_itRng {p : Pos} (hg : Gl X "range") (hm : X.mg "range" = none) (ha : PEx X tb fa ca W Φ kin ea a) (hb : PEx X tb fa ca W Φ kin eb b) (hs : starEach [ea, eb] X.env = [(false, eval ea X.env), (false, eval eb X.env)]) (hs2 : starEach [eb] X.env = [(false, eval eb X.env)]) : PIx X tb fa ca W Φ kin tg (.Call (.Name "range" p) [ea, eb] [] pos) (.itRng a b) := by
  refine PI_imp (pi_range2 hg hm (pa_cons (pe_D ha) (pa_cons (pe_D hb) pa_nil hs2) (by rw [hs, hs2])) hs hs2) fun σ H R ⟨Hf, s, sr, q⟩ => ?_
  unfold ev at q
  refine bindI sr q fun x dx s1 Hf1 H1 st1 sr1 r1 q1 => bindI sr1 q1 fun y dy s2 Hf2 H2 st2 sr2 r2 q2 => ?_
  split at q2
  · rename_i i j
    split at q2
    · rename_i hz
      rw [Bool.and_eq_true] at hz
      obtain ⟨h1, h2⟩ := small62_of hz.1
      obtain ⟨h3, h4⟩ := small62_of hz.2
      rw [dp_int r1, dp_int r2]
      exact ⟨i, j, rfl, ⟨h1, h2, h3, h4⟩, q2 _ Hf2 H2 .refl sr2 (wk_rng i (j - i).toNat)⟩
    · exact q2.elim
  · exact q2.elim
theorem n_itDown {p p1 p2 : Pos} {k : Nat} (hg : Gl X "range") (hm : X.mg "range" = none) (ha : PEx X tb fa ca W Φ kin ea a) (hb : PEx X tb fa ca W Φ kin eb b)
    (hs : starEach [ea, eb, .UnaryOp .USub (.Constant (.int 1) k p1) p2] X.env = (false, eval ea X.env) :: starEach [eb, .UnaryOp .USub (.Constant (.int 1) k p1) p2] X.env) (hs2 : starEach [eb, .UnaryOp .USub (.Constant (.int 1) k p1) p2] X.env = (false, eval eb X.env) :: starEach [.UnaryOp .USub (.Constant (.int 1) k p1) p2] X.env)
    (hpl : (backTo pos (starEach [eb, .UnaryOp .USub (.Constant (.int 1) k p1) p2] X.env)).any (·.1) = false) :
    PIx X tb fa ca W Φ kin tg (.Call (.Name "range" p) [ea, eb, .UnaryOp .USub (.Constant (.int 1) k p1) p2] [] pos) (.itDown a b) := by
  refine PI_imp (pi_range3 hg hm (pa_cons (pe_D ha) (pa_cons (pe_D hb) (pa_cons (pe_un un_neg pe_int) pa_nil) hs2) hs) hs hpl) fun σ H R ⟨Hf, s, sr, q⟩ => ?_
  unfold ev at q
  refine bindI sr q fun x dx s1 Hf1 H1 st1 sr1 r1 q1 => bindI sr1 q1 fun y dy s2 Hf2 H2 st2 sr2 r2 q2 => ?_
  split at q2
  · rename_i i j
    split at q2
    · rename_i hz
      rw [Bool.and_eq_true] at hz
      obtain ⟨h1, h2⟩ := small62_of hz.1
      obtain ⟨h3, h4⟩ := small62_of hz.2
      rw [dp_int r1, dp_int r2]
      exact ⟨1, rfl, i, j, -1, (i - j).toNat, rfl, RgC.neg h1 h2 h3 h4, q2 _ Hf2 H2 .refl sr2 (wk_down i (i - j).toNat)⟩
    · exact q2.elim
  · exact q2.elim
theorem n_itZip {p tpos : Pos} {elts : List Expr} {kk : Nat} (hg : Gl X "zip") (hm : X.mg "zip" = none) (ha : PEx X tb fa ca W Φ kin ea a) (hb : PEx X tb fa ca W Φ kin eb b) (hs2 : starEach [eb] X.env = [(false, eval eb X.env)]) (hp : Plain X ea [eb] pos) :
    PIx X tb fa ca W Φ kin (.Tuple elts kk tpos) (.Call (.Name "zip" p) [ea, eb] [] pos) (.itZip a b) := by
  refine PI_imp (RZ.pi_zipA hg hm (pa_cons (pe_D ha) (pa_cons (pe_D hb) pa_nil hs2) hp.he) hp.he hp.hpl) fun σ H R ⟨Hf, s, sr, q⟩ => ?_
  unfold ev at q
  refine bindI sr q fun x dx s1 Hf1 H1 st1 sr1 r1 q1 => bindI sr1 q1 fun y dy s2 Hf2 H2 st2 sr2 r2 q2 => ?_
  split at q2
  · obtain ⟨p1, vs, rfl, h1, h2⟩ := dp_lst (Dp.mono st2.frz r1)
    obtain ⟨p2, us, rfl, h3, h4⟩ := dp_lst r2
    exact ⟨p1, p2, vs, us, rfl, .inl ⟨rdS sr2.sub h1, rdS sr2.sub h3, q2 _ Hf2 H2 .refl sr2 (wk_zip h1 h3 h2 h4)⟩⟩
  · obtain ⟨p1, vs, rfl, h1, h2⟩ := dp_tup (Dp.mono st2.frz r1)
    obtain ⟨p2, us, rfl, h3, h4⟩ := dp_tup r2
    exact ⟨p1, p2, vs, us, rfl, .inr ⟨.of (sr2.sub _ _ h1), .of (sr2.sub _ _ h3), q2 _ Hf2 H2 .refl sr2 (wk_zipT h1 h3 h2 h4)⟩⟩
  · exact q2.elim
end
end Ir

set_option Elab.async false
set_option linter.all false
set_option maxRecDepth 100000
set_option maxHeartbeats 4000000
/-! List comprehensions. -/
namespace Ir
open PySem PySem.Spec PyProof.Rows L2

theorem wipeS_len : ∀ (own : List Nat) (s : Sl), (wipeS s own).length = s.length
  | [], _ => rfl
  | i :: r, s => by
    unfold wipeS
    rw [wipeS_len r, List.length_set]
theorem wipeS_get : ∀ (own : List Nat) (s : Sl) (j : Nat), slGet (wipeS s own) j = if j ∈ own then none else slGet s j
  | [], s, j => by simp [wipeS]
  | i :: r, s, j => by
    unfold wipeS
    rw [wipeS_get r, slGet_set]
    by_cases h : j ∈ r
    · simp [h]
    · by_cases e : i = j
      · subst e
        by_cases hl : i < s.length
        · simp [h, hl]
        · have : slGet s i = none := by
            cases q : slGet s i with
            | none => rfl
            | some v => exact absurd (slGet_lt q) hl
          simp [h, hl, this]
      · have e' : ¬ j = i := fun z => e z.symm
        simp [h, e, e']
theorem backS_len (old : Sl) : ∀ (own : List Nat) (s : Sl), (backS old s own).length = s.length
  | [], _ => rfl
  | i :: r, s => by
    unfold backS
    rw [backS_len old r, List.length_set]
theorem backS_get (old : Sl) : ∀ (own : List Nat) (s : Sl) (j : Nat), old.length = s.length → slGet (backS old s own) j = if j ∈ own then slGet old j else slGet s j
  | [], s, j, _ => by simp [backS]
  | i :: r, s, j, hl => by
    unfold backS
    rw [backS_get old r _ j (by rw [List.length_set]; exact hl), slGet_set]
    by_cases h : j ∈ r
    · simp [h]
    · by_cases e : i = j
      · subst e
        by_cases hi : i < s.length
        · have hi' : i < old.length := by omega
          have e1 : old[i]? = some (old[i]'hi') := List.getElem?_eq_getElem hi'
          simp only [h, if_false, hi, and_self, if_true, List.mem_cons, true_or]
          rw [e1]
          show old[i] = slGet old i
          unfold slGet
          rw [e1]
          cases old[i] <;> rfl
        · have h1 : slGet s i = none := by
            cases q : slGet s i with
            | none => rfl
            | some v => exact absurd (slGet_lt q) hi
          have h2 : slGet old i = none := by
            cases q : slGet old i with
            | none => rfl
            | some v => exact absurd (slGet_lt q) (by omega)
          simp [h, hi, h1, h2]
      · have e' : ¬ j = i := fun z => e z.symm
        simp [h, e, e']
theorem wipe_in {σ : L2.St} {i : Nat} : ∀ {vs : List Nat}, i ∈ vs → i < σ.length → (wipe σ vs)[i]? = some none
  | v :: vs, h, hl => by
    unfold wipe
    by_cases e : v = i
    · subst e
      exact List.getElem?_set_self (by rw [wipe_length]; exact hl)
    · rw [List.getElem?_set_ne e]
      rcases List.mem_cons.mp h with z | z
      · exact absurd z.symm e
      · exact wipe_in z hl
theorem wipe_eq {σ σ' : L2.St} {vs : List Nat} (hl : σ'.length = σ.length) (h : ∀ j, j ∉ vs → σ'[j]? = σ[j]?) : wipe σ' vs = wipe σ vs := by
  refine List.ext_getElem? fun j => ?_
  by_cases hj : j ∈ vs
  · by_cases hlt : j < σ.length
    · rw [wipe_in hj hlt, wipe_in hj (by omega)]
    · rw [List.getElem?_eq_none (by rw [wipe_length]; omega), List.getElem?_eq_none (by rw [wipe_length]; omega)]
  · rw [wipe_out hj, wipe_out hj]
    exact h j hj
section
variable {w : Wd} {W : WX} {Hf H : Hp} {s : Sl} {σ : L2.St} {own : List Nat}
theorem SR.wipe (h : SR w Hf s σ H) : SR w Hf (wipeS s own) (L2.wipe σ own) H ∧ Stp Hf s σ H Hf (wipeS s own) (L2.wipe σ own) H := by
  have g : ∀ {j v}, slGet (wipeS s own) j = some v → j ∉ own ∧ slGet s j = some v := fun {j v} e => by
    rw [wipeS_get] at e
    split at e
    · cases e
    · rename_i hj
      exact ⟨hj, e⟩
  refine ⟨⟨h.sub, by rw [wipeS_len, wipe_length]; exact h.len, fun j v e => ?_, fun j k v u a e1 e2 o1 o2 q1 q2 => ?_, h.tab, h.ntb⟩, ⟨Same.refl _, fun _ _ q _ _ => q, fun _ q => q, fun a ⟨j, v, e, o, q⟩ => ?_, fun _ q => .inl q⟩⟩
  · obtain ⟨hj, e⟩ := g e
    obtain ⟨x, e1, r⟩ := h.sl j v e
    exact ⟨x, by rw [wipe_out hj]; exact e1, r⟩
  · obtain ⟨h1, e1⟩ := g e1
    obtain ⟨h2, e2⟩ := g e2
    rw [wipe_out h1] at q1
    rw [wipe_out h2] at q2
    exact h.sep j k v u a e1 e2 o1 o2 q1 q2
  · obtain ⟨hj, e⟩ := g e
    rw [wipe_out hj] at q
    exact .inl ⟨j, v, e, o, q⟩
/-- the block's end: the def's own slots come back -/
theorem SR.back {s1 s' : Sl} {Hf1 H1 : Hp} (h1 : SR w Hf1 s1 σ H1) (pl : plainSlots s1 own = true) (h : SR w Hf (wipeS s' own) (L2.wipe σ own) H) (st : Stp Hf1 (wipeS s1 own) (L2.wipe σ own) H1 Hf (wipeS s' own) (L2.wipe σ own) H) :
    SR w Hf (backS s1 s' own) σ H ∧ Stp Hf1 s1 σ H1 Hf (backS s1 s' own) σ H ∧ ∀ a, Own (backS s1 s' own) σ a → Own (wipeS s' own) (L2.wipe σ own) a := by
  have hlen : s'.length = σ.length := by
    have q := h.len
    rw [wipeS_len, wipe_length] at q
    exact q
  have hl1 : s1.length = s'.length := h1.len.trans hlen.symm
  have pl' : ∀ {j v}, j ∈ own → slGet s1 j = some v → ∃ x, v = .d x := fun {j v} hj e => by
    have q := List.all_eq_true.mp pl j hj
    rw [slGet_some e] at q
    cases v <;> first | exact ⟨_, rfl⟩ | (simp at q)
  have g : ∀ {j v}, slGet (backS s1 s' own) j = some v → (j ∈ own ∧ slGet s1 j = some v) ∨ (j ∉ own ∧ slGet (wipeS s' own) j = some v) := fun {j v} e => by
    rw [backS_get s1 own s' j hl1] at e
    by_cases hj : j ∈ own
    · rw [if_pos hj] at e
      exact .inl ⟨hj, e⟩
    · rw [if_neg hj] at e
      exact .inr ⟨hj, by rw [wipeS_get, if_neg hj]; exact e⟩
  have ow : ∀ a, Own (backS s1 s' own) σ a → Own (wipeS s' own) (L2.wipe σ own) a := fun a ⟨j, v, e, o, q⟩ => by
    rcases g e with ⟨hj, e⟩ | ⟨hj, e⟩
    · obtain ⟨x, rfl⟩ := pl' hj e
      cases o
    · exact ⟨j, v, e, o, by rw [wipe_out hj]; exact q⟩
  have ow1 : ∀ a, Own (wipeS s1 own) (L2.wipe σ own) a → Own s1 σ a := fun a ⟨j, v, e, o, q⟩ => by
    rw [wipeS_get] at e
    split at e
    · cases e
    · rename_i hj
      rw [wipe_out hj] at q
      exact ⟨j, v, e, o, q⟩
  refine ⟨⟨h.sub, by rw [backS_len]; exact hlen, fun j v e => ?_, fun j k v u a e1 e2 o1 o2 q1 q2 => ?_, h.tab, h.ntb⟩, ⟨st.frz, fun a o e n => st.keep a o e fun z => n (ow1 a z), st.there, fun a z => (st.own a (ow a z)).elim (fun y => .inl (ow1 a y)) .inr, fun a z => (st.new a z).elim .inl fun y => y.elim (fun y => .inr (.inl (ow1 a y))) fun y => .inr (.inr y)⟩, ow⟩
  · rcases g e with ⟨hj, e⟩ | ⟨hj, e⟩
    · obtain ⟨x, rfl⟩ := pl' hj e
      obtain ⟨y, e1, r⟩ := h1.sl j _ e
      exact ⟨y, e1, Dp.mono st.frz r⟩
    · obtain ⟨y, e1, r⟩ := h.sl j v e
      exact ⟨y, (wipe_some e1).1, r⟩
  · rcases g e1 with ⟨hj, e1⟩ | ⟨hj, e1⟩
    · obtain ⟨x, rfl⟩ := pl' hj e1
      cases o1
    · rcases g e2 with ⟨hk, e2⟩ | ⟨hk, e2⟩
      · obtain ⟨x, rfl⟩ := pl' hk e2
        cases o2
      · exact h.sep j k v u a e1 e2 o1 o2 (by rw [wipe_out hj]; exact q1) (by rw [wipe_out hk]; exact q2)
/-- what belongs to nobody may change -/
theorem SR.updFree {p : Addr} {o o' : HO} (h : SR w Hf s σ H) (hf : Hf p = none) (no : ¬ Own s σ p) (hp : H p = some o') (ht : ¬ Tough o') : SR w Hf s σ (upd H p o) := by
  refine ⟨fun b u e => by rw [upd_ne (ne_of_none e hf)]; exact h.sub b u e, h.len, fun j v e => ?_, h.sep, tabs_ext h.tab fun b u e tu => by rw [upd_ne fun z => ht (by rw [z, hp] at e; cases e; exact tu)]; exact e, h.ntb⟩
  obtain ⟨x, e1, r⟩ := h.sl j v e
  refine ⟨x, e1, r.mono (Same.refl _) fun b ob eb => ?_⟩
  subst eb
  obtain ⟨c, ec, r1, r2⟩ := r.addr ob
  cases ec
  exact ⟨upd_ne fun z => no (by rw [← z]; exact ⟨j, v, e, ob, e1⟩), r1⟩
theorem NewR.mono {K : PySem.W.Frag} {Hf' H' : Hp} {d : D} {x : V} (h : NewR K Hf H (.d d) x H') (e : Same Hf Hf') : NewR K Hf' H (.d d) x H' := by
  rcases h with ⟨h1, h2⟩ | ⟨p, vs, zs, h1, h2, h3, h4, h5⟩
  · exact .inl ⟨h1, Dp.mono e h2⟩
  · exact .inr ⟨p, vs, zs, h1, h2, h3, h4, DpAll.mono e h5⟩
theorem newR_d {d : D} {x : V} {H' : Hp} (sr : SR w Hf s σ H) (n : NewR w.K Hf H (.d d) x H') : ∃ Hf', SR w Hf' s σ H' ∧ Stp Hf s σ H Hf' s σ H' ∧ Dp w.K Hf' x d := by
  rcases n with ⟨rfl, r⟩ | ⟨p, vs, zs, rfl, hp, rfl, rfl, r⟩
  · exact ⟨Hf, sr, .refl, r⟩
  · obtain ⟨sr2, st2⟩ := sr.newF (o := .tup vs) hp so_tup
    exact ⟨_, sr2, st2, .tup upd_same (DpAll.mono st2.frz r)⟩
end
theorem compL_ok {c e : Evl} {t : Tg} {own : List Nat} {d : D} {r acc : List D} {s : Sl} {ys : List D} {sF : Sl} (h : compL c e t own (d :: r) acc s = .ok ys sF) : ∃ s1, tgSet t [d] (wipeS s own) = some s1 ∧
    ((∃ s2, c s1 = .ok (.d (.bool false)) s2 ∧ compL c e t own r acc s2 = .ok ys sF) ∨ ∃ s2 v s3 y, c s1 = .ok (.d (.bool true)) s2 ∧ e s2 = .ok v s3 ∧ v.toD = some y ∧ acc.length < lineMax ∧ compL c e t own r (acc ++ [y]) s3 = .ok ys sF) := by
  unfold compL at h
  split at h
  · cases h
  · rename_i s1 e1
    refine ⟨s1, e1, ?_⟩
    split at h
    · rename_i s2 e2
      exact .inl ⟨s2, e2, h⟩
    · rename_i s2 e2
      split at h
      · rename_i v s3 e3
        split at h
        · rename_i y e4
          split at h
          · rename_i hl
            exact .inr ⟨s2, v, s3, y, e2, e3, e4, hl, h⟩
          · cases h
        · cases h
      · cases h
    · cases h
/-- the turns of a comprehension -/
theorem comp_core {w : Wd} {W0 : WX} {c e : Evl} {t : Tg} {own : List Nat} {items ys : List D} {s1 sF : Sl} {σ : L2.St} {Hf1 H1 : Hp} {J : It} {D0 : Addr} {Qd : Hp → Prop} (sr1 : SR w Hf1 s1 σ H1) (wk : Wk w.K Hf1 J items) (hts : ∀ j ∈ tgSlots t, j ∈ own) (hD : H1 D0 = none)
    (hr : compL c e t own items [] s1 = .ok ys sF)
    (done : ∀ Hf H acc, SR w Hf (wipeS sF own) (wipe σ own) H → Stp Hf1 (wipeS s1 own) (wipe σ own) H1 Hf (wipeS sF own) (wipe σ own) H → H D0 = some (.lst acc) → Hf D0 = none → ¬ Own (wipeS sF own) (wipe σ own) D0 → DpAll w.K Hf acc ys → Qd H) :
    ∃ Wv : Nat → Nat → Hp → Prop, (∃ m, Wv 0 m (upd H1 D0 (.lst []))) ∧ ∀ i m H, Wv i m H →
      (J.stop i H ∧ Qd H) ∨ (J.go i H ∧ ∃ Nx : Hp → Prop, (∀ H', Nx H' → ∃ m', m' < m ∧ Wv (i + 1) m' H') ∧ ∀ x H', J.yld i H x H' → gT w t x (wipe σ own) H' fun σ2 H2 => wipe σ2 own = wipe σ own ∧ tBo w W0 c σ2 H2 fun b H3 =>
        if b = true then tD w W0 e σ2 H3 fun y H4 => ∃ acc, H4 D0 = some (.lst acc) ∧ acc.length < sizeLine ∧ Nx (upd H4 D0 (.lst (acc ++ [y]))) else Nx H3) := by
  obtain ⟨sw1, _⟩ := sr1.wipe (own := own)
  -- what holds between two turns
  let INV : Nat → Hp → Prop := fun i H => ∃ Hf s' acc dacc, SR w Hf (wipeS s' own) (wipe σ own) H ∧ Stp Hf1 (wipeS s1 own) (wipe σ own) H1 Hf (wipeS s' own) (wipe σ own) H ∧ H D0 = some (.lst acc) ∧ Hf D0 = none ∧ ¬ Own (wipeS s' own) (wipe σ own) D0 ∧ DpAll w.K Hf acc dacc ∧ compL c e t own (items.drop i) dacc s' = .ok ys sF
  refine ⟨fun i m H => m = items.length - i ∧ i ≤ items.length ∧ INV i H, ⟨items.length, by simp, Nat.zero_le _, ?_⟩, ?_⟩
  · obtain ⟨sr2, st2⟩ := sw1.newO (o := .lst []) hD
    exact ⟨Hf1, s1, [], [], sr2, st2, upd_same, sw1.free hD, sw1.notOwn hD, .nil, hr⟩
  · rintro i m H ⟨rfl, hi, Hf, s', acc, dacc, sr, st, hH, hf, no, ra, hc⟩
    have smH : Same Hf1 H := st.frz.trans sr.sub
    by_cases hlt : i < items.length
    · refine .inr ⟨wk.go i H hlt smH, fun H' => INV (i + 1) H', fun H' q => ⟨items.length - (i + 1), by omega, rfl, hlt, q⟩, fun x H' hy => ?_⟩
      obtain ⟨d, hd⟩ : ∃ d, items[i]? = some d := ⟨_, List.getElem?_eq_getElem hlt⟩
      have hdrop : items.drop i = d :: items.drop (i + 1) := by
        rw [List.drop_eq_getElem_cons hlt]
        have := List.getElem?_eq_getElem hlt
        rw [hd] at this
        rw [← Option.some.inj this]
      rw [hdrop] at hc
      obtain ⟨s2, et, hcase⟩ := compL_ok hc
      obtain ⟨Hfa, sra, sta, rd⟩ := newR_d sr ((wk.yld i d x H H' hd smH hy).mono st.frz)
      refine ⟨Hfa, wipeS s' own, d, sra, rd, ?_⟩
      rw [et]
      intro σ2 off sr2 st2
      have ew : wipe σ2 own = wipe σ own := by
        rw [wipe_eq (σ := wipe σ own) off.1 fun j hj => off.2 j fun z => hj (hts j z)]
        exact wipe_eq (wipe_length _ _) fun j hj => wipe_out hj
      have stA := sta.trans st2
      -- what stays through a turn
      have fin : ∀ {Hf3 H3 : Hp} {s3 : Sl}, SR w Hf3 s3 σ2 H3 → Stp Hf (wipeS s' own) (wipe σ own) H Hf3 s3 σ2 H3 → SR w Hf3 (wipeS s3 own) (wipe σ own) H3 ∧ Stp Hf1 (wipeS s1 own) (wipe σ own) H1 Hf3 (wipeS s3 own) (wipe σ own) H3 ∧ H3 D0 = some (.lst acc) ∧ Hf3 D0 = none ∧ ¬ Own (wipeS s3 own) (wipe σ own) D0 ∧ DpAll w.K Hf3 acc dacc := fun {Hf3 H3 s3} sr3 stT => by
        obtain ⟨srw, stw⟩ := sr3.wipe (own := own)
        rw [ew] at srw stw
        have stW := stT.trans stw
        refine ⟨srw, st.trans stW, stT.keep _ _ hH no so_lst, ?_, fun z => ?_, DpAll.mono stT.frz ra⟩
        · cases q : Hf3 D0 with
          | none => rfl
          | some o =>
            rcases stT.new D0 (by rw [q]; exact fun k => nomatch k) with z | z | z
            · exact absurd hf z
            · exact absurd z no
            · rcases z with z | ⟨_, z⟩ | ⟨_, z⟩ <;> (rw [hH] at z; cases z)
        · rcases stW.own D0 z with y | y
          · exact no y
          · rw [hH] at y; cases y
      refine ⟨ew, Hfa, s2, sr2, ?_⟩
      rcases hcase with ⟨s3, ec, hrest⟩ | ⟨s3, v, s4, y, ec, ee, ev', hl, hrest⟩
      · rw [ec]
        intro Hf3 H3 st3 sr3
        obtain ⟨f1, f2, f3, f4, f5, f6⟩ := fin sr3 (stA.trans st3)
        exact iteF ⟨Hf3, s3, acc, dacc, f1, f2, f3, f4, f5, f6, hrest⟩
      · rw [ec]
        intro Hf3 H3 st3 sr3
        refine iteT ⟨Hf3, s3, sr3, ?_⟩
        unfold PostD
        rw [ee]
        dsimp only
        rw [ev']
        intro z Hf4 H4 st4 sr4 r4
        obtain ⟨f1, f2, f3, f4, f5, f6⟩ := fin sr4 ((stA.trans st3).trans st4)
        refine ⟨acc, f3, by rw [← lineMax_eq, DpAll.len f6]; exact hl, Hf4, s4, acc ++ [z], dacc ++ [y], f1.updFree f4 f5 f3 (fun k => k.elim (fun ⟨_, k⟩ => nomatch k) fun ⟨_, k⟩ => nomatch k), ?_, upd_same, f4, f5, DpAll.app f6 (.cons r4 .nil), hrest⟩
        refine ⟨f2.frz, fun a o q n so => ?_, fun a q => ?_, f2.own, f2.new⟩
        · rw [upd_ne (ne_of_none q hD)]
          exact f2.keep a o q n so
        · by_cases ha : a = D0
          · rw [ha, upd_same]
            exact fun k => nomatch k
          · rw [upd_ne ha]
            exact f2.there a q
    · have e0 : i = items.length := by omega
      subst e0
      rw [List.drop_length] at hc
      unfold compL at hc
      cases hc
      exact .inl ⟨wk.stop H smH, done Hf H acc sr st hH hf no ra⟩
section
variable {X : Cx} {tb : Tbs} {fa ca : Nat → Addr} {W : WX} {Φ : Fs} {kin : Exn → D} {i : Nat} {x : Str} {pos : Pos} {a b c e it : Ex} {ea eb ec elt tg iter : Expr} {ifs es rest : List Expr} {t : Tg} {scope : Scope} {own : List (Str × Nat)}
abbrev W0 : WX := fun _ _ _ _ => False
theorem PTs_imp {X : Cx} {t t' : TT} (h : PTs X ifs t) (i : ∀ σ H Q, t' σ H Q → t σ H Q) : PTs X ifs t' := ⟨fun pins s σ H Q I q => h.run pins s σ H Q I (i σ H Q q)⟩
theorem n_noif {X : Cx} {w : Wd} {W : WX} : PTs X [] (tBo w W (ev Φ kin (.cst (.bool true)))) := PTs_imp pts_nil fun σ H Q ⟨Hf, s, sr, q⟩ => by
  unfold ev at q
  exact q Hf H .refl sr
theorem comp_read {w : Wd} {W : WX} {vs : List Nat} {σ : L2.St} {H : Hp} {Q : VK} (hts : ∀ j ∈ tgSlots t, j ∈ vs) (h : tE w W (ev Φ kin (.comp e t it c vs)) σ H Q) :
    tLc (tIt w W (ev Φ kin it)) (gT w t) (tBo w W0 (ev Φ kin c)) (tD w W0 (ev Φ kin e)) vs σ H Q := by
  obtain ⟨Hf, s, sr, q⟩ := h
  unfold ev at q
  refine ⟨Hf, s, sr, ?_⟩
  unfold Res.itm Res.bind at q
  unfold PostI
  cases e1 : ev Φ kin it s with
  | bad => rw [e1] at q; exact q
  | exc z s1 => rw [e1] at q; exact q
  | ok v s1 =>
    rw [e1] at q
    dsimp only at q ⊢
    cases v with
    | d y =>
      cases y with
      | list items =>
        intro J Hf1 H1 st1 sr1 wk D0 hD
        dsimp only at q
        split at q
        · rename_i hpl
          have q := q.after st1
          cases e2 : compL (ev Φ kin c) (ev Φ kin e) t vs items [] s1 with
          | bad => rw [e2] at q; exact q.elim
          | exc z s2 =>
            exact absurd e2 (comp_noexc _ _ _ _ _ _ _ _ _)
          | ok ys sF =>
            rw [e2] at q
            refine comp_core sr1 wk hts hD e2 fun Hf2 H2 acc sr2 st2 h2 hf2 no2 ra => ?_
            obtain ⟨b1, b2, b3⟩ := SR.back sr1 hpl sr2 st2
            exact q (.ref D0) Hf2 H2 b2 b1 ⟨D0, acc, rfl, h2, hf2, ra⟩ fun _ a ea => by
              cases ea
              exact ⟨.inl hD, fun z => no2 (b3 _ z)⟩
        · exact q.elim
      | _ => exact q.elim
    | _ => exact q.elim
where
  comp_noexc : ∀ (c e : Evl) (t : Tg) (own : List Nat) (l acc : List D) (s : Sl) (z : Exn) (s2 : Sl), compL c e t own l acc s ≠ .exc z s2 := by
    intro c e t own l
    induction l with
    | nil => intro acc s z s2 h; unfold compL at h; cases h
    | cons d r ih =>
      intro acc s z s2 h
      unfold compL at h
      split at h
      · cases h
      · split at h
        · exact ih _ _ _ _ h
        · split at h
          · split at h
            · split at h
              · exact ih _ _ _ _ h
              · cases h
            · cases h
          · cases h
        · cases h
/-- the parts of a comprehension's block -/
structure Blk (X : Cx) (tb : Tbs) (fa ca : Nat → Addr) (Φ : Fs) (kin : Exn → D) (scope : Scope) (own : List (Str × Nat)) (tg : Expr) (t : Tg) (ifs : List Expr) (c : Ex) (elt : Expr) (e : Ex) : Prop where
  ok : BlkOk X.N X.env.scope scope own
  hg : ∀ (s : Shared) (H : Hp) (C : Addr) (cl : List (Str × Addr)) (fp : List Addr), PG (X.blk s H scope (compEnvC scope cl C X.env) fp) tg (gT (Wx X tb fa ca) t)
  ht : ∀ (s : Shared) (H : Hp) (C : Addr) (cl : List (Str × Addr)) (fp : List Addr), PTs (X.blk s H scope (compEnvC scope cl C X.env) fp) ifs (tBo (Wx X tb fa ca) W0 (ev Φ kin c))
  he : ∀ (s : Shared) (H : Hp) (C : Addr) (cl : List (Str × Addr)) (fp : List Addr), PE (X.blk s H scope (compEnvC scope cl C X.env) fp) elt (tE (Wx X tb fa ca) W0 (ev Φ kin e))
  hts : ∀ j ∈ tgSlots t, j ∈ own.map (·.2)
theorem n_comp (hc : X.calm = true) (hN : X.N.Nodup) (B : Blk X tb fa ca Φ kin scope own tg t ifs c elt e) (hi : PIx X tb fa ca W Φ kin tg iter it) (hs : ∀ x, foldedSetIterable iter X.env x = pure x) :
    PEx X tb fa ca W Φ kin (.ListComp elt [⟨tg, iter, ifs, 0⟩] scope pos) (.comp e t it c (own.map (·.2))) :=
  PE_imp (pe_lc hc hN hi B.ok B.hg B.ht (fun s H C cl fp => pe_D (B.he s H C cl fp)) hs) fun _ _ _ => comp_read B.hts
end
end Ir

set_option Elab.async false
set_option linter.all false
set_option maxRecDepth 100000
set_option maxHeartbeats 4000000
/-! Statements, node by node. -/
namespace Ir
open PySem PySem.Spec PyProof.Rows L2

/-- p0: the first slot stays -/
def Keep0 (p0 : Bool) (σ σ' : L2.St) : Prop := p0 = true → σ'[0]? = σ[0]?
theorem Keep0.refl {p0 : Bool} {σ : L2.St} : Keep0 p0 σ σ := fun _ => rfl
theorem Keep0.trans {p0 : Bool} {σ σ1 σ2 : L2.St} (a : Keep0 p0 σ σ1) (b : Keep0 p0 σ1 σ2) : Keep0 p0 σ σ2 := fun h => (b h).trans (a h)
def PostS (w : Wd) (W : WX) (p0 : Bool) (Hf : Hp) (s : Sl) (σ : L2.St) (H : Hp) (f : Flo) (D : Ends) : Prop := match f with
  | .next s' => ∀ σ' Hf' H', Stp Hf s σ H Hf' s' σ' H' → Keep0 p0 σ σ' → SR w Hf' s' σ' H' → D.nx σ' H'
  | .brk s' => ∀ σ' Hf' H', Stp Hf s σ H Hf' s' σ' H' → Keep0 p0 σ σ' → SR w Hf' s' σ' H' → D.bk σ' H'
  | .cont s' => ∀ σ' Hf' H', Stp Hf s σ H Hf' s' σ' H' → Keep0 p0 σ σ' → SR w Hf' s' σ' H' → D.ct σ' H'
  | .ret v s' => ∀ x σ' Hf' H', Stp Hf s σ H Hf' s' σ' H' → Keep0 p0 σ σ' → SR w Hf' s' σ' H' → RpV w Hf' H' x v → (isOwn v = true → ∀ a, x = .ref a → (H a = none ∨ Own s σ a) ∧ ¬ Own s' σ' a) → D.rt x H'
  | .exc e s' => ∀ σ' Hf' H', Stp Hf s σ H Hf' s' σ' H' → Keep0 p0 σ σ' → SR w Hf' s' σ' H' → excW w W e σ' H'
  | .bad => False
def tS (w : Wd) (W : WX) (p0 : Bool) (f : Sl → Flo) : TS := fun D σ H => ∃ Hf s, SR w Hf s σ H ∧ PostS w W p0 Hf s σ H (f s) D
abbrev PSx (X : Cx) (tb : Tbs) (fa ca : Nat → Addr) (W : WX) (Φ : Fs) (kin : Exn → D) (p0 : Bool) (st : Stmt) (ir : Sm) : Prop := PS X st (tS (Wx X tb fa ca) W p0 (run Φ kin ir))
abbrev PSsx (X : Cx) (tb : Tbs) (fa ca : Nat → Addr) (W : WX) (Φ : Fs) (kin : Exn → D) (p0 : Bool) (st : List Stmt) (ir : Sm) : Prop := PSs X st (tS (Wx X tb fa ca) W p0 (run Φ kin ir))
section
variable {w : Wd} {W : WX} {p0 : Bool} {Hf H : Hp} {s : Sl} {σ : L2.St}
theorem PostS.after {Hf1 H1 : Hp} {s1 : Sl} {σ1 : L2.St} {f : Flo} {D : Ends} (h : PostS w W p0 Hf s σ H f D) (a : Stp Hf s σ H Hf1 s1 σ1 H1) (k : Keep0 p0 σ σ1) : PostS w W p0 Hf1 s1 σ1 H1 f D := by
  unfold PostS at h ⊢
  cases f with
  | bad => exact h
  | next s' => exact fun σ' Hf' H' st k2 sr => h σ' Hf' H' (a.trans st) (k.trans k2) sr
  | brk s' => exact fun σ' Hf' H' st k2 sr => h σ' Hf' H' (a.trans st) (k.trans k2) sr
  | cont s' => exact fun σ' Hf' H' st k2 sr => h σ' Hf' H' (a.trans st) (k.trans k2) sr
  | exc e s' => exact fun σ' Hf' H' st k2 sr => h σ' Hf' H' (a.trans st) (k.trans k2) sr
  | ret v s' => exact fun x σ' Hf' H' st k2 sr r fr => h x σ' Hf' H' (a.trans st) (k.trans k2) sr r fun o b e => ⟨(fr o b e).1.elim (fun z => .inl (a.back z)) fun z => (a.own b z).elim .inr .inl, (fr o b e).2⟩
/-- a value, then on -/
theorem goE {f : Evl} {k : Val → Sl → Flo} {D : Ends} {Q : VK} (hs : SR w Hf s σ H) (h : PostS w W p0 Hf s σ H ((f s).go k) D)
    (hk : ∀ v x s1 Hf1 H1, Stp Hf s σ H Hf1 s1 σ H1 → SR w Hf1 s1 σ H1 → RpV w Hf1 H1 x v → (isOwn v = true → ∀ a, x = .ref a → (H a = none ∨ Own s σ a) ∧ ¬ Own s1 σ a) → PostS w W p0 Hf1 s1 σ H1 (k v s1) D → PostS w W p0 Hf s σ H (k v s1) D → Q x H1) : tE w W f σ H Q := by
  refine ⟨Hf, s, hs, ?_⟩
  unfold PostE
  unfold Res.go at h
  cases e : f s with
  | bad => rw [e] at h; exact h
  | exc x s' => rw [e] at h; exact fun Hf' H' st sr => h σ Hf' H' st .refl sr
  | ok v s' =>
    rw [e] at h
    exact fun x Hf' H' st sr r fr => hk v x s' Hf' H' st sr r fr (h.after st .refl) h
theorem goD {f : Evl} {k : D → Sl → Flo} {D : Ends} {Q : VK} (hs : SR w Hf s σ H) (h : PostS w W p0 Hf s σ H ((f s).goD k) D)
    (hk : ∀ x y s1 Hf1 H1, Stp Hf s σ H Hf1 s1 σ H1 → SR w Hf1 s1 σ H1 → Dp w.K Hf1 x y → PostS w W p0 Hf1 s1 σ H1 (k y s1) D → Q x H1) : tD w W f σ H Q := by
  refine ⟨Hf, s, hs, ?_⟩
  unfold PostD
  unfold Res.goD Res.go at h
  cases e : f s with
  | bad => rw [e] at h; exact h
  | exc x s' => rw [e] at h; exact fun Hf' H' st sr => h σ Hf' H' st .refl sr
  | ok v s' =>
    rw [e] at h
    dsimp only at h ⊢
    cases q : v.toD with
    | none => rw [q] at h; exact h
    | some y =>
      rw [q] at h
      exact fun x Hf' H' st sr r => hk x y s' Hf' H' st sr r (h.after st .refl)
theorem goB {f : Evl} {k : Bool → Sl → Flo} {D : Ends} {Q : Bool → Hp → Prop} (hs : SR w Hf s σ H) (h : PostS w W p0 Hf s σ H ((f s).goB k) D)
    (hk : ∀ b s1 Hf1 H1, Stp Hf s σ H Hf1 s1 σ H1 → SR w Hf1 s1 σ H1 → PostS w W p0 Hf1 s1 σ H1 (k b s1) D → Q b H1) : tBo w W f σ H Q := by
  refine ⟨Hf, s, hs, ?_⟩
  unfold PostB
  unfold Res.goB Res.go at h
  cases e : f s with
  | bad => rw [e] at h; exact h
  | exc x s' => rw [e] at h; exact fun Hf' H' st sr => h σ Hf' H' st .refl sr
  | ok v s' =>
    rw [e] at h
    dsimp only at h ⊢
    cases v with
    | d y =>
      cases y with
      | bool b => exact fun Hf' H' st sr => hk b s' Hf' H' st sr (h.after st .refl)
      | _ => exact h.elim
    | _ => exact h.elim
/-- any value put into a slot -/
theorem SR.putV {i : Nat} {v : Val} {x : V} (h : SR w Hf s σ H) (hi : i < s.length) (r : RpV w Hf H x v) (fr : isOwn v = true → ∀ a, x = .ref a → ¬ Own s σ a) : SR w Hf (s.set i (some v)) (σ.set i (some x)) H := by
  have hiσ : i < σ.length := by rw [← h.len]; exact hi
  have g : ∀ {j u}, slGet (s.set i (some v)) j = some u → (j = i ∧ u = v) ∨ (j ≠ i ∧ slGet s j = some u) := fun {j u} q => by
    rw [slGet_set] at q
    split at q
    · rename_i hh
      cases q
      exact .inl ⟨hh.1.symm, rfl⟩
    · rename_i hh
      exact .inr ⟨fun z => hh ⟨z.symm, hi⟩, q⟩
  refine ⟨h.sub, by rw [List.length_set, List.length_set]; exact h.len, fun j u q => ?_, fun j k u t b q1 q2 o1 o2 e1 e2 => ?_, h.tab, h.ntb⟩
  · rcases g q with ⟨rfl, rfl⟩ | ⟨nj, q⟩
    · exact ⟨x, List.getElem?_set_self hiσ, r⟩
    · obtain ⟨y, e1, rx⟩ := h.sl j u q
      exact ⟨y, by rw [List.getElem?_set_ne (Ne.symm nj)]; exact e1, rx⟩
  · rcases g q1 with ⟨ej, eu⟩ | ⟨n1, q1'⟩
    · rcases g q2 with ⟨ek, _⟩ | ⟨n2, q2'⟩
      · exact ej.trans ek.symm
      · rw [ej, List.getElem?_set_self hiσ] at e1
        rw [List.getElem?_set_ne (Ne.symm n2)] at e2
        simp only [Option.some.injEq] at e1
        rw [eu] at o1
        exact absurd ⟨k, t, q2', o2, e2⟩ (fr o1 b e1)
    · rw [List.getElem?_set_ne (Ne.symm n1)] at e1
      rcases g q2 with ⟨ek, et⟩ | ⟨n2, q2'⟩
      · rw [ek, List.getElem?_set_self hiσ] at e2
        simp only [Option.some.injEq] at e2
        rw [et] at o2
        exact absurd ⟨j, u, q1', o1, e1⟩ (fr o2 b e2)
      · rw [List.getElem?_set_ne (Ne.symm n2)] at e2
        exact h.sep j k u t b q1' q2' o1 o2 e1 e2
theorem Stp.putV {i : Nat} {v : Val} {x : V} {Hf1 H1 : Hp} {s1 : Sl} {σ1 : L2.St} (st : Stp Hf s σ H Hf1 s1 σ1 H1) (hi : i < s1.length) (hl : s1.length = σ1.length) (fr : isOwn v = true → ∀ a, x = .ref a → H a = none ∨ Own s σ a) : Stp Hf s σ H Hf1 (s1.set i (some v)) (σ1.set i (some x)) H1 :=
  ⟨st.frz, st.keep, st.there, fun b ⟨j, u, q, o, e⟩ => by
    have hiσ : i < σ1.length := by rw [← hl]; exact hi
    rw [slGet_set] at q
    split at q
    · rename_i hh
      cases q
      rw [← hh.1, List.getElem?_set_self hiσ] at e
      cases e
      exact (fr o b rfl).elim .inr .inl
    · rename_i hh
      rw [List.getElem?_set_ne fun z => hh ⟨z, hi⟩] at e
      exact st.own b ⟨j, u, q, o, e⟩, st.new⟩
end
section
variable {X : Cx} {tb : Tbs} {fa ca : Nat → Addr} {W : WX} {Φ : Fs} {kin : Exn → D} {p0 : Bool} {i j : Nat} {x y : Str} {pos : Pos} {a b c e it : Ex} {A B : Sm} {ea eb ec elt tg iter : Expr} {es rest : List Expr} {st : Stmt} {sts : List Stmt} {t : Tg}
/-! blocks -/
theorem n_seq (h1 : PSx X tb fa ca W Φ kin p0 st A) (h2 : PSsx X tb fa ca W Φ kin p0 sts B) : PSsx X tb fa ca W Φ kin p0 (st :: sts) (.seq A B) := by
  refine PSs_imp (pss_cons h1 h2) fun D σ H ⟨Hf, s, sr, q⟩ => ?_
  unfold run at q
  refine ⟨Hf, s, sr, ?_⟩
  cases e : run Φ kin A s with
  | bad => rw [e] at q; exact q
  | next s' => rw [e] at q; exact fun σ' Hf' H' st k sr' => ⟨Hf', s', sr', PostS.after q st k⟩
  | brk s' => rw [e] at q; exact q
  | cont s' => rw [e] at q; exact q
  | ret v s' => rw [e] at q; exact q
  | exc v s' => rw [e] at q; exact q
theorem n_one (h1 : PSx X tb fa ca W Φ kin p0 st A) : PSsx X tb fa ca W Φ kin p0 [st] A := pss_one h1
theorem n_nilS : PSsx X tb fa ca W Φ kin p0 [] .skip := PSs_imp pss_nil fun D σ H ⟨Hf, s, sr, q⟩ => by
  unfold run at q
  exact q σ Hf H .refl .refl sr
theorem n_pass : PSx X tb fa ca W Φ kin p0 (.Pass pos) .skip := PS_imp ps_pass fun D σ H ⟨Hf, s, sr, q⟩ => by
  unfold run at q
  exact q σ Hf H .refl .refl sr
theorem n_brk : PSx X tb fa ca W Φ kin p0 (.Break pos) .brk := PS_imp ps_break fun D σ H ⟨Hf, s, sr, q⟩ => by
  unfold run at q
  exact q σ Hf H .refl .refl sr
theorem n_cont : PSx X tb fa ca W Φ kin p0 (.Continue pos) .cont := PS_imp ps_continue fun D σ H ⟨Hf, s, sr, q⟩ => by
  unfold run at q
  exact q σ Hf H .refl .refl sr
theorem n_retn : PSx X tb fa ca W Φ kin p0 (.Return none pos) .retn := PS_imp ps_retN fun D σ H ⟨Hf, s, sr, q⟩ => by
  unfold run at q
  exact q .non σ Hf H .refl .refl sr .non fun z => nomatch z
theorem n_ret (h : PEx X tb fa ca W Φ kin ea a) : PSx X tb fa ca W Φ kin p0 (.Return (some ea) pos) (.ret a) := by
  refine PS_imp (ps_ret h) fun D σ H ⟨Hf, s, sr, q⟩ => ?_
  unfold run at q
  exact goE sr q fun v x s1 Hf1 H1 st1 sr1 r1 fr _ q0 => q0 x σ Hf1 H1 st1 .refl sr1 r1 fr
theorem n_expr (h : PEx X tb fa ca W Φ kin ea a) (hs : swapsWith ea none pos.line X.env = pure false) : PSx X tb fa ca W Φ kin p0 (.Expr ea pos) (.expr a) := by
  refine PS_imp (ps_expr h hs) fun D σ H ⟨Hf, s, sr, q⟩ => ?_
  unfold run at q
  exact goE sr q fun v x s1 Hf1 H1 st1 sr1 r1 fr q1 _ => q1 σ Hf1 H1 .refl .refl sr1
theorem n_ifS {as bs : List Stmt} (hc : PTx X tb fa ca W Φ kin ec c) (ha : PSsx X tb fa ca W Φ kin p0 as A) (hb : PSsx X tb fa ca W Φ kin p0 bs B) : PSx X tb fa ca W Φ kin p0 (.If ec as bs pos) (.ife c A B) := by
  refine PS_imp (ps_if hc ha hb) fun D σ H ⟨Hf, s, sr, q⟩ => ?_
  unfold run at q
  refine goB sr q fun b s1 Hf1 H1 st1 sr1 q1 => ?_
  cases b with
  | true => exact iteT ⟨Hf1, s1, sr1, q1⟩
  | false => exact iteF ⟨Hf1, s1, sr1, q1⟩
theorem keep_set {v : Option V} {σ : L2.St} (h0 : p0 = true → i ≠ 0) : Keep0 p0 σ (σ.set i v) := fun h => List.getElem?_set_ne (h0 h)
theorem n_set {pn : Pos} (hN : X.N.Nodup) (hi : X.N[i]? = some x) (hx : Loc X.env.scope x) (hf : X.fn x = true ∨ X.env.scope.names.lookup x = some .local) (h : PEx X tb fa ca W Φ kin ea a) (hs : swapsWith ea (some (.Name x pn)) pos.line X.env = pure false) (h0 : p0 = true → i ≠ 0) :
    PSx X tb fa ca W Φ kin p0 (.Assign [.Name x pn] ea pos) (.set i a) := by
  refine PS_imp (ps_set hN hi hx h hs hf) fun D σ H ⟨Hf, s, sr, q⟩ => ?_
  unfold run at q
  refine goE sr q fun v z s1 Hf1 H1 st1 sr1 r1 fr _ q0 => ?_
  split at q0
  · rename_i hl
    exact q0 _ Hf1 H1 (st1.putV hl sr1.len fun o a ea => (fr o a ea).1) (keep_set h0) (sr1.putV hl r1 fun o a ea => (fr o a ea).2)
  · exact q0.elim
theorem n_setLc {pn : Pos} {scope : Scope} {own : List (Str × Nat)} {ifs : List Expr} {cp : Pos} (hc : X.calm = true) (hN : X.N.Nodup) (hi : X.N[i]? = some x) (hx : X.env.scope.names.lookup x = some .local) (hsw : swapsWith (.ListComp elt [⟨tg, iter, ifs, 0⟩] scope cp) (some (.Name x pn)) pos.line X.env = pure true)
    (Bk : Blk X tb fa ca Φ kin scope own tg t ifs c elt e) (hit : PIx X tb fa ca W Φ kin tg iter it) (hs : ∀ x, foldedSetIterable iter X.env x = pure x) (h0 : p0 = true → i ≠ 0) :
    PSx X tb fa ca W Φ kin p0 (.Assign [.Name x pn] (.ListComp elt [⟨tg, iter, ifs, 0⟩] scope cp) pos) (.set i (.comp e t it c (own.map (·.2)))) := by
  refine PS_imp (ps_setLc hc hN hi hx hsw hit Bk.ok Bk.hg Bk.ht (fun s H C cl fp => pe_D (Bk.he s H C cl fp)) hs) fun D σ H ⟨Hf, s, sr, q⟩ => ?_
  unfold run at q
  refine comp_read Bk.hts (goE sr q fun v z s1 Hf1 H1 st1 sr1 r1 fr _ q0 => ?_)
  split at q0
  · rename_i hl
    exact q0 _ Hf1 H1 (st1.putV hl sr1.len fun o a ea => (fr o a ea).1) (keep_set h0) (sr1.putV hl r1 fun o a ea => (fr o a ea).2)
  · exact q0.elim
theorem n_setT (h : PEx X tb fa ca W Φ kin ea a) (hg : PG X tg (gT (Wx X tb fa ca) t)) (hs : swapsWithSole [tg] ea pos.line X.env = pure false) (hw : swappedStores [tg] ea X.env = pure none) (h1 : (assignEach [tg] X.env).map (·.2) = [assign tg X.env]) (h0 : p0 = true → 0 ∉ tgSlots t) :
    PSx X tb fa ca W Φ kin p0 (.Assign [tg] ea pos) (.setT t a) := by
  refine PS_imp (ps_asg (pe_D h) hg hs hw h1) fun D σ H ⟨Hf, s, sr, q⟩ => ?_
  unfold run at q
  refine goD sr q fun z y s1 Hf1 H1 st1 sr1 r1 q1 => ⟨Hf1, s1, y, sr1, r1, ?_⟩
  unfold optF at q1
  split at q1
  · rename_i s2 e2
    try rw [e2]
    exact fun σ' off sr' st' => q1 σ' Hf1 H1 st' (fun h => off.2 0 (h0 h)) sr'
  · exact q1.elim
end
end Ir

set_option Elab.async false
set_option linter.all false
set_option maxRecDepth 100000
set_option maxHeartbeats 4000000
/-! Statements, node by node (2). -/
namespace Ir
open PySem PySem.Spec PyProof.Rows L2

section
variable {w : Wd} {W : WX} {p0 : Bool} {Hf H : Hp} {s : Sl} {σ : L2.St}
/-- a value behind a first one; what is wanted is told from the first state -/
theorem goE2 {f : Evl} {k : Val → Sl → Flo} {D : Ends} {Q : VK} {Hf1 H1 : Hp} {s1 : Sl} (hs : SR w Hf1 s1 σ H1) (st : Stp Hf s σ H Hf1 s1 σ H1) (h : PostS w W p0 Hf s σ H ((f s1).go k) D)
    (hk : ∀ v x s2 Hf2 H2, Stp Hf1 s1 σ H1 Hf2 s2 σ H2 → SR w Hf2 s2 σ H2 → RpV w Hf2 H2 x v → (isOwn v = true → ∀ a, x = .ref a → (H1 a = none ∨ Own s1 σ a) ∧ ¬ Own s2 σ a) → PostS w W p0 Hf s σ H (k v s2) D → Q x H2) : tE w W f σ H1 Q := by
  refine ⟨Hf1, s1, hs, ?_⟩
  unfold PostE
  unfold Res.go at h
  cases e : f s1 with
  | bad => rw [e] at h; exact h
  | exc x s' => rw [e] at h; exact fun Hf' H' st' sr => h σ Hf' H' (st.trans st') .refl sr
  | ok v s' =>
    rw [e] at h
    exact fun x Hf' H' st' sr r fr => hk v x s' Hf' H' st' sr r fr h
/-- the slots' address of what is put -/
theorem own_put {i : Nat} {v : Val} {z : V} (hl : i < s.length) (hs : s.length = σ.length) {p : Addr} (o : Own (s.set i (some v)) (σ.set i (some z)) p) : Own s σ p ∨ (isOwn v = true ∧ z = .ref p) := by
  obtain ⟨k, t, g, o, ek⟩ := o
  rw [slGet_set] at g
  split at g
  · rename_i hh
    cases g
    rw [← hh.1, List.getElem?_set_self (by rw [← hs]; exact hl)] at ek
    cases ek
    exact .inr ⟨o, rfl⟩
  · rename_i hh
    rw [List.getElem?_set_ne fun w => hh ⟨w, hl⟩] at ek
    exact .inl ⟨k, t, g, o, ek⟩
end
section
variable {X : Cx} {tb : Tbs} {fa ca : Nat → Addr} {W : WX} {Φ : Fs} {kin : Exn → D} {p0 : Bool} {i j : Nat} {x y : Str} {pos : Pos} {a b c e it : Ex} {A B : Sm} {ea eb ec elt tg iter : Expr} {es rest : List Expr} {st : Stmt} {sts : List Stmt} {t : Tg}
theorem par_read {D : Ends} {σ : L2.St} {H : Hp} {R : V → V → Hp → Prop} (h0 : p0 = true → i ≠ 0 ∧ j ≠ 0) (h : tS (Wx X tb fa ca) W p0 (run Φ kin (.par i j a b)) D σ H) (hR : ∀ v u H2, D.nx ((σ.set i (some v)).set j (some u)) H2 → R v u H2) :
    tE (Wx X tb fa ca) W (ev Φ kin a) σ H fun v H1 => tE (Wx X tb fa ca) W (ev Φ kin b) σ H1 fun u H2 => R v u H2 := by
  obtain ⟨Hf, s, sr, q⟩ := h
  unfold run at q
  refine goE sr q fun v z s1 Hf1 H1 st1 sr1 r1 fr1 _ q0 => ?_
  refine goE2 sr1 st1 q0 fun u z2 s2 Hf2 H2 st2 sr2 r2 fr2 q2 => ?_
  split at q2
  · rename_i hl
    obtain ⟨hl1, hl2, hne⟩ := hl
    have own1 : isOwn v = true → ∀ p, z = .ref p → H1 p ≠ none ∧ Hf1 p = none ∧ ¬ Own s1 σ p := fun o p ep => by
      obtain ⟨p', e', h1, h2⟩ := r1.addr o
      rw [ep] at e'
      cases e'
      exact ⟨h2, h1, (fr1 o p ep).2⟩
    have keep1 : isOwn v = true → ∀ p, z = .ref p → H2 p = H1 p ∧ Hf2 p = none ∧ ¬ Own s2 σ p := fun o p ep => by
      obtain ⟨k1, k2, k3⟩ := own1 o p ep
      refine ⟨?_, ?_, fun w => (st2.own p w).elim k3 k1⟩
      · cases q : H1 p with
        | none => exact absurd q k1
        | some t => subst ep; exact st2.keep p t q k3 (r1.solid o q)
      · cases q : Hf2 p with
        | none => rfl
        | some t =>
          rcases st2.new p (by rw [q]; exact fun w => nomatch w) with w | w | w
          · exact absurd k2 w
          · exact absurd w k3
          · subst ep
            exact absurd w (r1.nt o)
    have rz : RpV (Wx X tb fa ca) Hf2 H2 z v := r1.mono st2.frz fun p o ep => ⟨(keep1 o p ep).1, (keep1 o p ep).2.1⟩
    have srA := sr2.putV (i := i) hl1 rz fun o p ep => (keep1 o p ep).2.2
    have frB : isOwn u = true → ∀ p, z2 = .ref p → ¬ Own (s2.set i (some v)) (σ.set i (some z)) p := fun o p ep w => by
      obtain ⟨f1, f2⟩ := fr2 o p ep
      rcases own_put hl1 sr2.len w with w | ⟨ov, ez⟩
      · exact f2 w
      · obtain ⟨k1, k2, k3⟩ := own1 ov p ez
        exact f1.elim k1 k3
    have srB := srA.putV (i := j) (by rw [List.length_set]; exact hl2) r2 frB
    have stA := (st1.trans st2).putV (i := i) (v := v) (x := z) hl1 sr2.len fun o p ep => (fr1 o p ep).1
    have stB := stA.putV (i := j) (v := u) (x := z2) (by rw [List.length_set]; exact hl2) srA.len fun o p ep => by
      rcases (fr2 o p ep).1 with w | w
      · exact .inl (st1.back w)
      · rcases st1.own p w with w | w
        · exact .inr w
        · exact .inl w
    exact hR _ _ _ <| q2 _ Hf2 H2 stB (fun h => by rw [List.getElem?_set_ne (h0 h).2, List.getElem?_set_ne (h0 h).1]) srB
  · exact q2.elim
theorem PA_two (ha : PEx X tb fa ca W Φ kin ea a) (hb : PEx X tb fa ca W Φ kin eb b) (hs : starEach [ea, eb] X.env = [(false, eval ea X.env), (false, eval eb X.env)]) (hs2 : starEach [eb] X.env = [(false, eval eb X.env)]) :
    PA X [ea, eb] (tCons (tE (Wx X tb fa ca) W (ev Φ kin a)) (tCons (tE (Wx X tb fa ca) W (ev Φ kin b)) tNil)) := pa_cons ha (pa_cons hb pa_nil (by rw [hs2]; rfl)) (by rw [hs, hs2])
theorem n_par {px py pt : Pos} {kt k2 : Nat} {pt2 : Pos} (hc : X.calm = true) (hN : X.N.Nodup) (hi : X.N[i]? = some x) (hj : X.N[j]? = some y) (hij : i ≠ j)
    (hx : X.env.scope.names.lookup x = some .local) (hy : X.env.scope.names.lookup y = some .local) (ha : PEx X tb fa ca W Φ kin ea a) (hb : PEx X tb fa ca W Φ kin eb b)
    (h1 : starEach [ea, eb] X.env = [(false, eval ea X.env), (false, eval eb X.env)]) (h2 : starEach [eb] X.env = [(false, eval eb X.env)])
    (hw : swappedStores [.Tuple [.Name x px, .Name y py] kt pt] (.Tuple [ea, eb] k2 pt2) X.env = pure (some [x, y]))
    (hs : swapsWithSole [.Tuple [.Name x px, .Name y py] kt pt] (.Tuple [ea, eb] k2 pt2) pos.line X.env = pure false) (h0 : p0 = true → i ≠ 0 ∧ j ≠ 0) :
    PSx X tb fa ca W Φ kin p0 (.Assign [.Tuple [.Name x px, .Name y py] kt pt] (.Tuple [ea, eb] k2 pt2) pos) (.par i j a b) := by
  refine PS_imp (ps_par hc hN hi hj hij hx hy (PA_two ha hb h1 h2) hw hs) fun D σ H q => ?_
  exact par_read h0 q fun v u H2 z => ⟨v, u, rfl, z⟩
/-! x[k] = y -/
theorem putL_ok {w : Wd} {Hf H : Hp} {s s' : Sl} {σ : L2.St} {v : V} {y z : D} {u k : V} (sr : SR w Hf s σ H) (e : putL i y z s = some s') (e1 : σ[i]? = some (some u)) (rk : Dp w.K Hf k y) (rz : Dp w.K Hf v z) {Q : Hp → Prop}
    (q : ∀ H', SR w Hf s' σ H' → Stp Hf s σ H Hf s' σ H' → Q H') : rSetL u k v H Q := by
  unfold putL at e
  split at e
  · rename_i xs j e0
    split at e
    · rename_i j' ej
      cases e
      obtain ⟨x, e2, p, vs, rfl, h1, h2, h3⟩ := sr.sl i _ e0
      rw [e1] at e2
      cases e2
      cases rk with
      | int =>
      obtain ⟨sr2, st2⟩ := sr.mut (v' := .own (xs.set j' z)) (o := .lst (vs.set j' v)) e0 rfl e1 rfl ⟨p, _, rfl, upd_same, h2, h3.set rz j'⟩
      exact ⟨p, vs, j, j', rfl, rfl, h1, by rw [DpAll.len h3]; exact ej, q _ sr2 st2⟩
    · cases e
  · cases e
end
end Ir

set_option Elab.async false
set_option linter.all false
set_option maxRecDepth 100000
set_option maxHeartbeats 4000000
/-! Statements, node by node (3). -/
namespace Ir
open PySem PySem.Spec PyProof.Rows L2

def rSet2 : TSet := fun o i v H Q => rSetL o i v H Q ∨ rSetD o i v H Q
section
variable {X : Cx} {tb : Tbs} {fa ca : Nat → Addr} {W : WX} {Φ : Fs} {kin : Exn → D} {p0 : Bool} {i j : Nat} {x y : Str} {pos : Pos} {a b c e it : Ex} {A B : Sm} {ea eb ec elt tg iter : Expr} {es rest : List Expr} {st : Stmt} {sts : List Stmt} {t : Tg}
theorem set_both (hu : X.A.units + 1 < cLine) : PSet X rSet2 := by
  intro pins s σ H o i v ov iv u Q I ro ri rv h
  rcases h with h | h
  · exact set_list pins s σ H o i v ov iv u Q I ro ri rv h
  · exact set_dict hu pins s σ H o i v ov iv u Q I ro ri rv h
theorem putD_ok {w : Wd} {Hf H : Hp} {s s' : Sl} {σ : L2.St} {v : V} {y z : D} {u k : V} (sr : SR w Hf s σ H) (e : putD i y z s = some s') (e1 : σ[i]? = some (some u)) (rk : Dp w.K Hf k y) (rz : Dp w.K Hf v z) {Q : Hp → Prop}
    (q : ∀ H', SR w Hf s' σ H' → Stp Hf s σ H Hf s' σ H' → Q H') : rSetD u k v H Q := by
  unfold putD at e
  split at e
  · rename_i kvs e0
    split at e
    · rename_i k0 ek
      split at e
      · rename_i hl
        cases e
        obtain ⟨x, e2, p, kv, rfl, h1, h2, h3⟩ := sr.sl i _ e0
        rw [e1] at e2
        cases e2
        rw [keyD_V rk ek]
        have hlen : kv.length < sizeLine := by rw [KVD.len h3]; exact hl
        obtain ⟨sr2, st2⟩ := sr.mut (v' := .dk (dput kvs k0 z)) (o := .dK (putK kv k0 v)) e0 rfl e1 rfl ⟨p, _, rfl, upd_same, h2, h3.put k0 rz⟩
        exact ⟨p, _, rfl, .k h1 hlen, q _ sr2 st2⟩
      · cases e
    · cases e
  · rename_i kvs e0
    split at e
    · rename_i k0 ek
      split at e
      · rename_i hl
        cases e
        obtain ⟨x, e2, p, kv, rfl, h1, h2, h3⟩ := sr.sl i _ e0
        rw [e1] at e2
        cases e2
        obtain ⟨b, rfl, hb⟩ := tkeyD_V rk ek
        have hlen : kv.length < sizeLine := by rw [KVD.len h3]; exact hl
        obtain ⟨sr2, st2⟩ := sr.mut (v' := .dt (dput kvs k0 z)) (o := .dT (putK kv k0 v)) e0 rfl e1 rfl ⟨p, _, rfl, upd_same, h2, h3.put k0 rz⟩
        exact ⟨p, _, rfl, .t h1 (sr.sub _ _ hb) hlen, q _ sr2 st2⟩
      · cases e
    · cases e
  · cases e
theorem optF_post {w : Wd} {Hf H : Hp} {s : Sl} {σ : L2.St} {o : Option Sl} {D : Ends} (h : PostS w W p0 Hf s σ H (optF o) D) : ∃ s', o = some s' ∧ PostS w W p0 Hf s σ H (.next s') D := by
  cases o with
  | none => exact h.elim
  | some s' => exact ⟨s', rfl, h⟩
theorem n_setIx {pn po : Pos} (hu : X.A.units + 1 < cLine) (h : PE X (.Name x pn) (tVar i)) (hk : PEx X tb fa ca W Φ kin eb b) (he : PEx X tb fa ca W Φ kin ea a)
    (hasg : ∀ v, assign (.Subscript (.Name x pn) eb po) X.env v = (do
      let ov ← holding [v] (eval (.Name x pn) X.env)
      let iv ← holding [v, ov] (eval eb X.env)
      standAt po
      holding [v, ov, iv] (setItem ov iv v)
      release [v, ov, iv] []))
    (hs : swapsWithSole [.Subscript (.Name x pn) eb po] ea pos.line X.env = pure false) (hw : swappedStores [.Subscript (.Name x pn) eb po] ea X.env = pure none)
    (h1 : (assignEach [.Subscript (.Name x pn) eb po] X.env).map (·.2) = [assign (.Subscript (.Name x pn) eb po) X.env]) :
    PSx X tb fa ca W Φ kin p0 (.Assign [.Subscript (.Name x pn) eb po] ea pos) (.setIx i b a) := by
  refine PS_imp (ps_asg (pe_D he) (pg_sub h (pe_D hk) (set_both hu) hasg) hs hw h1) fun D σ H ⟨Hf, s, sr, q⟩ => ?_
  unfold run at q
  split at q
  · refine goD sr q fun z y s1 Hf1 H1 st1 sr1 r1 q1 => ?_
    split at q1
    · rename_i hd
      obtain ⟨p, ep, hp⟩ := sr1.isDict hd
      refine ⟨_, ep, goD sr1 q1 fun k dk s2 Hf2 H2 st2 sr2 r2 q2 => .inr ?_⟩
      obtain ⟨s3, e3, q3⟩ := optF_post q2
      exact putD_ok sr2 e3 ep r2 (Dp.mono st2.frz r1) fun H' sr3 st3 => q3 σ Hf2 H' st3 .refl sr3
    · exact q1.elim
  · refine goD sr q fun z y s1 Hf1 H1 st1 sr1 r1 q1 => ?_
    split at q1
    · rename_i hd
      obtain ⟨u, eu⟩ := sr1.has hd
      refine ⟨_, eu, goD sr1 q1 fun k dk s2 Hf2 H2 st2 sr2 r2 q2 => .inl ?_⟩
      obtain ⟨s3, e3, q3⟩ := optF_post q2
      exact putL_ok sr2 e3 eu r2 (Dp.mono st2.frz r1) fun H' sr3 st3 => q3 σ Hf2 H' st3 .refl sr3
    · exact q1.elim
/-- the assignment's shape of a subscript target -/
def AsgSub (X : Cx) (x : Str) (pn po : Pos) (eb : Expr) : Prop := ∀ v, assign (.Subscript (.Name x pn) eb po) X.env v = (do
      let ov ← holding [v] (eval (.Name x pn) X.env)
      let iv ← holding [v, ov] (eval eb X.env)
      standAt po
      holding [v, ov, iv] (setItem ov iv v)
      release [v, ov, iv] [])
theorem n_setIx2 {pn po pn' po' pt pt2 : Pos} {kt k2 : Nat} {eb' ea' : Expr} {a' b' : Ex} (hc : X.calm = true) (hu : X.A.units + 1 < cLine) (h : PE X (.Name x pn) (tVar i)) (h' : PE X (.Name x pn') (tVar i)) (hk : PEx X tb fa ca W Φ kin eb b) (hk' : PEx X tb fa ca W Φ kin eb' b')
    (he : PEx X tb fa ca W Φ kin ea a) (he' : PEx X tb fa ca W Φ kin ea' a') (p1 : starEach [ea, ea'] X.env = [(false, eval ea X.env), (false, eval ea' X.env)]) (p2 : starEach [ea'] X.env = [(false, eval ea' X.env)])
    (g1 : AsgSub X x pn po eb) (g2 : AsgSub X x pn' po' eb')
    (ha1 : (assignEach [.Subscript (.Name x pn) eb po, .Subscript (.Name x pn') eb' po'] X.env).map (·.2) = assign (.Subscript (.Name x pn) eb po) X.env :: (assignEach [.Subscript (.Name x pn') eb' po'] X.env).map (·.2))
    (ha2 : (assignEach [.Subscript (.Name x pn') eb' po'] X.env).map (·.2) = assign (.Subscript (.Name x pn') eb' po') X.env :: (assignEach ([] : List Expr) X.env).map (·.2))
    (hn : (assignEach [.Subscript (.Name x pn) eb po, .Subscript (.Name x pn') eb' po'] X.env).length = 2) (hst : (assignEach [.Subscript (.Name x pn) eb po, .Subscript (.Name x pn') eb' po'] X.env).findIdx? (·.1) = none)
    (hs : swapsWithSole [.Tuple [.Subscript (.Name x pn) eb po, .Subscript (.Name x pn') eb' po'] kt pt] (.Tuple [ea, ea'] k2 pt2) pos.line X.env = pure false) (hw : swappedStores [.Tuple [.Subscript (.Name x pn) eb po, .Subscript (.Name x pn') eb' po'] kt pt] (.Tuple [ea, ea'] k2 pt2) X.env = pure none)
    (h1 : (assignEach [.Tuple [.Subscript (.Name x pn) eb po, .Subscript (.Name x pn') eb' po'] kt pt] X.env).map (·.2) = [assign (.Tuple [.Subscript (.Name x pn) eb po, .Subscript (.Name x pn') eb' po'] kt pt) X.env]) :
    PSx X tb fa ca W Φ kin p0 (.Assign [.Tuple [.Subscript (.Name x pn) eb po, .Subscript (.Name x pn') eb' po'] kt pt] (.Tuple [ea, ea'] k2 pt2) pos) (.setIx2 i b b' a a') := by
  refine PS_imp (ps_asg (pe_tup (pa_cons (pe_D he) (pa_cons (pe_D he') pa_nil (by rw [p2]; rfl)) (by rw [p1, p2]))) (pg_tup (n := 2) hc (pgs_cons (pg_sub h (pe_D hk) set_list g1) (pgs_cons (pg_sub h' (pe_D hk') set_list g2) pgs_nil ha2) ha1) hn hst) hs hw h1) fun D σ H ⟨Hf, s, sr, q⟩ => ?_
  unfold run at q
  refine goD sr q fun z y s1 Hf1 H1 st1 sr1 r1 q1 => ?_
  refine goD sr1 q1 fun z2 y2 s2 Hf2 H2 st2 sr2 r2 q2 => ?_
  refine ⟨by show 2 ≤ sizeLine; decide, fun p hp => ?_⟩
  obtain ⟨sr2', st2'⟩ := sr2.newO (o := .tup [z, z2]) hp
  have q2' := q2.after st2' .refl
  refine ⟨p, [z, z2], rfl, .of upd_same, rfl, ?_⟩
  split at q2'
  · rename_i hd
    obtain ⟨u, eu⟩ := sr2'.has hd
    refine ⟨z, [z2], rfl, u, eu, goD sr2' q2' fun k dk s3 Hf3 H3 st3 sr3 r3 q3 => ?_⟩
    split at q3
    · rename_i s4 e4
      refine putL_ok sr3 e4 eu r3 (Dp.mono st3.frz (Dp.mono st2.frz r1)) fun H' sr4 st4 => ?_
      have q4 := q3.after st4 .refl
      refine ⟨z2, [], rfl, u, eu, goD sr4 q4 fun k dk s5 Hf5 H5 st5 sr5 r5 q5 => ?_⟩
      obtain ⟨s6, e6, q6⟩ := optF_post q5
      exact putL_ok sr5 e6 eu r5 (Dp.mono st5.frz (Dp.mono st3.frz r2)) fun H' sr6 st6 => ⟨rfl, q6 σ Hf5 H' st6 .refl sr6⟩
    · exact q3.elim
  · exact q2'.elim
/-! x.append(e) -/
theorem n_app {pn apos cpos : Pos} (h : PE X (.Name x pn) (tVar i)) (he : PEx X tb fa ca W Φ kin ea a)
    (hbase : attributeBase (.Name x pn) "append" X.env (eval (.Name x pn) X.env) = eval (.Name x pn) X.env)
    (hfew : ((backTo cpos (starEach [ea] X.env)).all (fun x => !x.1) && (backToKw cpos (keywordEach [] X.env)).all (fun x => x.1.isSome)
      && decide ([ea].length + ([] : List Keyword).length + (if ([] : List Keyword).isEmpty then 0 else 1) < 30)) = true)
    (hline : (apos.endLine == cpos.line) = true) (hs1 : starEach [ea] X.env = (false, eval ea X.env) :: starEach [] X.env) (hs : swapsWith (.Call (.Attribute (.Name x pn) "append" apos) [ea] [] cpos) none pos.line X.env = pure false) :
    PSx X tb fa ca W Φ kin p0 (.Expr (.Call (.Attribute (.Name x pn) "append" apos) [ea] [] cpos) pos) (.app i a) := by
  refine PS_imp (ps_expr (pe_bm (r := rAppend) PySem.F.plainAttrs_list PySem.F.slot_list_append PySem.F.type_list_append mt_append h (pa_cons (pe_D he) pa_nil hs1) hbase hfew hline hs1 (by rfl)) hs) fun D σ H ⟨Hf, s, sr, q⟩ => ?_
  unfold run at q
  split at q
  · rename_i hd
    unfold hasOwn at hd
    split at hd
    · rename_i xs e0
      obtain ⟨z, e1, p, vs, rfl, h1, h2, h3⟩ := sr.sl i _ e0
      refine ⟨_, e1, .inl ⟨rfl, _, .of h1⟩, goD sr q fun z y s1 Hf1 H1 st1 sr1 r1 q1 => ?_⟩
      split at q1
      · rename_i ys ey
        split at q1
        · rename_i hl
          obtain ⟨z', e1', p', vs', ep, h1', h2', h3'⟩ := sr1.sl i _ ey
          rw [e1] at e1'
          cases e1'
          cases ep
          obtain ⟨sr2, st2⟩ := sr1.mut (v' := .own (ys ++ [y])) (o := .lst (vs' ++ [z])) ey rfl e1 rfl ⟨_, _, rfl, upd_same, h2', h3'.app (.cons r1 .nil)⟩
          exact ⟨_, vs', z, rfl, rfl, h1', by rw [DpAll.len h3']; exact hl, q1 σ Hf1 _ st2 .refl sr2⟩
        · exact q1.elim
      · exact q1.elim
    · cases hd
  · exact q.elim
end
end Ir

set_option Elab.async false
set_option linter.all false
set_option maxRecDepth 100000
set_option maxHeartbeats 4000000
/-! Loops, raise. -/
namespace Ir
open PySem PySem.Spec PyProof.Rows L2

section
variable {w : Wd} {W : WX} {p0 : Bool} {Hf H : Hp} {s : Sl} {σ : L2.St}
/-- items, then on -/
theorem goI {f : Evl} {k : Val → Sl → Flo} {D : Ends} {R : It → Hp → Prop} (hs : SR w Hf s σ H) (h : PostS w W p0 Hf s σ H ((f s).go k) D) (hb : ∀ v s, (∀ items, v ≠ .d (.list items)) → k v s = .bad)
    (hk : ∀ items J s1 Hf1 H1, Stp Hf s σ H Hf1 s1 σ H1 → SR w Hf1 s1 σ H1 → Wk w.K Hf1 J items → PostS w W p0 Hf s σ H (k (.d (.list items)) s1) D → R J H1) : tIt w W f σ H R := by
  refine ⟨Hf, s, hs, ?_⟩
  unfold PostI
  unfold Res.go at h
  cases e : f s with
  | bad => rw [e] at h; exact h
  | exc x s' => rw [e] at h; exact fun Hf' H' st sr => h σ Hf' H' st .refl sr
  | ok v s' =>
    rw [e] at h
    dsimp only at h ⊢
    split
    · rename_i items
      exact fun J Hf' H' st sr wk => hk items J s' Hf' H' st sr wk h
    · rename_i hn
      rw [hb v s' fun items z => hn items z] at h
      exact h
/-- a flow's ends in a loop's body: what PostS says of the whole is handed to the turn -/
theorem turn_post {f : Flo} {k : Sl → Flo} {D : Ends} {N : L2.St → Hp → Prop} {Hf1 H1 : Hp} {s1 : Sl} {σ1 : L2.St} (st : Stp Hf s σ H Hf1 s1 σ1 H1) (kp : Keep0 p0 σ σ1)
    (h : PostS w W p0 Hf s σ H (match f with | .next s2 => k s2 | .cont s2 => k s2 | .brk s2 => .next s2 | f => f) D)
    (hN : ∀ s2 σ2 Hf2 H2, Stp Hf1 s1 σ1 H1 Hf2 s2 σ2 H2 → Stp Hf s σ H Hf2 s2 σ2 H2 → Keep0 p0 σ σ2 → SR w Hf2 s2 σ2 H2 → PostS w W p0 Hf s σ H (k s2) D → N σ2 H2) :
    PostS w W p0 Hf1 s1 σ1 H1 f { D with nx := N, ct := N, bk := D.nx } := by
  cases f with
  | bad => exact h
  | next s2 => exact fun σ2 Hf2 H2 st2 k2 sr2 => hN s2 σ2 Hf2 H2 st2 (st.trans st2) (kp.trans k2) sr2 h
  | cont s2 => exact fun σ2 Hf2 H2 st2 k2 sr2 => hN s2 σ2 Hf2 H2 st2 (st.trans st2) (kp.trans k2) sr2 h
  | brk s2 => exact fun σ2 Hf2 H2 st2 k2 sr2 => h σ2 Hf2 H2 (st.trans st2) (kp.trans k2) sr2
  | exc e s2 => exact fun σ2 Hf2 H2 st2 k2 sr2 => h σ2 Hf2 H2 (st.trans st2) (kp.trans k2) sr2
  | ret v s2 => exact fun x σ2 Hf2 H2 st2 k2 sr2 r fr => h x σ2 Hf2 H2 (st.trans st2) (kp.trans k2) sr2 r fun o b e => ⟨(fr o b e).1.elim (fun z => .inl (st.back z)) fun z => (st.own b z).elim .inr .inl, (fr o b e).2⟩
end
section
variable {X : Cx} {tb : Tbs} {fa ca : Nat → Addr} {W : WX} {Φ : Fs} {kin : Exn → D} {p0 : Bool} {i j : Nat} {x y : Str} {pos : Pos} {a b c e it : Ex} {A B : Sm} {ea eb ec elt tg iter : Expr} {es rest : List Expr} {st : Stmt} {sts : List Stmt} {t : Tg}
theorem n_for (hp : PassesOwn (model X.prog X.w) X.A X.env X.xe) (hc : X.calm = true) (hi : PIx X tb fa ca W Φ kin tg iter it) (hg : PG X tg (gT (Wx X tb fa ca) t)) (hb : PSsx X tb fa ca W Φ kin p0 sts B)
    (hs : ∀ x, foldedSetIterable iter X.env x = pure x) (h0 : p0 = true → 0 ∉ tgSlots t) : PSx X tb fa ca W Φ kin p0 (.For tg iter sts [] pos) (.for_ t it B) := by
  refine PS_imp (ps_for hp hc hi hg hb hs) fun D σ H ⟨Hf, s, sr, q⟩ => ?_
  unfold run at q
  refine goI sr q (fun v s hv => ?_) fun items J s1 Hf1 H1 st1 sr1 wk q1 => ?_
  · split
    · rename_i items
      exact absurd rfl (hv items)
    · rfl
  · dsimp only at q1
    refine ⟨fun i m σ' H' => m = items.length - i ∧ i ≤ items.length ∧ ∃ Hf' s', Stp Hf s σ H Hf' s' σ' H' ∧ Keep0 p0 σ σ' ∧ SR (Wx X tb fa ca) Hf' s' σ' H' ∧ Same Hf1 Hf' ∧ PostS (Wx X tb fa ca) W p0 Hf s σ H (forL (run Φ kin B) t (items.drop i) s') D,
      ⟨items.length, rfl, Nat.zero_le _, Hf1, s1, st1, .refl, sr1, Same.refl _, q1⟩, ?_⟩
    rintro i m σ' H' ⟨rfl, hi, Hf', s', st', kp', sr', sm', q'⟩
    by_cases hlt : i < items.length
    · have ed : items.drop i = items[i] :: items.drop (i + 1) := List.drop_eq_getElem_cons hlt
      rw [ed] at q'
      unfold forL at q'
      refine .inr ⟨wk.go i H' hlt (sm'.trans sr'.sub), fun σ2 H2 => ∃ Hf2 s2, Stp Hf s σ H Hf2 s2 σ2 H2 ∧ Keep0 p0 σ σ2 ∧ SR (Wx X tb fa ca) Hf2 s2 σ2 H2 ∧ Same Hf1 Hf2 ∧ PostS (Wx X tb fa ca) W p0 Hf s σ H (forL (run Φ kin B) t (items.drop (i + 1)) s2) D, fun σ2 H2 ⟨Hf2, s2, h1, h2, h3, h4, h5⟩ => ⟨_, by omega, rfl, hlt, Hf2, s2, h1, h2, h3, h4, h5⟩, fun x H'' hy => ?_⟩
      have nr := wk.yld i items[i] x H' H'' (List.getElem?_eq_getElem hlt) (sm'.trans sr'.sub) hy
      obtain ⟨Hf3, sr3, st3, r3⟩ := newR_d sr' (nr.mono sm')
      split at q'
      · exact q'.elim
      · rename_i s4 e4
        refine ⟨Hf3, s', items[i], sr3, r3, ?_⟩
        rw [e4]
        dsimp only
        intro σ4 off sr4 st4
        have kp4 : Keep0 p0 σ σ4 := kp'.trans fun h => off.2 0 (h0 h)
        have stt := (st'.trans st3).trans st4
        refine ⟨Hf3, s4, sr4, turn_post stt kp4 q' fun s5 σ5 Hf5 H5 stp st5 kp5 sr5 q5 => ⟨Hf5, s5, st5, kp5, sr5, ?_, q5⟩⟩
        exact sm'.trans (st3.frz.trans (st4.frz.trans stp.frz))
    · have ei : i = items.length := by omega
      subst ei
      rw [List.drop_length] at q'
      unfold forL at q'
      exact .inl ⟨wk.stop H' (sm'.trans sr'.sub), q' σ' Hf' H' st' kp' sr'⟩
/-! while -/
theorem n_while {n : Nat} (hp : PassesOwn (model X.prog X.w) X.A X.env X.xe) (hc : PTx X tb fa ca W Φ kin ec c) (hb : PSsx X tb fa ca W Φ kin p0 sts B) : PSx X tb fa ca W Φ kin p0 (.While ec sts [] pos) (.while_ n c B) := by
  refine PS_imp (ps_while hp hc hb) fun D σ H ⟨Hf, s, sr, q⟩ => ?_
  unfold run at q
  refine ⟨fun m σ' H' => ∃ Hf' s', Stp Hf s σ H Hf' s' σ' H' ∧ Keep0 p0 σ σ' ∧ SR (Wx X tb fa ca) Hf' s' σ' H' ∧ PostS (Wx X tb fa ca) W p0 Hf s σ H (whileL (ev Φ kin c) (run Φ kin B) m s') D, ⟨n, Hf, s, .refl, .refl, sr, q⟩, ?_⟩
  rintro m σ' H' ⟨Hf', s', st', kp', sr', q'⟩
  cases m with
  | zero => exact q'.elim
  | succ m =>
    unfold whileL at q'
    refine ⟨Hf', s', sr', ?_⟩
    unfold PostB
    unfold Res.goB Res.go at q'
    cases e : ev Φ kin c s' with
    | bad => rw [e] at q'; exact q'
    | exc x s2 => rw [e] at q'; exact fun Hf2 H2 st2 sr2 => q' σ' Hf2 H2 (st'.trans st2) kp' sr2
    | ok v s2 =>
      rw [e] at q'
      dsimp only at q' ⊢
      split
      · rename_i b
        dsimp only at q'
        intro Hf2 H2 st2 sr2
        cases b with
        | true =>
          rw [if_pos rfl] at q' ⊢
          refine ⟨fun σ3 H3 => ∃ Hf3 s3, Stp Hf s σ H Hf3 s3 σ3 H3 ∧ Keep0 p0 σ σ3 ∧ SR (Wx X tb fa ca) Hf3 s3 σ3 H3 ∧ PostS (Wx X tb fa ca) W p0 Hf s σ H (whileL (ev Φ kin c) (run Φ kin B) m s3) D, fun σ3 H3 z => ⟨m, Nat.lt_succ_self m, z⟩, Hf2, s2, sr2, ?_⟩
          exact turn_post (st'.trans st2) kp' q' fun s5 σ5 Hf5 H5 stp st5 kp5 sr5 q5 => ⟨Hf5, s5, st5, kp5, sr5, q5⟩
        | false =>
          rw [if_neg Bool.false_ne_true] at q' ⊢
          exact q' σ' Hf2 H2 (st'.trans st2) kp' sr2
      · split at q'
        · rename_i b hn
          exact absurd rfl (hn b)
        · exact q'
/-! raise -/
/-- the exception class number c -/
structure Cl (X : Cx) (ca : Nat → Addr) (x : Str) (c : Nat) : Prop where
  g : Gl X x
  m : X.mg x = some (.ref (ca c))
  k : PySem.W.keepIn X.K (.ref (ca c)) = true
  r : Raises X (.ref (ca c))
  d : (x == ("__debug__" : Str)) = false
  e : ∃ B newId initId bmB, ExcBaseFacts B newId initId bmB ∧ PySem.W.excIn X.K (ca c) bmB newId = true
theorem n_raise {cl k : Nat} {m : Str} {p p2 q : Pos} (hc : X.calm = true) (tk : L2N.Takes X W) (h : Cl X ca x cl) : PSx X tb fa ca W Φ kin p0 (.Raise (some (.Call (.Name x p) [.Constant (.str m) k p2] [] q)) none pos) (.raise ⟨cl, none⟩) := by
  obtain ⟨B, newId, initId, bmB, F, hq⟩ := h.e
  refine PS_imp (L2N.ps_raise hc tk (L2N.pmk_own F hq h.m h.k h.r h.g h.d)) fun D σ H ⟨Hf, s, sr, q⟩ => ?_
  unfold run at q
  exact q σ Hf H .refl .refl sr
end
end Ir

set_option Elab.async false
set_option linter.all false
set_option maxRecDepth 100000
set_option maxHeartbeats 4000000
/-! A loop over defs. -/
namespace Ir
open PySem PySem.Spec PyProof.Rows L2

section
variable {X : Cx} {tb : Tbs} {fa ca : Nat → Addr} {W : WX} {Φ : Fs} {kin : Exn → D} {p0 : Bool} {i j : Nat} {x y : Str} {pos : Pos} {a b c e it : Ex} {A B : Sm} {ea eb ec elt tg iter : Expr} {es rest : List Expr} {st : Stmt} {sts : List Stmt} {t : Tg}
def tFa (fa : Nat → Addr) (fs : List Nat) : TA := fun _ H Q => Q (fs.map fun f => V.ref (fa f)) H
theorem n_fnil : PA X [] (tFa fa []) := PA_imp pa_nil fun _ _ _ q => q
theorem n_fcons {f : Nat} {fs : List Nat} {p : Pos} (n : Nm X fa x f) (h : PA X es (tFa fa fs)) (hs : starEach (.Name x p :: es) X.env = (false, eval (.Name x p) X.env) :: starEach es X.env) : PA X (.Name x p :: es) (tFa fa (f :: fs)) :=
  PA_imp (pa_cons (pe_glob n.g n.m (v := .ref (fa f)) rfl n.d) h hs) fun _ _ _ q => q
theorem SR.putFn {w : Wd} {Hf H : Hp} {s : Sl} {σ : L2.St} {f : Nat} (h : SR w Hf s σ H) (hi : i < s.length) : SR w Hf (s.set i (some (.fn f))) (σ.set i (some (.ref (w.fa f)))) H ∧ Stp Hf s σ H Hf (s.set i (some (.fn f))) (σ.set i (some (.ref (w.fa f)))) H :=
  ⟨h.putV (v := .fn f) hi rfl (fun z => nomatch z), Stp.refl.putV (v := .fn f) hi h.len (fun z => nomatch z)⟩
theorem n_forFn {fs : List Nat} {pn pt : Pos} {k : Nat} (hp : PassesOwn (model X.prog X.w) X.A X.env X.xe) (hc : X.calm = true) (hl : fs.length ≤ sizeLine) (h : PA X es (tFa fa fs)) (hN : X.N.Nodup) (hi : X.N[i]? = some x) (hx : Loc X.env.scope x) (hf : X.fn x = true ∨ X.env.scope.names.lookup x = some .local) (hb : PSsx X tb fa ca W Φ kin p0 sts B)
    (hs : ∀ x, foldedSetIterable (.Tuple es k pt) X.env x = pure x) (h0 : p0 = true → i ≠ 0) : PSx X tb fa ca W Φ kin p0 (.For (.Name x pn) (.Tuple es k pt) sts [] pos) (.forFn i fs B) := by
  refine PS_imp (ps_for hp hc (pi_tup (pe_tup h)) (pg_name hN hi hx hf) hb hs) fun D σ H ⟨Hf, s, sr, q⟩ => ?_
  unfold run at q
  refine ⟨by rw [List.length_map]; exact hl, fun p hp => ?_⟩
  obtain ⟨sr0, st0⟩ := sr.newO (o := .tup (fs.map fun f => V.ref (fa f))) hp
  have q0 := q.after st0 .refl
  have no := sr.notOwn hp
  refine ⟨p, rfl, ⟨_, .of upd_same⟩, fun i' m σ' H' => m = fs.length - i' ∧ i' ≤ fs.length ∧ ∃ Hf' s', Stp Hf s σ (upd H p (.tup (fs.map fun f => V.ref (fa f)))) Hf' s' σ' H' ∧ Keep0 p0 σ σ' ∧ SR (Wx X tb fa ca) Hf' s' σ' H' ∧ PostS (Wx X tb fa ca) W p0 Hf s σ (upd H p (.tup (fs.map fun f => V.ref (fa f)))) (forF (run Φ kin B) i (fs.drop i') s') D,
      ⟨fs.length, rfl, Nat.zero_le _, Hf, s, .refl, .refl, sr0, q0⟩, ?_⟩
  rintro i' m σ' H' ⟨rfl, hi', Hf', s', st', kp', sr', q'⟩
  have hk : H' p = some (.tup (fs.map fun f => V.ref (fa f))) := st'.keep p _ upd_same no so_tup
  by_cases hlt : i' < fs.length
  · have ed : fs.drop i' = fs[i'] :: fs.drop (i' + 1) := List.drop_eq_getElem_cons hlt
    rw [ed] at q'
    unfold forF at q'
    have ev : (fs.map fun f => V.ref (fa f))[i']? = some (.ref (fa fs[i'])) := by rw [List.getElem?_map, List.getElem?_eq_getElem hlt]; rfl
    refine .inr ⟨⟨_, _, .of hk, ev⟩, fun σ2 H2 => ∃ Hf2 s2, Stp Hf s σ (upd H p (.tup (fs.map fun f => V.ref (fa f)))) Hf2 s2 σ2 H2 ∧ Keep0 p0 σ σ2 ∧ SR (Wx X tb fa ca) Hf2 s2 σ2 H2 ∧ PostS (Wx X tb fa ca) W p0 Hf s σ (upd H p (.tup (fs.map fun f => V.ref (fa f)))) (forF (run Φ kin B) i (fs.drop (i' + 1)) s2) D,
      fun σ2 H2 ⟨Hf2, s2, h1, h2, h3, h5⟩ => ⟨_, by omega, rfl, hlt, Hf2, s2, h1, h2, h3, h5⟩, fun x H'' hy => ?_⟩
    obtain ⟨e1, hy⟩ := hy
    have ex := hy _ (.of hk)
    rw [ev] at ex
    cases ex
    subst e1
    split at q'
    · rename_i hlen
      obtain ⟨sr4, st4⟩ := sr'.putFn (f := fs[i']) hlen
      refine ⟨Hf', _, sr4, turn_post (st'.trans st4) (kp'.trans (keep_set h0)) q' fun s5 σ5 Hf5 H5 stp st5 kp5 sr5 q5 => ⟨Hf5, s5, st5, kp5, sr5, q5⟩⟩
    · exact q'.elim
  · have ei : i' = fs.length := by omega
    subst ei
    rw [List.drop_length] at q'
    unfold forF at q'
    exact .inl ⟨⟨_, .of hk, by rw [List.length_map]; exact Nat.le_refl _⟩, q' σ' Hf' H' st' kp' sr'⟩
end
end Ir

set_option Elab.async false
set_option linter.all false
set_option maxRecDepth 100000
set_option maxHeartbeats 4000000
/-! The syntax' side conditions, by Bool. -/
namespace Ir
open PySem PySem.Spec PyProof.Rows L2

def nst : Expr → Bool
  | .Starred _ _ => false
  | _ => true
def nslice : Expr → Bool
  | .Slice _ _ _ _ => false
  | _ => true
def ncomp : Expr → Bool
  | .ListComp _ _ _ _ => false
  | .SetComp _ _ _ _ => false
  | .DictComp _ _ _ _ _ => false
  | _ => true
def nset : Expr → Bool
  | .Set _ _ _ => false
  | _ => true
def valT : Expr → Bool
  | .UnaryOp .Not _ _ => false
  | .BoolOp _ _ _ => false
  | .IfExp _ _ _ _ => false
  | .Compare _ _ _ _ => false
  | _ => true
def baseOk : Expr → Bool
  | .Name _ _ => true
  | .Constant _ _ _ => true
  | _ => false
theorem star_of {e : Expr} {es : List Expr} {env : Env} (h : nst e = true) : starEach (e :: es) env = (false, eval e env) :: starEach es env := by
  cases e <;> first | rfl | cases h
theorem star_plain {env : Env} : ∀ {es : List Expr} {pos : Pos}, es.all nst = true → (backTo pos (starEach es env)).any (·.1) = false
  | [], _, _ => rfl
  | e :: es, pos, h => by
    rw [List.all_cons, Bool.and_eq_true] at h
    rw [star_of h.1]
    show (false || (backTo pos (starEach es env)).any (·.1)) = false
    rw [star_plain h.2]
    rfl
theorem plain_of {X : Cx} {ea : Expr} {es : List Expr} {pos : Pos} (h : (ea :: es).all nst = true) : Plain X ea es pos := by
  rw [List.all_cons, Bool.and_eq_true] at h
  exact ⟨star_of h.1, star_plain h.2⟩
theorem isTrue_of {e : Expr} {env : Env} (h : valT e = true) (whole : Sem Value) : isTrue e env whole = (do let v ← whole; standAt e.pos; holding [v] (truthy v)) := by
  cases e with
  | UnaryOp op x p => cases op <;> first | rfl | cases h
  | _ => first | rfl | cases h
theorem behind_of {op : CmpOp} {e : Expr} (h : nset e = true) : behindInMarks op e = false := by
  cases e <;> first | rfl | cases h
theorem plainIx_of {e : Expr} (h : nslice e = true) : PlainIx e := fun o i => by
  cases e <;> first | rfl | cases h
theorem noSl_of {e : Expr} (h : nslice e = true) : NoSl e := fun o i => by
  cases e <;> first | rfl | cases h
theorem swaps_of {v : Expr} {t : Option Expr} {l : Nat} {env : Env} (h : ncomp v = true) : swapsWith v t l env = pure false := by
  cases v <;> first | rfl | cases h
theorem folded_of {e : Expr} {env : Env} (h : nset e = true) (x : Value) : foldedSetIterable e env x = pure x := by
  cases e <;> first | rfl | cases h
theorem base_of {e : Expr} {m : Str} {env : Env} (h : baseOk e = true) : attributeBase e m env (eval e env) = eval e env := by
  cases e <;> first | rfl | cases h
theorem asgSub_of {X : Cx} {x : Str} {pn po : Pos} {eb : Expr} (h : nslice eb = true) : AsgSub X x pn po eb := fun v => by
  cases eb <;> first | rfl | cases h
theorem asg1_of {e : Expr} {es : List Expr} {env : Env} (h : nst e = true) : (assignEach (e :: es) env).map (·.2) = assign e env :: (assignEach es env).map (·.2) := by
  cases e <;> first | rfl | cases h
theorem asgLen_of {env : Env} : ∀ {es : List Expr}, es.all nst = true → (assignEach es env).length = es.length
  | [], _ => rfl
  | e :: es, h => by
    rw [List.all_cons, Bool.and_eq_true] at h
    have e1 : assignEach (e :: es) env = (false, assign e env) :: assignEach es env := by
      have := h.1
      cases e <;> first | rfl | cases this
    rw [e1, List.length_cons, asgLen_of h.2]
    rfl
theorem asgStar_of {env : Env} : ∀ {es : List Expr}, es.all nst = true → (assignEach es env).findIdx? (·.1) = none
  | [], _ => rfl
  | e :: es, h => by
    rw [List.all_cons, Bool.and_eq_true] at h
    have e1 : assignEach (e :: es) env = (false, assign e env) :: assignEach es env := by
      have := h.1
      cases e <;> first | rfl | cases this
    rw [e1, List.findIdx?_cons]
    rw [asgStar_of h.2]
    rfl
/-- a plain local name -/
def lcB (sc : Scope) (x : Str) : Bool := decide (sc.names.lookup x = some .local)
/-- the targets that swappedStores counts -/
def swNames (sc : Scope) (line : Nat) (ts : List Expr) : List Str := ts.filterMap fun
  | .Name id pos => if sc.names.lookup id == some .local && pos.line == line then some id else none
  | _ => none
theorem swapped_single {t v : Expr} {env : Env} (h : (match t with | .Tuple _ _ _ => false | .List _ _ => false | _ => true) = true) : swappedStores [t] v env = pure none := by
  cases t <;> first | rfl | cases h
theorem swapped_noTup {t v : Expr} {env : Env} (h : (match v with | .Tuple _ _ _ => false | _ => true) = true) : swappedStores [t] v env = pure none := by
  cases v <;> first | (cases t <;> rfl) | cases h
/-- no stores are swapped: a target that is no plain local name of that line -/
theorem swapped_none {ts vs : List Expr} {k k2 : Nat} {p p2 : Pos} {env : Env} (h : (swNames env.scope ((ts.head?.map (·.pos.line)).getD 0) ts).length ≠ ts.length) : swappedStores [.Tuple ts k p] (.Tuple vs k2 p2) env = pure none := by
  have hb : ((swNames env.scope ((ts.head?.map (·.pos.line)).getD 0) ts).length != ts.length) = true := bne_iff_ne.mpr h
  unfold swappedStores
  simp only [pure_bind]
  unfold swNames at hb
  split
  · rfl
  · split
    · rfl
    · rw [if_pos]
      exact (Bool.or_eq_true _ _).mpr (.inl hb)
/-- values that are folded for sure: stored from left to right -/
theorem swapped_folded {ts vs : List Expr} {k k2 : Nat} {p p2 : Pos} {env : Env} (h : vs.all (foldedForSure 8) = true) : swappedStores [.Tuple ts k p] (.Tuple vs k2 p2) env = pure none := by
  unfold swappedStores
  simp only [pure_bind]
  split
  · rfl
  · split
    · rfl
    · split
      · rfl
      · first | rfl | rw [if_pos h]
theorem swapped_two {x y : Str} {px py p p2 : Pos} {a b : Expr} {k k2 : Nat} {env : Env} (hk : env.scope.kind = .function) (hx : env.scope.names.lookup x = some .local) (hy : env.scope.names.lookup y = some .local) (hxy : x ≠ y) (hl : py.line = px.line)
    (ha : nst a = true) (hb : nst b = true) (hc : (foldedForSure 8 a && foldedForSure 8 b) = false) (hd : (constantsAlone 8 a && constantsAlone 8 b) = false) :
    swappedStores [.Tuple [.Name x px, .Name y py] k p] (.Tuple [a, b] k2 p2) env = pure (some [x, y]) := by
  have hbk : env.blockKind = .function := by unfold Env.blockKind; rw [hk]; rfl
  have hkx : env.kindOf x = some .local := hx
  have hky : env.kindOf y = some .local := hy
  have e1 : (env.kindOf x == some .local && px.line == (Expr.Name x px).pos.line) = true := by
    show (env.kindOf x == some .local && px.line == px.line) = true
    rw [hkx]; simp
  have e2 : (env.kindOf y == some .local && py.line == (Expr.Name x px).pos.line) = true := by
    show (env.kindOf y == some .local && py.line == px.line) = true
    rw [hky, hl]; simp
  unfold swappedStores
  simp only [pure_bind, List.head?_cons, Option.map_some, Option.getD_some]
  rw [if_neg (by simp [hbk]), if_neg (by cases a <;> cases b <;> first | exact Bool.false_ne_true | (cases ha; done) | (cases hb; done))]
  have e4 : [x, y].eraseDups = [x, y] := by
    have : (x == y) = false := by simpa using hxy
    have h2 : (y == x) = false := by simpa using fun z => hxy z.symm
    simp [List.eraseDups_cons, this, h2]
  simp only [List.filterMap_cons, List.filterMap_nil, e1, e2, if_true, e4]
  rw [if_neg (by simp), if_neg (by simpa using hc), if_neg (by simpa using hd)]
  all_goals rfl
/-- a comprehension of that line, given to a plain local name that it does not own -/
theorem swaps_comp {x : Str} {elt : Expr} {gs : List Comprehension} {scope : Scope} {cp pn : Pos} {l : Nat} {env : Env} (hk : env.scope.kind = .function) (hx : env.scope.names.lookup x = some .local) (hl : pn.line = cp.line)
    (ho : (scope.names.any fun (n, k) => n == x && (k == .local || k == .cell)) = false) : swapsWith (.ListComp elt gs scope cp) (some (.Name x pn)) l env = pure true := by
  have hbk : env.blockKind = .function := by unfold Env.blockKind; rw [hk]; rfl
  have hkx : env.kindOf x = some .local := hx
  unfold swapsWith
  simp only [pure_bind]
  rw [hbk, hkx]
  have e : (pn.line == (Expr.ListComp elt gs scope cp).pos.line) = true := by
    show (pn.line == cp.line) = true
    rw [hl]; simp
  rw [e, ho]
  rfl
/-- .. to another name -/
theorem swaps_comp_no {x : Str} {elt : Expr} {gs : List Comprehension} {scope : Scope} {cp pn : Pos} {l : Nat} {env : Env} (hx : lcB env.scope x = false) : swapsWith (.ListComp elt gs scope cp) (some (.Name x pn)) l env = pure false := by
  have hkx : (env.kindOf x == some .local) = false := by
    unfold lcB at hx
    simpa [Env.kindOf] using hx
  unfold swapsWith
  simp only [pure_bind]
  rw [hkx]
  simp
theorem swapsSole_of {t v : Expr} {l : Nat} {env : Env} (h : ncomp v = true ∨ (match t with | .Name _ _ => false | _ => true) = true) : swapsWithSole [t] v l env = pure false := by
  show swapsWith v (some t) l env = pure false
  rcases h with h | h
  · exact swaps_of h
  · cases t <;> first | (cases h; done) | (cases v <;> rfl)
end Ir

set_option Elab.async false
set_option linter.all false
set_option maxRecDepth 100000
set_option maxHeartbeats 4000000
/-! Tests on membership; a chain as test. -/
namespace Ir
open PySem PySem.Spec PyProof.Rows L2
section
variable {X : Cx} {tb : Tbs} {fa ca : Nat → Addr} {W : WX} {Φ : Fs} {kin : Exn → D} {i : Nat} {x : Str} {pos : Pos} {a b c : Ex} {ea eb ec : Expr} {es rest : List Expr}
theorem n_tinS (n : Bool) (hu : X.A.units + 65 < cLine) {pn : Pos} (ha : PEx X tb fa ca W Φ kin ea a) (h : PE X (.Name x pn) (tVar i)) : PTx X tb fa ca W Φ kin (.Compare ea [if n then .NotIn else .In] [.Name x pn] pos) (.inS n a i) := by
  have hu1 : X.A.units + 1 < cLine := by omega
  cases n with
  | false =>
    refine PT_imp (PT_or (pt_cmpR (op_cop .inn hu) (pe_D ha) h rfl) (pt_cmp (pc_din hu1 (pe_D ha) h) rfl)) fun σ H Q ⟨Hf, s, sr, q⟩ => ?_
    unfold ev at q
    split at q
    · rename_i hd
      refine .inr (bindDB sr q fun y dy s2 Hf2 H2 st2 sr2 r2 q2 => ?_)
      split at q2
      · rename_i v e
        split at q2
        · rename_i o eo
          obtain ⟨p, o', e3, g, c⟩ := sr2.dict e r2 eo
          have eo' : o.isSome = o'.isSome := by
            rcases c with ⟨c1, c2⟩ | ⟨z', y', c1, c2, c3⟩
            · rw [c1, c2]; rfl
            · rw [c1, c2]; rfl
          refine ⟨_, e3, p, o', rfl, g, ?_⟩
          rw [← eo']
          exact ⟨_, rfl, q2 Hf2 H2 .refl sr2⟩
        · exact q2.elim
      · exact q2.elim
    · refine .inl (bindDB sr q fun y dy s2 Hf2 H2 st2 sr2 r2 q2 => ?_)
      split at q2
      · rename_i v e
        split at q2
        · rename_i dx ex
          split at q2
          · rename_i z ez
            obtain ⟨u', eu', r1, _⟩ := sr2.peek e ex
            exact ⟨_, eu', dy, dx, z, Dp.mono sr2.sub r2, r1, ez, _, rfl, q2 Hf2 H2 .refl sr2⟩
          · exact q2.elim
        · exact q2.elim
      · exact q2.elim
  | true =>
    refine PT_imp (PT_or (pt_cmpR (op_cop .notin hu) (pe_D ha) h rfl) (pt_cmp (pc_dnotin hu1 (pe_D ha) h) rfl)) fun σ H Q ⟨Hf, s, sr, q⟩ => ?_
    unfold ev at q
    split at q
    · rename_i hd
      refine .inr (bindDB sr q fun y dy s2 Hf2 H2 st2 sr2 r2 q2 => ?_)
      split at q2
      · rename_i v e
        split at q2
        · rename_i o eo
          obtain ⟨p, o', e3, g, c⟩ := sr2.dict e r2 eo
          have eo' : o.isSome = o'.isSome := by
            rcases c with ⟨c1, c2⟩ | ⟨z', y', c1, c2, c3⟩
            · rw [c1, c2]; rfl
            · rw [c1, c2]; rfl
          refine ⟨_, e3, p, o', rfl, g, ?_⟩
          rw [← eo']
          exact ⟨_, rfl, q2 Hf2 H2 .refl sr2⟩
        · exact q2.elim
      · exact q2.elim
    · refine .inl (bindDB sr q fun y dy s2 Hf2 H2 st2 sr2 r2 q2 => ?_)
      split at q2
      · rename_i v e
        split at q2
        · rename_i dx ex
          split at q2
          · rename_i z ez
            obtain ⟨u', eu', r1, _⟩ := sr2.peek e ex
            exact ⟨_, eu', dy, dx, z, Dp.mono sr2.sub r2, r1, ez, _, rfl, q2 Hf2 H2 .refl sr2⟩
          · exact q2.elim
        · exact q2.elim
      · exact q2.elim
theorem pt_pw {e : Expr} {t : TT} (h : PW X e t) : PT X e t := ⟨fun pins s σ H Q I q => h.run (eval e X.env) pins s σ H Q I q⟩
theorem takesN0 {X : Cx} : L2N.Takes X W0 := fun _ _ x => by
  obtain ⟨_, _, _, _, _, _, _, _, _, _, _, _, _, _, _, _, z⟩ := x
  exact z.elim
end
end Ir

set_option Elab.async false
set_option linter.all false
set_option maxRecDepth 100000
set_option maxHeartbeats 4000000
/-! enumerate over a tuple, zip of three tuples. -/
namespace Ir
open PySem PySem.Spec PyProof.Rows L2
/-- a tuple that is enumerated: each item in a new pair -/
def IteT (K : PySem.W.Frag) (a : Addr) : It where
  go := fun i H => ∃ (zs : List V) (z : V), SqT K H a zs ∧ zs[i]? = some z
  yld := fun i H v H' => ∃ T z, v = .ref T ∧ H T = none ∧ H' = upd H T (.tup [.int (i : Nat), z]) ∧ ∀ zs, SqT K H a zs → zs[i]? = some z
  stop := fun i H => ∃ zs : List V, SqT K H a zs ∧ zs.length = i
theorem sqT_inj {X : Cx} {pins : List (Addr × Obj)} {σ : L2.St} {H : Hp} {s : Shared} {a : Addr} {xs ys : List V} (I : Inv X pins σ H s) (h1 : SqT X.K H a xs) (h2 : SqT X.K H a ys) : xs = ys := by
  exact I.tuple_inj h1 h2
section
variable {X : Cx} {pins : List (Addr × Obj)} {σ : L2.St} {H : Hp} {s : Shared}
theorem enumT_item {elts : List Expr} {kk : Nat} {tpos : Pos} {a e it : Addr} {i : Nat} {E : Value → Shared → Prop} {old : Value} {zs : List V} {z : V} (hc : X.calm = true) (I : Inv X pins σ H s) (hf : ∀ b ∈ [e, it], FpOk X pins H b)
    (he : IsEnum s.heap e it ((i : Nat) : Int) old) (hit : s.heap.IsTupleIter it a i) (hne : e ≠ it) (hq : SqT X.K H a zs) (hz : zs[i]? = some z) :
    wpAny (model X.prog X.w) X.A (pyNext (.ref e)) (fun r s1 => ∃ u, r = some u ∧ wpAny (model X.prog X.w) X.A (letOwnedTupleGo (.Tuple elts kk tpos) (.ref e) u) (fun _ s2 => ∃ x H', Inv X pins σ H' s2 ∧ RelV x u ∧ (IteT X.K a).yld i H x H' ∧
      ((∃ old, IsEnum s2.heap e it ((i + 1 : Nat) : Int) old) ∧ s2.heap.IsTupleIter it a (i + 1) ∧ e ≠ it) ∧ ∀ b ∈ [e, it], H' b = none) E s1) E s := by
  obtain ⟨its, rv, p, hzz⟩ := I.tuple hq
  obtain ⟨u, hu, ru⟩ := rv.get hz
  have lte : e < s.heap.objs.size := Heap.lt_size he
  have lti : it < s.heap.objs.size := by
    obtain ⟨_, q, _⟩ := hit
    exact Heap.lt_size q
  have nai : a ≠ it := fun q => by
    obtain ⟨o1, q1, c1, _⟩ := hit
    obtain ⟨o2, q2, c2, _⟩ := p
    rw [q, q1] at q2
    cases q2
    rw [c1] at c2
    injection c2 with c3
    exact absurd c3 (by decide)
  have nae : e ∉ [it, a] := fun q => by
    rcases List.mem_cons.mp q with q | q
    · exact hne q
    · have q := List.mem_singleton.mp q
      obtain ⟨o2, q2, c2, _⟩ := p
      rw [← q, he] at q2
      cases q2
      injection c2 with c3
      exact absurd c3 (by decide)
  have D := Draws.tuple (prog := X.prog) (w := X.w) (A := X.A.in1) (I.ok.hd hc) it a nai its.toArray
  have hlt : i < its.toArray.size := by
    have := (List.getElem?_eq_some_iff.mp hu).1
    simpa using this
  refine wpAny_pyNext_enum_itemC D he ⟨hit, p⟩ hlt hne nae fun x h' tk hx ho st' hT hsz hk => ?_
  have ex : x = u := by
    have hx' : its.toArray[i]? = some x := hx
    rw [List.getElem?_toArray, hu] at hx'
    exact (Option.some.inj hx').symm
  subst ex
  refine ⟨_, rfl, wpAny_letOwnedTupleGo_enum (s := { s with heap := h', toks := tk + 1 }) ho fun h'' he' sb => ?_⟩
  have hT2 : h''.get? s.heap.objs.size = some { cls := .type "tuple", data := .seq #[.int i tk, x] } := (sb.2 _ (Nat.ne_of_gt lte)).trans hT
  have ob : ObjOk X.prog X.w (upd H s.heap.objs.size (.tup [.int (i : Nat), z])) h'' s.heap.objs.size (.tup [.int (i : Nat), z]) :=
    ⟨by show 2 ≤ sizeLine; decide, [.int i tk, x], .cons ⟨_, rfl⟩ (.cons ru .nil), ⟨_, hT2, rfl, _, rfl⟩⟩
  have I1 : Inv X pins σ (upd H s.heap.objs.size (.tup [.int (i : Nat), z])) { s with heap := h'', toks := tk + 1 } := by
    refine I.turnedNew (ch := [e, it]) (fun b ob hb q => ?_) hf (Nat.le_refl _) ob
    have n1 : b ≠ e := fun w => hb (by simp [w])
    have n2 : b ≠ it := fun w => hb (by simp [w])
    exact (sb.2 b n1).trans (hk b ob n1 n2 q)
  refine ⟨.ref s.heap.objs.size, _, I1, rfl, ⟨_, z, rfl, I.hok.fresh (Nat.le_refl _), rfl, fun ys hy => by rw [sqT_inj I hy hq]; exact hz⟩, ⟨⟨x, ?_⟩, st'.1.at fun o q => (sb.2 it (Ne.symm hne)).trans q, hne⟩, fun b hb => ?_⟩
  · have e1 : ((i + 1 : Nat) : Int) = (i : Int) + 1 := by omega
    rw [e1]
    exact he'
  · have lb : b < s.heap.objs.size := by
      rcases List.mem_cons.mp hb with w | w
      · rw [w]; exact lte
      · rw [List.mem_singleton.mp w]; exact lti
    rw [upd_ne (Nat.ne_of_lt lb)]
    exact (hf b hb).1
theorem turn_enumT {P : Program} {w : World} {K : PySem.W.Frag} {elts : List Expr} {kk : Nat} {tpos : Pos} (a e it : Addr) :
    Turn P w K (.Tuple elts kk tpos) (IteT K a) [e, it] e (fun i h => (∃ old, IsEnum h e it ((i : Nat) : Int) old) ∧ h.IsTupleIter it a i ∧ e ≠ it) where
  mem := List.mem_cons_self ..
  obj := fun i h ⟨⟨old, he⟩, ⟨o, ho, hc, hd⟩, _⟩ b hb => by
    rcases List.mem_cons.mp hb with z | z
    · rw [z]
      exact ⟨_, he, fun v q => nomatch q⟩
    · rw [List.mem_singleton.mp z]
      exact ⟨o, ho, fun v q => by rw [hd] at q; cases q⟩
  keep := fun i h h' ⟨⟨old, he⟩, hi, hne⟩ k => ⟨⟨old, k e (by simp) _ he⟩, hi.at fun o q => k it (by simp) o q, hne⟩
  item := by
    rintro X rfl rfl rfl hc i pins s σ H E I hf ⟨⟨old, he⟩, hit, hne⟩ ⟨zs, z, hq, hz⟩
    exact enumT_item hc I hf he hit hne hq hz
  done := by
    rintro X rfl rfl rfl hc i pins s σ H E I hf ⟨⟨old, he⟩, hit, hne⟩ ⟨zs, hq, hz⟩
    obtain ⟨its, rv, p, hzz⟩ := I.tuple hq
    obtain ⟨f0, f1, f2, f3, f4, f5⟩ := hf it (by simp)
    have hl := rv.length
    have nai : a ≠ it := fun q => by
      obtain ⟨o1, q1, c1, _⟩ := hit
      obtain ⟨o2, q2, c2, _⟩ := p
      rw [q, q1] at q2
      cases q2
      rw [c1] at c2
      injection c2 with c3
      exact absurd c3 (by decide)
    have D := Draws.tuple (prog := X.prog) (w := X.w) (A := X.A.in1) (I.ok.hd hc) it a nai its.toArray
    have en : its.toArray.size = i := by
      rw [List.size_toArray, ← hl]
      exact hz
    refine wpAny_pyNext_enum_endD D he (by rw [en]; exact ⟨hit, p⟩) fun h' eb => ⟨rfl, I.turned (t' := s.toks) (fun b o hb q => eb b o hb q) f0 f1 f3 f4 f5⟩
  self := fun A i s Q E ⟨⟨_, he⟩, _⟩ h => wpAny_pyIter_enum he h
end
/-- enumerate(v) over what begins so -/
theorem enum_new {v : Value} {o : Obj} {Hb : Heap → Prop} (B : Begins v o Hb) :
    Meets (Builtin.«enumerate.__new__» ⟨[.type "enumerate", v], []⟩) (fun _ R s => Hb s.heap ∧
      R (.ok (.ret (.ref (s.heap.push o).objs.size))) { s with heap := (s.heap.push o).push { cls := .type "enumerate", data := .fields #[.none, .bool false, .ref s.heap.objs.size, rawInt 0, .none, .none] } }) :=
  .of_wp fun prog w A R s h => by
    obtain ⟨hp, g, d, tk, os⟩ := s
    obtain ⟨h1, h⟩ := h
    have isE := sub_enumerate
    have st : ∀ {A' : Around} {E : Value → Shared → Prop} {Q : Value → Shared → Prop}, Q (.ref hp.objs.size) ⟨hp.push o, g, d, tk, os⟩ → wpAny (model prog w) A' (pyIter v) Q E ⟨hp, g, d, tk, os⟩ :=
      fun q => B.iter prog w _ _ ⟨hp, g, d, tk, os⟩ _ h1 q
    wp_walk using st
    refine wpAny_stack_any fun fr => wpAny_pure ?_
    split
    · rename_i c _ _ _ _ _
      cases (c == Value.type "enumerate") <;> (wp_walk using st; exact ⟨_, rfl, h⟩)
    · wp_walk using st
      exact ⟨_, rfl, h⟩
theorem enum_call {prog : Program} {w : World} {A : Around} {E : Value → Shared → Prop} {s : Shared} {v : Value} {o : Obj} {Hb : Heap → Prop} {Q : Value → Shared → Prop} (B : Begins v o Hb) (h1 : Hb s.heap)
    (h : ∀ h', IsEnum h' (s.heap.objs.size + 1) s.heap.objs.size 0 .none → h'.get? s.heap.objs.size = some o → (∀ b o, s.heap.get? b = some o → h'.get? b = some o) → Q (.ref (s.heap.objs.size + 1)) { s with heap := h' }) :
    wpAny (model prog w) A (call (.type "enumerate") [v]) Q E s := by
  refine callType_new F.called_enumerate (by decide) (F.typeCall_enumerate_1 _) (F.newCall_enumerate_1 _) (fun obj => F.args_object_init_2 obj _) F.entry_enumerate_new (enum_new B) ⟨h1, ?_⟩
  have hz : (s.heap.push o).objs.size = s.heap.objs.size + 1 := Heap.size_push ..
  show _ ∧ _
  rw [hz]
  have he : IsEnum ((s.heap.push o).push { cls := .type "enumerate", data := .fields #[.none, .bool false, .ref s.heap.objs.size, rawInt 0, .none, .none] }) (s.heap.objs.size + 1) s.heap.objs.size 0 .none := by
    have q := Heap.get?_push_size (s.heap.push o) (o := { cls := .type "enumerate", data := .fields #[.none, .bool false, .ref s.heap.objs.size, rawInt 0, .none, .none] }) rfl
    rw [hz] at q
    exact q
  exact ⟨⟨_, he, rfl⟩, h _ he (Heap.get?_push_of_some _ (Heap.get?_push_size _ B.free)) fun b o x => Heap.get?_push_of_some _ (Heap.get?_push_of_some _ x)⟩
def iEnumA (K : PySem.W.Frag) (ta : TA) : TI := fun σ H R => ta σ H fun vs H1 => ∃ a zs, vs = [.ref a] ∧ ((SqL K H1 a zs ∧ R (Ite K a) H1) ∨ (SqT K H1 a zs ∧ R (IteT K a) H1))
theorem pi_enumA {X : Cx} {e : Expr} {ta : TA} {p pos tpos : Pos} {elts : List Expr} {kk : Nat} (hg : Gl X "enumerate") (hm : X.mg "enumerate" = none) (ha : PA X [e] ta) (hs : starEach [e] X.env = [(false, eval e X.env)]) :
    PI X (.Tuple elts kk tpos) (.Call (.Name "enumerate" p) [e] [] pos) (iEnumA X.K ta) := by
  refine ⟨fun pins s σ H R I h => ?_⟩
  refine Call_ (ld_blt I hg hm boot_enumerate (PyProof.Rows.callWith_type1 (thn (ha.run pos pins s σ H _ I h) fun us s1 ⟨vs, H1, I1, r1, q1⟩ => ?_) hs rfl))
  obtain ⟨a, zs, ex, hd⟩ := q1
  subst ex
  obtain rfl := Vals.ref1 r1
  have fpk : ∀ b ∈ [s1.heap.objs.size + 1, s1.heap.objs.size], FpOk X pins H1 b := fun b hb => by
    have hle : s1.heap.objs.size ≤ b := by
      rcases List.mem_cons.mp hb with w | w
      · rw [w]; exact Nat.le_add_right _ _
      · rw [List.mem_singleton.mp w]; exact Nat.le_refl _
    exact I1.fpOk hle (I1.hok.fresh hle)
  rcases hd with ⟨hq, q⟩ | ⟨hq, q⟩
  · obtain ⟨its, rv, p', hz⟩ := I1.list hq
    refine enum_call (begins_list a its.toArray) p'.isList fun h' he hit hk => wpAny_pyIter_enum he ?_
    exact ⟨_, _, _, _, H1, rfl, I1.kept (t' := s1.toks) hk, turn_enum a (s1.heap.objs.size + 1) s1.heap.objs.size, ⟨⟨.none, he⟩, ⟨_, hit, rfl, rfl⟩, Nat.succ_ne_self _⟩, fpk, q⟩
  · obtain ⟨its, rv, p', hz⟩ := I1.tuple hq
    refine enum_call (begins_tuple a its.toArray) p' fun h' he hit hk => wpAny_pyIter_enum he ?_
    exact ⟨_, _, _, _, H1, rfl, I1.kept (t' := s1.toks) hk, turn_enumT a (s1.heap.objs.size + 1) s1.heap.objs.size, ⟨⟨.none, he⟩, ⟨_, hit, rfl, rfl⟩, Nat.succ_ne_self _⟩, fpk, q⟩
theorem wk_enumT {K : PySem.W.Frag} {Hf : Hp} {a : Addr} {vs : List V} {ds : List D} (h : Hf a = some (.tup vs)) (r : DpAll K Hf vs ds) : Wk K Hf (IteT K a) (enumD 0 ds) where
  stop := fun H sm => ⟨vs, .of (sm _ _ h), by rw [enumD_len, DpAll.len r]⟩
  go := fun i H hi sm => ⟨vs, vs[i]'(by rw [enumD_len] at hi; rw [DpAll.len r]; exact hi), .of (sm _ _ h), List.getElem?_eq_getElem _⟩
  yld := fun i d x H H' e sm ⟨T, z, e1, hT, e2, q⟩ => by
    obtain ⟨y, ey, rfl⟩ := enumD_get e
    obtain ⟨v, ev, rv⟩ := DpAll.get r ey
    have q' := q vs (.of (sm _ _ h))
    rw [ev] at q'
    cases q'
    subst e1
    refine .inr ⟨T, _, _, rfl, hT, rfl, e2, .cons ?_ (.cons rv .nil)⟩
    rw [Nat.zero_add]
    exact .int _
section
variable {X : Cx} {tb : Tbs} {fa ca : Nat → Addr} {W : WX} {Φ : Fs} {kin : Exn → D} {pos : Pos} {a : Ex} {ea : Expr}
theorem n_itEnum {p tpos : Pos} {elts : List Expr} {kk : Nat} (hg : Gl X "enumerate") (hm : X.mg "enumerate" = none) (h : PEx X tb fa ca W Φ kin ea a) (hs : starEach [ea] X.env = [(false, eval ea X.env)]) :
    PIx X tb fa ca W Φ kin (.Tuple elts kk tpos) (.Call (.Name "enumerate" p) [ea] [] pos) (.itEnum a) := by
  refine PI_imp (pi_enumA hg hm (pa_cons (pe_D h) pa_nil (by rw [hs]; rfl)) hs) fun σ H R ⟨Hf, s, sr, q⟩ => ?_
  unfold ev at q
  refine bindI sr q fun x dx s1 Hf1 H1 st1 sr1 r1 q1 => ?_
  split at q1
  · rename_i xs e
    cases dx <;> first | (cases e; done) | skip
    · cases e
      obtain ⟨p1, vs, rfl, h1, h2⟩ := dp_lst r1
      exact ⟨p1, vs, rfl, .inl ⟨rdS sr1.sub h1, q1 _ Hf1 H1 .refl sr1 (wk_enum h1 h2)⟩⟩
    · cases e
      obtain ⟨p1, vs, rfl, h1, h2⟩ := dp_tup r1
      exact ⟨p1, vs, rfl, .inr ⟨.of (sr1.sub _ _ h1), q1 _ Hf1 H1 .refl sr1 (wk_enumT h1 h2)⟩⟩
  · exact q1.elim
end
end Ir

set_option Elab.async false
set_option linter.all false
set_option maxRecDepth 100000
set_option maxHeartbeats 4000000
/-! zip of three tuples. -/
namespace Ir
open PySem PySem.Spec PyProof.Rows L2
/-- three tuples walked at once -/
def It3T (K : PySem.W.Frag) (a b c : Addr) : It where
  go := fun i H => ∃ (xs ys zs : List V) (x y z : V), SqT K H a xs ∧ SqT K H b ys ∧ SqT K H c zs ∧ xs[i]? = some x ∧ ys[i]? = some y ∧ zs[i]? = some z
  yld := fun i H v H' => ∃ T x y z, v = .ref T ∧ H T = none ∧ H' = upd H T (.tup [x, y, z]) ∧ (∀ xs, SqT K H a xs → xs[i]? = some x) ∧ (∀ ys, SqT K H b ys → ys[i]? = some y) ∧ ∀ zs, SqT K H c zs → zs[i]? = some z
  stop := fun i H => ∃ xs ys zs : List V, SqT K H a xs ∧ SqT K H b ys ∧ SqT K H c zs ∧ i ≤ xs.length ∧ i ≤ ys.length ∧ i ≤ zs.length ∧ (i = xs.length ∨ i = ys.length ∨ i = zs.length)
structure Sep3 (z TI TO i1 i2 i3 a b c : Addr) : Prop where
  s : ZipSep3 z TI TO i1 i2 i3 [i1, a] [i2, b] [i3, c]
  a1 : a ≠ i1
  b2 : b ≠ i2
  c3 : c ≠ i3
/-- the iterator's own state -/
def Zs3 (z TI TO i1 i2 i3 a b c : Addr) (i : Nat) (h : Heap) : Prop :=
  IsZip h z TI TO .none ∧ IsTupOf3 h TI (.ref i1) (.ref i2) (.ref i3) ∧ (∃ x y u, IsTupOf3 h TO x y u) ∧ h.IsTupleIter i1 a i ∧ h.IsTupleIter i2 b i ∧ h.IsTupleIter i3 c i
theorem mem6 {q z TI TO i1 i2 i3 : Addr} (h : q ∈ [z, TI, TO, i1, i2, i3]) : q = z ∨ q = TI ∨ q = TO ∨ q = i1 ∨ q = i2 ∨ q = i3 := by simpa using h
theorem not6 {q z TI TO i1 i2 i3 : Addr} (h : q ∉ [z, TI, TO, i1, i2, i3]) : q ≠ z ∧ q ≠ TI ∧ q ≠ TO ∧ q ≠ i1 ∧ q ≠ i2 ∧ q ≠ i3 := by simpa [not_or] using h
theorem Zs3.obj {z TI TO i1 i2 i3 a b c : Addr} {i : Nat} {h : Heap} (st : Zs3 z TI TO i1 i2 i3 a b c i h) : ∀ q ∈ [z, TI, TO, i1, i2, i3], ∃ o, h.get? q = some o ∧ ∀ v, o.data ≠ .cell v := by
  obtain ⟨hz, hTI, ⟨x, y, u, hTO⟩, ⟨o1, e1, _, d1⟩, ⟨o2, e2, _, d2⟩, ⟨o3, e3, _, d3⟩⟩ := st
  intro q hq
  rcases mem6 hq with rfl | rfl | rfl | rfl | rfl | rfl
  · exact ⟨_, hz, fun v w => nomatch w⟩
  · exact ⟨_, hTI, fun v w => nomatch w⟩
  · exact ⟨_, hTO, fun v w => nomatch w⟩
  · exact ⟨o1, e1, fun v w => by rw [d1] at w; cases w⟩
  · exact ⟨o2, e2, fun v w => by rw [d2] at w; cases w⟩
  · exact ⟨o3, e3, fun v w => by rw [d3] at w; cases w⟩
theorem Zs3.lt {z TI TO i1 i2 i3 a b c : Addr} {i : Nat} {h : Heap} (st : Zs3 z TI TO i1 i2 i3 a b c i h) : ∀ q ∈ [z, TI, TO, i1, i2, i3], q < h.objs.size := fun q hq => by
  obtain ⟨o, e, _⟩ := st.obj q hq
  exact Heap.lt_size e
section
variable {P : Program} {w : World} {K : PySem.W.Frag} {elts : List Expr} {kk : Nat} {tpos : Pos} {a b c z TI TO i1 i2 i3 : Addr}
theorem zip3_item {X : Cx} {i : Nat} {pins : List (Addr × Obj)} {s : Shared} {σ : L2.St} {H : Hp} {E : Value → Shared → Prop} (S : Sep3 z TI TO i1 i2 i3 a b c) (hc : X.calm = true) (I : Inv X pins σ H s) (hf : ∀ q ∈ [z, TI, TO, i1, i2, i3], FpOk X pins H q)
    (st : Zs3 z TI TO i1 i2 i3 a b c i s.heap) (hg : (It3T X.K a b c).go i H) :
    wpAny (model X.prog X.w) X.A (pyNext (.ref z)) (fun r s1 => ∃ u, r = some u ∧ wpAny (model X.prog X.w) X.A (letOwnedTupleGo (.Tuple elts kk tpos) (.ref z) u) (fun _ s2 => ∃ x H', Inv X pins σ H' s2 ∧ RelV x u ∧ (It3T X.K a b c).yld i H x H' ∧
      Zs3 z TI TO i1 i2 i3 a b c (i + 1) s2.heap ∧ ∀ q ∈ [z, TI, TO, i1, i2, i3], H' q = none) E s1) E s := by
  have lts := st.lt
  obtain ⟨hz, hTI, ⟨x0, y0, u0, hTO⟩, h1, h2, h3⟩ := st
  obtain ⟨xs, ys, zs, x, y, v, hqx, hqy, hqz, hx, hy, hv⟩ := hg
  obtain ⟨t1, rv1, p1, _⟩ := I.tuple hqx
  obtain ⟨t2, rv2, p2, _⟩ := I.tuple hqy
  obtain ⟨t3, rv3, p3, _⟩ := I.tuple hqz
  obtain ⟨u1, hu1, ru1⟩ := rv1.get hx
  obtain ⟨u2, hu2, ru2⟩ := rv2.get hy
  obtain ⟨u3, hu3, ru3⟩ := rv3.get hv
  have hd := I.ok.hd hc
  have D1 := Draws.tuple (prog := X.prog) (w := X.w) (A := X.A.in1) hd i1 a S.a1 t1.toArray
  have D2 := Draws.tuple (prog := X.prog) (w := X.w) (A := X.A.in1) hd i2 b S.b2 t2.toArray
  have D3 := Draws.tuple (prog := X.prog) (w := X.w) (A := X.A.in1) hd i3 c S.c3 t3.toArray
  have lt : ∀ {l : List Value} {u : Value}, l[i]? = some u → i < l.toArray.size := fun e => by
    have q := (List.getElem?_eq_some_iff.mp e).1
    simpa using q
  have same : ∀ {l : List Value} {u u' : Value}, l[i]? = some u → l.toArray[i]? = some u' → u' = u := fun e e' => by
    rw [List.getElem?_toArray, e] at e'
    exact (Option.some.inj e').symm
  refine wpAny_pyNext_zipD3_item S.s D1 D2 D3 hz hTI hTO ⟨h1, p1⟩ ⟨h2, p2⟩ ⟨h3, p3⟩ (lt hu1) (lt hu2) (lt hu3) fun w1 w2 w3 h' tk y1 y2 y3 z' TO' d1 d2 d3 hT hsz hk => ?_
  have e1 := same hu1 y1
  have e2 := same hu2 y2
  have e3 := same hu3 y3
  subst e1 e2 e3
  have hzl : z < s.heap.objs.size := lts z (by simp)
  refine ⟨_, rfl, wpAny_letOwnedTupleGo_zip (s := { s with heap := h', toks := tk }) z' fun h'' z'' sb => ?_⟩
  have hT2 : h''.get? s.heap.objs.size = some { cls := .type "tuple", data := .seq #[w1, w2, w3] } := (sb.2 _ (Nat.ne_of_gt hzl)).trans hT
  have ob : ObjOk X.prog X.w (upd H s.heap.objs.size (.tup [x, y, v])) h'' s.heap.objs.size (.tup [x, y, v]) :=
    ⟨by show 3 ≤ sizeLine; decide, [w1, w2, w3], .cons ru1 (.cons ru2 (.cons ru3 .nil)), ⟨_, hT2, rfl, _, rfl⟩⟩
  have I1 : Inv X pins σ (upd H s.heap.objs.size (.tup [x, y, v])) { s with heap := h'', toks := tk } :=
    I.turnedNew (ch := [z, TI, TO, i1, i2, i3]) (fun q o hb e => by
      obtain ⟨n1, n2, n3, n4, n5, n6⟩ := not6 hb
      exact (sb.2 q n1).trans (hk q o n1 n3 n4 n5 n6 e)) hf (Nat.le_refl _) ob
  refine ⟨.ref s.heap.objs.size, _, I1, rfl, ⟨_, x, y, v, rfl, I.hok.fresh (Nat.le_refl _), rfl, fun l hl => by rw [I.tuple_inj hl hqx]; exact hx, fun l hl => by rw [I.tuple_inj hl hqy]; exact hy, fun l hl => by rw [I.tuple_inj hl hqz]; exact hv⟩, ⟨z'', ?_, ⟨w1, w2, w3, ?_⟩, ?_, ?_, ?_⟩, fun q hq => ?_⟩
  · exact (sb.2 _ S.s.TIz).trans (hk _ _ S.s.TIz S.s.TITO S.s.TIi1 S.s.TIi2 S.s.TIi3 hTI)
  · exact (sb.2 _ S.s.TOz).trans TO'
  · exact d1.1.at fun o q => (sb.2 _ (Ne.symm S.s.zi1)).trans q
  · exact d2.1.at fun o q => (sb.2 _ (Ne.symm S.s.zi2)).trans q
  · exact d3.1.at fun o q => (sb.2 _ (Ne.symm S.s.zi3)).trans q
  · rw [upd_ne (Nat.ne_of_lt (lts q hq))]
    exact (hf q hq).1
theorem turn_zip3 (S : Sep3 z TI TO i1 i2 i3 a b c) : Turn P w K (.Tuple elts kk tpos) (It3T K a b c) [z, TI, TO, i1, i2, i3] z (Zs3 z TI TO i1 i2 i3 a b c) where
  mem := List.mem_cons_self ..
  obj := fun i h st => st.obj
  keep := fun i h h' ⟨hz, hTI, ⟨x, y, u, hTO⟩, h1, h2, h3⟩ k =>
    ⟨k z (by simp) _ hz, k TI (by simp) _ hTI, ⟨x, y, u, k TO (by simp) _ hTO⟩, h1.at fun o q => k i1 (by simp) o q, h2.at fun o q => k i2 (by simp) o q, h3.at fun o q => k i3 (by simp) o q⟩
  item := by
    rintro X rfl rfl rfl hc i pins s σ H E I hf st hg
    exact zip3_item S hc I hf st hg
  done := by
    rintro X rfl rfl rfl hc i pins s σ H E I hf ⟨hz, hTI, ⟨x0, y0, u0, hTO⟩, h1, h2, h3⟩ ⟨xs, ys, zs, hqx, hqy, hqz, l1, l2, l3, hend⟩
    obtain ⟨t1, rv1, p1, _⟩ := I.tuple hqx
    obtain ⟨t2, rv2, p2, _⟩ := I.tuple hqy
    obtain ⟨t3, rv3, p3, _⟩ := I.tuple hqz
    have hd := I.ok.hd hc
    have D1 := Draws.tuple (prog := X.prog) (w := X.w) (A := X.A.in1) hd i1 a S.a1 t1.toArray
    have D2 := Draws.tuple (prog := X.prog) (w := X.w) (A := X.A.in1) hd i2 b S.b2 t2.toArray
    have D3 := Draws.tuple (prog := X.prog) (w := X.w) (A := X.A.in1) hd i3 c S.c3 t3.toArray
    have q1 := rv1.length
    have q2 := rv2.length
    have q3 := rv3.length
    refine wpAny_pyNext_zipD3_end S.s D1 D2 D3 hz hTI hTO ⟨h1, p1⟩ ⟨h2, p2⟩ ⟨h3, p3⟩ (by rw [List.size_toArray]; omega) (by rw [List.size_toArray]; omega) (by rw [List.size_toArray]; omega) (by simp only [List.size_toArray]; omega) fun h' tk hk => ⟨rfl, ?_⟩
    refine I.turnedL (ch := [z, TI, TO, i1, i2, i3]) (fun q o hb e => ?_) hf
    obtain ⟨n1, n2, n3, n4, n5, n6⟩ := not6 hb
    exact hk q o n1 n3 n4 n5 n6 e
  self := fun A i s Q E st h => wpAny_pyIter_zip st.1 h
end
def iZip3T (K : PySem.W.Frag) (ta : TA) : TI := fun σ H R => ta σ H fun vs H1 => ∃ a b c xs ys zs, vs = [.ref a, .ref b, .ref c] ∧ SqT K H1 a xs ∧ SqT K H1 b ys ∧ SqT K H1 c zs ∧ R (It3T K a b c) H1
theorem vals3 {x y z : V} {us : List Value} (r : Vals [x, y, z] us) : ∃ u v w, us = [u, v, w] ∧ RelV x u ∧ RelV y v ∧ RelV z w := by
  cases r with
  | cons r1 r =>
    obtain ⟨v, w, rfl, r2, r3⟩ := Vals.two r
    exact ⟨_, v, w, rfl, r1, r2, r3⟩
theorem pi_zip3T {X : Cx} {e e2 e3 : Expr} {ta : TA} {p pos tpos : Pos} {elts : List Expr} {kk : Nat} (hg : Gl X "zip") (hm : X.mg "zip" = none) (ha : PA X [e, e2, e3] ta)
    (hs : starEach [e, e2, e3] X.env = (false, eval e X.env) :: starEach [e2, e3] X.env) (hpl : (backTo pos (starEach [e2, e3] X.env)).any (·.1) = false) :
    PI X (.Tuple elts kk tpos) (.Call (.Name "zip" p) [e, e2, e3] [] pos) (iZip3T X.K ta) := by
  refine ⟨fun pins s σ H R I h => ?_⟩
  refine Call_ (ld_blt I hg hm PyProof.Rows.boot_zip (PyProof.Rows.callWith_type1 (thn (ha.run pos pins s σ H _ I h) fun us s1 ⟨vs, H1, I1, r1, q1⟩ => ?_) hs hpl))
  obtain ⟨a, b, c, xs, ys, zs, ex, hqx, hqy, hqz, q⟩ := q1
  subst ex
  obtain ⟨_, _, _, rfl, ra, rb, rc⟩ := vals3 r1
  cases ra
  cases rb
  cases rc
  obtain ⟨t1, rv1, p1, _⟩ := I1.tuple hqx
  obtain ⟨t2, rv2, p2, _⟩ := I1.tuple hqy
  obtain ⟨t3, rv3, p3, _⟩ := I1.tuple hqz
  have la : a < s1.heap.objs.size := by obtain ⟨_, q, _⟩ := p1; exact Heap.lt_size q
  have lb : b < s1.heap.objs.size := by obtain ⟨_, q, _⟩ := p2; exact Heap.lt_size q
  have lc : c < s1.heap.objs.size := by obtain ⟨_, q, _⟩ := p3; exact Heap.lt_size q
  refine zip_begins3 (begins_tuple a t1.toArray) (begins_tuple b t2.toArray) (begins_tuple c t3.toArray) p1 p2 p3 fun h' hz hTI hTO h1 h2 h3 hsz hk => wpAny_pyIter_zip hz ?_
  have S : Sep3 (s1.heap.objs.size + 5) (s1.heap.objs.size + 3) (s1.heap.objs.size + 4) s1.heap.objs.size (s1.heap.objs.size + 1) (s1.heap.objs.size + 2) a b c := by
    refine ⟨zip_sep3 (fp1 := [a]) (fp2 := [b]) (fp3 := [c]) ?_ ?_ ?_, Nat.ne_of_lt la, Nat.ne_of_lt (Nat.lt_succ_of_lt lb), Nat.ne_of_lt (Nat.lt_succ_of_lt (Nat.lt_succ_of_lt lc))⟩
    · intro q hq; rw [List.mem_singleton.mp hq]; exact la
    · intro q hq; rw [List.mem_singleton.mp hq]; exact lb
    · intro q hq; rw [List.mem_singleton.mp hq]; exact lc
  refine ⟨_, _, _, _, H1, rfl, I1.kept (t' := s1.toks) hk, turn_zip3 S, ⟨hz, hTI, ⟨_, _, _, hTO⟩, ⟨_, h1, rfl, rfl⟩, ⟨_, h2, rfl, rfl⟩, ⟨_, h3, rfl, rfl⟩⟩, fun q hq => ?_, q⟩
  have hle : s1.heap.objs.size ≤ q := by
    rcases mem6 hq with w | w | w | w | w | w <;> (rw [w]; first | exact Nat.le_refl _ | exact Nat.le_add_right _ _)
  exact I1.fpOk hle (I1.hok.fresh hle)
theorem zip3_get : ∀ {xs ys zs : List D} {i : Nat} {d : D}, (zip3D xs ys zs)[i]? = some d → ∃ x y z, xs[i]? = some x ∧ ys[i]? = some y ∧ zs[i]? = some z ∧ d = .tuple [x, y, z]
  | x :: xs, y :: ys, z :: zs, 0, d, h => ⟨x, y, z, rfl, rfl, rfl, (Option.some.inj h).symm⟩
  | x :: xs, y :: ys, z :: zs, i + 1, d, h => by
    have h' : (zip3D xs ys zs)[i]? = some d := h
    exact zip3_get (xs := xs) (ys := ys) (zs := zs) (i := i) h'
  | [], _, _, i, d, h => by simp [zip3D] at h
  | _ :: _, [], _, i, d, h => by simp [zip3D] at h
  | _ :: _, _ :: _, [], i, d, h => by simp [zip3D] at h
theorem zip3_len : ∀ (xs ys zs : List D), (zip3D xs ys zs).length = min (min xs.length ys.length) zs.length
  | x :: xs, y :: ys, z :: zs => by
    show (zip3D xs ys zs).length + 1 = _
    rw [zip3_len xs ys zs]
    simp only [List.length_cons]
    omega
  | [], _, _ => by simp [zip3D]
  | _ :: _, [], _ => by simp [zip3D]
  | _ :: _, _ :: _, [] => by simp [zip3D]
theorem wk_zip3 {K : PySem.W.Frag} {Hf : Hp} {a b c : Addr} {vs us ws : List V} {ds es fs : List D} (h1 : Hf a = some (.tup vs)) (h2 : Hf b = some (.tup us)) (h3 : Hf c = some (.tup ws)) (r1 : DpAll K Hf vs ds) (r2 : DpAll K Hf us es) (r3 : DpAll K Hf ws fs) : Wk K Hf (It3T K a b c) (zip3D ds es fs) where
  stop := fun H sm => by
    have l1 := DpAll.len r1
    have l2 := DpAll.len r2
    have l3 := DpAll.len r3
    refine ⟨vs, us, ws, .of (sm _ _ h1), .of (sm _ _ h2), .of (sm _ _ h3), ?_, ?_, ?_, ?_⟩ <;> (rw [zip3_len]; omega)
  go := fun i H hi sm => by
    rw [zip3_len] at hi
    have l1 := DpAll.len r1
    have l2 := DpAll.len r2
    have l3 := DpAll.len r3
    exact ⟨vs, us, ws, vs[i]'(by omega), us[i]'(by omega), ws[i]'(by omega), .of (sm _ _ h1), .of (sm _ _ h2), .of (sm _ _ h3), List.getElem?_eq_getElem _, List.getElem?_eq_getElem _, List.getElem?_eq_getElem _⟩
  yld := fun i d x H H' e sm ⟨T, x1, x2, x3, e1, hT, e2, q1, q2, q3⟩ => by
    obtain ⟨y1, y2, y3, g1, g2, g3, rfl⟩ := zip3_get e
    obtain ⟨v1, w1, rv1⟩ := DpAll.get r1 g1
    obtain ⟨v2, w2, rv2⟩ := DpAll.get r2 g2
    obtain ⟨v3, w3, rv3⟩ := DpAll.get r3 g3
    have z1 := q1 vs (.of (sm _ _ h1))
    have z2 := q2 us (.of (sm _ _ h2))
    have z3 := q3 ws (.of (sm _ _ h3))
    rw [w1] at z1
    rw [w2] at z2
    rw [w3] at z3
    cases z1
    cases z2
    cases z3
    subst e1
    exact .inr ⟨T, _, _, rfl, hT, rfl, e2, .cons rv1 (.cons rv2 (.cons rv3 .nil))⟩
section
variable {X : Cx} {tb : Tbs} {fa ca : Nat → Addr} {W : WX} {Φ : Fs} {kin : Exn → D} {pos : Pos} {a b c : Ex} {ea eb ec : Expr}
theorem n_itZip3 {p tpos : Pos} {elts : List Expr} {kk : Nat} (hg : Gl X "zip") (hm : X.mg "zip" = none) (ha : PEx X tb fa ca W Φ kin ea a) (hb : PEx X tb fa ca W Φ kin eb b) (hc : PEx X tb fa ca W Φ kin ec c)
    (s1 : nst ea = true) (s2 : nst eb = true) (s3 : nst ec = true) :
    PIx X tb fa ca W Φ kin (.Tuple elts kk tpos) (.Call (.Name "zip" p) [ea, eb, ec] [] pos) (.itZip3 a b c) := by
  have e2 : starEach [eb, ec] X.env = (false, eval eb X.env) :: starEach [ec] X.env := star_of s2
  refine PI_imp (pi_zip3T hg hm (pa_cons (pe_D ha) (pa_cons (pe_D hb) (pa_cons (pe_D hc) pa_nil (star_of s3)) e2) (star_of s1)) (star_of s1) (star_plain (by simp [s2, s3]))) fun σ H R ⟨Hf, s, sr, q⟩ => ?_
  unfold ev at q
  refine bindI sr q fun x dx t1 Hf1 H1 st1 sr1 r1 q1 => bindI sr1 q1 fun y dy t2 Hf2 H2 st2 sr2 r2 q2 => bindI sr2 q2 fun z dz t3 Hf3 H3 st3 sr3 r3 q3 => ?_
  split at q3
  · obtain ⟨p1, vs, rfl, h1, g1⟩ := dp_tup (Dp.mono st3.frz (Dp.mono st2.frz r1))
    obtain ⟨p2, us, rfl, h2, g2⟩ := dp_tup (Dp.mono st3.frz r2)
    obtain ⟨p3, ws, rfl, h3, g3⟩ := dp_tup r3
    exact ⟨p1, p2, p3, vs, us, ws, rfl, .of (sr3.sub _ _ h1), .of (sr3.sub _ _ h2), .of (sr3.sub _ _ h3), q3 _ Hf3 H3 .refl sr3 (wk_zip3 h1 h2 h3 g1 g2 g3)⟩
  · exact q3.elim
end
end Ir

set_option Elab.async false
set_option linter.all false
set_option maxRecDepth 100000
set_option maxHeartbeats 4000000
/-! sorted over tuples of ints. -/
namespace Ir
open PySem PySem.Spec PyProof.Rows L2
/-! ### the order -/
theorem lexLt_dec : ∀ xs ys : List Int, lexLt xs ys = decide (xs < ys)
  | [], [] => by simp [lexLt]
  | [], y :: ys => by simp [lexLt]
  | x :: xs, [] => by simp [lexLt]
  | x :: xs, y :: ys => by
    unfold lexLt
    by_cases h : x = y
    · rw [if_pos h, lexLt_dec xs ys]
      simp [h, List.cons_lt_cons_iff]
    · rw [if_neg h]
      simp [h, List.cons_lt_cons_iff]
theorem lexLe_dec (xs ys : List Int) : lexLe xs ys = decide (xs ≤ ys) := by
  unfold lexLe
  rw [lexLt_dec]
  by_cases h : ys < xs
  · have h' : ¬ xs ≤ ys := fun r => List.not_lt.mpr r h
    simp [h, h']
  · have h' : xs ≤ ys := List.not_lt.mp h
    simp [h, h']
theorem lexLe_iff {xs ys : List Int} : lexLe xs ys = true ↔ xs ≤ ys := by
  rw [lexLe_dec]
  exact decide_eq_true_iff
theorem insT_perm (x : List Int) : ∀ l, (insT x l).Perm (x :: l)
  | [] => .refl _
  | y :: r => by
    unfold insT
    split
    · exact .refl _
    · exact ((insT_perm x r).cons y).trans (.swap x y r)
theorem sortT_perm : ∀ l, (sortT l).Perm l
  | [] => .refl _
  | x :: r => (insT_perm x _).trans ((sortT_perm r).cons x)
theorem insT_sorted (x : List Int) : ∀ l : List (List Int), l.Pairwise (· ≤ ·) → (insT x l).Pairwise (· ≤ ·)
  | [], _ => by simp [insT]
  | y :: r, h => by
    rw [List.pairwise_cons] at h
    unfold insT
    split
    · rename_i e
      have e := lexLe_iff.mp e
      refine List.pairwise_cons.mpr ⟨fun z hz => ?_, List.pairwise_cons.mpr h⟩
      rcases List.mem_cons.mp hz with q | q
      · rw [q]; exact e
      · exact List.le_trans e (h.1 z q)
    · rename_i e
      have e : ¬ x ≤ y := fun q => e (lexLe_iff.mpr q)
      have e : y ≤ x := by
        rcases List.le_total x y with q | q
        · exact absurd q e
        · exact q
      refine List.pairwise_cons.mpr ⟨fun z hz => ?_, insT_sorted x r h.2⟩
      rcases List.mem_cons.mp ((insT_perm x r).mem_iff.mp hz) with q | q
      · rw [q]; exact e
      · exact h.1 z q
theorem sortT_sorted : ∀ l : List (List Int), (sortT l).Pairwise (· ≤ ·)
  | [] => List.Pairwise.nil
  | x :: r => insT_sorted x _ (sortT_sorted r)
theorem sorted_oneT : ∀ {a b : List (List Int)}, a.Perm b → a.Pairwise (· ≤ ·) → b.Pairwise (· ≤ ·) → a = b
  | [], b, p, _, _ => (List.nil_perm.mp p).symm
  | x :: r, [], p, _, _ => nomatch List.perm_nil.mp p
  | x :: r, y :: q, p, h1, h2 => by
    rw [List.pairwise_cons] at h1 h2
    have e : x = y := by
      have m1 : x ∈ y :: q := p.mem_iff.mp List.mem_cons_self
      have m2 : y ∈ x :: r := p.mem_iff.mpr List.mem_cons_self
      rcases List.mem_cons.mp m1 with e | e
      · exact e
      · rcases List.mem_cons.mp m2 with e' | e'
        · exact e'.symm
        · exact List.le_antisymm (h1.1 y e') (h2.1 x e)
    subst e
    rw [sorted_oneT (List.Perm.cons_inv p) h1.2 h2.2]
/-! ### the rule -/
def rSortedTA (K : PySem.W.Frag) : List V → Hp → VK → Prop := fun vs H Q => ∃ (a : Addr) (bs : List (V × List Int)), vs = [V.ref a] ∧ SqL K H a (bs.map (·.1)) ∧ (∀ b ∈ bs, TupI K H b.1 b.2 ∧ b.2 ≠ []) ∧
  ∀ (cs : List (V × List Int)) (p : Addr), cs.Perm bs → (cs.map (·.2)).Pairwise (· ≤ ·) → H p = none → Q (.ref p) (upd H p (.lst (cs.map (·.1))))
section
variable {X : Cx} {pins : List (Addr × Obj)} {σ : L2.St} {H : Hp} {s : Shared}
def encT (b : V × List Int) : PyData := .tuple (b.2.map .int)
theorem readsAll_ints {h : Heap} {vs : List Value} {ns : List Int} (r : IntsAre vs ns) : ReadsAll h vs (ns.map .int) [] := by
  induction r with
  | nil => exact .nil
  | cons n t _ ih => exact .cons (as := []) (bs := []) (.int n t) ih
theorem vals_each : ∀ {bs : List (V × List Int)} {us : List Value}, Vals (bs.map (·.1)) us → PySem.W.EachIs (fun v (b : V × List Int) => RelV b.1 v) us bs
  | [], us, r => by
    cases r
    exact .nil
  | b :: bs, us, r => by
    cases r with
    | cons r t => exact .cons r (vals_each t)
theorem each_vals {bs : List (V × List Int)} {us : List Value} (h : PySem.W.EachIs (fun v (b : V × List Int) => RelV b.1 v) us bs) : Vals (bs.map (·.1)) us := by
  induction h with
  | nil => exact .nil
  | cons r _ ih => exact .cons r ih
theorem dataLe_tups : PySem.W.dataLe false encT = fun p q => decide (p.2 ≤ q.2) := by
  funext p q
  show (!PySem.W.dataLt (.tuple (q.2.map .int)) (.tuple (p.2.map .int))) = _
  rw [PySem.W.dataLt_tuple]
  show (!PySem.W.rowLt (q.2.map .int) (p.2.map .int)) = _
  rw [PySem.W.dataLt_ints]
  by_cases h : q.2 < p.2
  · have h' : ¬ p.2 ≤ q.2 := fun r => List.not_lt.mpr r h
    simp [h, h']
  · have h' : p.2 ≤ q.2 := List.not_lt.mp h
    simp [h, h']
theorem depth_encT (b : V × List Int) : (encT b).depth ≤ 1 := by
  have := PySem.W.depth_ints b.2
  simp [encT, PyData.depth, this]
theorem cr_sortedTA (hu : X.A.units + 64 < cLine) : CallR X (.builtin "sorted") (rSortedTA X.K) := by
  intro pins s σ H vs us Q I r h
  obtain ⟨a, bs, rfl, hs, hx, q⟩ := h
  obtain ⟨its, rv, hl, hz⟩ := I.list hs
  rw [Vals.ref1 r]
  have e := vals_each rv
  have er : PySem.W.EachIs (fun v (b : V × List Int) => ∃ as, Reads s.heap v (encT b) as) its bs := by
    have go : ∀ {us : List Value} {cs : List (V × List Int)}, PySem.W.EachIs (fun v (b : V × List Int) => RelV b.1 v) us cs → (∀ b ∈ cs, TupI X.K H b.1 b.2 ∧ b.2 ≠ []) → PySem.W.EachIs (fun v (b : V × List Int) => ∃ as, Reads s.heap v (encT b) as) us cs := by
      intro us cs h
      induction h with
      | nil => exact fun _ => .nil
      | @cons u b _ _ r1 _ ih =>
        intro hb
        refine .cons ?_ (ih fun c hc => hb c (List.mem_cons_of_mem _ hc))
        obtain ⟨⟨t, e1, ht⟩, _⟩ := hb b List.mem_cons_self
        rw [e1] at r1
        cases r1
        obtain ⟨vs, rv2, ⟨o, ho, hc, n, hd⟩, _⟩ := I.tuple ht
        exact ⟨[], .tuple ho hc hd (by simpa using readsAll_ints rv2.ints)⟩
    exact go e hx
  have hal : PySem.W.AllAlike (bs.map encT) := PySem.W.AllAlike.of fun b c => by
    show PySem.W.alike (.tuple _) (.tuple _) = true
    rw [PySem.W.alike]
    exact PySem.W.alike_ints b.2 c.2
  have hk : PySem.W.Sortable (bs.map encT) := .inl fun d hd => by
    obtain ⟨b, hb, rfl⟩ := List.mem_map.mp hd
    obtain ⟨_, ne⟩ := hx b hb
    cases e : b.2 with
    | nil => exact absurd e ne
    | cons n ns => exact ⟨.int n, ns.map .int, by simp [encT, e]⟩
  refine PySem.W.sorted_data hl.isList e er hal hk (by rw [List.length_map] at hz; exact hz) (fun b _ => by have := depth_encT b; omega) fun out hlen hout => ?_
  rw [dataLe_tups] at hout
  obtain ⟨ep, he'⟩ := PyProof.Rows.sortedAll_at s.heap its out.toArray
  have hv := each_vals hout
  have hp : (bs.mergeSort fun p q => decide (p.2 ≤ q.2)).Perm bs := List.mergeSort_perm _ _
  have hsz : ((bs.mergeSort fun p q => decide (p.2 ≤ q.2)).map (·.1)).length ≤ sizeLine := by
    rw [List.length_map, hp.length_eq]
    rw [List.length_map] at hz
    exact hz
  have hw : ((bs.mergeSort fun p q => decide (p.2 ≤ q.2)).map (·.2)).Pairwise (· ≤ ·) := by
    rw [List.pairwise_map]
    refine (List.pairwise_mergeSort (le := fun (p q : V × List Int) => decide (p.2 ≤ q.2)) (fun a b c h1 h2 => ?_) (fun a b => ?_) bs).imp fun h => of_decide_eq_true h
    · exact decide_eq_true (List.le_trans (of_decide_eq_true h1) (of_decide_eq_true h2))
    · simp only [Bool.or_eq_true, decide_eq_true_eq]
      exact List.le_total _ _
  exact ⟨.ref _, upd H (s.heap.objs.size + 1) (.lst ((bs.mergeSort fun p q => decide (p.2 ≤ q.2)).map (·.1))), I.laid (t' := s.toks) (fun _ _ => PyProof.Rows.sortedAll_old) (Nat.le_succ _) ⟨hsz, out, ep, hv, he'⟩, rfl, q _ _ hp hw (I.hok.fresh (Nat.le_succ _))⟩
end
end Ir

set_option Elab.async false
set_option linter.all false
set_option maxRecDepth 100000
set_option maxHeartbeats 4000000
/-! sorted over a dict: any keys that read as data. -/
namespace Ir
open PySem PySem.Spec PyProof.Rows L2
section
variable {prog : Program} {w : World} {d : Addr} {o : Obj} {es : Array DictEntry} {ep : Nat}
/-- a dict's keys, by its object -/
theorem keys_walk {A : Around} (hh : A.handled = none) (I : Addr) (hne : d ≠ I) (hdt : o.data = .dict es ep) :
    Walks prog w A I [I, d] [I] es.size (fun i v => ∃ en, es[i]? = some en ∧ v = en.key) (fun i h => h.IsKeyIter I d i es.size ep ∧ h.get? d = some o) where
  sub := fun b hb => by
    rw [List.mem_singleton.mp hb]
    exact List.mem_cons_self ..
  frame := fun _ _ _ st hk => ⟨st.1.at fun u e => hk I (by simp) u e, hk d (by simp) _ st.2⟩
  item := fun i s Q E hi st hQ => by
    refine next_key_item st.1 st.2 hdt rfl (en := es[i]) (by simp [hi]) fun h' st' sb => ?_
    exact hQ _ h' s.toks ⟨_, by simp [hi], rfl⟩ ⟨st', (sb.2 d hne).trans st.2⟩ fun b u hb e => (sb.2 b fun z => hb (by simp [z])).trans e
  done := fun s Q E st hQ => next_key_end hh st.1 st.2 hdt rfl (Nat.le_refl _) fun h' eb => hQ h' s.toks fun b u hb e => eb b u (fun z => hb (by simp [z])) e
  self := fun i s Q E st hQ => by
    refine wpAny_pyIter_slot st.1.typeIs F.slot_dict_keyiterator_iter (wpAny_call_entry F.slot_dict_keyiterator_iter st.1.typeIs F.entry_dict_keyiterator_iter ?_ (F.args_dict_keyiterator_iter_1 _))
    show wpAny _ _ (ret (.ref I)) _ _ s
    exact wpAny_pure ⟨_, rfl, "dict_keyiterator", _, st.1.typeIs, F.slot_dict_keyiterator_next.lookup, hQ⟩
theorem keys_src (lo : (d == sysModules) = false) (hx : o.ExactDict) (hdt : o.data = .dict es ep) : PySem.W.KdlSrc prog w "dict" d d es.size (fun i v => ∃ en, es[i]? = some en ∧ v = en.key) (fun h => h.get? d = some o) where
  type := fun s h => ⟨o, h, hx.1⟩
  there := fun h e => ⟨Heap.lt_size e, Heap.lt_size e⟩
  keep := fun h h' e k => k d (.inl rfl) o e
  notList := by decide
  notTuple := by decide
  hint := fun A E s Q h q => PySem.W.kdl_hint_dict ⟨o, h, hx.1⟩ q
  iter := fun A s hh h => ⟨_, _, fun E Q q => iter_keys lo h hx hdt q, keys_walk hh _ (Nat.ne_of_lt (Heap.lt_size h)) hdt, ⟨_, Heap.get?_push_size _ rfl, rfl, rfl⟩, Heap.get?_push_of_some _ h⟩
end
section
variable {X : Cx} {pins : List (Addr × Obj)} {σ : L2.St} {H : Hp} {s : Shared}
/-- sorted(d), its keys standing for bs -/
theorem sortedKeysAny {β : Type} {enc : β → PyData} {f : β → V} {d : Addr} {o : Obj} {es : Array DictEntry} {ep : Nat} {bs : List β} {Q : VK} (hc : X.calm = true) (I : Inv X pins σ H s) (lo : (d == sysModules) = false) (hd : s.heap.get? d = some o)
    (hx : o.ExactDict) (hdt : o.data = .dict es ep) (hn : es.size = bs.length) (hz : bs.length ≤ sizeLine) (hkeys : ∀ (i : Nat) (en : DictEntry) (b : β), es[i]? = some en → bs[i]? = some b → RelV (f b) en.key ∧ Reads s.heap en.key (enc b) [])
    (hal : PySem.W.AllAlike (bs.map enc)) (hk : PySem.W.Sortable (bs.map enc)) (hu : ∀ b, b ∈ bs → X.A.units + 2 + (enc b).depth < cLine)
    (h : ∀ (p : Addr), H p = none → Q (.ref p) (upd H p (.lst ((bs.mergeSort (PySem.W.dataLe false enc)).map f)))) :
    wpAny (model X.prog X.w) X.A (call (.builtin "sorted") [.ref d]) (EP X pins σ Q) X.xe s := by
  refine Calls.call_function_entry PyProof.Rows.kind_sorted PyProof.Rows.plain_sorted PyProof.Rows.entry_sorted (PyProof.Rows.args_sorted1 _) ?_
  unfold Builtin.«sorted»
  refine wpAny_bind (m := checkCount "sorted" 1 1 _) (wpAny_pure ?_)
  refine wpAny_bind (PySem.W.kdu_collect (A := X.A.in1) (keys_src lo hx hdt) (I.ok.hd hc) hd (by rw [hn]; exact hz) fun h' tk acc hkp hacc => ?_)
  have hla : acc.toList.length = bs.length := by rw [Array.length_toList, hacc.1, hn]
  have get : ∀ (j : Nat) (v : Value) (b : β), acc.toList[j]? = some v → bs[j]? = some b → RelV (f b) v ∧ Reads s.heap v (enc b) [] := fun j v b e1 e2 => by
    obtain ⟨en, g1, g2⟩ := hacc.2 j v (by rw [← Array.getElem?_toList]; exact e1)
    rw [g2]
    exact hkeys j en b g1 e2
  have each : ∀ {P : Value → β → Prop} {us : List Value} {cs : List β}, us.length = cs.length → (∀ (j : Nat) (v : Value) (b : β), us[j]? = some v → cs[j]? = some b → P v b) → PySem.W.EachIs P us cs := by
    intro P us
    induction us with
    | nil =>
      intro cs hl _
      cases cs with
      | nil => exact .nil
      | cons c cs => simp at hl
    | cons u us ih =>
      intro cs hl g
      cases cs with
      | nil => simp at hl
      | cons c cs => exact .cons (g 0 u c rfl rfl) (ih (by simpa using hl) fun j v b e1 e2 => g (j + 1) v b e1 e2)
  have e1 := each hla fun j v b a1 a2 => (get j v b a1 a2).1
  refine wpAny_bind (wpAny_newList ?_ (by rw [hla]; exact hz))
  have hoL : (h'.push (seqObj "list" acc.toList.toArray 0)).get? h'.objs.size = some (seqObj "list" acc.toList.toArray 0) := Heap.get?_push_size _ rfl
  show wpAny _ _ _ _ _ { s with heap := h'.push (seqObj "list" acc.toList.toArray 0), toks := tk }
  have e2 : PySem.W.EachIs (fun v b => ∃ as, Reads (h'.push (seqObj "list" acc.toList.toArray 0)) v (enc b) as ∧ h'.objs.size ∉ as) acc.toList bs := each hla fun j v b a1 a2 =>
    ⟨[], PyProof.Rows.Reads.keeps (fun b u q => Heap.get?_push_of_some _ (hkp b u q)) (get j v b a1 a2).2, by simp⟩
  refine wpAny_bind (wpAny_holding (PySem.W.list_sort_data (s := { s with heap := h'.push (seqObj "list" acc.toList.toArray 0), toks := tk }) hoL e1 e2 hal hk hz (fun b hb => by have := hu b hb; show X.A.units + 1 + 1 + _ < _; omega) fun out g1 g2 => ?_))
  obtain ⟨e', he'⟩ := PyProof.Rows.sortedHeap_at (vs := acc.toList) (out := out.toArray) hoL
  have I1 : Inv X pins σ H { s with heap := h', toks := tk } := I.kept hkp
  have hv : ∀ {us : List Value} {cs : List β}, PySem.W.EachIs (fun v b => RelV (f b) v) us cs → Vals (cs.map f) us := fun {us cs} g => by
    induction g with
    | nil => exact .nil
    | cons r _ ih => exact .cons r ih
  have hpm : (bs.mergeSort (PySem.W.dataLe false enc)).Perm bs := List.mergeSort_perm _ _
  refine wpAny_pure ⟨_, rfl, .ref h'.objs.size, _, I1.laid (t' := tk) (fun b u q => ?_) (Nat.le_refl _) (show ObjOk X.prog X.w _ _ _ (.lst ((bs.mergeSort (PySem.W.dataLe false enc)).map f)) from ⟨by rw [List.length_map, hpm.length_eq]; exact hz, out, e', hv g2, he'⟩), rfl, h _ (I1.hok.fresh (Nat.le_refl _))⟩
  have hb : b < h'.objs.size := Heap.lt_size q
  rw [PyProof.Rows.sortedHeap_old (Nat.ne_of_lt hb) (by rw [Heap.size_push]; exact Nat.lt_succ_of_lt hb)]
  exact Heap.get?_push_of_some _ q
end
end Ir

set_option Elab.async false
set_option linter.all false
set_option maxRecDepth 100000
set_option maxHeartbeats 4000000
/-! Built-ins that sort. -/
namespace Ir
open PySem PySem.Spec PyProof.Rows L2
section
variable {K : PySem.W.Frag} {Hf H : Hp}
/-- int tuples as they stand -/
theorem tups_dp : ∀ {ys : List D} {a : List (List Int)} {vs : List V}, tupsOf ys = some a → DpAll K H vs ys → ∃ bs : List (V × List Int), bs.map (·.1) = vs ∧ bs.map (·.2) = a ∧ ∀ b ∈ bs, ∃ q, b.1 = .ref q ∧ H q = some (.tup (b.2.map V.int))
  | [], a, vs, e, h => by
    cases h
    simp only [tupsOf, Option.some.injEq] at e
    exact ⟨[], rfl, e, fun b hb => nomatch hb⟩
  | .tuple x :: r, a, vs, e, h => by
    cases h with
    | cons h1 h2 =>
      unfold tupsOf at e
      cases e1 : intsOf x with
      | none => simp [e1] at e
      | some ns =>
        cases e2 : tupsOf r with
        | none => simp [e1, e2] at e
        | some b =>
          simp only [e1, e2, Option.some.injEq] at e
          obtain ⟨bs, g1, g2, g3⟩ := tups_dp e2 h2
          obtain ⟨q, ws, rfl, hq, hw⟩ := dp_tup h1
          rw [ints_dp e1 hw] at hq
          refine ⟨(.ref q, ns) :: bs, by rw [List.map_cons, g1], by rw [List.map_cons, g2]; exact e, fun c hc => ?_⟩
          rcases List.mem_cons.mp hc with z | z
          · subst z
            exact ⟨q, rfl, hq⟩
          · exact g3 c z
  | .none :: r, a, vs, e, h => by simp [tupsOf] at e
  | .bool _ :: r, a, vs, e, h => by simp [tupsOf] at e
  | .int _ :: r, a, vs, e, h => by simp [tupsOf] at e
  | .str _ :: r, a, vs, e, h => by simp [tupsOf] at e
  | .list _ :: r, a, vs, e, h => by simp [tupsOf] at e
  | .dict _ :: r, a, vs, e, h => by simp [tupsOf] at e
theorem all_tups : ∀ {cs : List (V × List Int)}, (∀ b ∈ cs, ∃ q, b.1 = .ref q ∧ H q = some (.tup (b.2.map V.int))) → DpAll K H (cs.map (·.1)) (ofTups (cs.map (·.2)))
  | [], _ => .nil
  | c :: cs, h => by
    obtain ⟨q, e, hq⟩ := h c List.mem_cons_self
    refine .cons ?_ (all_tups fun b hb => h b (List.mem_cons_of_mem _ hb))
    show Dp K H c.1 (.tuple (ofInts c.2))
    rw [e]
    exact .tup hq (all_ints c.2)
end
section
variable {X : Cx}
theorem call_sorted (hc : X.calm = true) (hu : X.A.units + 65 < cLine) : CallR X (bifV .sorted) (rBif X.K .sorted) := by
  intro pins s σ H vs us Q I r h
  obtain ⟨Hf, ds, v, sm, hv, e, q⟩ := h
  by_cases hs : sortsTup .sorted ds = false
  · exact call_bif0 .sorted hc pins s σ H vs us Q I r ⟨Hf, ds, v, sm, hv, e, hs, q⟩
  · unfold Ir.bfn at e
    split at e <;> first | (cases e; done) | skip
    all_goals first | (rename_i z; cases z; done) | skip
    rename_i xs hb
    obtain ⟨x, rfl, hx⟩ := all1 hv
    obtain ⟨a, ys, rfl, ha, ra⟩ := dp_lst hx
    have hn : intsOf xs = none := by
      cases e3 : intsOf xs with
      | none => rfl
      | some ns => exact absurd (by simp [sortsTup, e3]) hs
    unfold sortD at e
    rw [hn] at e
    dsimp only at e
    cases e4 : tupsOf xs with
    | none => rw [e4] at e; cases e
    | some ts =>
      rw [e4] at e
      dsimp only at e
      split at e
      · rename_i hcond
        simp only [Bool.and_eq_true, decide_eq_true_eq, List.all_eq_true] at hcond
        cases e
        obtain ⟨bs, g1, g2, g3⟩ := tups_dp e4 ra
        refine cr_sortedTA (by omega) pins s σ H _ us Q I r ⟨a, bs, rfl, by rw [g1]; exact rdS sm ha, fun b hb => ?_, fun cs p p1 p2 p3 => ?_⟩
        · obtain ⟨t, e1, ht⟩ := g3 b hb
          refine ⟨⟨t, e1, .of (sm _ _ ht)⟩, fun z => ?_⟩
          have := hcond.2 b.2 (by rw [← g2]; exact List.mem_map_of_mem hb)
          rw [z] at this
          cases this
        · have es : cs.map (·.2) = sortT ts := sorted_oneT (((p1.map (·.2)).trans (by rw [g2])).trans (sortT_perm ts).symm) p2 (sortT_sorted ts)
          rw [← es] at q
          exact q _ _ ⟨p, _, p3, rfl, rfl, all_tups fun b hb => g3 b (p1.mem_iff.mp hb)⟩
      · cases e
/-! sorted(d) -/
theorem map_get {α β : Type} {f : α → β} {l : List α} {i : Nat} {b : β} (h : (l.map f)[i]? = some b) : ∃ a, l[i]? = some a ∧ f a = b := by
  rw [List.getElem?_map] at h
  cases e : l[i]? with
  | none => rw [e] at h; cases h
  | some a =>
    rw [e] at h
    exact ⟨a, rfl, Option.some.inj h⟩
def rSortedD : List V → Hp → VK → Prop := fun vs H Q => ∃ d, vs = [.ref d] ∧
  ((∃ (kvs : List (Key × V)) (ns : List Int), Rd H d (.dK kvs) ∧ kvs.map (·.1) = ns.map Sum.inl ∧ ∀ p, H p = none → Q (.ref p) (upd H p (.lst ((sortI ns).map V.int)))) ∨
   ∃ (kvs : List (List Key × V)) (ts : List (List Int)), Rd H d (.dT kvs) ∧ kvs.map (·.1) = ts.map (fun t => t.map Sum.inl) ∧ (∀ t ∈ ts, t ≠ []) ∧
    ∀ (cs : List (V × List Int)) (p : Addr), cs.map (·.2) = sortT ts → (∀ b ∈ cs, ∃ q, b.1 = .ref q ∧ H q = some (.tup (b.2.map V.int))) → H p = none → Q (.ref p) (upd H p (.lst (cs.map (·.1)))))
theorem call_sortedD2 (hc : X.calm = true) (hu : X.A.units + 65 < cLine) : CallR X (.builtin "sorted") rSortedD := by
  intro pins s σ H vs us Q I r h
  obtain ⟨d, rfl, h⟩ := h
  rw [Vals.ref1 r]
  rcases h with ⟨kvs, ns, hd, hks, q⟩ | ⟨kvs, ts, hd, hks, hne, q⟩
  · obtain ⟨z, lo, ws, rel, dd⟩ := dk_rd I.hok hd
    obtain ⟨ep, o, es, ho, hx, hdt, hke, hpr, hnd⟩ := dd.dictAt
    have hkeys : ws.map (·.1) = ns.map Sum.inl := rel.keys.symm.trans hks
    have hlw : ws.length = ns.length := by
      have := congrArg List.length hkeys
      simpa using this
    have hlk : kvs.length = ws.length := Paired.length rel
    have hes : es.size = ns.length := by
      have := hpr.length
      first
        | (rw [Array.length_toList] at this; omega)
        | omega
    refine sortedKeysAny (β := Int) (enc := .int) (f := V.int) (bs := ns) hc I lo ho hx hdt hes (by omega) (fun i en b e1 e2 => ?_) (PySem.W.AllAlike.of fun _ _ => by simp [PySem.W.alike]) (.inr fun d hd => ?_) (fun b _ => ?_) fun p hp => ?_
    · have e3 : (ws.map (·.1))[i]? = some (Sum.inl b) := by rw [hkeys, List.getElem?_map, e2]; rfl
      obtain ⟨⟨k, v⟩, e4, e5⟩ := map_get e3
      have e5 : k = Sum.inl b := e5
      subst e5
      obtain ⟨h1, _⟩ := hpr.get? (by rw [Array.getElem?_toList]; exact e1) e4
      rcases keyIs_shape (show keyIs (Sum.inl b) en.key = true from h1) with ⟨j, t, ek, ev⟩ | ⟨z, t, ek, ev⟩
      · cases ek
        rw [ev]
        exact ⟨⟨t, rfl⟩, .int _ _⟩
      · cases ek
    · obtain ⟨b, _, rfl⟩ := List.mem_map.mp hd
      exact ⟨(fun z => nomatch z), (fun xs z => nomatch z)⟩
    · have : (PyData.int b).depth = 0 := by simp [PyData.depth]
      omega
    · have e3 : (ns.mergeSort (PySem.W.dataLe false PyData.int)) = sortI ns := by
        have hd : PySem.W.dataLe false PyData.int = fun (a b : Int) => decide (a ≤ b) := PySem.W.dataLe_int fun i => i
        rw [hd]
        refine sorted_one ((List.mergeSort_perm _ _).trans (sortI_perm ns).symm) ?_ (sortI_sorted ns)
        refine (List.pairwise_mergeSort (le := fun (a b : Int) => decide (a ≤ b)) (fun a b c h1 h2 => ?_) (fun a b => ?_) ns).imp fun h => of_decide_eq_true h
        · exact decide_eq_true (Int.le_trans (of_decide_eq_true h1) (of_decide_eq_true h2))
        · simp only [Bool.or_eq_true, decide_eq_true_eq]
          exact Int.le_total _ _
      rw [e3]
      exact q p hp
  · obtain ⟨z, lo, ws, kt, o, es, ep, ho, hx, hdt, hes, hki, hnd⟩ := dt_rd I.hok hd
    have hlk : kvs.length = ws.length := Paired.length kt
    have hlt : kvs.length = ts.length := by
      have := congrArg List.length hks
      simpa using this
    have hsz : es.size = ws.length := by
      have := congrArg List.length hes
      rw [Array.length_toList, List.length_map] at this
      exact this
    -- the rows with their tuples
    have hbs : ∃ bs : List (V × List Int), bs.length = ws.length ∧ bs.map (·.2) = ts ∧ ∀ (i : Nat) (b : V × List Int), bs[i]? = some b → ∃ x, ws[i]? = some x ∧ b.1 = .ref x.2.1 ∧ H x.2.1 = some (.tup (b.2.map V.int)) := by
      refine ⟨(ws.zip ts).map fun p => (V.ref p.1.2.1, p.2), by rw [List.length_map, List.length_zip]; omega, ?_, fun i b e => ?_⟩
      · rw [List.map_map]
        show (ws.zip ts).map Prod.snd = ts
        exact List.map_snd_zip (by omega)
      · obtain ⟨⟨x, t⟩, e1, e2⟩ := map_get e
        rw [List.getElem?_zip_eq_some] at e1
        obtain ⟨e3, e4⟩ := e1
        subst e2
        refine ⟨x, e3, rfl, ?_⟩
        have hi : i < kvs.length := by
          have := (List.getElem?_eq_some_iff.mp e3).1
          omega
        obtain ⟨y, ey, g1, g2, g3⟩ := L2.paired_get kt (List.getElem?_eq_getElem hi)
        have ey : ws[i]? = some y := ey
        rw [e3] at ey
        cases ey
        have ek : (kvs.map (·.1))[i]? = some (kvs[i].1) := by rw [List.getElem?_map, List.getElem?_eq_getElem hi]; rfl
        rw [hks, List.getElem?_map, e4] at ek
        have ek : t.map Sum.inl = kvs[i].1 := Option.some.inj ek
        rw [← ek, List.map_map] at g2
        exact g2
    obtain ⟨bs, hbl, hb2, hbk⟩ := hbs
    have mem : ∀ b ∈ bs, ∃ q, b.1 = V.ref q ∧ H q = some (.tup (b.2.map V.int)) := fun b hb => by
      obtain ⟨i, hi⟩ := List.getElem?_of_mem hb
      obtain ⟨x, _, g1, g2⟩ := hbk i b hi
      exact ⟨_, g1, g2⟩
    refine sortedKeysAny (β := V × List Int) (enc := encT) (f := (·.1)) (bs := bs) hc I lo ho hx hdt (by omega) (by omega) (fun i en b e1 e2 => ?_) (PySem.W.AllAlike.of fun b c => ?_) (.inl fun d hd => ?_) (fun b _ => ?_) fun p hp => ?_
    · obtain ⟨x, e3, g1, g2⟩ := hbk i b e2
      have e4 : es.toList[i]? = some en := by rw [Array.getElem?_toList]; exact e1
      rw [hes, List.getElem?_map, e3] at e4
      have e4 : entryOfKey _ x = en := Option.some.inj e4
      have e5 : en.key = .ref x.2.1 := by rw [← e4]; rfl
      rw [e5, g1]
      refine ⟨rfl, ?_⟩
      obtain ⟨us, rv2, ⟨o2, ho2, hc2, n2, hd2⟩, _⟩ := I.tuple (.of g2)
      exact .tuple ho2 hc2 hd2 (by simpa using readsAll_ints rv2.ints)
    · show PySem.W.alike (.tuple _) (.tuple _) = true
      rw [PySem.W.alike]
      exact PySem.W.alike_ints b.2 c.2
    · obtain ⟨b, hb, rfl⟩ := List.mem_map.mp hd
      have ne := hne b.2 (by rw [← hb2]; exact List.mem_map_of_mem hb)
      cases e : b.2 with
      | nil => exact absurd e ne
      | cons n ns => exact ⟨.int n, ns.map .int, by simp [encT, e]⟩
    · have := depth_encT b
      omega
    · rw [dataLe_tups]
      have hp1 : (bs.mergeSort fun p q => decide (p.2 ≤ q.2)).Perm bs := List.mergeSort_perm _ _
      refine q _ p ?_ (fun b hb => mem b (hp1.mem_iff.mp hb)) hp
      refine sorted_oneT (((hp1.map (·.2)).trans (by rw [hb2])).trans (sortT_perm ts).symm) ?_ (sortT_sorted ts)
      rw [List.pairwise_map]
      refine (List.pairwise_mergeSort (le := fun (p q : V × List Int) => decide (p.2 ≤ q.2)) (fun a b c h1 h2 => ?_) (fun a b => ?_) bs).imp fun h => of_decide_eq_true h
      · exact decide_eq_true (List.le_trans (of_decide_eq_true h1) (of_decide_eq_true h2))
      · simp only [Bool.or_eq_true, decide_eq_true_eq]
        exact List.le_total _ _
end
end Ir

set_option Elab.async false
set_option linter.all false
set_option maxRecDepth 100000
set_option maxHeartbeats 4000000
/-! sorted of a dict slot. -/
namespace Ir
open PySem PySem.Spec PyProof.Rows L2
section
variable {w : Wd} {W : WX} {Hf H : Hp} {s : Sl} {σ : L2.St}
theorem KVD.keys {κ : Type} {K : PySem.W.Frag} {H : Hp} {a : List (κ × V)} {b : List (κ × D)} (h : KVD K H a b) : a.map (·.1) = b.map (·.1) := by
  induction h with
  | nil => rfl
  | cons r _ ih => rw [List.map_cons, List.map_cons, ih, r.1]
/-- a tuple that stands is frozen -/
theorem SR.freezeT {p : Addr} {xs : List V} (h : SR w Hf s σ H) (e : H p = some (.tup xs)) : ∃ Hf', SR w Hf' s σ H ∧ Stp Hf s σ H Hf' s σ H ∧ Hf' p = some (.tup xs) := by
  cases q : Hf p with
  | some o =>
    have := h.sub p o q
    rw [e] at this
    cases this
    exact ⟨Hf, h, .refl, q⟩
  | none =>
    have no : ¬ Own s σ p := fun ⟨i, v, g, o, z⟩ => by
      obtain ⟨x, e1, r⟩ := h.sl i v g
      rw [z] at e1
      cases e1
      exact r.nt o (.inr (.inl ⟨xs, e⟩))
    obtain ⟨sr, sm⟩ := h.freeze e q no so_tup
    refine ⟨_, sr, ⟨sm, fun _ _ z _ _ => z, fun _ z => z, fun _ z => .inl z, fun c z => ?_⟩, upd_same⟩
    by_cases hc : c = p
    · rw [hc]
      exact .inr (.inr (.inr (.inl ⟨xs, e⟩)))
    · rw [upd_ne hc] at z
      exact .inl z
theorem SR.freezeTs {cs : List (V × List Int)} (hc : ∀ b ∈ cs, ∃ q, b.1 = .ref q ∧ H q = some (.tup (b.2.map V.int))) : ∀ {Hf : Hp}, SR w Hf s σ H → ∃ Hf', SR w Hf' s σ H ∧ Stp Hf s σ H Hf' s σ H ∧ ∀ b ∈ cs, ∃ q, b.1 = .ref q ∧ Hf' q = some (.tup (b.2.map V.int)) := by
  induction cs with
  | nil => exact fun h => ⟨_, h, .refl, fun b hb => nomatch hb⟩
  | cons c cs ih =>
    intro Hf h
    obtain ⟨q, e, hq⟩ := hc c List.mem_cons_self
    obtain ⟨Hf1, sr1, st1, h1⟩ := h.freezeT hq
    obtain ⟨Hf2, sr2, st2, h2⟩ := ih (fun b hb => hc b (List.mem_cons_of_mem _ hb)) sr1
    refine ⟨Hf2, sr2, st1.trans st2, fun b hb => ?_⟩
    rcases List.mem_cons.mp hb with z | z
    · rw [z]
      exact ⟨q, e, st2.frz _ _ h1⟩
    · exact h2 b z
end
theorem ints_keys : ∀ {ks : List Key} {ns : List Int}, intsOf (ks.map unkey) = some ns → ks = ns.map Sum.inl
  | [], ns, h => by
    simp only [List.map_nil, intsOf, Option.some.injEq] at h
    rw [← h]
    rfl
  | .inl i :: ks, ns, h => by
    simp only [List.map_cons, unkey, intsOf] at h
    cases e : intsOf (ks.map unkey) with
    | none => rw [e] at h; cases h
    | some ms =>
      rw [e] at h
      simp only [Option.map_some, Option.some.injEq] at h
      rw [← h, ints_keys e]
      rfl
  | .inr x :: ks, ns, h => by
    simp [unkey, intsOf] at h
theorem tups_keys : ∀ {ks : List (List Key)} {ts : List (List Int)}, tupsOf (ks.map fun k => .tuple (k.map unkey)) = some ts → ks = ts.map (fun t => t.map Sum.inl)
  | [], ts, h => by
    simp only [List.map_nil, tupsOf, Option.some.injEq] at h
    rw [← h]
    rfl
  | k :: ks, ts, h => by
    simp only [List.map_cons, tupsOf] at h
    cases e1 : intsOf (k.map unkey) with
    | none => simp [e1] at h
    | some a =>
      cases e2 : tupsOf (ks.map fun k => .tuple (k.map unkey)) with
      | none => simp [e1, e2] at h
      | some b =>
        simp only [e1, e2, Option.some.injEq] at h
        rw [← h, ints_keys e1, tups_keys e2]
        rfl
theorem sortD_ints {xs ys : List D} {ns : List Int} (h : sortD xs = some ys) (e : intsOf xs = some ns) : ys = ofInts (sortI ns) := by
  unfold sortD at h
  rw [e] at h
  dsimp only at h
  split at h
  · exact (Option.some.inj h).symm
  · cases h
section
variable {X : Cx} {tb : Tbs} {fa ca : Nat → Addr} {W : WX} {Φ : Fs} {kin : Exn → D} {i : Nat} {x : Str} {pos : Pos}
theorem n_sortedKeys (hc : X.calm = true) (hu : X.A.units + 65 < cLine) {f : Str} {p q : Pos} (hf : Blt X f (.builtin "sorted")) (h : PE X (.Name x p) (tVar i)) (hp : Plain X (.Name x p) [] pos) : PEx X tb fa ca W Φ kin (.Call (.Name f q) [.Name x p] [] pos) (.sortedKeys i) := by
  refine PE_imp (n_biB (call_sortedD2 hc hu) hf (.inl ⟨_, rfl⟩) (pa_cons h pa_nil hp.he) hp) fun σ H Q ⟨Hf, s, sr, q⟩ => ?_
  unfold ev at q
  split at q
  · rename_i kvs e
    obtain ⟨y, e1, a, kv, rfl, h1, h2, h3⟩ := sr.sl i _ e
    split at q
    · rename_i xs ex
      refine ⟨_, e1, a, rfl, .inl ?_⟩
      cases e2 : intsOf (kvs.map fun p => unkey p.1) with
      | some ns =>
        have ek : kvs.map (·.1) = ns.map Sum.inl := ints_keys (by rw [List.map_map]; exact e2)
        refine ⟨kv, ns, .of h1, by rw [h3.keys]; exact ek, fun p hp => ?_⟩
        rw [sortD_ints ex e2] at q
        exact newR_post sr q ⟨p, _, hp, rfl, rfl, all_ints _⟩
      | none =>
        exfalso
        have tn : tupsOf (kvs.map fun p => unkey p.1) = none := by
          cases kvs with
          | nil => simp [intsOf] at e2
          | cons c r =>
            obtain ⟨k, v⟩ := c
            cases k <;> simp [unkey, tupsOf]
        unfold sortD at ex
        rw [e2] at ex
        dsimp only at ex
        rw [tn] at ex
        cases ex
    · exact q.elim
  · rename_i kvs e
    obtain ⟨y, e1, a, kv, rfl, h1, h2, h3⟩ := sr.sl i _ e
    split at q
    · rename_i xs ex
      refine ⟨_, e1, a, rfl, .inr ?_⟩
      have key : ∃ ts, tupsOf (kvs.map fun p => .tuple (p.1.map unkey)) = some ts ∧ xs = ofTups (sortT ts) ∧ ∀ t ∈ ts, t ≠ [] := by
        cases kvs with
        | nil =>
          have : xs = [] := by
            have ex' : sortD ([] : List D) = some xs := ex
            simpa [sortD, intsOf, ofInts, sortI] using ex'.symm
          exact ⟨[], rfl, by rw [this]; rfl, fun t ht => nomatch ht⟩
        | cons c r =>
          have hn : intsOf ((c :: r).map fun p => .tuple (p.1.map unkey)) = none := by simp [intsOf]
          unfold sortD at ex
          rw [hn] at ex
          dsimp only at ex
          cases e3 : tupsOf ((c :: r).map fun p => .tuple (p.1.map unkey)) with
          | none => rw [e3] at ex; cases ex
          | some ts =>
            rw [e3] at ex
            dsimp only at ex
            split at ex
            · rename_i hh
              simp only [Bool.and_eq_true, List.all_eq_true] at hh
              refine ⟨ts, rfl, (Option.some.inj ex).symm, fun t ht z => ?_⟩
              have := hh.2 t ht
              rw [z] at this
              cases this
            · cases ex
      obtain ⟨ts, e3, rfl, hne⟩ := key
      have ek : kvs.map (·.1) = ts.map (fun t => t.map Sum.inl) := tups_keys (by rw [List.map_map]; exact e3)
      refine ⟨kv, ts, .of h1, by rw [h3.keys]; exact ek, hne, fun cs p hcs hcm hp => ?_⟩
      obtain ⟨Hf2, sr2, st2, h4⟩ := sr.freezeTs hcm
      rw [← hcs] at q
      exact newR_post sr2 (q.after st2) ⟨p, _, hp, rfl, rfl, all_tups h4⟩
    · exact q.elim
  · exact q.elim
end
end Ir

set_option Elab.async false
set_option linter.all false
set_option maxRecDepth 100000
set_option maxHeartbeats 4000000
/-! zip of two lists that ends while an exception is handled. -/
namespace Ir
open PySem PySem.Spec PyProof.Rows L2 HotX
section
variable {prog : Program} {w : World} {A : Around} {E : Value → Shared → Prop} {s : Shared}
theorem hot_push {x1 : Addr} {h : Heap} {o : Obj} (x : HotAt A x1 h) : HotAt A x1 (h.push o) := by
  obtain ⟨hh, o1, v1, e, d, c⟩ := x
  exact ⟨hh, o1, v1, Heap.get?_push_of_some _ e, d, c⟩
theorem hot_same {x1 : Addr} {h h' : Heap} (x : HotAt A x1 h) (k : ∀ o, h.get? x1 = some o → h'.get? x1 = some o) : HotAt A x1 h' := by
  obtain ⟨hh, o1, v1, e, d, c⟩ := x
  exact ⟨hh, o1, v1, k _ e, d, c⟩
/-- the list's iterator ends -/
theorem nextOf_list_end_hot {it l x1 : Addr} {i : Nat} {items : Array Value} {Q : Value → Shared → Prop} (hot : HotAt A x1 s.heap) (hx1 : x1 ≠ it)
    (hit : s.heap.IsListIter it l i) (hl : s.heap.IsList l items) (hx : items[i]? = none)
    (hE : ∀ h' e, Heap.ExtBut it s.heap h' → (∃ o, h'.get? e = some o ∧ o.cls = .type "StopIteration") → E (.ref e) { s with heap := h' }) :
    wpAny (model prog w) A (Builtin.SmallTypes.nextOf (.ref it)) Q E s := by
  obtain ⟨o, ho, hc, hd⟩ := id hit
  obtain ⟨ol, hol, _, nl, hdl⟩ := hl
  unfold Builtin.SmallTypes.nextOf
  refine wpAny_bind (wpAny_callSpecial?_slot (name := Str.ofString "__next__") hit.typeIs slot_listiter_next
    (wpAny_call_entry slot_listiter_next hit.typeIs entry_listiter_next ?_ (args_listiter_next _)))
  show wpAny _ _ (field (.ref it) 0 >>= _) _ _ s
  refine wpAny_bind (wpAny_field ho hd (x := .ref l) rfl ?_)
  show wpAny _ _ (if (Value.ref l == Value.none) = true then _ else _) _ _ s
  rw [if_neg (show ¬ ((Value.ref l == Value.none) = true) from Bool.false_ne_true)]
  show wpAny _ _ (field (.ref it) 1 >>= _) _ _ s
  refine wpAny_bind (wpAny_field ho hd (x := .int i 0) rfl ?_)
  show wpAny _ _ (seqItems? (.ref l) >>= _) _ _ s
  refine wpAny_bind (wpAny_seqItems hol hdl ?_)
  simp only [Int.toNat_natCast, hx]
  refine wpAny_bind (wpAny_rule (wpAny_bind (wpAny_setField ho hd (by simp) ?_)))
  have hot1 : HotAt A x1 (s.heap.update it (Obj.mapFields (·.setIfInBounds 0 .none))) := hot_same hot fun u e => (Heap.get?_update_other _ _ (Ne.symm hx1)).trans e
  show wpAny _ _ (newExc (.type "StopIteration") [] >>= _) _ _ _
  refine wpAny_bind ?_
  simp only [newExc, newTuple]
  refine wpAny_bind (wpAny_newObj_type ?_ (by size_fits))
  refine wpAny_bind (m := firstArgMember _ _) (wpAny_of_eq (a := Value.none) (by first | rfl | (simp only [firstArgMember]; rfl)) ?_)
  refine wpAny_newObj_type ?_ (by size_fits)
  obtain ⟨hh, o1, v1, h1, d1, c1⟩ := hot1
  refine raiseNew_hot ⟨hh, o1, v1, Heap.get?_push_of_some _ (Heap.get?_push_of_some _ h1), d1, c1⟩ (Nat.ne_of_lt (Heap.lt_size (Heap.get?_push_of_some _ h1))) (Heap.get?_push_size _ rfl) rfl (by first | (simp; done) | (simp; omega) | (simp only [Array.size_append]; simp; omega)) ?_
  refine hE _ _ (fun b u nb e => ?_) ⟨_, Heap.get?_update_self _ (Heap.get?_push_size _ rfl) rfl, rfl⟩
  have e1 := Heap.get?_push_of_some { cls := .type "tuple", data := .seq #[] } ((Heap.get?_update_other s.heap (Obj.mapFields (·.setIfInBounds 0 .none)) (Ne.symm nb)).trans e)
  rw [Heap.get?_update_other _ _ (Nat.ne_of_gt (Heap.lt_size e1))]
  exact Heap.get?_push_of_some _ e1
/-- the zip's own step ends -/
theorem zip_next_end_hot {z TI TO i1 i2 l1 l2 x1 : Addr} {k1 k2 : Nat} {xs ys : Array Value} {a b : Value} {Q : PySem.Fin → Shared → Prop} (hot : HotAt A x1 s.heap) (nx : x1 ≠ z ∧ x1 ≠ TO ∧ x1 ≠ i1 ∧ x1 ≠ i2) (D : ZipApart z TI TO i1 i2 l1 l2)
    (hz : IsZip s.heap z TI TO .none) (hTI : IsPair s.heap TI (.ref i1) (.ref i2)) (hTO : IsPair s.heap TO a b)
    (h1 : s.heap.IsListIter i1 l1 k1) (h2 : s.heap.IsListIter i2 l2 k2) (hl1 : s.heap.IsList l1 xs) (hl2 : s.heap.IsList l2 ys) (hend : xs[k1]? = none ∨ ys[k2]? = none)
    (hE : ∀ h' e, (∀ c o, c ≠ z → c ≠ TO → c ≠ i1 → c ≠ i2 → s.heap.get? c = some o → h'.get? c = some o) → (∃ o, h'.get? e = some o ∧ o.cls = .type "StopIteration") → E (.ref e) { s with heap := h' }) :
    wpAny (model prog w) A (Builtin.«zip.__next__» ⟨[.ref z], []⟩) Q E s := by
  obtain ⟨nz, nTO, n1, n2⟩ := nx
  show wpAny _ _ (field (.ref z) 2 >>= _) _ _ _
  refine wpAny_bind (wpAny_field hz rfl (x := .bool false) rfl ?_)
  show wpAny _ _ (field (.ref z) 3 >>= _) _ _ _
  refine wpAny_bind (wpAny_field hz rfl (x := .ref TI) rfl (wpAny_bind (wpAny_seqItems hTI rfl ?_)))
  show wpAny _ _ (Builtin.SmallTypes.ownedTupleIsFree (.ref z) >>= _) _ _ _
  refine wpAny_bind ?_
  unfold Builtin.SmallTypes.ownedTupleIsFree
  refine wpAny_bind (wpAny_field hz rfl (x := .none) rfl (wpAny_pure ?_))
  simp only [if_true]
  refine wpAny_bind (wpAny_rule (wpAny_bind (wpAny_field hz rfl (x := .ref TO) rfl (wpAny_bind (wpAny_setField_rec hz (by simp) fun g₁ z₁ m₁ => ?_)))))
  replace z₁ : IsZip g₁ z TI TO .ellipsis := z₁
  refine wpAny_bind ?_
  simp only [List.zipIdx_cons, List.zipIdx_nil, List.forIn_cons, List.forIn_nil]
  refine wpAny_bind (wpAny_bind (wpAny_onRaise ?_))
  have hot₁ : HotAt A x1 g₁ := hot_same hot fun o e => (m₁.2 _ nz).trans e
  show wpAny _ _ (Builtin.SmallTypes.nextOf (.ref i1) >>= _) _ _ _
  have hl1' := hl1.extBut m₁.extBut D.l1z
  have h1' := h1.extBut m₁.extBut D.i1z
  cases hx : xs[k1]? with
  | none =>
    refine wpAny_bind (nextOf_list_end_hot hot₁ n1 h1' hl1' hx fun g₂ e m₂ ⟨oe, hoe, hce⟩ => ?_)
    have z₂ : IsZip g₂ z TI TO .ellipsis := m₂ _ _ D.i1z.symm z₁
    have hez : e ≠ z := fun q => by
      subst q
      rw [z₂] at hoe
      cases hoe
      simp at hce
    exact wpAny_setField_rec z₂ (by simp) fun g₃ _ m₃ => hE g₃ e (fun c o c1 _ c3 _ q => m₃.extBut _ _ c1 (m₂ _ _ c3 (m₁.extBut _ _ c1 q))) ⟨oe, m₃.extBut _ _ hez hoe, hce⟩
  | some x =>
    have hy : ys[k2]? = none := hend.resolve_left fun q => by rw [hx] at q; cases q
    refine wpAny_bind (wpAny_nextOf_list_item h1' hl1' hx fun g₂ h1₂ m₂ => wpAny_pure ?_)
    have t₂ : IsPair g₂ TO a b := m₂.extBut _ _ D.TOi1 (m₁.extBut _ _ D.TOz hTO)
    refine wpAny_bind (wpAny_seqItems t₂ rfl (wpAny_bind (wpAny_updateSeq_pair t₂ fun g₃ t₃ m₃ => wpAny_bind (wpAny_letGo (wpAny_pure (wpAny_bind (wpAny_bind (wpAny_onRaise ?_))))))))
    show wpAny _ _ (Builtin.SmallTypes.nextOf (.ref i2) >>= _) _ _ _
    have hot₃ : HotAt A x1 g₃ := hot_same hot₁ fun o e => (m₃.2 _ nTO).trans ((m₂.2 _ n1).trans e)
    have h2' := ((h2.extBut m₁.extBut D.i2z).extBut m₂.extBut D.i12.symm).extBut m₃.extBut D.TOi2.symm
    have hl2' := ((hl2.extBut m₁.extBut D.l2z).extBut m₂.extBut D.l2i1).extBut m₃.extBut D.l2TO
    refine wpAny_bind (nextOf_list_end_hot hot₃ n2 h2' hl2' hy fun g₄ e m₄ ⟨oe, hoe, hce⟩ => ?_)
    have z₄ : IsZip g₄ z TI TO .ellipsis := m₄ _ _ D.i2z.symm (m₃.extBut _ _ D.TOz.symm (m₂.extBut _ _ D.i1z.symm z₁))
    have hez : e ≠ z := fun q => by
      subst q
      rw [z₄] at hoe
      cases hoe
      simp at hce
    exact wpAny_setField_rec z₄ (by simp) fun g₅ _ m₅ => hE g₅ e (fun c o c1 c2 c3 c4 q => m₅.extBut _ _ c1 (m₄ _ _ c4 (m₃.extBut _ _ c2 (m₂.extBut _ _ c3 (m₁.extBut _ _ c1 q))))) ⟨oe, m₅.extBut _ _ hez hoe, hce⟩
theorem pyNext_zip_end_hot {z TI TO i1 i2 l1 l2 x1 : Addr} {k1 k2 : Nat} {xs ys : Array Value} {a b : Value} {Q : Option Value → Shared → Prop} (hot : HotAt A x1 s.heap) (nx : x1 ≠ z ∧ x1 ≠ TO ∧ x1 ≠ i1 ∧ x1 ≠ i2) (D : ZipApart z TI TO i1 i2 l1 l2)
    (hz : IsZip s.heap z TI TO .none) (hTI : IsPair s.heap TI (.ref i1) (.ref i2)) (hTO : IsPair s.heap TO a b)
    (h1 : s.heap.IsListIter i1 l1 k1) (h2 : s.heap.IsListIter i2 l2 k2) (hl1 : s.heap.IsList l1 xs) (hl2 : s.heap.IsList l2 ys) (hend : xs[k1]? = none ∨ ys[k2]? = none)
    (hQ : ∀ h', (∀ c o, c ≠ z → c ≠ TO → c ≠ i1 → c ≠ i2 → s.heap.get? c = some o → h'.get? c = some o) → Q none { s with heap := h' }) : wpAny (model prog w) A (pyNext (.ref z)) Q E s := by
  have hT : s.TypeIs (.ref z) "zip" := ⟨_, hz, rfl⟩
  unfold pyNext
  refine wpAny_bind (wpAny_attempt (wpAny_callSpecial?_slot (name := Str.ofString "__next__") hT F.slot_zip_next
    (wpAny_call_entry F.slot_zip_next hT F.entry_zip_next (zip_next_end_hot (A := A.in1) hot nx D hz hTI hTO h1 h2 hl1 hl2 hend fun h' e hk ⟨o, ho, hc⟩ => ?_) (F.args_zip_next_1 _))))
  exact wpAny_bind (wpAny_isInstance (T := "StopIteration") (b := true) ⟨o, ho, hc⟩ isSubtype_stop (wpAny_pure (hQ _ hk)))
end
end Ir

set_option Elab.async false
set_option linter.all false
set_option maxRecDepth 100000
set_option maxHeartbeats 4000000
/-! A comprehension over zip of two lists, while an exception is handled. -/
namespace Ir
open PySem PySem.Spec PyProof.Rows L2 HotX L2H
/-- the zip iterator's own cells -/
def Zs2 (z TI TO i1 i2 a b : Addr) (i : Nat) (h : Heap) : Prop :=
  IsZip h z TI TO .none ∧ IsPair h TI (.ref i1) (.ref i2) ∧ (∃ x y, IsPair h TO x y) ∧ h.IsListIter i1 a i ∧ h.IsListIter i2 b i
theorem mem5 {q z TI TO i1 i2 : Addr} (h : q ∈ [z, TI, TO, i1, i2]) : q = z ∨ q = TI ∨ q = TO ∨ q = i1 ∨ q = i2 := by simpa using h
theorem not5 {q z TI TO i1 i2 : Addr} (h : q ∉ [z, TI, TO, i1, i2]) : q ≠ z ∧ q ≠ TI ∧ q ≠ TO ∧ q ≠ i1 ∧ q ≠ i2 := by simpa [not_or] using h
section
variable {a b z TI TO i1 i2 : Addr}
theorem Zs2.obj {i : Nat} {h : Heap} (st : Zs2 z TI TO i1 i2 a b i h) : ∀ q ∈ [z, TI, TO, i1, i2], ∃ o, h.get? q = some o ∧ ∀ v, o.data ≠ .cell v := by
  obtain ⟨hz, hTI, ⟨x, y, hTO⟩, ⟨o1, e1, _, d1⟩, ⟨o2, e2, _, d2⟩⟩ := st
  intro q hq
  rcases mem5 hq with rfl | rfl | rfl | rfl | rfl
  · exact ⟨_, hz, fun v w => nomatch w⟩
  · exact ⟨_, hTI, fun v w => nomatch w⟩
  · exact ⟨_, hTO, fun v w => nomatch w⟩
  · exact ⟨o1, e1, fun v w => by rw [d1] at w; cases w⟩
  · exact ⟨o2, e2, fun v w => by rw [d2] at w; cases w⟩
theorem Zs2.lt {i : Nat} {h : Heap} (st : Zs2 z TI TO i1 i2 a b i h) : ∀ q ∈ [z, TI, TO, i1, i2], q < h.objs.size := fun q hq => by
  obtain ⟨o, e, _⟩ := st.obj q hq
  exact Heap.lt_size e
theorem turn_zipHot {P : Program} {w : World} {K : PySem.W.Frag} {elts : List Expr} {kk : Nat} {tpos : Pos} (S : ZipApart z TI TO i1 i2 a b) : TurnH P w K (.Tuple elts kk tpos) (Itz K a b) [z, TI, TO, i1, i2] z (Zs2 z TI TO i1 i2 a b) where
  mem := List.mem_cons_self ..
  obj := fun i h st => st.obj
  keep := fun i h h' ⟨hz, hTI, ⟨x, y, hTO⟩, h1, h2⟩ k => ⟨k z (by simp) _ hz, k TI (by simp) _ hTI, ⟨x, y, k TO (by simp) _ hTO⟩, h1.at fun o q => k i1 (by simp) o q, h2.at fun o q => k i2 (by simp) o q⟩
  item := by
    rintro X rfl rfl rfl hc i pins s σ H E I hf st ⟨xs, ys, x, y, hqx, hqy, hx, hy⟩
    have lts := st.lt
    obtain ⟨hz, hTI, ⟨x0, y0, hTO⟩, h1, h2⟩ := st
    obtain ⟨t1, rv1, p1, _⟩ := I.list hqx
    obtain ⟨t2, rv2, p2, _⟩ := I.list hqy
    obtain ⟨u1, hu1, ru1⟩ := rv1.get hx
    obtain ⟨u2, hu2, ru2⟩ := rv2.get hy
    have hzl : z < s.heap.objs.size := lts z (by simp)
    refine wpAny_pyNext_zip_item S hz hTI hTO h1 h2 p1.isList p2.isList (x := u1) (y := u2) (by simpa using hu1) (by simpa using hu2) fun h' z' TO' d1 d2 hT hsz hk => ?_
    refine ⟨_, rfl, wpAny_letOwnedTupleGo_zip (s := { s with heap := h' }) z' fun h'' z'' sb => ?_⟩
    have hT2 : h''.get? s.heap.objs.size = some { cls := .type "tuple", data := .seq #[u1, u2] } := (sb.2 _ (Nat.ne_of_gt hzl)).trans hT
    have ob : ObjOk X.prog X.w (upd H s.heap.objs.size (.tup [x, y])) h'' s.heap.objs.size (.tup [x, y]) := ⟨by show 2 ≤ sizeLine; decide, [u1, u2], .cons ru1 (.cons ru2 .nil), ⟨_, hT2, rfl, _, rfl⟩⟩
    have I1 : Inv X pins σ (upd H s.heap.objs.size (.tup [x, y])) { s with heap := h'' } :=
      I.turnedNew (t' := s.toks) (ch := [z, TI, TO, i1, i2]) (fun q o hb e => by
        obtain ⟨n1, n2, n3, n4, n5⟩ := not5 hb
        exact (sb.2 q n1).trans (hk q o n1 n3 n4 n5 e)) hf (Nat.le_refl _) ob
    refine ⟨.ref s.heap.objs.size, _, I1, rfl, ⟨_, x, y, rfl, I.hok.fresh (Nat.le_refl _), rfl, fun l hl => by rw [I.list_inj hl hqx]; exact hx, fun l hl => by rw [I.list_inj hl hqy]; exact hy⟩, ⟨z'', ?_, ⟨u1, u2, ?_⟩, ?_, ?_⟩, fun q hq => ?_⟩
    · exact (sb.2 _ S.TIz).trans (hk _ _ S.TIz S.TITO S.TIi1 S.TIi2 hTI)
    · exact (sb.2 _ S.TOz).trans TO'
    · exact d1.at fun o q => (sb.2 _ S.i1z).trans q
    · exact d2.at fun o q => (sb.2 _ S.i2z).trans q
    · rw [upd_ne (Nat.ne_of_lt (lts q hq))]
      exact (hf q hq).1
  done := by
    rintro X rfl rfl rfl ⟨p, hot1, hpn⟩ i pins s σ H E I hf ⟨hz, hTI, ⟨x0, y0, hTO⟩, h1, h2⟩ ⟨xs, ys, hqx, hqy, hend⟩
    obtain ⟨t1, rv1, p1, _⟩ := I.list hqx
    obtain ⟨t2, rv2, p2, _⟩ := I.list hqy
    have l1 := rv1.length
    have l2 := rv2.length
    obtain ⟨hh, v1, e1, c1⟩ := hot1
    have hot : HotAt X.A p.1 s.heap := ⟨hh, p.2, v1, (I.pin p (List.mem_append_left _ hpn)).1, e1, c1⟩
    have nf : ∀ q ∈ [z, TI, TO, i1, i2], p.1 ≠ q := fun q hq => (hf q hq).2.2.2.2.2 p (List.mem_append_left _ hpn)
    have he : t1.toArray[i]? = none ∨ t2.toArray[i]? = none := by
      rcases hend with q | q
      · exact .inl (by simp; omega)
      · exact .inr (by simp; omega)
    refine pyNext_zip_end_hot hot ⟨nf z (by simp), nf TO (by simp), nf i1 (by simp), nf i2 (by simp)⟩ S hz hTI hTO h1 h2 p1.isList p2.isList he fun h' hk => ⟨rfl, I.turnedL (t' := s.toks) (ch := [z, TI, TO, i1, i2]) (fun q o hb e => ?_) hf⟩
    obtain ⟨n1, n2, n3, n4, n5⟩ := not5 hb
    exact hk q o n1 n3 n4 n5 e
  self := fun A i s Q E st h => wpAny_pyIter_zip st.1 h
end
theorem pi_zipHot {X : Cx} {e e2 : Expr} {ta : TA} {p pos tpos : Pos} {elts : List Expr} {kk : Nat} (hg : Gl X "zip") (hm : X.mg "zip" = none) (ha : PA X [e, e2] ta)
    (hs : starEach [e, e2] X.env = (false, eval e X.env) :: starEach [e2] X.env) (hpl : (backTo pos (starEach [e2] X.env)).any (·.1) = false) :
    PIH X (.Tuple elts kk tpos) (.Call (.Name "zip" p) [e, e2] [] pos) (iZip X.K ta) := by
  refine ⟨fun pins s σ H R I h => ?_⟩
  refine Call_ (ld_blt I hg hm PyProof.Rows.boot_zip (PyProof.Rows.callWith_type1 (thn (ha.run pos pins s σ H _ I h) fun us s1 ⟨vs, H1, I1, r1, q1⟩ => ?_) hs hpl))
  obtain ⟨a, b, xs, ys, ex, hqx, hqy, q⟩ := q1
  subst ex
  obtain ⟨u, v, rfl, ra, rb⟩ := Vals.two r1
  cases ra
  cases rb
  obtain ⟨t1, rv1, p1, _⟩ := I1.list hqx
  obtain ⟨t2, rv2, p2, _⟩ := I1.list hqy
  refine call_zip_2 p1.isList p2.isList fun h' hz hTI hTO h1 h2 hsz hk => wpAny_pyIter_zip hz ?_
  refine ⟨_, _, _, _, H1, rfl, I1.kept (t' := s1.toks) hk, turn_zipHot (PySem.W.ktu_apart s1.heap.objs.size a b p1.lt p2.lt), ⟨hz, hTI, ⟨_, _, hTO⟩, h1, h2⟩, fun q hq => ?_, q⟩
  have hle : s1.heap.objs.size ≤ q := by
    rcases mem5 hq with w | w | w | w | w <;> (rw [w]; first | exact Nat.le_refl _ | exact Nat.le_add_right _ _)
  exact I1.fpOk hle (I1.hok.fresh hle)
end Ir

set_option Elab.async false
set_option linter.all false
set_option maxRecDepth 100000
set_option maxHeartbeats 4000000
namespace Ir
open PySem PySem.Spec PyProof.Rows L2 HotX L2H
/-- a block's context that bears the handled exception -/
abbrev blkH (X : Cx) (p : Addr × Obj) (s : Shared) (H : Hp) (scope : Scope) (cenv : Env) (fp : List Addr) : Cx := { X.blk s H scope cenv fp with pn := [p] }
section
variable {X : Cx} {p : Addr × Obj}
/-- [elt for target in iter if ..] while p's exception is handled -/
theorem pe_lcHot {elt tg iter : Expr} {ifs : List Expr} {scope : Scope} {own : List (Str × Nat)} {pos : Pos} {wi : TI} {g : TG} {tt : TT} {te : TE} (hot : Hot1 X.A p) (hpn : p ∈ X.pn) (hN : X.N.Nodup) (hi : PIH X tg iter wi) (ok : BlkOk X.N X.env.scope scope own)
    (hg : ∀ (s : Shared) (H : Hp) (C : Addr) (cl : List (Str × Addr)) (fp : List Addr), PG (blkH X p s H scope (compEnvC scope cl C X.env) fp) tg g) (ht : ∀ (s : Shared) (H : Hp) (C : Addr) (cl : List (Str × Addr)) (fp : List Addr), PTs (blkH X p s H scope (compEnvC scope cl C X.env) fp) ifs tt)
    (he : ∀ (s : Shared) (H : Hp) (C : Addr) (cl : List (Str × Addr)) (fp : List Addr), PE (blkH X p s H scope (compEnvC scope cl C X.env) fp) elt te) (hs : ∀ x, foldedSetIterable iter X.env x = pure x) :
    PE X (.ListComp elt [⟨tg, iter, ifs, 0⟩] scope pos) (tLc wi g tt te (own.map (·.2))) := by
  refine ⟨fun pins s σ H Q I h => ?_⟩
  rw [eval_ListComp]
  have hfree : ∀ y ∈ scope.names, y.2 = .free → ∃ c, X.env.cells.lookup y.1 = some c := fun y hy e => (ok.free y hy e).elim (fun k => I.ok.has _ (.inl k)) fun k => I.ok.has _ (.inr k)
  refine wpAny_comprehension_free (use := none) rfl hs (closure_ok hfree) ok.kind (fun y hy e => by rw [ok.uniq y hy, e]) (thn (hi.run pins s σ H _ I h) fun xv s1 hx => thn hx fun itv s2 h2 => ?_)
  obtain ⟨it, fp, tn, J, H2, e, I2, T, st2, f2, q⟩ := h2
  subst e
  refine wpAny_newObj_type (newEnv_comp ?_) (by show 0 ≤ sizeLine; decide)
  generalize hD : s2.heap.objs.size = D
  have hDn : H2 D = none := I2.hok.fresh (Nat.le_of_eq hD)
  obtain ⟨Wv, ⟨m0, w0⟩, turn⟩ := q D hDn
  generalize hs3 : ({ s2 with heap := s2.heap.push { cls := .type "list", data := .seq ([] : List Value).toArray } } : Shared) = s3
  have I3 : Inv X pins σ (upd H2 D (.lst [])) s3 := by
    rw [← hs3]
    refine I2.laid (t' := s2.toks) (fun b o e => Heap.get?_push_of_some _ e) (Nat.le_of_eq hD) ⟨Nat.zero_le _, [], 0, .nil, ?_⟩
    rw [← hD]
    exact Heap.get?_push_size _ rfl
  have h3 : s3.heap = s2.heap.push { cls := .type "list", data := .seq ([] : List Value).toArray } := by rw [← hs3]
  have f3 : ∀ b ∈ fp, FpOk X pins (upd H2 D (.lst [])) b ∧ b < s3.heap.objs.size := fun b hb => by
    obtain ⟨o, e, _⟩ := T.obj _ _ st2 b hb
    have hlt := Heap.lt_size e
    refine ⟨⟨?_, (f2 b hb).2⟩, by rw [h3, Heap.size_push]; exact Nat.lt_succ_of_lt hlt⟩
    rw [upd_ne (by rw [← hD]; exact Nat.ne_of_lt hlt)]
    exact (f2 b hb).1
  have st3 : tn 0 s3.heap := T.keep _ _ _ st2 fun b _ o e => by rw [h3]; exact Heap.get?_push_of_some _ e
  have P3 := I3.pin p (List.mem_append_left _ hpn)
  have I4 := block_start I3 ok hN f3
  have pg := hg s3 (upd H2 D (.lst [])) s3.heap.objs.size (cellsFrom (s3.heap.objs.size + 1) scope.names (cloFrom X.env.cells scope.names [])) fp
  have pt := ht s3 (upd H2 D (.lst [])) s3.heap.objs.size (cellsFrom (s3.heap.objs.size + 1) scope.names (cloFrom X.env.cells scope.names [])) fp
  have pe := he s3 (upd H2 D (.lst [])) s3.heap.objs.size (cellsFrom (s3.heap.objs.size + 1) scope.names (cloFrom X.env.cells scope.names [])) fp
  show codeAny _ _ (.compStart (.ListComp elt [⟨tg, iter, ifs, 0⟩] scope pos) 0 (.ref it) (.ref D) (compEnvC scope (cellsFrom (s3.heap.objs.size + 1) scope.names (cloFrom X.env.cells scope.names [])) s3.heap.objs.size X.env)) (compPost (model X.prog X.w) X.A X.xe none (EP X pins σ Q) (.ref D) s3.heap.objs.size) { s3 with heap := pushCells (s3.heap.push { cls := .type "dict", data := .dict #[] }) scope.names }
  have nfp : ∀ b ∈ fp, (upd H2 D (.lst [])) b = none := fun b hb => (f3 b hb).1.1
  generalize hce : compEnvC scope (cellsFrom (s3.heap.objs.size + 1) scope.names (cloFrom X.env.cells scope.names [])) s3.heap.objs.size X.env = ce at I4 pg pt pe ⊢
  have cL : ce.locals = s3.heap.objs.size := by subst hce; rfl
  generalize hH3 : upd H2 D (.lst []) = H3 at I3 I4 pg pt pe w0 nfp f3 P3
  generalize hs4 : ({ s3 with heap := pushCells (s3.heap.push { cls := .type "dict", data := .dict #[] }) scope.names } : Shared) = s4 at I4 ⊢
  have st4 : tn 0 s4.heap := T.keep _ _ _ st3 fun b _ o e => by rw [← hs4]; exact pushCells_keeps _ _ _ _ (Heap.get?_push_of_some _ e)
  -- the exception is borne into the block
  have get4 : s4.heap.get? p.1 = some p.2 := by rw [← hs4]; exact pushCells_keeps _ _ _ _ (Heap.get?_push_of_some _ P3.1)
  have pfp : ∀ b ∈ fp, p.1 ≠ b := fun b hb => (f3 b hb).1.2.2.2.2.2 p (List.mem_append_left _ hpn)
  have J4 : Inv (blkH X p s3 H3 scope ce fp) [] (wipe σ (own.map (·.2))) H3 s4 := by
    have k := I4.ok
    refine ⟨⟨k.mod, k.kind, k.glob, k.blt, k.above, k.inj, k.has, k.cab, k.hd, k.frames, k.stk, k.exf, k.bs, k.bsz, k.noex, k.exfs, k.funs, k.frf⟩, I4.os, I4.bare, I4.base, I4.loc, I4.cell, I4.free, I4.freeC, fun r hr => ?_, I4.hok, I4.len⟩
    rw [List.mem_singleton.mp (show r ∈ [p] from hr)]
    refine ⟨get4, P3.2.1, fun w => ?_, fun w => ?_, P3.2.2.2.2⟩
    · have w : p.1 = ce.locals := w
      rw [cL] at w
      exact Nat.ne_of_lt (Heap.lt_size P3.1) w
    · exact (List.mem_cons.mp (I3.stkSub p.1 w)).elim P3.2.2.1 P3.2.2.2.1
  have stat : ∀ {σ' : L2.St} {H' : Hp} {s' : Shared}, Inv (blkH X p s3 H3 scope ce fp) [] σ' H' s' → (∀ b ∈ fp, H' b = none) → ∀ b ∈ fp, FpOk (blkH X p s3 H3 scope ce fp) [] H' b := fun {σ' H' s'} I' hn b hb =>
    ⟨hn b hb, (I'.ok.exf b hb).1, I'.ok.exfs b hb, .inl hb, fun x c e => (I'.ok.exf b hb).2 x c e, fun r hr => by
      rw [List.mem_singleton.mp (show r ∈ [p] from hr)]
      exact pfp b hb⟩
  have hotY : HotC (blkH X p s3 H3 scope ce fp) := ⟨p, hot, List.mem_singleton.mpr rfl⟩
  have loop : codeAny (model X.prog X.w) X.A (.compLoop (.ListComp elt [⟨tg, iter, ifs, 0⟩] scope pos) 0 (.ref it) (.ref D) ce) (compPost (model X.prog X.w) X.A X.xe none (EP X pins σ Q) (.ref D) s3.heap.objs.size) s4 := by
    refine compLoop_any (fun n s' => ∃ i H', Inv (blkH X p s3 H3 scope ce fp) [] (wipe σ (own.map (·.2))) H' s' ∧ tn i s'.heap ∧ (∀ b ∈ fp, H' b = none) ∧ Wv i n H') ?_ m0 ⟨0, H3, J4, st4, nfp, w0⟩
    rintro n s5 ⟨i, H5, I5, st5, n5, w5⟩
    rcases turn i n H5 w5 with ⟨stop, qq⟩ | ⟨go, Nx, hNx, step⟩
    · have td := T.done (blkH X p s3 H3 scope ce fp) rfl rfl rfl hotY i [] s5 _ H5 (fun _ _ => False) I5 (stat I5 n5) st5 stop
      refine thnF td fun r s6 ⟨hr, I6⟩ => ?_
      subst hr
      have I7 : Inv X pins σ H5 s6 := I3.call' (ch := fp) I6.os I6.base I6.hok I6.bare fun b hb => ⟨(f3 b hb).1.2.2.2.1, (f3 b hb).1.2.1, (f3 b hb).1.2.2.2.2.1, (f3 b hb).1.2.2.2.2.2⟩
      have nC : H5 s3.heap.objs.size = none := by
        have w : H5 ce.locals = none := I6.free
        rw [cL] at w
        exact w
      obtain ⟨m, hn, _⟩ := I6.loc
      have hn : s6.heap.Ns ce.locals m := hn
      rw [cL] at hn
      refine ⟨m, hn, fun h'' sb => ?_⟩
      obtain ⟨k0, k1, k2, k3, k4, k5⟩ := I3.fpOk (Nat.le_refl _) nC
      exact ⟨.ref D, H5, I7.turned (t' := s6.toks) (fun b o hb e => (sb.2 b hb).trans e) k0 k1 k3 k4 k5, rfl, qq⟩
    · have ti := T.item (blkH X p s3 H3 scope ce fp) rfl rfl rfl hotY i [] s5 _ H5 (fun _ _ => False) I5 (stat I5 n5) st5 go
      refine thnF ti fun r s6 ⟨u, hr, h6⟩ => ?_
      subst hr
      refine thnF h6 fun _ s7 ⟨x, H7, I7, r7, y7, st7, n7⟩ => ?_
      have I7' := I7.pinned (stat I7 n7) (T.obj _ _ st7)
      refine thnF (pg.run _ s7 _ H7 x u _ I7' r7 (step x H7 y7)) fun _ s8 ⟨σ8, H8, I8, hw8, q8⟩ => ?_
      refine thnF (pt.run _ s8 σ8 H8 _ I8 q8) fun b s9 ⟨H9, I9, q9⟩ => ?_
      have fin : ∀ {s' : Shared} {H' : Hp}, Inv (blkH X p s3 H3 scope ce fp) ([] ++ pinsAt fp s7.heap) σ8 H' s' → Nx H' → ∃ m, m < n ∧ ∃ i H', Inv (blkH X p s3 H3 scope ce fp) [] (wipe σ (own.map (·.2))) H' s' ∧ tn i s'.heap ∧ (∀ b ∈ fp, H' b = none) ∧ Wv i m H' := fun {s' H'} I' nx => by
        obtain ⟨m', hm, w'⟩ := hNx H' nx
        have pin' : ∀ b ∈ fp, ∀ o, s7.heap.get? b = some o → s'.heap.get? b = some o ∧ H' b = none := fun b hb o e =>
          let w := I'.pin (b, o) (List.mem_append_right _ (List.mem_append_right _ (mem_pinsAt hb e)))
          ⟨w.1, w.2.1⟩
        have hl : (wipe σ (own.map (·.2))).length = σ8.length := by rw [← hw8, wipe_length]
        refine ⟨m', hm, i + 1, H', (I'.unpinned (pins := [])).weak hl (fun j v e => ?_), T.keep _ _ _ st7 fun b hb o e => (pin' b hb o e).1, fun b hb => ?_, w'⟩
        · rw [← hw8] at e
          exact (wipe_some e).1
        · obtain ⟨o, e, _⟩ := T.obj _ _ st7 b hb
          exact (pin' b hb o e).2
      cases b with
      | false =>
        simp only [Bool.false_eq_true, if_false] at q9 ⊢
        exact fin I9 q9
      | true =>
        simp only [if_true] at q9 ⊢
        refine thnF (pe.run _ s9 σ8 H9 _ I9 q9) fun w s10 ⟨yv, H10, I10, r10, acc, hD10, hz10, nx⟩ => ?_
        exact app_ok (X := blkH X p s3 H3 scope ce fp) I10 hD10 hz10 r10 fun s11 I11 => fin I11 nx
  exact codeAny_compStart_list loop (T.self X.A 0 _ _ _ st4 loop)
end
end Ir

set_option Elab.async false
set_option linter.all false
set_option maxRecDepth 100000
set_option maxHeartbeats 8000000
/-! A lambda without parameters, exceptions of the kind that L2N keeps. -/
namespace Ir
open PySem PySem.Spec PyProof.Rows L2
/-- how the state's heap grows when a lambda is made: not at all, or by a code object and a longer table -/
def Grown (T : Tbs) (q : Str) (H : Hp) (c : Addr) (H1 : Hp) : Prop :=
  H1 = H ∨ ∃ (P : Addr) (ps more : Array Value), H P = some (.tbl ps) ∧ H c = none ∧ H1 = upd (upd H P (.tbl (ps ++ more))) c (LamX.CodeO c q)
theorem Grown.ext {T : Tbs} {q : Str} {H H1 : Hp} {c : Addr} (g : Grown T q H c H1) : LamX.ExtN H H1 := by
  rcases g with rfl | ⟨P, ps, more, hP, hc, rfl⟩
  · exact .refl _
  · intro b o e n
    have n1 : b ≠ c := ne_of_none e hc
    have n2 : b ≠ P := fun z => by
      rw [z, hP] at e
      cases e
      exact n ps rfl
    rw [upd_ne n1, upd_ne n2, e]
theorem Grown.there {T : Tbs} {q : Str} {H H1 : Hp} {c : Addr} (g : Grown T q H c H1) {a : Addr} (h : H a ≠ none) : H1 a ≠ none := by
  rcases g with rfl | ⟨P, ps, more, hP, hc, rfl⟩
  · exact h
  · by_cases n1 : a = c
    · exact absurd (n1 ▸ hc) h
    · rw [upd_ne n1]
      by_cases n2 : a = P
      · rw [n2, upd_same]
        exact fun z => nomatch z
      · rw [upd_ne n2]
        exact h
section
variable {X : Cx} {pins : List (Addr × Obj)} {σ : L2.St} {H HZ : Hp} {s s1 : Shared}
theorem lam_make3 {T : Tbs} {c P : Addr} {params : Arguments} {body : Expr} {scope : Scope} {pos : Pos} {E : Value → Shared → Prop} {Q : Value → Shared → Prop} (I : Inv X pins σ H s) (TB : LamX.TabB X.base X.mg c P) (hcode : X.env.code = .ref c)
    (hm : (P, X.env.qual ++ "<lambda>") ∈ T) (hu : ∀ p ∈ T, p.1 = P → p.2 = X.env.qual ++ "<lambda>") (hT : LamX.Tabs T H) (hdef : defaultsOf params X.env = ([], [])) (hfree : ∀ y ∈ scope.names, y.2 = .free → ∃ c, X.env.cells.lookup y.1 = some c)
    (h : ∀ (f d : Addr) (pm ctv : Value) (H1 : Hp) (z : Shared), Inv X pins σ H1 z → Grown T (X.env.qual ++ "<lambda>") H d H1 → LamX.Tabs T H1 →
      z.heap.get? f = some (PySem.W.kla_obj "<lambda>" (X.env.qual ++ "<lambda>") params body scope (cloFrom X.env.cells scope.names []) pm d ctv) → H1 f = none → f ∉ frs X.stack → H1 d = some (LamX.CodeO d (X.env.qual ++ "<lambda>")) → Q (.ref f) z) :
    wpAny (model X.prog X.w) X.A (eval (.Lambda params body scope pos) X.env) Q E s := by
  obtain ⟨arr, tP, tOk, tAll⟩ := hT _ hm
  have objP : s.heap.get? P = some { cls := .none, data := .fields arr } := I.hok P _ tP
  have blt : s.heap.BuiltinsAt X.mg P := TB.bm.keeps I.bk
  have outF : ∀ f, s.heap.objs.size ≤ f → f ∉ frs X.stack := by
    intro f big mem
    cases List.mem_cons.mp (I.stkSub _ mem) with
    | inl same =>
      have small := I.lt
      rw [← same] at small
      exact absurd (Nat.lt_of_lt_of_le small big) (Nat.lt_irrefl _)
    | inr old => exact I.nofs big old
  refine PySem.W.kla_eval hdef ?_
  cases found : codeAmong pos arr.toList with
  | some cv =>
    obtain ⟨d, rfl, isCode⟩ := tAll pos cv found
    refine PySem.W.kla_makeFunctionHit (mg := X.mg) (c := c) (P := P) (ps := arr) (closure_ok hfree) I.ok.glob (I.mod.glob.keeps I.bk) hcode (TB.code.keeps I.bk) objP tOk found blt ?_
    intro ctv hp tk grow big
    have J : Inv X pins σ H { s with heap := hp.push (PySem.W.kla_obj "<lambda>" (X.env.qual ++ "<lambda>") params body scope (cloFrom X.env.cells scope.names []) ((X.mg "__name__").getD .none) d ctv), toks := tk } :=
      I.kept fun b o e => Heap.get?_push_of_some _ (grow b o e)
    exact h _ d _ ctv H _ J (.inl rfl) hT (Heap.get?_push_size _ rfl) (I.hok.fresh big) (outF _ big) isCode
  | none =>
    refine PySem.W.kla_makeFunction (mg := X.mg) (c := c) (P := P) (ps := arr) (closure_ok hfree) I.ok.glob (I.mod.glob.keeps I.bk) hcode (TB.code.keeps I.bk) objP tOk found TB.gP blt ?_
    intro d ctv hp tk grow ge lt rec_ tab_
    obtain ⟨_, oc, vs, t, same, isO, isD, isV⟩ := rec_
    cases same
    have free : H d = none := I.hok.fresh ge
    have J := LamX.inv_table (q := X.env.qual ++ "<lambda>") (t' := tk) (more := #[rawInt pos.line, rawInt pos.col, .ref d])
      (h' := hp.push (PySem.W.kla_obj "<lambda>" (X.env.qual ++ "<lambda>") params body scope (cloFrom X.env.cells scope.names []) ((X.mg "__name__").getD .none) d ctv)) I tP
      (fun b o ne e => Heap.get?_push_of_some _ (grow b o ne e)) (Heap.get?_push_of_some _ tab_) ge ⟨oc, vs, t, Heap.get?_push_of_some _ isO, isD, isV⟩
    have G : Grown T (X.env.qual ++ "<lambda>") H d (upd (upd H P (.tbl (arr ++ #[rawInt pos.line, rawInt pos.col, .ref d]))) d (LamX.CodeO d (X.env.qual ++ "<lambda>"))) := .inr ⟨P, arr, _, tP, free, rfl⟩
    have kept := G.ext
    refine h hp.objs.size d _ ctv _ _ J G ?_ (Heap.get?_push_size _ rfl) ?_ (outF _ (Nat.le_trans ge (Nat.le_of_lt lt))) upd_same
    · intro p hp'
      by_cases isP : p.1 = P
      · rw [hu p hp' isP, isP]
        have split : (arr ++ #[rawInt pos.line, rawInt pos.col, .ref d]).toList = arr.toList ++ [rawInt pos.line, rawInt pos.col, .ref d] := by simp
        refine ⟨_, by rw [upd_ne (ne_of_none tP free), upd_same], ?_, ?_⟩
        · rw [split]
          exact PySem.TriplesOk_snoc _ _ _ _ tOk
        · intro at_ cv among
          rw [split] at among
          cases LamX.among_app _ tOk among with
          | inl old =>
            obtain ⟨d0, q1, q2⟩ := tAll at_ cv old
            exact ⟨d0, q1, kept _ _ q2 LamX.codeO_ne⟩
          | inr new => exact ⟨d, new, upd_same⟩
      · obtain ⟨arr2, q1, q2, q3⟩ := hT p hp'
        refine ⟨arr2, by rw [upd_ne (ne_of_none q1 free), upd_ne isP, q1], q2, fun at_ cv among => ?_⟩
        obtain ⟨d0, r1, r2⟩ := q3 at_ cv among
        exact ⟨d0, r1, kept _ _ r2 LamX.codeO_ne⟩
    · have lP := Heap.lt_size objP
      rw [upd_ne (Nat.ne_of_gt lt), upd_ne (Nat.ne_of_gt (Nat.lt_of_lt_of_le lP (Nat.le_trans ge (Nat.le_of_lt lt))))]
      exact I.hok.fresh (Nat.le_trans ge (Nat.le_of_lt lt))
/-- the context of a lambda's body: its exceptions are of the kind L2N keeps -/
abbrev lamX (X : Cx) (A : Around) (outer : List Env) (s : Shared) (H : Hp) (E : XK) (scope : Scope) (f d : Addr) : Cx :=
  (LamX.lamCx X A outer s H E scope f d).tr [] fun e z => wpAny (model X.prog X.w) (A.deeper (LamX.lamEnv X scope s.heap.objs.size f d)) (leaving (LamX.lamEnv X scope s.heap.objs.size f d) e)
    (fun _ z2 => L2N.CX X.prog X.w outer H s E e z2) (fun e2 z2 => L2N.CX X.prog X.w outer H s E e2 z2) z
theorem lamX_takes {A : Around} {outer : List Env} {E : XK} {scope : Scope} {f d : Addr} : L2N.Takes (lamX X A outer s H E scope f d) (fun cls d _ H => E cls d H) := L2N.takes_of rfl rfl rfl rfl
/-- x() in the def that got the lambda -/
theorem pe_actN {CXg : CXT} {Eg : XK} {Ng : List Str} {qg : Str} {sg : Scope} {g f d : Addr} {cdg pm ctv : Value} {params : Arguments} {body : Expr} {scope : Scope} {k i : Nat} {a : Str} {pn : List (Addr × Obj)} {xe : Value → Shared → Prop} {W : WX} {E : XK} {tb : TE} {p1 p2 : Pos}
    (I : Inv X pins σ H s) (L : LamX.LamS X.env.scope scope) (hf : s.heap.get? f = some (PySem.W.kla_obj "<lambda>" (X.env.qual ++ "<lambda>") params body scope (cloFrom X.env.cells scope.names []) pm d ctv)) (hfn : H f = none) (hfr : f ∉ frs X.stack)
    (hbind : bindArgs (PySem.W.kla_fn "<lambda>" (X.env.qual ++ "<lambda>") params body scope (cloFrom X.env.cells scope.names []) pm (.ref d) ctv) ⟨[], []⟩ = pure [])
    (tk : L2N.Takes ((cxOf CXg X.prog X.w X.K X.mg X.base Ng qg sg g cdg X.A X.stack s H Eg).tr pn xe) W) (hr : Room (k + 1) (X.A.deeper (envOfC qg sg s.heap.objs.size g cdg)))
    (hbody : ∀ (A : Around) (outer : List Env) (s : Shared) (H : Hp), Room k (A.deeper (LamX.lamEnv X scope s.heap.objs.size f d)) → PE (lamX X A outer s H E scope f d) body tb)
    (hN : Ng[i]? = some a) (hv : Vis sg a) (hd : (a == ("__debug__" : Str)) = false := by decide) (hcd : (a == ("__classdict__" : Str)) = false := by decide) :
    PE ((cxOf CXg X.prog X.w X.K X.mg X.base Ng qg sg g cdg X.A X.stack s H Eg).tr pn xe) (.Call (.Name a p1) [] [] p2)
      (fun σZ HZ Q => σZ[i]? = some (some (.ref f)) ∧ HZ d = some (LamX.CodeO d (X.env.qual ++ "<lambda>")) ∧ (∀ cls d H', E cls d H' → W cls d σZ H') ∧ tb σ HZ Q) := by
  constructor
  rintro pinsZ sZ σZ HZ Q IZ ⟨atI, isC, hW, rest⟩
  have var := (pe_var (pos := p1) (i := i) hN hv hd hcd).run pinsZ sZ σZ HZ (fun v H1 => v = .ref f ∧ H1 = HZ) IZ ⟨.ref f, atI, rfl, rfl⟩
  refine wpAny_Call_Name_kw (thn var ?_)
  rintro u s1 ⟨v, H1, I1, r1, rfl, rfl⟩
  obtain rfl : u = Value.ref f := r1
  have still := I1.base.keep f _ hf hfn hfr (fun z => nomatch (show f ∈ ([] : List Addr) from z))
  have past : Un (frs X.stack) [] H H1 s.heap s1.heap := I1.base
  obtain ⟨⟨oc, vs, t, cO, cD, cV⟩, _, _⟩ := I1.hok d _ isC
  have run : codeAny (model X.prog X.w) (X.A.deeper (envOfC qg sg s.heap.objs.size g cdg)) (.call (.ref f) ⟨[], []⟩) (CR (L2N.CX X.prog X.w) (envOfC qg sg s.heap.objs.size g cdg :: X.stack) X.prog X.w H1 s1 Q E) s1 := by
    refine PySem.W.kla_callFunE hr.depth still rfl L.co L.gen rfl ⟨d, oc, vs, t, rfl, cO, cD, cV⟩ ?_
    rw [hbind]
    refine wpAny_pure (wpAny_newFunctionEnv (fun y hy => (L.own y hy).2) (fun y hy => absurd hy (by simp)) (fun h2 ns sub => ⟨I1.nolimit.fresh _ sub, ?_⟩) L.kind)
    have kept : ∀ b o, s1.heap.get? b = some o → h2.get? b = some o := fun b o e => sub.extBut b o (Nat.ne_of_lt (Heap.lt_size e)) (Heap.get?_push_of_some _ e)
    have J := (LamX.lam_start2 (E := E) (f := f) (c' := d) (tk := s1.toks + ([] : List (Str × Value)).length) I L I1.env0 hr.hd past ns kept).toTry
      (fun e z => wpAny (model X.prog X.w) ((X.A.deeper (envOfC qg sg s.heap.objs.size g cdg)).deeper (LamX.lamEnv X scope s1.heap.objs.size f d)) (leaving (LamX.lamEnv X scope s1.heap.objs.size f d) e)
        (fun _ z2 => L2N.CX X.prog X.w (envOfC qg sg s.heap.objs.size g cdg :: X.stack) H1 s1 E e z2) (fun e2 z2 => L2N.CX X.prog X.w (envOfC qg sg s.heap.objs.size g cdg :: X.stack) H1 s1 E e2 z2) z)
    refine PySem.W.kla_codeExpr (wpAny_mono ((hbody _ _ s1 H1 (hr.deeper _)).run [] _ _ H1 Q J rest) ?_ fun e s2 hq => hq)
    rintro v s2 ⟨w2, H2, J2, rv, q⟩
    exact ⟨w2, H2, J2.os, J2.bare, J2.base, J2.hok, rv, q⟩
  refine PySem.W.callWith_F0 ⟨_, _, _, _, still⟩ (wpAny_call (codeAny_mono run ?_))
  intro r s2 hq
  cases r with
  | error e => exact tk _ _ (L2N.XE.of_call I1 hW hq)
  | ok fl =>
    cases fl with
    | ret u => exact I1.after hq
    | next => exact hq.elim
    | brk => exact hq.elim
    | cont => exact hq.elim
end
end Ir

set_option Elab.async false
set_option linter.all false
set_option maxRecDepth 100000
set_option maxHeartbeats 8000000
/-! try with two clauses that name what they catch; what comes is the second clause's. -/
namespace Ir
open PySem PySem.Spec PyProof.Rows L2 L2N
/-- an exception is passed over by the first clause and caught by the second -/
def wAs2 (K : PySem.W.Frag) (c1 c2 : Value) (i : Nat) (ts : Addr → Value → Option Addr → TS) (D : Ends) : WX := fun cls d σ H =>
  PySem.W.exmOne K cls c1 = some false ∧ PySem.W.exmOne K cls c2 = some true ∧
    ∀ a, H a = none → ts a cls d ⟨fun σ2 H2 => D.nx (σ2.set i none) H2, D.rt, fun σ2 H2 => D.bk (σ2.set i none) H2, fun σ2 H2 => D.ct (σ2.set i none) H2⟩ (σ.set i (some (.ref a))) H
section
variable {X : Cx} {x1 x2 n1 n2 : Str} {c1 c2 : Value} {i : Nat} {body s1 suite : List Stmt} {b₀ : Stmt} {q1 q2 p1 p2 pos : Pos} {tb : WX → TS} {ts : Addr → Value → Option Addr → TS}
theorem ps_try_as2 (hs : X.stack = X.env :: X.outer) (hf : X.env.frame = some X.env.locals) (hN : X.N.Nodup) (hi : X.N[i]? = some n2) (hln : X.env.kindOf n2 = some .local) (hc1 : Names X x1 c1) (hc2 : Names X x2 c2)
    (hb : ∀ (W : WX) (pn : List (Addr × Obj)) (xe : Value → Shared → Prop), L2N.Takes (X.tr pn xe) W → PassesOwn (model X.prog X.w) X.A X.env xe → PSs (X.tr pn xe) body (tb W))
    (hsu : ∀ (a : Addr) (oe : Obj) (cls : Value) (d : Option Addr) (pn : List (Addr × Obj)), Zn cls d oe → (∃ vs, oe.data = .fields vs) → PSs (X.suite a ((a, oe) :: pn)) (b₀ :: suite) (ts a cls d)) :
    PS X (.Try body [.ExceptHandler (some (.Name x1 q1)) (some n1) s1 p1, .ExceptHandler (some (.Name x2 q2)) (some n2) (b₀ :: suite) p2] [] [] pos) (fun D σ H => tb (wAs2 X.K c1 c2 i ts D) D σ H) := by
  constructor
  intro pins s σ H D I h
  have ok := I.ok
  refine wpAny_Try_except (wpAny_mono ((hb (wAs2 X.K c1 c2 i ts D) (X.pn ++ pins) _ ?take PassesOwn.looking).run [] s σ H D (I.toTry _) h) ?done fun e z he => he)
  case done =>
    intro f z hsp
    cases f with
    | next =>
      obtain ⟨σ', H', J, q⟩ := hsp
      exact wpAny_execs_nil ⟨σ', H', J.ofTry ok, q⟩
    | ret u =>
      obtain ⟨v, σ', H', J, r, q⟩ := hsp
      exact ⟨v, σ', H', J.ofTry ok, r, q⟩
    | brk =>
      obtain ⟨σ', H', J, q⟩ := hsp
      exact ⟨σ', H', J.ofTry ok, q⟩
    | cont =>
      obtain ⟨σ', H', J, q⟩ := hsp
      exact ⟨σ', H', J.ofTry ok, q⟩
  case take =>
    rintro u z ⟨a, B, sI, pins', σ1, H1, cls, d, rfl, J0, nb, up, sky, na, os, ag, no1, yes2, w⟩
    have J : Inv X pins σ1 H1 sI := J0.ofTry ok
    have frames : X.A.frames = some (X.env :: X.outer) := ok.frames.trans (by rw [hs])
    have sky2 : Sky B (X.env :: X.outer) a (Zn cls d) X.env.locals z.heap := hs ▸ sky
    show wpAny (model X.prog X.w) X.A (noteFrame (.ref a) X.env) _ _ _
    refine Sky.land Zn.steady frames hf sky2 ?_
    intro h3 fly3 up3
    have J3 : Inv X pins σ1 H1 { z with heap := h3 } := J.landed nb fly3.1 (up.trans up3) os ag
    obtain ⟨o3, v3, g3, z3, d3⟩ := fly3.there
    have apart : a ∉ frs (X.env :: X.outer) := by
      intro mem
      obtain ⟨_, o', g', nf⟩ := fly3.2.2.1.mem mem
      rw [g3] at g'
      cases g'
      exact nf _ d3
    have apartL : a ≠ X.env.locals := fun same => apart (List.mem_filterMap.mpr ⟨X.env, List.mem_cons_self, hf.trans (by rw [same])⟩)
    have apartF : a ∉ X.fs := by
      intro mem
      obtain ⟨e, he, q⟩ := List.mem_filterMap.mp mem
      exact apart (List.mem_filterMap.mpr ⟨e, List.mem_cons_of_mem _ he, q⟩)
    have S3 := J3.suite g3 d3 na apartL apartF
    have looks : PySem.W.Looks (model X.prog X.w) h3 (typeOf (.ref a)) cls := fun A Q E s k q => wpAny_typeOf_ref (k _ _ g3) (by rw [z3.1]; exact q)
    have named : ∀ {x : Str} {c : Value} {np : Pos} {Q : Value → Shared → Prop} {E : Value → Shared → Prop}, Names X x c → Q c { z with heap := h3 } → wpAny (model X.prog X.w) (X.A.mark (some (.ref a))) (eval (.Name x np) X.env) Q E { z with heap := h3 } := by
      rintro x c np Q E ⟨hg, hdbg, hm | ⟨hm, hv, hnn⟩⟩ q
      · exact ld_glob (X := X.suite a ((a, o3) :: (X.pn ++ pins))) S3 hg hm q hdbg
      · exact ld_blt (X := X.suite a ((a, o3) :: (X.pn ++ pins))) S3 hg hm hv q hnn hdbg
    have miss := PySem.W.exm_one (M := model X.prog X.w) J3.kIn looks no1
    have hit := PySem.W.exm_one (M := model X.prog X.w) J3.kIn looks yes2
    refine wpAny_handleBy_cons (codeAny_handlers_test (named hc1 (miss.here ?_))) (by intro q; cases q)
    show wpAny _ X.A (handleBy (.ref a) X.env [.ExceptHandler (some (.Name x2 q2)) (some n2) (b₀ :: suite) p2]) _ _ _
    refine wpAny_handleBy_cons (codeAny_handlers_test (named hc2 (hit.here (codeAny_handlers_suite_as (HandSPX.lands_againZ fly3 ?_))))) (by intro q; cases q)
    intro h4 fly4 up4
    have J4 : Inv X pins σ1 H1 { z with heap := h4 } := J.landed nb fly4.1 ((up.trans up3).trans up4) os ag
    obtain ⟨o4, v4, g4, z4, d4⟩ := fly4.there
    have S4 := J4.suite g4 d4 na apartL apartF
    refine store_ok (X := X.suite a ((a, o4) :: (X.pn ++ pins))) (v := .ref a) S4 hN hi (.inl hln) rfl (fun s5 S5 => ?_) (.inr hln)
    refine wpAny_mono ((hsu a o4 cls d (X.pn ++ pins) z4 ⟨_, d4⟩).run [] s5 _ H1 _ S5 (w a na)) ?_ (fun _ _ bad => False.elim bad)
    intro f s6 hsp
    have gone : ∀ {σ6 : L2.St} {H6 : Hp} {Q : Shared → Prop}, Inv (X.suite a ((a, o4) :: (X.pn ++ pins))) [] σ6 H6 s6 → (∀ s7, Inv X pins (σ6.set i none) H6 s7 → Q s7) →
        wpAny (model X.prog X.w) X.A (do bindName X.env n2 .none; unbindBehindTheSuite X.env n2 p2) (fun _ s7 => Q s7) X.xe s6 := fun S6 hq => gone_ok (S6.unsuite ok) hN hi hln hq
    cases f with
    | next =>
      obtain ⟨σ6, H6, S6, q6⟩ := hsp
      exact gone S6 fun s7 J7 => ⟨_, _, J7, q6⟩
    | ret u =>
      obtain ⟨v6, σ6, H6, S6, r6, q6⟩ := hsp
      exact gone S6 fun s7 J7 => ⟨_, _, _, J7, r6, q6⟩
    | brk =>
      obtain ⟨σ6, H6, S6, q6⟩ := hsp
      exact gone S6 fun s7 J7 => ⟨_, _, J7, q6⟩
    | cont =>
      obtain ⟨σ6, H6, S6, q6⟩ := hsp
      exact gone S6 fun s7 J7 => ⟨_, _, J7, q6⟩
end
end Ir

set_option Elab.async false
set_option linter.all false
set_option maxRecDepth 100000
set_option maxHeartbeats 8000000
/-! A def that runs while an exception of a known class is handled. -/
namespace Ir
open PySem PySem.Spec PyProof.Rows L2 L2H HotX
theorem run_ofH {CX : CXT} {P : Program} {w : World} {K : PySem.W.Frag} {mg : Str → Option Value} {base : Heap} {k : Nat} {f : Addr} {name qual : Str} {params : Arguments} {body : List Stmt} {scope : Scope} {dV kV doc pm cdv ct oc : Value} {an od : Option Addr}
    {osl : Array (Option Value)} {N ps : List Str} (lk : K.lookup f = some ⟨oc, od, .func (PySem.W.fnOf name qual params body scope dV kV doc pm an cdv ct), osl⟩) (hcd : PySem.W.codeIn K cdv qual = true) (S : FnScope N ps scope)
    {A : Around} {outer : List Env} {s : Shared} {H : Hp} {args : Args} {us : List Value} {vs : List V} {Q : VK} {E : XK} {p : Addr × Obj} (hr : RoomH (k + 1) A) (hot : Hot1 A p) (hpin : PinOk outer H s p) (e0 : Env0 P w K mg base A outer s H)
    (hb : BindsTo s (PySem.W.fnOf name qual params body scope dV kV doc pm an cdv ct) args (ps.zip us)) (r : Vals vs us) (hl : vs.length = ps.length)
    (hbody : RoomH k (A.deeper (envOfC qual scope s.heap.objs.size f cdv)) → ∃ t, PSs (cxH CX P w K mg base N qual scope f cdv A outer s H E p) body t ∧ t { nx := fun _ H' => Q .non H', rt := Q } (L2.start N vs) H) :
    codeAny (model P w) A (.call (.ref f) args) (CR CX outer P w H s Q E) s := by
  have inK : K.In s.heap := e0.mod.kin.keeps fun b o e => (e0.bs b o e).1
  have noLim : s.heap.NoLimit := e0.mod.nolimit.keeps fun b o e => (e0.bs b o e).1
  have kinds : ∀ y ∈ ps.zip us, scope.names.lookup y.1 = some .local ∨ (scope.names.lookup y.1 = some .cell ∧ ((cellsFrom (s.heap.objs.size + 1) scope.names []).lookup y.1).isSome = true) := by
    rintro ⟨n, v⟩ hy
    cases S.par n (List.of_mem_zip hy).1 with
    | inl q => exact .inl q
    | inr q => exact .inr ⟨q, PySem.W.cellsFrom_some _ _ _ (.inl q)⟩
  refine codeAny_call_function hr.depth (inK _ _ lk) rfl S.co S.gen rfl (PySem.W.codeRec_of inK hcd) (hb _ _ _ _ (wpAny_newFunctionEnv_cells S.kind kinds ?_))
  rintro env rfl s1 x
  obtain ⟨t, ht, hq⟩ := hbody (hr.deeper _)
  refine ⟨noLim.keeps x.toInCall.keep, codeAny_func (wpAny_mono (ht.run [] s1 (L2.start N vs) H _ (inv_startH S hpin e0 hl r x) hq) ?_ fun e s' hs => hs)⟩
  intro fl s' hs
  cases fl with
  | next =>
    obtain ⟨σ', H', J, q⟩ := hs
    exact ⟨.non, H', J.os, J.bare, J.base, J.hok, rfl, q⟩
  | ret u =>
    obtain ⟨v, σ', H', J, rv, q⟩ := hs
    exact ⟨v, H', J.os, J.bare, J.base, J.hok, rv, q⟩
  | brk =>
    obtain ⟨_, _, _, q⟩ := hs
    exact q.elim
  | cont =>
    obtain ⟨_, _, _, q⟩ := hs
    exact q.elim
end Ir

set_option Elab.async false
set_option linter.all false
set_option maxRecDepth 100000
set_option maxHeartbeats 8000000
/-! isinstance of the exception that is handled; a comprehension over a zip then. -/
namespace Ir
open PySem PySem.Spec PyProof.Rows L2 L2H HotX
section
variable {X : Cx} {a D : Addr} {oe : Obj}
theorem call_isP (C : ExcC X.K D) (hp : (a, oe) ∈ X.pn) (hz : Zc (.ref D) none oe) (hf : ∃ vs, oe.data = .fields vs) : CallR X (.builtin "isinstance") (rIsE X.K D a) := by
  rintro pins s σ H xs us Q I r ⟨c, cv, b, rfl, hcv, e, q⟩
  match us, r with
  | [u, v], .cons rx (.cons rt .nil) =>
    obtain rfl : u = Value.ref a := rx
    obtain rfl := hcv _ rt
    have got := (I.pin (a, oe) (List.mem_append_left _ hp)).1
    obtain ⟨vs, hv⟩ := hf
    have inst : PySem.W.InstAt s.heap a oe D none := by
      cases oe with
      | mk oc od oda osl =>
        obtain ⟨h1, h2⟩ := hz
        simp only at h1 h2 hv
        subst h1 h2 hv
        exact ⟨got, rfl, rfl, trivial⟩
    exact PySem.W.kia_one (PySem.W.handS_kitx_exc C.hg C.hk C.hs C.hd C.ha C.hn C.ht C.hm) I.kIn inst e (fun z => nomatch z) fun tk => ⟨.bl b, H, I.kept (t' := tk) fun _ _ z => z, rfl, q⟩
end
section
variable {X : Cx} {tb : Tbs} {fa ca : Nat → Addr} {W : WX} {Φ : Fs} {kin : Exn → D} {i : Nat} {pos : Pos} {a b c e it : Ex} {ea eb elt tg iter : Expr} {ifs es : List Expr} {t : Tg} {scope : Scope} {own : List (Str × Nat)}
/-- isinstance(x, C): x's slot holds the handled exception -/
theorem n_isF {p : Addr × Obj} {D : Addr} {x C : Str} {f : Nat} {p1 p2 p3 : Pos} {v : V} {u : Value} {r : Bool} (E : ExcC X.K D) (hp : p ∈ X.pn) (hz : Zc (.ref D) none p.2) (hf : ∃ vs, p.2.data = .fields vs) (hfa : ∀ n, fa n = p.1) (hb : Blt X "isinstance" (.builtin "isinstance"))
    (hx : PE X (.Name x p2) (tVar i)) (hC : PE X (.Name C p3) (tC v)) (hv : ∀ z, RelV v z → z = u) (hk : PySem.W.kitOne X.K (.ref D) u = some r) (hs : starEach [.Name C p3] X.env = [(false, eval (.Name C p3) X.env)]) (hpl : Plain X (.Name x p2) [.Name C p3] pos) :
    PEx X tb fa ca W Φ kin (.Call (.Name "isinstance" p1) [.Name x p2, .Name C p3] [] pos) (.isF i r) := by
  have ha : PA X [.Name x p2, .Name C p3] (tCons (tVar i) (tCons (tC v) tNil)) := pa_cons hx (pa_cons hC pa_nil hs) hpl.he
  have h := n_biB (p := p1) (call_isP (a := p.1) (oe := p.2) E hp hz hf) hb (.inl ⟨_, rfl⟩) ha hpl
  refine PE_imp h fun σ H Q ⟨Hf, s, sr, q⟩ => ?_
  unfold ev at q
  split at q
  · rename_i n hn
    obtain ⟨y, e1, r1⟩ := sr.sl i _ hn
    have e2 : y = .ref (fa n) := r1
    rw [e2, hfa] at e1
    exact ⟨.ref p.1, e1, v, u, r, rfl, hv, hk, q.okD .refl sr (.bl r)⟩
  · exact q.elim
/-- a block while an exception is handled -/
structure BlkH (X : Cx) (p : Addr × Obj) (tb : Tbs) (fa ca : Nat → Addr) (Φ : Fs) (kin : Exn → D) (scope : Scope) (own : List (Str × Nat)) (tg : Expr) (t : Tg) (ifs : List Expr) (c : Ex) (elt : Expr) (e : Ex) : Prop where
  ok : BlkOk X.N X.env.scope scope own
  hg : ∀ (s : Shared) (H : Hp) (C : Addr) (cl : List (Str × Addr)) (fp : List Addr), PG (blkH X p s H scope (compEnvC scope cl C X.env) fp) tg (gT (Wx X tb fa ca) t)
  ht : ∀ (s : Shared) (H : Hp) (C : Addr) (cl : List (Str × Addr)) (fp : List Addr), PTs (blkH X p s H scope (compEnvC scope cl C X.env) fp) ifs (tBo (Wx X tb fa ca) W0 (ev Φ kin c))
  he : ∀ (s : Shared) (H : Hp) (C : Addr) (cl : List (Str × Addr)) (fp : List Addr), PE (blkH X p s H scope (compEnvC scope cl C X.env) fp) elt (tE (Wx X tb fa ca) W0 (ev Φ kin e))
  hts : ∀ j ∈ tgSlots t, j ∈ own.map (·.2)
theorem PIH_imp {tg e : Expr} {t t' : TI} (h : PIH X tg e t) (i : ∀ σ H R, t' σ H R → t σ H R) : PIH X tg e t' := ⟨fun pins s σ H R I q => h.run pins s σ H R I (i σ H R q)⟩
theorem bindI2 {w : Wd} {W : WX} {Hf H : Hp} {s : Sl} {σ : L2.St} {f : Evl} {k : D → Sl → Res Val} {R0 : It → Hp → Prop} {R : V → Hp → Prop} (hs : SR w Hf s σ H) (h : PostI w W Hf s σ H ((f s).dat k) R0)
    (hk : ∀ x y s1 Hf1 H1, (∃ v, f s = .ok v s1 ∧ v.toD = some y) → Stp Hf s σ H Hf1 s1 σ H1 → SR w Hf1 s1 σ H1 → Dp w.K Hf1 x y → PostI w W Hf1 s1 σ H1 (k y s1) R0 → R x H1) : tD w W f σ H R := by
  refine ⟨Hf, s, hs, ?_⟩
  unfold PostD
  unfold Res.dat Res.bind at h
  cases e : f s with
  | bad => rw [e] at h; exact h
  | exc x s' => rw [e] at h; exact h
  | ok v s' =>
    rw [e] at h
    dsimp only at h ⊢
    cases q : v.toD with
    | none => rw [q] at h; exact h
    | some y =>
      rw [q] at h
      exact fun x Hf' H' st sr r => hk x y s' Hf' H' ⟨v, e, q⟩ st sr r (h.after st)
theorem split_lst {a : Ex} {z : Str} {s s' : Sl} {v : Val} (h : ev Φ kin (.split a z) s = .ok v s') (ds : List D) : v.toD ≠ some (.tuple ds) := by
  unfold ev Res.dat Res.bind at h
  split at h
  · dsimp only at h
    split at h
    · try dsimp only at h
      split at h
      · split at h
        · cases h
          exact fun k => nomatch k
        · cases h
      · cases h
    · cases h
  · cases h
  · cases h
theorem n_itZipHot {p tpos : Pos} {elts : List Expr} {kk : Nat} (hg : Gl X "zip") (hm : X.mg "zip" = none) (ha : PEx X tb fa ca W Φ kin ea a) (hb : PEx X tb fa ca W Φ kin eb b) (hs2 : starEach [eb] X.env = [(false, eval eb X.env)]) (hp : Plain X ea [eb] pos) (hno : ∀ s, ∀ v s', ev Φ kin a s = .ok v s' → ∀ ds, v.toD ≠ some (.tuple ds)) :
    PIH X (.Tuple elts kk tpos) (.Call (.Name "zip" p) [ea, eb] [] pos) (tIt (Wx X tb fa ca) W (ev Φ kin (.itZip a b))) := by
  refine PIH_imp (pi_zipHot hg hm (pa_cons (pe_D ha) (pa_cons (pe_D hb) pa_nil hs2) hp.he) hp.he hp.hpl) fun σ H R ⟨Hf, s, sr, q⟩ => ?_
  unfold ev at q
  refine bindI2 sr q fun x dx s1 Hf1 H1 lk st1 sr1 r1 q1 => bindI sr1 q1 fun y dy s2 Hf2 H2 st2 sr2 r2 q2 => ?_
  split at q2
  · obtain ⟨p1, vs, rfl, h1, h2⟩ := dp_lst (Dp.mono st2.frz r1)
    obtain ⟨p2, us, rfl, h3, h4⟩ := dp_lst r2
    exact ⟨p1, p2, vs, us, rfl, rdS sr2.sub h1, rdS sr2.sub h3, q2 _ Hf2 H2 .refl sr2 (wk_zip h1 h3 h2 h4)⟩
  · obtain ⟨v, e1, e2⟩ := lk
    exact absurd e2 (hno _ _ _ e1 _)
  · exact q2.elim
theorem n_compHot {p : Addr × Obj} (hot : Hot1 X.A p) (hpn : p ∈ X.pn) (hN : X.N.Nodup) (B : BlkH X p tb fa ca Φ kin scope own tg t ifs c elt e) (hi : PIH X tg iter (tIt (Wx X tb fa ca) W (ev Φ kin it))) (hs : ∀ x, foldedSetIterable iter X.env x = pure x) :
    PEx X tb fa ca W Φ kin (.ListComp elt [⟨tg, iter, ifs, 0⟩] scope pos) (.comp e t it c (own.map (·.2))) :=
  PE_imp (pe_lcHot hot hpn hN hi B.ok B.hg B.ht (fun s H C cl fp => pe_D (B.he s H C cl fp)) hs) fun _ _ _ => comp_read B.hts
end
end Ir

set_option Elab.async false
set_option linter.all false
set_option maxRecDepth 100000
set_option maxHeartbeats 4000000
/-! a, b = x while an exception is handled. -/
namespace Ir
open PySem PySem.Spec PyProof.Rows L2 L2H HotX
section
variable {prog : Program} {w : World} {A : Around} {E : Value → Shared → Prop} {s : Shared}
theorem tup_end_hot {it t x1 : Addr} {i : Nat} {items : Array Value} {Q : Option Value → Shared → Prop} (hot : HotAt A x1 s.heap) (hx1 : x1 ≠ it)
    (hit : IsTupIter s.heap it t i) (ht : IsTup s.heap t items) (hx : items[i]? = none)
    (hQ : ∀ h', Heap.ExtBut it s.heap h' → Q none { s with heap := h' }) : wpAny (model prog w) A (pyNext (.ref it)) Q E s := by
  obtain ⟨o, ho, hc, hd⟩ := id hit
  obtain ⟨ol, hol, _, nl, hdl⟩ := ht
  unfold pyNext
  refine wpAny_bind (wpAny_attempt (wpAny_callSpecial?_slot (name := Str.ofString "__next__") hit.typeIs slot_tupleiter_next
    (wpAny_call_entry slot_tupleiter_next hit.typeIs entry_tupleiter_next ?_ (args_tupleiter_next _))))
  show wpAny _ _ (field (.ref it) 0 >>= _) _ _ s
  refine wpAny_bind (wpAny_field ho hd (x := .ref t) rfl ?_)
  show wpAny _ _ (if (Value.ref t == Value.none) = true then _ else _) _ _ s
  rw [if_neg (show ¬ ((Value.ref t == Value.none) = true) from Bool.false_ne_true)]
  show wpAny _ _ (field (.ref it) 1 >>= _) _ _ s
  refine wpAny_bind (wpAny_field ho hd (x := .int i 0) rfl ?_)
  show wpAny _ _ (seqItems? (.ref t) >>= _) _ _ s
  refine wpAny_bind (wpAny_seqItems hol hdl ?_)
  simp only [Int.toNat_natCast, hx]
  refine wpAny_bind (wpAny_rule (wpAny_bind (wpAny_setField ho hd (by simp) ?_)))
  have hot1 : HotAt A x1 (s.heap.update it (Obj.mapFields (·.setIfInBounds 0 .none))) := hot_same hot fun u e => (Heap.get?_update_other _ _ (Ne.symm hx1)).trans e
  show wpAny _ _ (newExc (.type "StopIteration") [] >>= _) _ _ _
  refine wpAny_bind ?_
  simp only [newExc, newTuple]
  refine wpAny_bind (wpAny_newObj_type ?_ (by size_fits))
  refine wpAny_bind (m := firstArgMember _ _) (wpAny_of_eq (a := Value.none) (by first | rfl | (simp only [firstArgMember]; rfl)) ?_)
  refine wpAny_newObj_type ?_ (by size_fits)
  obtain ⟨hh, o1, v1, h1, d1, c1⟩ := hot1
  refine raiseNew_hot ⟨hh, o1, v1, Heap.get?_push_of_some _ (Heap.get?_push_of_some _ h1), d1, c1⟩ (Nat.ne_of_lt (Heap.lt_size (Heap.get?_push_of_some _ h1))) (Heap.get?_push_size _ rfl) rfl (by first | (simp; done) | (simp; omega) | (simp only [Array.size_append]; simp; omega)) ?_
  refine wpAny_bind (wpAny_isInstance (T := "StopIteration") (b := true) ⟨_, Heap.get?_update_self _ (Heap.get?_push_size _ rfl) rfl, rfl⟩ isSubtype_stop ?_)
  refine wpAny_pure (hQ _ fun b u nb e => ?_)
  have e1 := Heap.get?_push_of_some { cls := .type "tuple", data := .seq #[] } ((Heap.get?_update_other s.heap (Obj.mapFields (·.setIfInBounds 0 .none)) (Ne.symm nb)).trans e)
  rw [Heap.get?_update_other _ _ (Nat.ne_of_gt (Heap.lt_size e1))]
  exact Heap.get?_push_of_some _ e1
theorem unpack_hot {t x1 : Addr} {items : Array Value} {targets : List (Bool × (Value → Sem Unit))} {Q : Unit → Shared → Prop} (hot : HotAt A x1 s.heap) (ht : IsTup s.heap t items)
    (hn : targets.length = items.size) (hstar : targets.findIdx? (·.1) = none)
    (h : ∀ h', Heap.ExtBut s.heap.objs.size s.heap h' → wpAny (model prog w) A (assignInOrder (targets.map (·.2)) items.toList) Q E { s with heap := h' }) :
    wpAny (model prog w) A (unpack (.ref t) targets) Q E s := by
  have far : t ≠ s.heap.objs.size := by
    obtain ⟨o, ho, _⟩ := ht
    exact Nat.ne_of_lt (Heap.lt_size ho)
  have farX : x1 ≠ s.heap.objs.size := by
    obtain ⟨_, o, _, ho, _⟩ := hot
    exact Nat.ne_of_lt (Heap.lt_size ho)
  unfold unpack
  rw [hn, hstar]
  refine wpAny_bind (wpAny_holding ?_)
  unfold unpackItems
  refine wpAny_bind ?_
  unfold notIterableAtAll
  refine wpAny_bind (wpAny_specialOf ht.typeIs slot_tuple_iter.lookup (wpAny_pure ?_))
  simp only [Bool.false_eq_true, if_false]
  refine wpAny_bind (wpAny_holding (iter_tuple ht ?_))
  refine wpAny_bind (wpAny_holding (draw_tuple far items.size 0 _ _ ⟨_, Heap.get?_push_size _ rfl, rfl, rfl⟩ (ht.push _) (by omega) fun h1 it1 sb1 => ?_))
  have all : List.take items.size (List.drop 0 items.toList) = items.toList := by
    rw [List.drop_zero]
    exact List.take_of_length_le (by simp)
  rw [all, if_neg (by simp)]
  have t1 : IsTup h1 t items := (ht.push _).extBut sb1.extBut far
  have hot1 : HotAt A x1 h1 := hot_same (hot_push hot) fun o e => sb1.extBut _ _ farX e
  refine wpAny_bind (wpAny_holding (tup_end_hot hot1 farX it1 t1 (by simp) fun h2 e2 => ?_))
  simp only [Option.isSome_none, Bool.false_eq_true, if_false]
  exact wpAny_pure (h h2 fun b o hb e => e2 b o hb (sb1.extBut b o hb (Heap.get?_push_of_some _ e)))
end
section
variable {X : Cx}
theorem pg_tupHot {es : List Expr} {k : Nat} {t : TGs} {n : Nat} {pos : Pos} (hc : HotC X) (h : PGs X es t) (hn : (assignEach es X.env).length = n) (hst : (assignEach es X.env).findIdx? (·.1) = none) : PG X (.Tuple es k pos) (gTup X.K n t) := by
  constructor
  rintro pins s σ H v u Q I r ⟨a, xs, rfl, hq, hl, hw⟩
  obtain rfl : u = Value.ref a := r
  obtain ⟨its, rv, ht, hz⟩ := I.tuple hq
  obtain ⟨x1, hot⟩ := hc.at I
  rw [assign_Tuple]
  refine wpAny_bind (wpAny_standAt (unpack_hot hot ht (by simp [hn, ← hl, rv.length]) hst fun h2 ex => ?_))
  have J : Inv X pins σ H { s with heap := h2 } := I.kept (t' := s.toks) fun b o e => ex b o (Nat.ne_of_lt (Heap.lt_size e)) e
  exact h.run pins _ σ H xs _ Q J (by simpa using rv) hw
end
section
variable {X : Cx} {tb : Tbs} {fa ca : Nat → Addr} {pos : Pos} {es : List Expr}
theorem n_gtupHot {t : Tg} {k : Nat} (hc : HotC X) (h : PGs X es (gTs (Wx X tb fa ca) t)) (hn : (assignEach es X.env).length = tgLen t) (hst : (assignEach es X.env).findIdx? (·.1) = none) (hch : tgChain t = true) : PG X (.Tuple es k pos) (gT (Wx X tb fa ca) (.tup t)) := by
  refine PG_imp (pg_tupHot hc h hn hst) fun v σ H Q ⟨Hf, s, d, sr, r, q⟩ => ?_
  cases d with
  | tuple ds =>
    obtain ⟨a, vs, rfl, h1, h2⟩ := dp_tup r
    unfold tgSet at q
    cases e : tgSet t ds s with
    | none => rw [e] at q; exact q.elim
    | some s' =>
      rw [e] at q
      refine ⟨a, vs, rfl, .of (sr.sub _ _ h1), by rw [DpAll.len h2]; exact tgSet_n hch e, Hf, s, ds, sr, h2, ?_⟩
      rw [e]
      exact q
  | _ => exact q.elim
end
end Ir

set_option Elab.async false
set_option linter.all false
set_option maxRecDepth 100000
set_option maxHeartbeats 8000000
/-! The word for an exception that is handled. (printed by genkin.py) -/
namespace Ir
open PySem PySem.Spec PyProof.Rows L2 L2H HotX
def kinC : List Str := ["InvalidHouse", "InvalidBook", "InvalidMoment", "InvalidFloor", "InvalidGate", "InvalidNumber", "InvalidTruth", "InvalidPaper", "InvalidLook", "InvalidText", "NoTruth", "Unlike", "NothingToUndo", "TooMany"]
def kinTxt : Str := "house book moment floor gate number truth paper look text none unlike undo many +"
def kinN : List Str := ["e", "sorts", "labels", "label", "good"]
def kinGl : List Str := kinC ++ (["isinstance", "zip", "ValueError"] : List Str)
/-- the entry number j of the list that is made for the class c -/
def kinB (c j : Nat) : Bool := decide (j = 14) || decide (c = j)
def kin3 (c k : Nat) : Ex := .lst (.cons (.isF 0 (kinB c (3 * k))) (.cons (.isF 0 (kinB c (3 * k + 1))) (.cons (.isF 0 (kinB c (3 * k + 2))) .nil)))
def kinIR (c : Nat) : Sm := .seq (.set 1 (kin3 c 0)) (.seq (.set 1 (.bin .add (.var 1) (kin3 c 1))) (.seq (.set 1 (.bin .add (.var 1) (kin3 c 2))) (.seq (.set 1 (.bin .add (.var 1) (kin3 c 3))) (.seq (.set 1 (.bin .add (.var 1) (kin3 c 4)))
  (.seq (.set 2 (.cst (.str kinTxt))) (.ret (.join " " (.comp (.var 3) (.tup (.cons (.nm 3) (.cons (.nm 4) .nil))) (.itZip (.split (.var 2) " ") (.var 1)) (.var 4) [3, 4]))))))))
structure KinX (X : Cx) (p : Addr × Obj) (ca : Nat → Addr) (c : Nat) (scope : Scope) : Prop where
  eN : X.N = kinN
  lc : ∀ x ∈ (["e", "sorts", "labels"] : List Str), X.env.scope.names.lookup x = some .local
  gl : ∀ x ∈ kinGl, Gl X x
  nb : ∀ x ∈ (["isinstance", "zip", "ValueError"] : List Str), X.mg x = none
  cl : ∀ j x, kinC[j]? = some x → X.mg x = some (.ref (ca j))
  is_ : ∀ j, j < 14 → PySem.W.kitOne X.K (.ref (ca c)) (.ref (ca j)) = some (decide (c = j))
  iv : PySem.W.kitOne X.K (.ref (ca c)) (.type "ValueError") = some true
  ec : ExcC X.K (ca c)
  hp : p ∈ X.pn
  hz : Zc (.ref (ca c)) none p.2
  hf : ∃ vs, p.2.data = .fields vs
  hot : Hot1 X.A p
  blk : blkC kinN X.env.scope scope [("label", 3), ("good", 4)] = true
  lb : ∀ x ∈ (["label", "good"] : List Str), (relS scope X.env.scope).names.lookup x = some .local
section
variable {X : Cx} {tb : Tbs} {ca : Nat → Addr} {W : WX} {Φ : Fs} {kin : Exn → D} {c : Nat} {p : Addr × Obj} {scope : Scope} {k0 k1 k2 k3 : Nat} {a1 a2 b1 b2 p1 p2 p3 p4 p5 p6 p7 p8 p9 p10 p11 p12 p13 p14 p15 p16 p17 p18 p19 p20 p21 p22 p23 p24 p25 p26 p27 p28 p29 p30 p31 p32 p33 p34 p35 p36 p37 p38 p39 p40 p41 p42 p43 p44 p45 p46 p47 p48 p49 p50 p51 p52 p53 p54 p55 p56 p57 p58 p59 p60 p61 p62 p63 p64 p65 p66 p67 p68 p69 p70 p71 p72 p73 p74 p75 p76 p77 p78 p79 p80 p81 p82 p83 p84 p85 p86 p87 p88 p89 p90 p91 p92 p93 p94 p95 p96 p97 p98 p99 : Pos}
theorem kin_is (G : KinX X p ca c scope) (j : Nat) (C : Str) (h : (kinC ++ (["ValueError"] : List Str))[j]? = some C) {p1 p2 p3 p4 : Pos} : PEx X tb (fun _ => p.1) ca W Φ kin (.Call (.Name "isinstance" p1) [.Name "e" p2, .Name C p3] [] p4) (.isF 0 (kinB c j)) := by
  have hE : PE X (.Name "e" p2) (tVar 0) := pe_var (by rw [G.eN]; rfl) (.inl (G.lc _ (by simp))) (by decide) (by decide)
  have hB : Blt X "isinstance" (.builtin "isinstance") := ⟨G.gl _ (by decide), G.nb _ (by simp), by rfl, by decide, by decide⟩
  by_cases hj : j = 14
  · subst hj
    cases h
    exact n_isF (u := .type "ValueError") (v := .ty "ValueError") (f := 0) G.ec G.hp G.hz G.hf (fun _ => rfl) hB hE (pe_bltn (G.gl _ (by decide)) (G.nb _ (by simp)) (by rfl) rfl (by decide) (by decide)) (fun z hz => hz) G.iv rfl ⟨rfl, rfl⟩
  · have hl : j < 14 := by
      have := (List.getElem?_eq_some_iff.mp h).1
      have e : (kinC ++ (["ValueError"] : List Str)).length = 15 := rfl
      omega
    have hm : C ∈ kinC := by
      have : kinC[j]? = some C := by
        rw [List.getElem?_append_left (show j < kinC.length from hl)] at h
        exact h
      exact List.mem_of_getElem? this
    have h2 : kinC[j]? = some C := by
      rw [List.getElem?_append_left (show j < kinC.length from hl)] at h
      exact h
    have e : kinB c j = decide (c = j) := by
      unfold kinB
      rw [decide_eq_false hj, Bool.false_or]
    rw [e]
    have db : (C == ("__debug__" : Str)) = false := (show ∀ x ∈ kinC, (x == ("__debug__" : Str)) = false by decide) C hm
    exact n_isF (u := .ref (ca j)) (v := .ref (ca j)) (f := 0) G.ec G.hp G.hz G.hf (fun _ => rfl) hB hE (pe_glob (G.gl _ (List.mem_append_left _ hm)) (G.cl j C h2) rfl db) (fun z hz => hz) (G.is_ j hl) rfl ⟨rfl, rfl⟩
theorem kin_ps (G : KinX X p ca c scope) (hl1 : (a1.endLine == b1.line) = true) (hl2 : (a2.endLine == b2.line) = true) : PSsx X tb (fun _ => p.1) ca W Φ kin false
  [.Assign [.Name "sorts" p14] (.List [.Call (.Name "isinstance" p1) [.Name "e" p2, .Name "InvalidHouse" p3] [] p4, .Call (.Name "isinstance" p5) [.Name "e" p6, .Name "InvalidBook" p7] [] p8, .Call (.Name "isinstance" p9) [.Name "e" p10, .Name "InvalidMoment" p11] [] p12] p13) p15,
  .Assign [.Name "sorts" p31] (.BinOp (.Name "sorts" p29) .Add (.List [.Call (.Name "isinstance" p16) [.Name "e" p17, .Name "InvalidFloor" p18] [] p19, .Call (.Name "isinstance" p20) [.Name "e" p21, .Name "InvalidGate" p22] [] p23, .Call (.Name "isinstance" p24) [.Name "e" p25, .Name "InvalidNumber" p26] [] p27] p28) p30) p32,
  .Assign [.Name "sorts" p48] (.BinOp (.Name "sorts" p46) .Add (.List [.Call (.Name "isinstance" p33) [.Name "e" p34, .Name "InvalidTruth" p35] [] p36, .Call (.Name "isinstance" p37) [.Name "e" p38, .Name "InvalidPaper" p39] [] p40, .Call (.Name "isinstance" p41) [.Name "e" p42, .Name "InvalidLook" p43] [] p44] p45) p47) p49,
  .Assign [.Name "sorts" p65] (.BinOp (.Name "sorts" p63) .Add (.List [.Call (.Name "isinstance" p50) [.Name "e" p51, .Name "InvalidText" p52] [] p53, .Call (.Name "isinstance" p54) [.Name "e" p55, .Name "NoTruth" p56] [] p57, .Call (.Name "isinstance" p58) [.Name "e" p59, .Name "Unlike" p60] [] p61] p62) p64) p66,
  .Assign [.Name "sorts" p82] (.BinOp (.Name "sorts" p80) .Add (.List [.Call (.Name "isinstance" p67) [.Name "e" p68, .Name "NothingToUndo" p69] [] p70, .Call (.Name "isinstance" p71) [.Name "e" p72, .Name "TooMany" p73] [] p74, .Call (.Name "isinstance" p75) [.Name "e" p76, .Name "ValueError" p77] [] p78] p79) p81) p83,
  .Assign [.Name "labels" p84] (.Constant (.str kinTxt) k0 p85) p86,
  .Return (some (.Call (.Attribute (.Constant (.str " ") k1 p87) "join" a1) [.ListComp (.Name "label" p88) [⟨.Tuple [.Name "label" p89, .Name "good" p90] k2 p91, .Call (.Name "zip" p92) [.Call (.Attribute (.Name "labels" p93) "split" a2) [.Constant (.str " ") k3 p94] [] b2, .Name "sorts" p95] [] p96, [.Name "good" p97], 0⟩] scope p98] [] b1)) p99] (kinIR c) := by
  have nd : X.N.Nodup := by rw [G.eN]; decide
  have vS : ∀ {q : Pos}, PE X (.Name "sorts" q) (tVar 1) := pe_var (by rw [G.eN]; rfl) (.inl (G.lc _ (by simp))) (by decide) (by decide)
  have vL : ∀ {q : Pos}, PE X (.Name "labels" q) (tVar 2) := pe_var (by rw [G.eN]; rfl) (.inl (G.lc _ (by simp))) (by decide) (by decide)
  have lS := G.lc "sorts" (by simp)
  have lL := G.lc "labels" (by simp)
  have iS : X.N[1]? = some ("sorts" : Str) := by rw [G.eN]; rfl
  have iL : X.N[2]? = some ("labels" : Str) := by rw [G.eN]; rfl
  have hc : ∀ (s : Shared) (H : Hp) (C : Addr) (cl : List (Str × Addr)) (fp : List Addr), HotC (blkH X p s H scope (compEnvC scope cl C X.env) fp) := fun s H C cl fp => ⟨p, G.hot, List.mem_cons_self⟩
  have vb : ∀ (s : Shared) (H : Hp) (C : Addr) (cl : List (Str × Addr)) (fp : List Addr) {q : Pos}, PE (blkH X p s H scope (compEnvC scope cl C X.env) fp) (.Name "label" q) (tVar 3) := fun s H C cl fp => pe_var (by show X.N[3]? = _; rw [G.eN]; rfl) (.inl (G.lb _ (by simp))) (by decide) (by decide)
  have vg : ∀ (s : Shared) (H : Hp) (C : Addr) (cl : List (Str × Addr)) (fp : List Addr) {q : Pos}, PE (blkH X p s H scope (compEnvC scope cl C X.env) fp) (.Name "good" q) (tVar 4) := fun s H C cl fp => pe_var (by show X.N[4]? = _; rw [G.eN]; rfl) (.inl (G.lb _ (by simp))) (by decide) (by decide)
  have B : BlkH X p tb (fun _ => p.1) ca Φ kin scope [("label", 3), ("good", 4)] (.Tuple [.Name "label" p89, .Name "good" p90] k2 p91) (.tup (.cons (.nm 3) (.cons (.nm 4) .nil))) [.Name "good" p97] (.var 4) (.Name "label" p88) (.var 3) := by
    refine ⟨by rw [G.eN]; exact blkOk_by G.blk, fun s H C cl fp => ?_, fun s H C cl fp => ?_, fun s H C cl fp => ?_, by decide⟩
    · refine n_gtupHot (hc s H C cl fp) (n_gcons (n_gnm (pg_name nd (by rw [G.eN]; rfl) (.inl (G.lb "label" (by simp))) (.inr (G.lb "label" (by simp))))) (n_gcons (n_gnm (pg_name nd (by rw [G.eN]; rfl) (.inl (G.lb "good" (by simp))) (.inr (G.lb "good" (by simp))))) n_gnil rfl) rfl) rfl rfl rfl
    · exact pts_one (n_tval (n_var (vg s H C cl fp)) fun _ => rfl)
    · exact n_var (vb s H C cl fp)
  refine n_seq (n_set nd iS (.inl lS) (.inr lS) (n_lst (n_cons (kin_is G 0 _ rfl) (n_cons (kin_is G 1 _ rfl) (n_cons (kin_is G 2 _ rfl) n_nil rfl) rfl) rfl)) rfl fun h => nomatch h) ?_
  refine n_seq (n_set nd iS (.inl lS) (.inr lS) (n_bin .add (n_var vS) (n_lst (n_cons (kin_is G 3 _ rfl) (n_cons (kin_is G 4 _ rfl) (n_cons (kin_is G 5 _ rfl) n_nil rfl) rfl) rfl))) rfl fun h => nomatch h) ?_
  refine n_seq (n_set nd iS (.inl lS) (.inr lS) (n_bin .add (n_var vS) (n_lst (n_cons (kin_is G 6 _ rfl) (n_cons (kin_is G 7 _ rfl) (n_cons (kin_is G 8 _ rfl) n_nil rfl) rfl) rfl))) rfl fun h => nomatch h) ?_
  refine n_seq (n_set nd iS (.inl lS) (.inr lS) (n_bin .add (n_var vS) (n_lst (n_cons (kin_is G 9 _ rfl) (n_cons (kin_is G 10 _ rfl) (n_cons (kin_is G 11 _ rfl) n_nil rfl) rfl) rfl))) rfl fun h => nomatch h) ?_
  refine n_seq (n_set nd iS (.inl lS) (.inr lS) (n_bin .add (n_var vS) (n_lst (n_cons (kin_is G 12 _ rfl) (n_cons (kin_is G 13 _ rfl) (n_cons (kin_is G 14 _ rfl) n_nil rfl) rfl) rfl))) rfl fun h => nomatch h) ?_
  refine n_seq (n_set nd iL (.inl lL) (.inr lL) (n_cst (pe_str) fun _ => .str _) rfl fun h => nomatch h) ?_
  refine n_one (n_ret (n_join (n_compHot G.hot G.hp nd B (n_itZipHot (G.gl _ (by decide)) (G.nb _ (by simp)) (n_split (n_var vL) rfl rfl hl2) (n_var vS) rfl ⟨rfl, rfl⟩ fun s v s' h => split_lst h) fun _ => rfl) rfl hl1))
end
end Ir

set_option Elab.async false
set_option linter.all false
set_option maxRecDepth 100000
set_option maxHeartbeats 8000000
/-! What the word is. -/
namespace Ir
open PySem PySem.Spec PyProof.Rows L2 L2H HotX
def kinL : List Str := ["house", "book", "moment", "floor", "gate", "number", "truth", "paper", "look", "text", "none", "unlike", "undo"]
def kinW (c : Nat) : Str := kinL.getD c "" ++ " +"
/-- what _law_try tells of an exception -/
def kinD (e : Exn) : D := .str (kinW e.cls)
def kinS : Sl := [some (.fn 0), none, none, none, none]
def isRetStr (r : Flo) (x : Str) : Bool := match r with
  | .ret (.d (.str y)) _ => decide (y = x)
  | _ => false
theorem isRetStr_of {r : Flo} {x : Str} (h : isRetStr r x = true) : ∃ s, r = .ret (.d (.str x)) s := by
  unfold isRetStr at h
  split at h
  · have := of_decide_eq_true h
    subst this
    exact ⟨_, rfl⟩
  · cases h
def kinP : List Str := kinL ++ (["many", "+"] : List Str)
theorem kin_split : Txt.split kinTxt " " = kinP := by
  have e : kinTxt = Txt.join " " kinP := by decide
  rw [e]
  exact TL.split_join (y := " ") (s := 32) (S := []) rfl (by rw [← Array.all_toList]; rfl) (by decide) (by decide)
/-- the slots behind the six assignments -/
def kin6 (c : Nat) : Sl := [some (.fn 0), some (.own ((List.range 15).map fun j => .bool (kinB c j))), some (.d (.str kinTxt)), none, none]
def kinEx : Ex := .join " " (.comp (.var 3) (.tup (.cons (.nm 3) (.cons (.nm 4) .nil))) (.itZip (.split (.var 2) " ") (.var 1)) (.var 4) [3, 4])
theorem kin_sp6 {Φ : Fs} {kin : Exn → D} {c : Nat} : ev Φ kin (.split (.var 2) " ") (kin6 c) = .ok (.own (kinP.map .str)) (kin6 c) := by
  unfold ev
  unfold ev
  show (if (" " : Str).length ≠ 0 ∧ kinTxt.length + 2 ≤ lineMax then (Res.ok (Val.own ((Txt.split kinTxt " ").map .str)) (kin6 c)) else .bad) = _
  rw [if_pos ⟨by decide, by decide⟩, kin_split]
theorem kin_run6 {Φ : Fs} {kin : Exn → D} {c : Nat} : run Φ kin (kinIR c) kinS = run Φ kin (.ret kinEx) (kin6 c) := by rfl
theorem kin_rest {Φ : Fs} {kin : Exn → D} {c : Nat} (hc : c < 13) : isRetStr (run Φ kin (.ret kinEx) (kin6 c)) (kinW c) = true := by
  unfold run kinEx
  unfold ev
  unfold ev
  unfold ev
  rw [kin_sp6]
  match c, hc with
  | 0, _ => rfl
  | 1, _ => rfl
  | 2, _ => rfl
  | 3, _ => rfl
  | 4, _ => rfl
  | 5, _ => rfl
  | 6, _ => rfl
  | 7, _ => rfl
  | 8, _ => rfl
  | 9, _ => rfl
  | 10, _ => rfl
  | 11, _ => rfl
  | 12, _ => rfl
theorem kin_run {Φ : Fs} {kin : Exn → D} {c : Nat} (hc : c < 13) : ∃ s, run Φ kin (kinIR c) kinS = .ret (.d (.str (kinW c))) s := by
  rw [kin_run6]
  exact isRetStr_of (kin_rest hc)
end Ir

set_option Elab.async false
set_option linter.all false
set_option maxRecDepth 100000
set_option maxHeartbeats 8000000
/-! A def keeps its promise. -/
namespace Ir
open PySem PySem.Spec PyProof.Rows L2
section
variable {w : Wd} {W : WX} {Hf H : Hp}
theorem slGet_cons {v : Option Val} {r : Sl} {i : Nat} : slGet (v :: r) (i + 1) = slGet r i := by
  unfold slGet
  rw [List.getElem?_cons_succ]
theorem rest_get {K : PySem.W.Frag} : ∀ {us : List V} {ds : List D} {m m' : Nat} {i : Nat} {v : Val}, DpAll K Hf us ds → slGet (ds.map (fun x => some (.d x)) ++ List.replicate m none) i = some v → ∃ d x, v = .d d ∧ (us.map some ++ List.replicate m' (none : Option V))[i]? = some (some x) ∧ Dp K Hf x d
  | _, _, m, m', i, v, .nil, h => by
    exfalso
    unfold slGet at h
    simp only [List.map_nil, List.nil_append] at h
    rw [List.getElem?_replicate] at h
    split at h
    · rename_i e
      split at e <;> cases e
    · cases h
  | _, _, m, m', 0, v, .cons (v := x) (d := d) hd r, h => by
    have e : v = .d d := by
      have h' : some (Val.d d) = some v := h
      cases h'
      rfl
    exact ⟨d, x, e, rfl, hd⟩
  | _, _, m, m', i + 1, v, .cons hd r, h => by
    rw [List.map_cons, List.cons_append, slGet_cons] at h
    obtain ⟨d, x, h1, h2, h3⟩ := rest_get (m' := m') r h
    exact ⟨d, x, h1, by rw [List.map_cons, List.cons_append, List.getElem?_cons_succ]; exact h2, h3⟩
/-- the slots of an entry -/
structure St0 (w : Wd) (Hf H : Hp) (s : Sl) (σ : L2.St) (ia : Option Addr) : Prop where
  sr : SR w Hf s σ H
  own : ∀ a, Own s σ a → ia = some a
  at0 : ∀ a, ia = some a → σ[0]? = some (some (.ref a))
theorem st0_plain {us : List V} {ds : List D} {n m : Nat} (sub : Same Hf H) (tab : LamX.Tabs w.tb H) (ntb : ∀ a o, Hf a = some o → Solid o) (r : DpAll w.K Hf us ds) (hn : ds.length = n) : St0 w Hf H (ds.map (fun x => some (.d x)) ++ List.replicate (m - n) none) (us.map some ++ List.replicate (m - us.length) none) none := by
  have hl := DpAll.len r
  have g : ∀ {i v}, slGet (ds.map (fun x => some (.d x)) ++ List.replicate (m - n) none) i = some v → ∃ d x, v = .d d ∧ (us.map some ++ List.replicate (m - us.length) (none : Option V))[i]? = some (some x) ∧ Dp w.K Hf x d := fun h => rest_get r h
  refine ⟨⟨sub, by simp [hl, hn], fun i v h => ?_, fun i j v u a h1 h2 o1 o2 => ?_, tab, ntb⟩, fun a ⟨i, v, h, o, _⟩ => ?_, fun a z => nomatch z⟩
  · obtain ⟨d, x, rfl, h2, h3⟩ := g h
    exact ⟨x, h2, h3⟩
  · obtain ⟨d, x, rfl, _, _⟩ := g h1
    cases o1
  · obtain ⟨d, x, rfl, _, _⟩ := g h
    cases o
theorem st0_io {us : List V} {ds : List D} {n m : Nat} {a : Addr} {ws : List V} {cur : List D} (sub : Same Hf H) (tab : LamX.Tabs w.tb H) (ntb : ∀ a o, Hf a = some o → Solid o) (r : DpAll w.K Hf us ds) (hn : ds.length + 1 = n) (h1 : H a = some (.lst ws)) (h2 : Hf a = none) (h3 : DpAll w.K Hf ws cur) :
    St0 w Hf H (some (.own cur) :: (ds.map (fun x => some (.d x)) ++ List.replicate (m - n) none)) (some (.ref a) :: (us.map some ++ List.replicate (m - (us.length + 1)) none)) (some a) := by
  have hl := DpAll.len r
  have g : ∀ {i v}, slGet (ds.map (fun x => some (.d x)) ++ List.replicate (m - n) none) i = some v → ∃ d x, v = .d d ∧ (us.map some ++ List.replicate (m - (us.length + 1)) (none : Option V))[i]? = some (some x) ∧ Dp w.K Hf x d := fun h => rest_get r h
  refine ⟨⟨sub, by simp [hl, ← hn], fun i v h => ?_, fun i j v u b q1 q2 o1 o2 => ?_, tab, ntb⟩, fun b ⟨i, v, h, o, z⟩ => ?_, fun b z => by cases z; rfl⟩
  · cases i with
    | zero =>
      have h' : some (Val.own cur) = some v := h
      cases h'
      exact ⟨_, rfl, a, ws, rfl, h1, h2, h3⟩
    | succ i =>
      rw [slGet_cons] at h
      obtain ⟨d, x, rfl, q2, q3⟩ := g h
      exact ⟨x, q2, q3⟩
  · cases i with
    | zero =>
      cases j with
      | zero => exact fun _ _ => rfl
      | succ j =>
        rw [slGet_cons] at q2
        obtain ⟨d, x, rfl, _, _⟩ := g q2
        cases o2
    | succ i =>
      rw [slGet_cons] at q1
      obtain ⟨d, x, rfl, _, _⟩ := g q1
      cases o1
  · cases i with
    | zero =>
      have z' : some (some (V.ref a)) = some (some (V.ref b)) := z
      cases z'
      rfl
    | succ i =>
      rw [slGet_cons] at h
      obtain ⟨d, x, rfl, _, _⟩ := g h
      cases o
theorem ioOf_true {s : Sl} {xs : List D} (h : ioOf true s = some xs) : ∃ r, s = some (.own xs) :: r := by
  cases s with
  | nil => cases h
  | cons v r =>
    cases v with
    | none => cases h
    | some v =>
      cases v <;> first | (cases h; done) | skip
      have h' : some _ = some xs := h
      cases h'
      exact ⟨r, rfl⟩
theorem fin_of {s s' : Sl} {σ σ' : L2.St} {Hf' H' : Hp} {ia : Option Addr} {io : Bool} {xs : List D} (z : St0 w Hf H s σ ia) (hio : io = ia.isSome) (st : Stp Hf s σ H Hf' s' σ' H') (kp : Keep0 io σ σ') (sr : SR w Hf' s' σ' H') (e : ioOf io s' = some xs) :
    Fin w Hf H ia xs Hf' H' ∧ ∀ a, ia = some a → Own s' σ' a := by
  have h0 : ∀ a, ia = some a → ∃ vs, Own s' σ' a ∧ H' a = some (.lst vs) ∧ Hf' a = none ∧ DpAll w.K Hf' vs xs := fun a ea => by
    have hi : io = true := by rw [hio, ea]; rfl
    subst hi
    obtain ⟨r, rfl⟩ := ioOf_true e
    have h1 : slGet (some (Val.own xs) :: r) 0 = some (.own xs) := rfl
    obtain ⟨x, h2, b, vs, rfl, h3, h4, h5⟩ := sr.sl 0 _ h1
    have h6 : σ'[0]? = some (some (.ref a)) := (kp rfl).trans (z.at0 a ea)
    have h7 := h6
    rw [h2] at h6
    cases h6
    exact ⟨vs, ⟨0, _, h1, rfl, h7⟩, h3, h4, h5⟩
  refine ⟨⟨st.frz, sr.sub, sr.tab, sr.ntb, st.there, fun a o ha hn so => ?_, fun a ea => ?_⟩, fun a ea => ?_⟩
  · refine ⟨fun nt => ?_, fun hne => st.keep a o ha (fun ow => hne (z.own a ow)) so⟩
    cases e : Hf' a with
    | none => rfl
    | some t =>
      rcases st.new a (by rw [e]; exact fun q => nomatch q) with q | q | q
      · exact absurd hn q
      · obtain ⟨vs, _, _, q2, _⟩ := h0 a (z.own a q)
        rw [e] at q2
        cases q2
      · rcases q with q | ⟨xs, q⟩ | ⟨xs, q⟩
        · rw [ha] at q
          cases q
        · rw [ha] at q
          cases q
          exact absurd rfl (nt xs)
        · rw [ha] at q
          cases q
          exact absurd rfl (so xs)
  · obtain ⟨vs, _, q1, _, q2⟩ := h0 a ea
    exact ⟨vs, q1, q2⟩
  · obtain ⟨vs, q, _⟩ := h0 a ea
    exact q
/-- from the promise to what the body is to reach -/
theorem entry {Φ : Fs} {kin : Exn → D} {fn : Fn} {Q : VK} {E : XK} {s : Sl} {σ : L2.St} {ia : Option Addr} (z : St0 w Hf H s σ ia) (hio : fn.io = ia.isSome)
    (h : match fin fn (run Φ kin fn.body s) with
      | .ok v xs => ∀ x Hf' H', Fin w Hf H ia xs Hf' H' → RpV w Hf' H' x v → (isOwn v = true → ∀ a, x = .ref a → H a = none) → Q x H'
      | .exc e xs => ∀ Hf' H', Fin w Hf H ia xs Hf' H' → match e.lim with
        | none => E (.ref (w.ca e.cls)) none H'
        | some n => ∀ d, H' d = some (.xd [("limit", .int n)]) → E (.ref (w.ca e.cls)) (some d) H'
      | .bad => False) :
    tS w (fun cls d _ H => E cls d H) fn.io (run Φ kin fn.body) { nx := fun _ H' => Q .non H', rt := Q } σ H := by
  refine ⟨Hf, s, z.sr, ?_⟩
  unfold fin at h
  unfold PostS
  cases e : run Φ kin fn.body s with
  | bad => rw [e] at h; exact h
  | brk s' => rw [e] at h; exact h.elim
  | cont s' => rw [e] at h; exact h.elim
  | next s' =>
    rw [e] at h
    dsimp only at h
    intro σ' Hf' H' st kp sr
    cases e2 : ioOf fn.io s' with
    | none => rw [e2] at h; exact h.elim
    | some xs =>
      rw [e2] at h
      exact h .non Hf' H' (fin_of z hio st kp sr e2).1 .non fun q => nomatch q
  | ret v s' =>
    rw [e] at h
    dsimp only at h
    intro x σ' Hf' H' st kp sr rv fr
    cases e2 : ioOf fn.io s' with
    | none => rw [e2] at h; exact h.elim
    | some xs =>
      rw [e2] at h
      obtain ⟨f1, f2⟩ := fin_of z hio st kp sr e2
      exact h x Hf' H' f1 rv fun o a ea => (fr o a ea).1.elim id fun ow => absurd (f2 a (z.own a ow)) (fr o a ea).2
  | exc x s' =>
    rw [e] at h
    dsimp only at h
    intro σ' Hf' H' st kp sr
    cases e2 : ioOf fn.io s' with
    | none => rw [e2] at h; exact h.elim
    | some xs =>
      rw [e2] at h
      exact h Hf' H' (fin_of z hio st kp sr e2).1
end
end Ir

set_option Elab.async false
set_option linter.all false
set_option maxRecDepth 100000
set_option maxHeartbeats 8000000
/-! How plain parameters are bound. -/
namespace Ir
open PySem PySem.Spec PyProof.Rows L2
theorem lookup_zip {α : Type} : ∀ {ps : List Str} {us : List α} {x : Str}, us.length = ps.length → x ∈ ps → ((ps.zip us).lookup x).isSome = true
  | [], _, x, _, h => by simp at h
  | p :: ps, [], x, hl, _ => by simp at hl
  | p :: ps, u :: us, x, hl, h => by
    rw [List.zip_cons_cons, List.lookup_cons]
    cases e : x == p with
    | true => rfl
    | false =>
      have : x ∈ ps := by
        rcases List.mem_cons.mp h with z | z
        · subst z
          simp at e
        · exact z
      exact lookup_zip (by simpa using hl) this
theorem fm_congr {α β : Type} {f g : α → Option β} : ∀ {l : List α}, (∀ x ∈ l, f x = g x) → l.filterMap f = l.filterMap g
  | [], _ => rfl
  | x :: l, h => by
    rw [List.filterMap_cons, List.filterMap_cons, h x List.mem_cons_self, fm_congr fun y hy => h y (List.mem_cons_of_mem _ hy)]
theorem filterMap_zip {α : Type} : ∀ {ps : List Str} {us : List α}, us.length = ps.length → ps.Nodup → (ps.filterMap fun n => ((ps.zip us).lookup n).map (n, ·)) = ps.zip us
  | [], us, _, _ => by simp
  | p :: ps, [], hl, _ => by simp at hl
  | p :: ps, u :: us, hl, hn => by
    have hn' := List.nodup_cons.mp hn
    have hl' : us.length = ps.length := by simpa using hl
    rw [List.zip_cons_cons, List.filterMap_cons]
    simp only [List.lookup_cons, BEq.rfl, Option.map_some]
    congr 1
    refine (fm_congr (g := fun n => ((ps.zip us).lookup n).map (n, ·)) fun n hm => ?_).trans (filterMap_zip hl' hn'.2)
    have : (n == p) = false := by
      rw [beq_eq_false_iff_ne]
      intro z
      subst z
      exact hn'.1 hm
    simp only [this]
/-- positional parameters alone, without defaults -/
def argsB (a : Arguments) (ps : List Str) : Bool := a.posonlyargs.isEmpty && a.vararg.isNone && a.kwonlyargs.isEmpty && a.kwarg.isNone && decide (a.args.map (·.arg) = ps)
theorem bind_plain {fd : FuncData} {ps : List Str} {us : List Value} (ha : argsB fd.params ps = true) (hd : fd.defaults = .none) (hn : ps.Nodup) (hl : us.length = ps.length) : bindArgs fd ⟨us, []⟩ = pure (ps.zip us) := by
  unfold argsB at ha
  simp only [Bool.and_eq_true, List.isEmpty_iff, Option.isNone_iff_eq_none, decide_eq_true_eq] at ha
  obtain ⟨⟨⟨⟨h1, h2⟩, h3⟩, h4⟩, h5⟩ := ha
  unfold bindArgs
  simp only [h1, h2, h3, h4, h5, hd, List.map_nil, List.nil_append, List.append_nil, List.forIn_nil, pure_bind, Option.isNone_none, Bool.and_true, List.isEmpty_nil, List.zip_nil_right]
  have hs : seqItems? Value.none = pure none := rfl
  have hm : (ps.filter fun n => ((ps.zip us).lookup n).isNone) = [] := by
    rw [List.filter_eq_nil_iff]
    intro x hx
    have := lookup_zip hl hx
    simp [Option.isSome_iff_ne_none] at this ⊢
    exact this
  have hlt : decide (us.length > ps.length) = false := decide_eq_false (by omega)
  rw [hs]
  simp only [pure_bind, Option.getD_none, hlt, List.length_nil, Nat.zero_sub, List.drop_nil, Nat.sub_zero, List.take_length, hm, List.isEmpty_nil, Bool.not_true, List.drop_length, List.zip_nil_left, List.forIn_nil, Bool.false_eq_true, if_false]
  rw [filterMap_zip hl hn]
end Ir

set_option Elab.async false
set_option linter.all false
set_option maxRecDepth 100000
set_option maxHeartbeats 8000000
/-! _law_kin(e) in a suite. -/
namespace Ir
open PySem PySem.Spec PyProof.Rows L2 L2H HotX
/-- what the classes say of one another -/
structure KinK (K : PySem.W.Frag) (ca : Nat → Addr) (sg : Addr) : Prop where
  is_ : ∀ c, c < 13 → ∀ j, j < 14 → PySem.W.kitOne K (.ref (ca c)) (.ref (ca j)) = some (decide (c = j))
  iv : ∀ c, c < 13 → PySem.W.kitOne K (.ref (ca c)) (.type "ValueError") = some true
  ec : ∀ c, c < 13 → ExcC K (ca c)
  sub : ∀ c, c < 13 → PySem.W.exmOne K (.ref (ca c)) (.ref sg) = some true
  many : ∀ c, c < 13 → PySem.W.exmOne K (.ref (ca c)) (.ref (ca 13)) = some false
def kinScB (sc scope : Scope) : Bool :=
  (["e", "sorts", "labels"] : List Str).all (fun x => decide (sc.names.lookup x = some .local)) && kinGl.all (fun x => decide (sc.names.lookup x = some .globalImplicit)) && blkC kinN sc scope [("label", 3), ("good", 4)] &&
    (["label", "good"] : List Str).all (fun x => decide ((relS scope sc).names.lookup x = some .local))
/-- the def of the word, as the module has it -/
structure KinM (K : PySem.W.Frag) (mg : Str → Option Value) (ca : Nat → Addr) (st : Stmt) (g : Addr) (scope : Scope) : Prop where
  fu : ∃ fd, Fun K "_law_kin" "_law_kin" st g fd
  m : mg "_law_kin" = some (.ref g)
  sc : C8.scC kinN ["e"] (defScope st) = true
  ar : argsB (defArgs st) ["e"] = true
  gl : kinScB (defScope st) scope = true
  nb : ∀ x ∈ (["isinstance", "zip", "ValueError"] : List Str), mg x = none
  cl : ∀ j x, kinC[j]? = some x → mg x = some (.ref (ca j))
  bd : ∀ (X : Cx) (tb : Tbs) (W : WX) (Φ : Fs) (kin : Exn → D) (c : Nat) (p : Addr × Obj), KinX X p ca c scope → PSsx X tb (fun _ => p.1) ca W Φ kin false (defBody st) (kinIR c)
/-- the reading of the call -/
def tKin (K : PySem.W.Frag) (tb : Tbs) (ca fa : Nat → Addr) (c i : Nat) (p : Addr) : TE := fun σ H Q => σ[i]? = some (some (.ref p)) ∧ ∃ Hf, Same Hf H ∧ LamX.Tabs tb H ∧ (∀ a o, Hf a = some o → Solid o) ∧ ∀ Hf' H', Fin ⟨K, tb, fa, ca⟩ Hf H none [] Hf' H' → Q (.str (kinW c)) H'
theorem kin_st0 {w : Wd} {Hf H : Hp} {p : Addr} (hp : ∀ n, w.fa n = p) (sub : Same Hf H) (tab : LamX.Tabs w.tb H) (ntb : ∀ a o, Hf a = some o → Solid o) : St0 w Hf H kinS (L2.start kinN [.ref p]) none := by
  have g : ∀ {i v}, slGet kinS i = some v → i = 0 ∧ v = .fn 0 := fun {i v} h => by
    unfold slGet kinS at h
    match i, h with
    | 0, h => exact ⟨rfl, by cases h; rfl⟩
    | 1, h => cases h
    | 2, h => cases h
    | 3, h => cases h
    | 4, h => cases h
    | _ + 5, h => simp at h
  refine ⟨⟨sub, rfl, fun i v h => ?_, fun i j v u a h1 h2 o1 o2 => ?_, tab, ntb⟩, fun a ⟨i, v, h, o, _⟩ => ?_, fun a z => nomatch z⟩
  · obtain ⟨rfl, rfl⟩ := g h
    exact ⟨.ref p, rfl, by show V.ref p = .ref (w.fa 0); rw [hp]⟩
  · obtain ⟨rfl, rfl⟩ := g h1
    cases o1
  · obtain ⟨rfl, rfl⟩ := g h
    cases o
section
variable {X : Cx} {tb : Tbs} {fa ca : Nat → Addr} {c i k : Nat} {p : Addr × Obj} {st : Stmt} {g sg : Addr} {scope : Scope}
theorem pe_kin {q1 q2 q3 : Pos} (M : KinM X.K X.mg ca st g scope) (Kk : KinK X.K ca sg) (hc : c < 13) (hr : RoomH (k + 1) X.A) (hot : Hot1 X.A p) (hp : p ∈ X.pn) (hz : Zc (.ref (ca c)) none p.2) (hf : ∃ vs, p.2.data = .fields vs)
    (hg : Gl X "_law_kin") (hv : PE X (.Name "e" q2) (tVar i)) : PE X (.Call (.Name "_law_kin" q1) [.Name "e" q2] [] q3) (tKin X.K tb ca fa c i p.1) := by
  constructor
  rintro pins s σ H Q I ⟨hσ, Hf, sub, tab, ntb, h⟩
  obtain ⟨fd, F⟩ := M.fu
  have S := C8.fnScope_by M.sc
  have hb : L2.Binds X.K fd ["e"] [] := F.binds fun kV doc pm an cdv ct us hl => bind_plain M.ar rfl (by decide) hl
  have kp := F.kp
  obtain ⟨oc, od, kV, doc, pm, an, cdv, ct, osl, rfl, lk, hcd⟩ := F.ex
  refine wpAny_Call_Name_kw (ld_glob I hg M.m ?_ (by decide))
  have ha : PA X [.Name "e" q2] (tCons (tVar i) tNil) := pa_cons hv pa_nil rfl
  refine PySem.W.callWith_K (h₀ := X.base) I.ok.mod.kin kp (thn (ha.run q3 pins s σ H (fun vs H1 => vs = [V.ref p.1] ∧ H1 = H) I ⟨.ref p.1, hσ, rfl, rfl⟩) fun us s1 hh => ?_) rfl rfl
  obtain ⟨vs, H1, I1, r1, rfl, rfl⟩ := hh
  refine ⟨I1.kIn, ?_⟩
  have P1 := I1.pin p (List.mem_append_left _ hp)
  have hpin : PinOk X.stack H1 s1 p := ⟨P1.1, P1.2.1, fun hm => (List.mem_cons.mp (I1.stkSub p.1 hm)).elim P1.2.2.1 P1.2.2.2.1, P1.2.2.2.2⟩
  have hl : us.length = 1 := by rw [← r1.length]; rfl
  have b := hb s1 us I1.kIn (by rw [List.append_nil]; exact hl)
  rw [List.append_nil] at b
  have gl := M.gl
  unfold kinScB at gl
  simp only [Bool.and_eq_true] at gl
  obtain ⟨⟨⟨g1, g2⟩, g3⟩, g4⟩ := gl
  have run_ := run_ofH (CX := C8.CX0) (P := X.prog) (w := X.w) (mg := X.mg) (base := X.base) (E := C8.E0) (Q := Q) (N := kinN) (ps := ["e"]) (vs := [.ref p.1]) (us := us) lk hcd S hr hot hpin I1.env0 b r1 rfl fun hr' => by
    have G : KinX (cxH C8.CX0 X.prog X.w X.K X.mg X.base kinN "_law_kin" (defScope st) g cdv X.A X.stack s1 H1 C8.E0 p) p ca c scope := {
      eN := rfl
      lc := fun x hx => (of_decide_eq_true (List.all_eq_true.mp g1 x hx) : (defScope st).names.lookup x = some .local)
      gl := fun x hx => (of_decide_eq_true (List.all_eq_true.mp g2 x hx) : (defScope st).names.lookup x = some .globalImplicit)
      nb := M.nb
      cl := M.cl
      is_ := Kk.is_ c hc
      iv := Kk.iv c hc
      ec := Kk.ec c hc
      hp := List.mem_cons_self
      hz := hz
      hf := hf
      hot := hot
      blk := g3
      lb := fun x hx => (of_decide_eq_true (List.all_eq_true.mp g4 x hx) : (relS scope (defScope st)).names.lookup x = some .local) }
    refine ⟨_, M.bd _ tb (fun _ _ _ _ => False) (fun _ _ _ => .bad) kinD c p G, ?_⟩
    have z := kin_st0 (w := ⟨X.K, tb, fun _ => p.1, ca⟩) (p := p.1) (fun _ => rfl) sub tab ntb
    obtain ⟨s', e⟩ := kin_run (Φ := fun _ _ _ => .bad) (kin := kinD) hc
    refine ⟨Hf, kinS, z.sr, ?_⟩
    unfold PostS
    rw [e]
    intro x σ' Hf' H' stp kp' sr rv fr
    obtain ⟨f1, _⟩ := fin_of (io := false) z rfl stp kp' sr rfl
    have ex : x = .str (kinW c) := by cases rv; rfl
    rw [ex]
    exact h Hf' H' ⟨f1.frz, f1.sub, f1.tab, f1.ntb, f1.there, f1.old, f1.io⟩
  refine wpAny_call (codeAny_mono run_ fun r s2 hq => ?_)
  cases r with
  | error e => exact (show False from hq).elim
  | ok fl =>
    cases fl with
    | ret u => exact I1.after hq
    | next => exact False.elim hq
    | brk => exact False.elim hq
    | cont => exact False.elim hq
end
end Ir

set_option Elab.async false
set_option linter.all false
set_option maxRecDepth 100000
set_option maxHeartbeats 8000000
/-! _law_try(lambda: ..). -/
namespace Ir
open PySem PySem.Spec PyProof.Rows L2 L2H HotX
theorem SR.grown {w : Wd} {Hf H H1 : Hp} {s : Sl} {σ : L2.St} {q : Str} {d : Addr} (h : SR w Hf s σ H) (g : Grown w.tb q H d H1) (t : LamX.Tabs w.tb H1) : SR w Hf s σ H1 ∧ Stp Hf s σ H Hf s σ H1 := by
  have ex := g.ext
  refine ⟨⟨fun b u e => ex b u (h.sub b u e) (h.ntb b u e), h.len, fun i v e => ?_, h.sep, t, h.ntb⟩, ⟨Same.refl _, fun a o e _ so => ex a o e so, fun a e => g.there e, fun a z => .inl z, fun a z => .inl z⟩⟩
  obtain ⟨x, e1, r⟩ := h.sl i v e
  refine ⟨x, e1, r.mono (Same.refl _) fun b ob eb => ?_⟩
  subst eb
  obtain ⟨c, ec, r1, r2⟩ := r.addr ob
  cases ec
  cases q : H b with
  | none => exact absurd q r2
  | some o => exact ⟨ex b o q (r.solid ob q), r1⟩
inductive IsTry : List Stmt → Prop
  | mk {k1 k2 k3 : Nat} {n1 : Str} {s1 : List Stmt} {p1 p2 p3 p4 p5 p6 p7 p8 p9 p10 p11 p12 p13 p14 p15 p16 p17 p18 p19 p20 p21 : Pos} : IsTry [.Assign [.Name "found" p1] (.Constant .none k1 p2) p3,
      .Try [.Assign [.Name "found" p4] (.Tuple [.Constant (.str "told") k2 p5, .Call (.Name "call_so" p6) [] [] p7] k3 p8) p9]
        [.ExceptHandler (some (.Name "TooMany" p10)) (some n1) s1 p11, .ExceptHandler (some (.Name "SignError" p12)) (some "e") [.Assign [.Name "found" p13] (.Call (.Name "_law_kin" p14) [.Name "e" p15] [] p16) p17] p18] [] [] p19,
      .Return (some (.Name "found" p20)) p21]
def tryN : List Str := ["call_so", "found", "e"]
def tryScB (sc : Scope) : Bool := (tryN.all fun x => decide (sc.names.lookup x = some .local)) && (["_law_kin", "TooMany", "SignError"] : List Str).all fun x => decide (sc.names.lookup x = some .globalImplicit)
structure TryM (K : PySem.W.Frag) (mg : Str → Option Value) (ca : Nat → Addr) (st : Stmt) (g : Addr) (kst : Stmt) (kg : Addr) (kscope : Scope) (sg : Addr) : Prop where
  fu : ∃ fd, Fun K "_law_try" "_law_try" st g fd
  m : mg "_law_try" = some (.ref g)
  sc : C8.scC tryN ["call_so"] (defScope st) = true
  ar : argsB (defArgs st) ["call_so"] = true
  gl : tryScB (defScope st) = true
  mt : mg "TooMany" = some (.ref (ca 13))
  ms : mg "SignError" = some (.ref sg)
  bd : IsTry (defBody st)
  kin : KinM K mg ca kst kg kscope
  kk : KinK K ca sg
section
variable {X : Cx} {tb : Tbs} {fa ca : Nat → Addr} {W : WX} {Φ : Fs} {k : Nat} {st kst : Stmt} {g kg sg : Addr} {kscope scope : Scope} {e : Ex}
theorem n_ltry {c P : Addr} {params : Arguments} {body : Expr} {p lp pos : Pos} (M : TryM X.K X.mg ca st g kst kg kscope sg) (hr : Room (k + 2) X.A) (hg : Gl X "_law_try")
    (TB : LamX.TabB X.base X.mg c P) (hcode : X.env.code = .ref c) (hmT : (P, X.env.qual ++ "<lambda>") ∈ tb) (hu : ∀ p ∈ tb, p.1 = P → p.2 = X.env.qual ++ "<lambda>") (L : LamX.LamS X.env.scope scope) (hdef : defaultsOf params X.env = ([], []))
    (hbind : ∀ (q : Str) (cl : List (Str × Addr)) (pm cv ctv : Value), bindArgs (PySem.W.kla_fn "<lambda>" q params body scope cl pm cv ctv) ⟨[], []⟩ = pure [])
    (hbody : ∀ (A : Around) (outer : List Env) (s : Shared) (H : Hp) (E : XK) (f d : Addr), Room k (A.deeper (LamX.lamEnv X scope s.heap.objs.size f d)) → PE (lamX X A outer s H E scope f d) body (tE (Wx X tb fa ca) (fun cls d _ H => E cls d H) (ev Φ kinD e))) :
    PEx X tb fa ca W Φ kinD (.Call (.Name "_law_try" p) [.Lambda params body scope lp] [] pos) (.ltry e) := by
  constructor
  rintro pins s σ H Q I ⟨Hf, sl, sr, q⟩
  obtain ⟨fd, F⟩ := M.fu
  have S := C8.fnScope_by M.sc
  have hb : L2.Binds X.K fd ["call_so"] [] := F.binds fun kV doc pm an cdv ct us hl => bind_plain M.ar rfl (by decide) hl
  have kp := F.kp
  obtain ⟨oc, od, kV, doc, pm, an, cdv, ct, osl, rfl, lk, hcd⟩ := F.ex
  have gl := M.gl
  unfold tryScB at gl
  simp only [Bool.and_eq_true] at gl
  have lo : ∀ x ∈ tryN, (defScope st).names.lookup x = some .local := fun x hx => of_decide_eq_true (List.all_eq_true.mp gl.1 x hx)
  have go : ∀ x ∈ (["_law_kin", "TooMany", "SignError"] : List Str), (defScope st).names.lookup x = some .globalImplicit := fun x hx => of_decide_eq_true (List.all_eq_true.mp gl.2 x hx)
  refine wpAny_Call_Name_kw (ld_glob I hg M.m ?_ (by decide))
  refine PySem.W.callWith_K (h₀ := X.base) I.ok.mod.kin kp ?_ (by rfl) (by rfl)
  show wpAny _ _ (spliced ((false, eval (.Lambda params body scope lp) X.env) :: backTo pos (starEach [] X.env))) _ _ s
  refine Calls.spliced_cons (lam_make3 I TB hcode hmT hu sr.tab hdef (L.has I.ok) fun f d pm' ctv H1 s' I1 G1 T1 hf hfn hfr hco => ?_)
  refine Calls.spliced_nil ⟨I1.kIn, ?_⟩
  obtain ⟨sr1, st1⟩ := sr.grown G1 T1
  have rc : codeAny (model X.prog X.w) X.A (.call (.ref g) ⟨[.ref f], []⟩) (CR C8.CX0 X.stack X.prog X.w H1 s' Q C8.E0) s' := by
    refine LamX.run_ofS (N := tryN) (ps := ["call_so"]) (us := [.ref f]) (vs := [.ref f]) lk hcd S hr I1.env0 (hb s' [.ref f] I1.kIn rfl) (.cons rfl .nil) rfl fun hr' => ?_
    have bd := M.bd
    generalize defBody st = bs at bd ⊢
    have nd : tryN.Nodup := by decide
    let Z : Cx := cxOf C8.CX0 X.prog X.w X.K X.mg X.base tryN "_law_try" (defScope st) g cdv X.A X.stack s' H1 C8.E0
    let TBf : WX → TS := fun W D σZ HZ => ∃ Ech : XK, σZ[0]? = some (some (.ref f)) ∧ HZ d = some (LamX.CodeO d (X.env.qual ++ "<lambda>")) ∧ (∀ cls d H', Ech cls d H' → W cls d σZ H') ∧
      tE (Wx X tb fa ca) (fun cls d _ H => Ech cls d H) (ev Φ kinD e) σ HZ (fun x H' => 2 ≤ sizeLine ∧ ∀ p, H' p = none → D.nx (σZ.set 1 (some (.ref p))) (upd H' p (.tup [.str "told", x])))
    let TSf : Addr → Value → Option Addr → TS := fun a cls dd D σZ HZ => ∃ c, c < 13 ∧ cls = .ref (ca c) ∧ dd = none ∧ tKin X.K tb ca fa c 2 a σZ HZ (fun x H' => D.nx (σZ.set 1 (some x)) H')
    have body_ : ∀ {k2 k3 : Nat} {q1 q2 q3 q4 q5 q6 : Pos} (W : WX) (pn : List (Addr × Obj)) (xe : Value → Shared → Prop), L2N.Takes (Z.tr pn xe) W → PassesOwn (model Z.prog Z.w) Z.A Z.env xe →
        PSs (Z.tr pn xe) [.Assign [.Name "found" q1] (.Tuple [.Constant (.str "told") k2 q2, .Call (.Name "call_so" q3) [] [] q4] k3 q5) q6] (TBf W) := by
      intro k2 k3 q1 q2 q3 q4 q5 q6 W' pn xe tk _
      refine ⟨fun pins s σ H D I2 h => ?_⟩
      obtain ⟨Ech, h1, h2, h3, h4⟩ := h
      have act := pe_actN (E := Ech) (tb := tE (Wx X tb fa ca) (fun cls d _ H => Ech cls d H) (ev Φ kinD e)) (p1 := q3) (p2 := q4) I1 L hf hfn hfr (hbind _ _ _ _ _) tk hr' (fun A outer s H hr2 => hbody A outer s H Ech f d hr2) (i := 0) (a := "call_so") rfl (.inl (lo _ (by decide)))
      have go2 := pss_one (ps_set (i := 1) (pos := q6) (pos' := q1) nd rfl (.inl (lo "found" (by decide))) (pe_tup (x1 := k3) (pos := q5) (pa_cons (pe_str (x := "told") (j := k2) (pos := q2)) (pa_cons act pa_nil rfl) rfl)) rfl (.inl rfl))
      exact go2.run pins s σ H D I2 ⟨h1, h2, h3, h4⟩
    have suite_ : ∀ {q1 q2 q3 q4 q5 : Pos} (a : Addr) (oe : Obj) (cls : Value) (dd : Option Addr) (pn : List (Addr × Obj)), L2N.Zn cls dd oe → (∃ vs, oe.data = .fields vs) →
        PSs (Z.suite a ((a, oe) :: pn)) [.Assign [.Name "found" q1] (.Call (.Name "_law_kin" q2) [.Name "e" q3] [] q4) q5] (TSf a cls dd) := by
      intro q1 q2 q3 q4 q5 a oe cls dd pn hz hfl
      refine ⟨fun pins s σ H D I2 h => ?_⟩
      obtain ⟨c, hc, rfl, rfl, h⟩ := h
      obtain ⟨vs, hvs⟩ := hfl
      have pk := pe_kin (X := Z.suite a ((a, oe) :: pn)) (tb := tb) (fa := fa) (k := k) (p := (a, oe)) (i := 2) (q1 := q2) (q2 := q3) (q3 := q4) M.kin M.kk hc ⟨hr'.dp, hr'.un⟩ ⟨rfl, vs, hvs, hz.2.2 vs hvs⟩ List.mem_cons_self hz.zc ⟨vs, hvs⟩ (go _ (by simp)) (pe_var rfl (.inl (lo _ (by decide))) (by decide) (by decide))
      have go2 := pss_one (ps_set (i := 1) (pos := q5) (pos' := q1) nd rfl (.inl (lo "found" (by decide))) pk rfl (.inl rfl))
      exact go2.run pins s σ H D I2 h
    have vf : ∀ {q : Pos}, PE Z (.Name "found" q) (tVar 1) := pe_var rfl (.inl (lo _ (by decide))) (by decide) (by decide)
    cases bd with
    | mk =>
      refine ⟨_, pss_cons (ps_set (X := Z) (i := 1) nd rfl (.inl (lo "found" (by decide))) pe_non rfl (.inl rfl))
        (pss_cons (ps_try_as2 (X := Z) (c1 := .ref (ca 13)) (c2 := .ref sg) (i := 2) (tb := TBf) (ts := TSf) rfl rfl nd rfl (lo _ (by decide)) ⟨go _ (by simp), by decide, .inl M.mt⟩ ⟨go _ (by simp), by decide, .inl M.ms⟩ body_ suite_) (pss_one (ps_ret vf))), ?_⟩
      refine ⟨fun cls dd H' => ∃ c, c < 13 ∧ cls = .ref (ca c) ∧ dd = none ∧ ∃ Hf, Same Hf H' ∧ LamX.Tabs tb H' ∧ (∀ a o, Hf a = some o → Solid o) ∧ ∀ Hf2 H2, Fin (Wx X tb fa ca) Hf H' none [] Hf2 H2 → Q (.str (kinW c)) H2, rfl, hco, ?_, ?_⟩
      · rintro cls dd H' ⟨c, hc, rfl, rfl, Hf1, b1, b2, b3, b4⟩
        refine ⟨M.kk.many c hc, M.kk.sub c hc, fun a na => ⟨c, hc, rfl, rfl, rfl, Hf1, b1, b2, b3, fun Hf2 H2 fin => ?_⟩⟩
        exact ⟨.str (kinW c), rfl, b4 Hf2 H2 fin⟩
      · refine tD_tE ⟨Hf, sl, sr1, ?_⟩
        unfold ev at q
        unfold PostD
        cases er : ev Φ kinD e sl with
        | bad =>
          rw [er] at q
          exact q
        | ok v s2 =>
          rw [er] at q
          unfold tryRes at q
          dsimp only at q ⊢
          cases ey : v.toD with
          | none =>
            rw [ey] at q
            exact q
          | some y =>
            rw [ey] at q
            dsimp only at q ⊢
            intro x Hf' H' st' sr' r
            refine ⟨by rw [sizeLine_eq]; omega, fun p hp => ⟨.ref p, rfl, ?_⟩⟩
            obtain ⟨sr2, st2⟩ := sr'.newF (o := .tup [.str "told", x]) hp so_tup
            exact (q.after st1).okD (st'.trans st2) sr2 (.tup upd_same (.cons (.str _) (.cons (Dp.mono st2.frz r) .nil)))
        | exc z s2 =>
          rw [er] at q
          unfold tryRes at q
          dsimp only at q ⊢
          split at q
          · rename_i hz
            intro Hf' H' st' sr'
            unfold excW
            rw [hz.1]
            refine ⟨z.cls, hz.2, rfl, rfl, Hf', sr'.sub, sr'.tab, sr'.ntb, fun Hf2 H2 fin => ?_⟩
            obtain ⟨sr2, st2⟩ := fin.stp sr'
            exact (q.after st1).okD (st'.trans st2) sr2 (.str _)
          · exact q.elim
  refine wpAny_call (codeAny_mono rc fun r s2 hq => ?_)
  cases r with
  | error e => exact (show False from hq).elim
  | ok fl =>
    cases fl with
    | ret u => exact I1.after hq
    | next => exact False.elim hq
    | brk => exact False.elim hq
    | cont => exact False.elim hq
end
end Ir

set_option Elab.async false
set_option linter.all false
set_option maxRecDepth 100000
set_option maxHeartbeats 4000000
/-! sorted(set(xs)). -/
namespace Ir
open PySem PySem.Spec PyProof.Rows L2
theorem mem_dedupT {x : List Int} : ∀ {l : List (List Int)}, x ∈ dedupT l ↔ x ∈ l
  | [] => Iff.rfl
  | y :: r => by
    unfold dedupT
    by_cases h : r.elem y = true
    · rw [if_pos h, mem_dedupT, List.mem_cons]
      have := List.elem_iff.mp h
      exact ⟨.inr, fun z => z.elim (fun e => by rw [e]; exact this) id⟩
    · rw [if_neg h, List.mem_cons, List.mem_cons, mem_dedupT]
theorem nodup_dedupT : ∀ {l : List (List Int)}, (dedupT l).Nodup
  | [] => List.Pairwise.nil
  | y :: r => by
    unfold dedupT
    by_cases h : r.elem y = true
    · rw [if_pos h]; exact nodup_dedupT
    · rw [if_neg h]
      exact List.nodup_cons.mpr ⟨fun z => h (List.elem_iff.mpr (mem_dedupT.mp z)), nodup_dedupT⟩
theorem pair_of {t : List Int} (h : t.length = 2) : ∃ x y, t = [x, y] := by
  match t, h with
  | [x, y], _ => exact ⟨x, y, rfl⟩
/-- the code keeps the tuples' order, for pairs of small numbers -/
theorem code_le {a b : List Int} (ha : a.length = 2 ∧ TS.Bd 64 a) (hb : b.length = 2 ∧ TS.Bd 64 b) (h : TS.code 64 a ≤ TS.code 64 b) : a ≤ b := by
  obtain ⟨x, y, rfl⟩ := pair_of ha.1
  obtain ⟨x', y', rfl⟩ := pair_of hb.1
  have b1 := ha.2 x (by simp)
  have b2 := ha.2 y (by simp)
  have b3 := hb.2 x' (by simp)
  have b4 := hb.2 y' (by simp)
  rw [code_pair, code_pair] at h
  rw [← lexLe_iff]
  unfold lexLe
  rw [Bool.not_eq_true']
  unfold lexLt
  by_cases e : x' = x
  · rw [if_pos e]
    unfold lexLt
    by_cases e2 : y' = y
    · rw [if_pos e2]; rfl
    · rw [if_neg e2]; exact decide_eq_false (by omega)
  · rw [if_neg e]; exact decide_eq_false (by omega)
theorem sset_arg {v : Val} : ∀ {ds : List D}, Ir.bfn .sortedSet ds = some v → ∃ xs, ds = [.list xs]
  | [.list xs], _ => ⟨xs, rfl⟩
  | [], h => nomatch (show (none : Option Val) = some v from h)
  | [.none], h => nomatch (show (none : Option Val) = some v from h)
  | [.bool _], h => nomatch (show (none : Option Val) = some v from h)
  | [.int _], h => nomatch (show (none : Option Val) = some v from h)
  | [.str _], h => nomatch (show (none : Option Val) = some v from h)
  | [.tuple _], h => nomatch (show (none : Option Val) = some v from h)
  | [.dict _], h => nomatch (show (none : Option Val) = some v from h)
  | a :: b :: r, h => by
    have : Ir.bfn .sortedSet (a :: b :: r) = none := by cases a <;> rfl
    rw [this] at h
    cases h
section
variable {X : Cx} {tb : Tbs} {fa ca : Nat → Addr} {W : WX} {Φ : Fs} {kin : Exn → D} {pos : Pos} {ea : Expr} {a : Ex}
theorem n_sortedSet (hc : X.calm = true) (hu : X.A.units + 65 < cLine) {f g : Str} {p q : Pos} {pos2 : Pos} (hf : Blt X f (.builtin "sorted")) (hg : Blt X g (.type "set")) (h : PAx X tb fa ca W Φ kin [ea] a)
    (hp2 : Plain X ea [] pos2) (hp : Plain X (.Call (.Name g q) [ea] [] pos2) [] pos) :
    PEx X tb fa ca W Φ kin (.Call (.Name f p) [.Call (.Name g q) [ea] [] pos2] [] pos) (.bi .sortedSet a) := by
  refine PE_imp (n_biB (cr_sortedT hc) hf (.inl ⟨_, rfl⟩) (pa_cons (n_biB (cr_setOfT hc (by omega)) hg (.inr ⟨_, rfl⟩) h hp2) pa_nil hp.he) hp) fun σ H Q ⟨Hf, s, sr, q⟩ => ?_
  unfold ev at q
  refine bindA sr q fun xs ds s1 Hf1 H1 st1 sr1 r1 q1 => ?_
  obtain ⟨v, e, q1⟩ := optV_post q1
  have hx : ∃ xs, ds = [.list xs] := sset_arg e
  obtain ⟨xs, rfl⟩ := hx
  obtain ⟨x, rfl, rx⟩ := all1 r1
  have e : (match tupsOf xs with
    | some a => if a.length < 64 ∧ a.all (fun t => t.length == 2 && t.all fun z => decide (0 ≤ z) && decide (z < 64)) = true then some (.own (ofTups (sortT (dedupT a)))) else none
    | none => none) = some v := e
  obtain ⟨l, vs, rfl, hl, hvs⟩ := dp_lst rx
  cases et : tupsOf xs with
  | none => rw [et] at e; cases e
  | some ts =>
    rw [et] at e
    dsimp only at e
    split at e
    · rename_i hh
      cases e
      obtain ⟨bs, g1, g2, g3⟩ := tups_dp et hvs
      have hall : ∀ t ∈ ts, t.length = 2 ∧ TS.Bd 64 t := fun t ht => by
        have := List.all_eq_true.mp hh.2 t ht
        simp only [Bool.and_eq_true, beq_iff_eq, List.all_eq_true, decide_eq_true_eq] at this
        exact this
      -- the addresses
      have hks : ∃ ks : List (Addr × List Int), ks.map (fun p => V.ref p.1) = vs ∧ ks.map (·.2) = ts ∧ ∀ p ∈ ks, Hf1 p.1 = some (.tup (p.2.map V.int)) := by
        rw [← g1, ← g2]
        clear g1 g2 hvs hl hall et
        induction bs with
        | nil => exact ⟨[], rfl, rfl, fun p hp => nomatch hp⟩
        | cons b bs ih =>
          obtain ⟨ks, k1, k2, k3⟩ := ih fun c hc => g3 c (List.mem_cons_of_mem _ hc)
          obtain ⟨t, et, ht⟩ := g3 b List.mem_cons_self
          refine ⟨(t, b.2) :: ks, by rw [List.map_cons, List.map_cons, k1, et], by rw [List.map_cons, List.map_cons, k2], fun p hp => ?_⟩
          rcases List.mem_cons.mp hp with z | z
          · subst z; exact ht
          · exact k3 p z
      obtain ⟨ks, k1, k2, k3⟩ := hks
      have hlen : ks.length = ts.length := by rw [← k2, List.length_map]
      refine ⟨l, ks, rfl, by rw [k1]; exact rdS sr1.sub hl, fun p hp => .of (sr1.sub _ _ (k3 p hp)), by omega, fun a2 L hna hL1 hL2 => ?_⟩
      have sub2 : Same Hf1 (upd H1 a2 (SetTO X.prog X.w a2 L)) := fun b o eb => by rw [upd_ne (ne_of_none (sr1.sub _ _ eb) hna)]; exact sr1.sub _ _ eb
      refine ⟨a2, L, 2, 64, rfl, upd_same, fun p hp => .of (sub2 _ _ (k3 p (hL1 p hp))), by decide, fun p hp => hall _ (by rw [← k2]; exact List.mem_map_of_mem (hL1 p hp)), fun L' pp hpm hnd hlt hpw hnp => ?_⟩
      have hLts : ∀ t, t ∈ L.map (·.2) ↔ t ∈ ts := fun t => by
        constructor
        · intro ht
          obtain ⟨p, hp, rfl⟩ := List.mem_map.mp ht
          rw [← k2]
          exact List.mem_map_of_mem (hL1 p hp)
        · intro ht
          rw [← k2] at ht
          obtain ⟨p, hp, rfl⟩ := List.mem_map.mp ht
          exact hL2 p hp
      have es : L'.map (·.2) = sortT (dedupT ts) := by
        refine sorted_oneT ?_ ?_ (sortT_sorted _)
        · refine List.Perm.trans ?_ (sortT_perm _).symm
          refine (List.perm_ext_iff_of_nodup hnd nodup_dedupT).mpr fun t => ?_
          rw [mem_dedupT, ← hLts t]
          exact (hpm.map (·.2)).mem_iff
        · rw [List.pairwise_map]
          refine List.Pairwise.imp_of_mem (fun {p q} hp hq hh => ?_) hpw
          have m : ∀ p ∈ L', p.2.length = 2 ∧ TS.Bd 64 p.2 := fun p hp => hall _ ((hLts _).mp (List.mem_map_of_mem (hpm.mem_iff.mp hp)))
          exact code_le (m p hp) (m q hq) hh
      obtain ⟨sr2, st2⟩ := sr1.newO (o := SetTO X.prog X.w a2 L) hna
      refine newR_post sr2 (q1.after st2) ⟨pp, _, hnp, rfl, rfl, ?_⟩
      rw [← es]
      have := all_tups (K := X.K) (H := Hf1) (cs := L'.map fun p => (V.ref p.1, p.2)) fun b hb => by
        obtain ⟨p, hp, rfl⟩ := List.mem_map.mp hb
        exact ⟨p.1, rfl, k3 p (hL1 p (hpm.mem_iff.mp hp))⟩
      rw [List.map_map, List.map_map] at this
      exact this
    · cases e
end
end Ir

set_option Elab.async false
set_option linter.all false
set_option maxRecDepth 100000
set_option maxHeartbeats 8000000
/-! The checker: the IR beside the syntax. -/
namespace Ir
open PySem PySem.Spec PyProof.Rows L2

/-- what is known of the module's names: the defs, which of them borrow, the classes, the ints -/
structure Tab where
  names : Nat → Option Str
  ios : Nat → Option Bool
  cls : List Str
  con : List (Str × Int)
  tr : Bool := false
/-- where no lambda is made -/
abbrev Tab.low (T : Tab) : Tab := { T with tr := false }
def noPar (a : Arguments) : Bool := a.posonlyargs.isEmpty && a.args.isEmpty && a.vararg.isNone && a.kwonlyargs.isEmpty && a.kw_defaults.isEmpty && a.kwarg.isNone && a.defaults.isEmpty
def bltNames : List Str := ["len", "all", "any", "min", "max", "sum", "sorted", "list", "tuple", "int", "str", "set", "isinstance", "range", "zip", "enumerate", "bool", "dict"]
inductive Md where
  | e (x : Expr)
  | t (x : Expr)
  | w (x : Expr)
  | a (xs : List Expr)
  | p (ks : List (Option Expr)) (vs : List Expr)
  | i (tg x : Expr)
def Md.val : Md → Option Expr
  | .e x => some x
  | .t x => if valT x then some x else none
  | _ => none
def visB (sc : Scope) (x : Str) : Bool := match sc.names.lookup x with
  | some .local => true
  | some .cell => true
  | some .free => true
  | _ => false
def locB (fl : Bool) (sc : Scope) (x : Str) : Bool := match sc.names.lookup x with
  | some .local => true
  | some .cell => fl
  | _ => false
def glB (sc : Scope) (x : Str) : Bool := match sc.names.lookup x with
  | some .globalImplicit => true
  | _ => false
def vB (N : List Str) (sc : Scope) (x : Str) (i : Nat) : Bool := decide (N[i]? = some x) && visB sc x
def fB (T : Tab) (sc : Scope) (x : Str) (f : Nat) (io : Bool) : Bool := decide (T.names f = some x) && decide (T.ios f = some io) && glB sc x
def bB (sc : Scope) (x f : Str) : Bool := decide (x = f) && glB sc x
def cstB : D → Const → Bool
  | .none, .none => true
  | .bool b, .bool c => b == c
  | .int i, .int j => decide (i = j)
  | .str x, .str y => decide (x = y)
  | _, _ => false
def bifN : Bif → Str
  | .len => "len" | .all => "all" | .any => "any" | .min1 => "min" | .max1 => "max" | .min2 => "min" | .max2 => "max" | .sum => "sum" | .sorted => "sorted" | .list => "list" | .tuple => "tuple" | .int => "int" | .str => "str" | .sortedSet => "sorted"
/-- the built-ins whose rule is whole -/
def bifOk : Bif → Bool
  | .sortedSet => false
  | _ => true
def tyS : Ty → Str
  | .int => "int" | .bool => "bool" | .str => "str" | .tuple => "tuple" | .list => "list" | .tuplist => "tuple"
def isTL : Ty → Bool
  | .tuplist => true
  | _ => false
def tgB (N : List Str) (fl : Bool) (sc : Scope) : Tg → Sum Expr (List Expr) → Bool
  | .nm i, .inl (.Name x _) => decide (N[i]? = some x) && locB fl sc x
  | .tup a, .inl (.Tuple es _ _) => es.all nst && tgChain a && decide (es.length = tgLen a) && tgB N fl sc a (.inr es)
  | .nil, .inr [] => true
  | .cons a b, .inr (e :: es) => nst e && tgB N fl sc a (.inl e) && tgB N fl sc b (.inr es)
  | _, _ => false
def isNil : Ex → Bool
  | .nil => true
  | _ => false
def isYes : Ex → Bool
  | .cst (.bool true) => true
  | _ => false
def isTup : Expr → Bool
  | .Tuple _ _ _ => true
  | _ => false
def ownP (N : List Str) (own : List Nat) : List (Str × Nat) := own.filterMap fun j => (N[j]?).map fun x => (x, j)
def nxE (op : BoolOp) (y : Expr) (r : List Expr) (p : Pos) : Md := match r with
  | [] => .e y
  | _ => .e (.BoolOp op (y :: r) p)
def nxT (op : BoolOp) (y : Expr) (r : List Expr) (p : Pos) : Md := match r with
  | [] => .t y
  | _ => .w (.BoolOp op (y :: r) p)
section
def chk : Tab → List Str → Ex → Scope → Md → Bool
  | T, N, .var i, sc, m => match m.val with
    | some (.Name x _) => vB N sc x i
    | _ => false
  | T, N, .take i, sc, m => match m.val with
    | some (.Name x _) => vB N sc x i
    | _ => false
  | T, N, .cst c, sc, m => match m.val with
    | some (.Constant k _ _) => cstB c k
    | _ => false
  | T, N, .glob x c, sc, m => match m.val with
    | some (.Name y _) => decide (x = y) && glB sc x && T.con.any (fun p => decide (p.1 = x) && decide (p.2 = c))
    | _ => false
  | T, N, .nil, _, m => match m with
    | .a [] => true
    | .p [] [] => true
    | _ => false
  | T, N, .cons a b, sc, m => match m with
    | .a (x :: xs) => nst x && chk T N a sc (.e x) && chk T N b sc (.a xs)
    | _ => false
  | T, N, .pair k v b, sc, m => match m with
    | .p (some x :: ks) (y :: vs) => chk T N k sc (.e x) && chk T N v sc (.e y) && chk T N b sc (.p ks vs)
    | _ => false
  | T, N, .tup a, sc, m => match m.val with
    | some (.Tuple es _ _) => chk T N a sc (.a es)
    | _ => false
  | T, N, .lst a, sc, m => match m.val with
    | some (.List es _) => chk T N a sc (.a es)
    | _ => false
  | T, N, .bin o a b, sc, m => match m.val with
    | some (.BinOp l op r _) => decide (op = bopO o) && chk T N a sc (.e l) && chk T N b sc (.e r)
    | _ => false
  | T, N, .neg a, sc, m => match m.val with
    | some (.UnaryOp .USub x _) => chk T N a sc (.e x)
    | _ => false
  | T, N, .and a b, sc, m => match m with
    | .e (.BoolOp .And (x :: y :: r) p) => chk T N a sc (.e x) && chk T N b sc (nxE .And y r p)
    | .t (.BoolOp .And (x :: y :: r) p) => chk T N a sc (.t x) && chk T N b sc (nxT .And y r p)
    | .w (.BoolOp .And (x :: y :: r) p) => chk T N a sc (.t x) && chk T N b sc (nxT .And y r p)
    | _ => false
  | T, N, .or a b, sc, m => match m with
    | .e (.BoolOp .Or (x :: y :: r) p) => chk T N a sc (.e x) && chk T N b sc (nxE .Or y r p)
    | .t (.BoolOp .Or (x :: y :: r) p) => chk T N a sc (.t x) && chk T N b sc (nxT .Or y r p)
    | .w (.BoolOp .Or (x :: y :: r) p) => chk T N a sc (.t x) && chk T N b sc (nxT .Or y r p)
    | _ => false
  | T, N, .not a, sc, m => match m with
    | .e (.UnaryOp .Not x _) => chk T N a sc (.e x)
    | .t (.UnaryOp .Not x _) => chk T N a sc (.t x)
    | _ => false
  | T, N, .cmp o a b, sc, m => match m with
    | .e (.Compare x [op] [y] _) => decide (op = copO o) && nset y && chk T N a sc (.e x) && chk T N b sc (.e y)
    | .t (.Compare x [op] [y] _) => decide (op = copO o) && nset y && chk T N a sc (.e x) && chk T N b sc (.e y)
    | _ => false
  | T, N, .cmpS o i b, sc, m => match m with
    | .e (.Compare (.Name x _) [op] [y] _) => decide (op = copO o) && nset y && vB N sc x i && chk T N b sc (.e y)
    | .t (.Compare (.Name x _) [op] [y] _) => decide (op = copO o) && nset y && vB N sc x i && chk T N b sc (.e y)
    | _ => false
  | T, N, .inS n a i, sc, m => match m with
    | .e (.Compare y [op] [.Name x _] _) => decide (op = if n then .NotIn else .In) && vB N sc x i && chk T N a sc (.e y)
    | .t (.Compare y [op] [.Name x _] _) => decide (op = if n then .NotIn else .In) && vB N sc x i && chk T N a sc (.e y)
    | _ => false
  | T, N, .chain o o' a b c, sc, m => match m with
    | .e (.Compare x [op, op'] [y, z] _) => decide (op = copO o) && decide (op' = copO o') && nset y && nset z && chk T N a sc (.e x) && chk T N b sc (.e y) && chk T N c sc (.e z)
    | .t (.Compare x [op, op'] [y, z] _) => decide (op = copO o) && decide (op' = copO o') && nset y && nset z && chk T N a sc (.e x) && chk T N b sc (.e y) && chk T N c sc (.e z)
    | _ => false
  | T, N, .ife c a b, sc, m => match m with
    | .e (.IfExp z x y _) => chk T N c sc (.t z) && chk T N a sc (.e x) && chk T N b sc (.e y)
    | _ => false
  | T, N, .call f a, sc, m => match m.val with
    | some (.Call (.Name x _) es [] _) => fB T sc x f false && es.all nst && (match es with
      | [] => isNil a
      | es => chk T N a sc (.a es))
    | _ => false
  | T, N, .io f i a, sc, m => match m.val with
    | some (.Call (.Name y _) (.Name x _ :: es) [] _) => fB T sc y f true && vB N sc x i && es.all nst && chk T N a sc (.a es)
    | _ => false
  | T, N, .callV i fs a, sc, m => match m.val with
    | some (.Call (.Name x _) (e :: es) [] _) => vB N sc x i && fs.all (fun f => decide (T.ios f = some false)) && (e :: es).all nst && chk T N a sc (.a (e :: es))
    | _ => false
  | T, N, .bi bf a, sc, m => match bf with
    | .sortedSet => match m.val with
      | some (.Call (.Name x _) [.Call (.Name y _) [e] [] _] [] _) => bB sc x "sorted" && bB sc y "set" && nst e && chk T N a sc (.a [e])
      | _ => false
    | bf => match m.val with
      | some (.Call (.Name x _) (e :: es) [] _) => bB sc x (bifN bf) && bifOk bf && (e :: es).all nst && chk T N a sc (.a (e :: es))
      | _ => false
  | T, N, .lenS i, sc, m => match m.val with
    | some (.Call (.Name f _) [.Name x _] [] _) => bB sc f "len" && vB N sc x i
    | _ => false
  | T, N, .isi t a, sc, m => match m.val with
    | some (.Call (.Name f _) [x, .Name y _] [] _) => decide (f = "isinstance") && glB sc "isinstance" && bB sc y (tyS t) && !isTL t && nst x && chk T N a sc (.e x)
    | some (.Call (.Name f _) [x, .Tuple [.Name y _, .Name z _] _ _] [] _) => decide (f = "isinstance") && glB sc "isinstance" && bB sc y "tuple" && bB sc z "list" && isTL t && nst x && chk T N a sc (.e x)
    | _ => false
  | T, N, .ix a b, sc, m => match m.val with
    | some (.Subscript x y _) => nslice y && chk T N a sc (.e x) && chk T N b sc (.e y)
    | _ => false
  | T, N, .ixS i b, sc, m => match m.val with
    | some (.Subscript (.Name x _) y _) => vB N sc x i && nslice y && chk T N b sc (.e y)
    | _ => false
  | T, N, .sl a lo hi, sc, m => match m.val with
    | some (.Subscript x (.Slice (some y) (some z) none _) _) => chk T N a sc (.e x) && chk T N lo sc (.e y) && chk T N hi sc (.e z)
    | _ => false
  | T, N, .slL a lo, sc, m => match m.val with
    | some (.Subscript x (.Slice (some y) none none _) _) => chk T N a sc (.e x) && chk T N lo sc (.e y)
    | _ => false
  | T, N, .slH a hi, sc, m => match m.val with
    | some (.Subscript x (.Slice none (some z) none _) _) => chk T N a sc (.e x) && chk T N hi sc (.e z)
    | _ => false
  | T, N, .rev a, sc, m => match m.val with
    | some (.Subscript x (.Slice none none (some (.UnaryOp .USub (.Constant (.int i) _ _) _)) _) _) => decide (i = 1) && chk T N a sc (.e x)
    | _ => false
  | T, N, .getS i k d, sc, m => match m.val with
    | some (.Call (.Attribute (.Name x _) mt ap) [y, z] [] p) => decide (mt = "get") && vB N sc x i && nst y && nst z && (ap.endLine == p.line) && chk T N k sc (.e y) && chk T N d sc (.e z)
    | _ => false
  | T, N, .pop0 i, sc, m => match m.val with
    | some (.Call (.Attribute (.Name x _) mt ap) [.Constant (.int k) _ _] [] p) => decide (mt = "pop") && decide (k = 0) && vB N sc x i && (ap.endLine == p.line)
    | _ => false
  | T, N, .dnk, _, m => match m.val with
    | some (.Dict [] [] _) => true
    | _ => false
  | T, N, .dnt, _, m => match m.val with
    | some (.Dict [] [] _) => true
    | _ => false
  | T, N, .disp a, sc, m => match m.val with
    | some (.Dict (k :: ks) vs _) => (k :: ks).all (·.isSome) && decide ((k :: ks).length = vs.length) && decide ((k :: ks).length ≤ 15) && chk T N a sc (.p (k :: ks) vs)
    | _ => false
  | T, N, .join z b, sc, m => match m.val with
    | some (.Call (.Attribute (.Constant (.str y) _ _) mt ap) [x] [] p) => decide (mt = "join") && decide (y = z) && nst x && (ap.endLine == p.line) && chk T N b sc (.e x)
    | _ => false
  | T, N, .split a c, sc, m => match m.val with
    | some (.Call (.Attribute x mt ap) [.Constant (.str y) _ _] [] p) => decide (mt = "split") && decide (y = c) && baseOk x && (ap.endLine == p.line) && chk T N a sc (.e x)
    | _ => false
  | T, N, .comp e t it c own, sc, m => match m.val with
    | some (.ListComp elt [g] scope _) => decide (g.is_async = 0) && decide ((ownP N own).map (·.2) = own) && blkC N sc scope (ownP N own) && tgB N false (relS scope sc) t (.inl g.target) &&
      (tgSlots t).all (fun j => decide (j ∈ own)) && nset g.iter && chk T N it sc (.i g.target g.iter) && chk T.low N e (relS scope sc) (.e elt) && (match g.ifs with
        | [] => isYes c
        | [x] => chk T.low N c (relS scope sc) (.t x)
        | _ => false)
    | _ => false
  | T, N, .itSeq a, sc, m => match m with
    | .i _ x => chk T N a sc (.e x)
    | _ => false
  | T, N, .itRng1 a, sc, m => match m with
    | .i _ (.Call (.Name f _) [x] [] _) => bB sc f "range" && nst x && chk T N a sc (.e x)
    | _ => false
  | T, N, .itRng a b, sc, m => match m with
    | .i _ (.Call (.Name f _) [x, y] [] _) => bB sc f "range" && nst x && nst y && chk T N a sc (.e x) && chk T N b sc (.e y)
    | _ => false
  | T, N, .itDown a b, sc, m => match m with
    | .i _ (.Call (.Name f _) [x, y, .UnaryOp .USub (.Constant (.int k) _ _) _] [] _) => bB sc f "range" && decide (k = 1) && nst x && nst y && chk T N a sc (.e x) && chk T N b sc (.e y)
    | _ => false
  | T, N, .itZip a b, sc, m => match m with
    | .i tg (.Call (.Name f _) [x, y] [] _) => isTup tg && bB sc f "zip" && nst x && nst y && chk T N a sc (.e x) && chk T N b sc (.e y)
    | _ => false
  | T, N, .itZip3 a b c, sc, m => match m with
    | .i tg (.Call (.Name f _) [x, y, z] [] _) => isTup tg && bB sc f "zip" && nst x && nst y && nst z && chk T N a sc (.e x) && chk T N b sc (.e y) && chk T N c sc (.e z)
    | _ => false
  | T, N, .itEnum a, sc, m => match m with
    | .i tg (.Call (.Name f _) [x] [] _) => isTup tg && bB sc f "enumerate" && nst x && chk T N a sc (.e x)
    | _ => false
  | T, N, .ltry e, sc, m => match m.val with
    | some (.Call (.Name f _) [.Lambda params body scope _] [] _) => T.tr && decide (f = "_law_try") && glB sc "_law_try" && LamX.lamSB sc scope && noPar params && chk T.low N e scope (.e body)
    | _ => false
  | T, N, .sortedKeys i, sc, m => match m.val with
    | some (.Call (.Name f _) [.Name x _] [] _) => bB sc f "sorted" && vB N sc x i
    | _ => false
  | _, _, _, _, _ => false
end
end Ir

set_option Elab.async false
set_option linter.all false
set_option maxRecDepth 100000
set_option maxHeartbeats 8000000
/-! What a context must give; names. -/
namespace Ir
open PySem PySem.Spec PyProof.Rows L2
structure ClI (X : Cx) (ca : Nat → Addr) (x : Str) (c : Nat) : Prop where
  m : X.mg x = some (.ref (ca c))
  k : PySem.W.keepIn X.K (.ref (ca c)) = true
  r : Raises X (.ref (ca c))
  d : (x == ("__debug__" : Str)) = false
  e : ∃ B newId initId bmB, ExcBaseFacts B newId initId bmB ∧ PySem.W.excIn X.K (ca c) bmB newId = true
structure GoodX (T : Tab) (N : List Str) (X : Cx) (tb : Tbs) (fa ca : Nat → Addr) (W : WX) (Φ : Fs) (kin : Exn → D) (k : Nat) (fl : Bool) (sc : Scope) : Prop where
  eSc : X.env.scope = sc
  eN : X.N = N
  nd : X.N.Nodup
  nm : ∀ x ∈ N, (x == ("__debug__" : Str)) = false ∧ (x == ("__classdict__" : Str)) = false
  kind : sc.kind = .function
  calm : X.calm = true
  room : Room k X.A
  room2 : T.tr = true → Room (k + 2) X.A
  kq : T.tr = true → kin = kinD
  lm : T.tr = true → ∃ st g kst kg kscope sg c P, TryM X.K X.mg ca st g kst kg kscope sg ∧ LamX.TabB X.base X.mg c P ∧ X.env.code = .ref c ∧ (P, X.env.qual ++ "<lambda>") ∈ tb ∧ ∀ p ∈ tb, p.1 = P → p.2 = X.env.qual ++ "<lambda>"
  tk : L2N.Takes X W
  blt : ∀ x ∈ bltNames, X.mg x = none
  nmd : ∀ f x, T.names f = some x → X.mg x = some (.ref (fa f)) ∧ (x == ("__debug__" : Str)) = false
  fok : ∀ f io, T.ios f = some io → Fok X tb fa ca k io (Φ f) f
  con : ∀ p ∈ T.con, (∃ u, X.mg p.1 = some u ∧ RelV (.int p.2) u) ∧ (p.1 == ("__debug__" : Str)) = false
  cls : ∀ c x, T.cls[c]? = some x → ClI X ca x c
  fn : fl = true → ∀ x, X.fn x = true
section
variable {T : Tab} {N : List Str} {X : Cx} {tb : Tbs} {fa ca : Nat → Addr} {W : WX} {Φ : Fs} {kin : Exn → D} {k : Nat} {fl : Bool} {sc : Scope}
theorem visB_of {x : Str} (h : visB sc x = true) : Vis sc x := by
  unfold visB at h
  split at h
  · exact .inl (by assumption)
  · exact .inr (.inl (by assumption))
  · exact .inr (.inr (by assumption))
  · cases h
theorem locB_of {x : Str} (h : locB fl sc x = true) : Loc sc x ∧ (fl = true ∨ sc.names.lookup x = some .local) := by
  unfold locB at h
  split at h
  · exact ⟨.inl (by assumption), .inr (by assumption)⟩
  · exact ⟨.inr (by assumption), .inl h⟩
  · cases h
theorem GoodX.gl (G : GoodX T N X tb fa ca W Φ kin k fl sc) {x : Str} (h : glB sc x = true) : Gl X x := by
  unfold glB at h
  split at h
  · show X.env.scope.names.lookup x = _
    rw [G.eSc]
    assumption
  · cases h
theorem GoodX.var (G : GoodX T N X tb fa ca W Φ kin k fl sc) {x : Str} {i : Nat} (h : vB N sc x i = true) (pos : Pos) : PE X (.Name x pos) (tVar i) := by
  unfold vB at h
  simp only [Bool.and_eq_true, decide_eq_true_eq] at h
  have hm := G.nm x (List.mem_of_getElem? h.1)
  exact pe_var (by rw [G.eN]; exact h.1) (by rw [G.eSc]; exact visB_of h.2) hm.1 hm.2
theorem GoodX.nmf (G : GoodX T N X tb fa ca W Φ kin k fl sc) {x : Str} {f : Nat} {io : Bool} (h : fB T sc x f io = true) : Nm X fa x f ∧ Fok X tb fa ca k io (Φ f) f := by
  unfold fB at h
  simp only [Bool.and_eq_true, decide_eq_true_eq] at h
  obtain ⟨⟨h1, h2⟩, h3⟩ := h
  obtain ⟨m, d⟩ := G.nmd f x h1
  exact ⟨⟨G.gl h3, m, d⟩, G.fok f io h2⟩
theorem GoodX.mNone (G : GoodX T N X tb fa ca W Φ kin k fl sc) {x f : Str} (hb : f ∈ bltNames) (h : bB sc x f = true) : x = f ∧ Gl X f ∧ X.mg f = none := by
  unfold bB at h
  simp only [Bool.and_eq_true, decide_eq_true_eq] at h
  obtain ⟨rfl, h2⟩ := h
  exact ⟨rfl, G.gl h2, G.blt _ hb⟩
theorem GoodX.units (G : GoodX T N X tb fa ca W Φ kin k fl sc) : X.A.units + 65 < cLine := by
  have := G.room.un
  omega
theorem GoodX.units1 (G : GoodX T N X tb fa ca W Φ kin k fl sc) : X.A.units + 1 < cLine := by
  have := G.room.un
  omega
/-- in a comprehension's block -/
theorem GoodX.blk (G : GoodX T N X tb fa ca W Φ kin k fl sc) {scope : Scope} {own : List (Str × Nat)} (ok : BlkOk N sc scope own) (s : Shared) (H : Hp) (C : Addr) (cl : List (Str × Addr)) (fp : List Addr) :
    GoodX T.low N (X.blk s H scope (compEnvC scope cl C X.env) fp) tb fa ca W0 Φ kin k false (relS scope sc) where
  eSc := by
    show relS scope X.env.scope = _
    rw [G.eSc]
  eN := G.eN
  nd := G.nd
  nm := G.nm
  kind := ok.kind
  calm := G.calm
  room := G.room
  room2 := fun h => nomatch h
  kq := fun h => nomatch h
  lm := fun h => nomatch h
  tk := takesN0
  blt := G.blt
  nmd := G.nmd
  fok := fun f io h => by
    obtain ⟨⟨fd, ps, h1, h2⟩, h3⟩ := G.fok f io h
    exact ⟨⟨fd, ps, h1, h2⟩, h3⟩
  con := G.con
  cls := fun c x h => by
    obtain ⟨h1, h2, h3, h4, h5⟩ := G.cls c x h
    exact ⟨h1, h2, h3, h4, h5⟩
  fn := fun h => nomatch h
/-- in a lambda's body -/
theorem GoodX.lam (G : GoodX T N X tb fa ca W Φ kin k fl sc) {scope : Scope} (L : LamX.LamS sc scope) {A : Around} {outer : List Env} {s : Shared} {H : Hp} {E : XK} {f d : Addr} (hr : Room k (A.deeper (LamX.lamEnv X scope s.heap.objs.size f d))) :
    GoodX T.low N (lamX X A outer s H E scope f d) tb fa ca (fun cls d _ H => E cls d H) Φ kin k false scope where
  eSc := rfl
  eN := G.eN
  nd := G.nd
  nm := G.nm
  kind := L.kind
  calm := rfl
  room := hr
  room2 := fun h => nomatch h
  kq := fun h => nomatch h
  lm := fun h => nomatch h
  tk := lamX_takes
  blt := G.blt
  nmd := G.nmd
  fok := fun f io h => by
    obtain ⟨⟨fd, ps, h1, h2⟩, h3⟩ := G.fok f io h
    exact ⟨⟨fd, ps, h1, h2⟩, h3⟩
  con := G.con
  cls := fun c x h => by
    obtain ⟨h1, h2, h3, h4, h5⟩ := G.cls c x h
    exact ⟨h1, h2, h3, h4, h5⟩
  fn := fun h => nomatch h
end
end Ir

set_option Elab.async false
set_option linter.all false
set_option maxRecDepth 100000
set_option maxHeartbeats 8000000
/-! The checker is sound. -/
namespace Ir
open PySem PySem.Spec PyProof.Rows L2
def Snd (X : Cx) (tb : Tbs) (fa ca : Nat → Addr) (W : WX) (Φ : Fs) (kin : Exn → D) (ir : Ex) : Md → Prop
  | .e x => PEx X tb fa ca W Φ kin x ir
  | .t x => PTx X tb fa ca W Φ kin x ir
  | .w x => PWx X tb fa ca W Φ kin x ir
  | .a xs => PAx X tb fa ca W Φ kin xs ir
  | .p ks vs => ∀ pos, PPx X tb fa ca W Φ kin pos ks vs ir
  | .i tg x => PIx X tb fa ca W Φ kin tg x ir
section
variable {T : Tab} {N : List Str} {X : Cx} {tb : Tbs} {fa ca : Nat → Addr} {W : WX} {Φ : Fs} {kin : Exn → D} {k : Nat} {fl : Bool} {sc : Scope}
theorem val_ok {m : Md} {x : Expr} {ir : Ex} (h : m.val = some x) (p : PEx X tb fa ca W Φ kin x ir) : Snd X tb fa ca W Φ kin ir m := by
  cases m with
  | e y =>
    cases h
    exact p
  | t y =>
    have h' : (if valT y then some y else none) = some x := h
    split at h'
    · rename_i hv
      cases h'
      exact n_tval p (isTrue_of hv)
    · cases h'
  | _ => cases h
theorem cst_ok {c : D} {q : Const} {j : Nat} {p : Pos} (h : cstB c q = true) : PEx X tb fa ca W Φ kin (.Constant q j p) (.cst c) := by
  unfold cstB at h
  split at h
  · exact n_cst pe_non fun _ => .non
  · have := eq_of_beq h
    subst this
    exact n_cst pe_bl fun _ => .bl _
  · have := of_decide_eq_true h
    subst this
    exact n_cst pe_int fun _ => .int _
  · have := of_decide_eq_true h
    subst this
    exact n_cst pe_str fun _ => .str _
  · cases h
theorem tg_ok (G : GoodX T N X tb fa ca W Φ kin k fl sc) : ∀ (t : Tg) (m : Sum Expr (List Expr)), tgB N fl sc t m = true → match m with
    | .inl e => PG X e (gT (Wx X tb fa ca) t)
    | .inr es => PGs X es (gTs (Wx X tb fa ca) t) := by
  intro t
  induction t with
  | nm i =>
    intro m h
    cases m with
    | inr es => simp [tgB] at h
    | inl x =>
      cases x <;> first | (simp [tgB] at h; done) | skip
      rename_i x p
      simp only [tgB, Bool.and_eq_true, decide_eq_true_eq] at h
      obtain ⟨h1, h2⟩ := locB_of h.2
      exact n_gnm (pg_name G.nd (by rw [G.eN]; exact h.1) (by rw [G.eSc]; exact h1) (h2.elim (fun z => .inl (G.fn z _)) fun z => .inr (by rw [G.eSc]; exact z)))
  | nil =>
    intro m h
    cases m with
    | inl x => simp [tgB] at h
    | inr es =>
      cases es with
      | nil => exact n_gnil
      | cons e es => simp [tgB] at h
  | cons a b iha ihb =>
    intro m h
    cases m with
    | inl x => simp [tgB] at h
    | inr es =>
      cases es with
      | nil => simp [tgB] at h
      | cons e es =>
        simp only [tgB, Bool.and_eq_true] at h
        exact n_gcons (iha (.inl e) h.1.2) (ihb (.inr es) h.2) (asg1_of h.1.1)
  | tup a iha =>
    intro m h
    cases m with
    | inr es => simp [tgB] at h
    | inl x =>
      cases x <;> first | (simp [tgB] at h; done) | skip
      rename_i es j p
      simp only [tgB, Bool.and_eq_true, decide_eq_true_eq] at h
      obtain ⟨⟨⟨h1, h2⟩, h3⟩, h4⟩ := h
      exact n_gtup G.calm (iha (.inr es) h4) (by rw [asgLen_of h1]; exact h3) (asgStar_of h1) h2
end
end Ir

set_option Elab.async false
set_option linter.all false
set_option maxRecDepth 100000
set_option maxHeartbeats 8000000
/-! The checker is sound (2). -/
namespace Ir
open PySem PySem.Spec PyProof.Rows L2
section
variable {T : Tab} {N : List Str} {tb : Tbs} {fa ca : Nat → Addr} {Φ : Fs} {kin : Exn → D} {k : Nat}
def ChkOk (T : Tab) (N : List Str) (tb : Tbs) (fa ca : Nat → Addr) (Φ : Fs) (kin : Exn → D) (k : Nat) (ir : Ex) : Prop :=
  ∀ {X : Cx} {W : WX} {fl : Bool} {sc : Scope} (m : Md), GoodX T N X tb fa ca W Φ kin k fl sc → chk T N ir sc m = true → Snd X tb fa ca W Φ kin ir m
theorem m2_of {X : Cx} {x mt : Str} {p1 ap p : Pos} {y z : Expr} (h1 : nst y = true) (h2 : nst z = true) (h3 : (ap.endLine == p.line) = true) : M2 X (.Name x p1) mt ap y z p := by
  have e : starEach [y, z] X.env = [(false, eval y X.env), (false, eval z X.env)] := by rw [star_of h1, star_of h2]; rfl
  exact ⟨rfl, by rw [e]; rfl, h3, by rw [e]; rfl⟩
theorem notTup_of {b : Bif} {ds : List D} (h : bifOk b = true) (hn : b ≠ .sorted) : sortsTup b ds = false := by
  cases b <;> first | (cases h; done) | rfl | exact absurd rfl hn
theorem bif_call {X : Cx} {b : Bif} (h : bifOk b = true) (hc : X.calm = true) (hu : X.A.units + 65 < cLine) : CallR X (bifV b) (rBif X.K b) := by
  by_cases hs : b = .sorted
  · subst hs
    exact call_sorted hc hu
  intro pins s σ H xs us Q I r ⟨Hf, ds, v, h1, h2, h3, h4⟩
  exact call_bif0 b hc pins s σ H xs us Q I r ⟨Hf, ds, v, h1, h2, h3, notTup_of h hs, h4⟩
theorem blt_of {X : Cx} {W : WX} {fl : Bool} {sc : Scope} (G : GoodX T N X tb fa ca W Φ kin k fl sc) {b : Bif} (ho : bifOk b = true) {x : Str} (h : bB sc x (bifN b) = true) : Blt X x (bifV b) := by
  have hm : bifN b ∈ bltNames := by cases b <;> simp [bifN, bltNames]
  obtain ⟨rfl, hg, hn⟩ := G.mNone hm h
  cases b <;> first
    | (cases ho; done)
    | exact ⟨hg, hn, by decide +kernel, by decide +kernel, by decide +kernel⟩

theorem ck_var {i : Nat}  : ChkOk T N tb fa ca Φ kin k (.var i) := by
  intro X W fl sc m G h
  unfold chk at h
  split at h
  · rename_i x p ev
    try simp only [Bool.and_eq_true, decide_eq_true_eq] at h
    refine val_ok ev ?_
    exact n_var (G.var h p)
  · cases h

theorem ck_take {i : Nat}  : ChkOk T N tb fa ca Φ kin k (.take i) := by
  intro X W fl sc m G h
  unfold chk at h
  split at h
  · rename_i x p ev
    try simp only [Bool.and_eq_true, decide_eq_true_eq] at h
    refine val_ok ev ?_
    exact n_take (G.var h p)
  · cases h

theorem ck_cst {c : D}  : ChkOk T N tb fa ca Φ kin k (.cst c) := by
  intro X W fl sc m G h
  unfold chk at h
  split at h
  · rename_i q j p ev
    try simp only [Bool.and_eq_true, decide_eq_true_eq] at h
    refine val_ok ev ?_
    exact cst_ok h
  · cases h

theorem ck_glob {x : Str} {c : Int}  : ChkOk T N tb fa ca Φ kin k (.glob x c) := by
  intro X W fl sc m G h
  unfold chk at h
  split at h
  · rename_i y p ev
    try simp only [Bool.and_eq_true, decide_eq_true_eq] at h
    refine val_ok ev ?_
    obtain ⟨⟨rfl, hg⟩, hc⟩ := h
    obtain ⟨q, hq, e⟩ := List.any_eq_true.mp hc
    simp only [Bool.and_eq_true, decide_eq_true_eq] at e
    obtain ⟨⟨u, hu, ru⟩, hd⟩ := G.con q hq
    rw [e.1] at hu hd
    rw [e.2] at ru
    exact n_glob (pe_glob (G.gl hg) hu ru hd)
  · cases h

theorem ck_tup {a : Ex} (iha : ChkOk T N tb fa ca Φ kin k a) : ChkOk T N tb fa ca Φ kin k (.tup a) := by
  intro X W fl sc m G h
  unfold chk at h
  split at h
  · rename_i es j p ev
    try simp only [Bool.and_eq_true, decide_eq_true_eq] at h
    refine val_ok ev ?_
    exact n_tup (iha (.a es) G h)
  · cases h

theorem ck_lst {a : Ex} (iha : ChkOk T N tb fa ca Φ kin k a) : ChkOk T N tb fa ca Φ kin k (.lst a) := by
  intro X W fl sc m G h
  unfold chk at h
  split at h
  · rename_i es p ev
    try simp only [Bool.and_eq_true, decide_eq_true_eq] at h
    refine val_ok ev ?_
    exact n_lst (iha (.a es) G h)
  · cases h

theorem ck_bin {o : Bop} {a : Ex} {b : Ex} (iha : ChkOk T N tb fa ca Φ kin k a) (ihb : ChkOk T N tb fa ca Φ kin k b) : ChkOk T N tb fa ca Φ kin k (.bin o a b) := by
  intro X W fl sc m G h
  unfold chk at h
  split at h
  · rename_i l op r p ev
    try simp only [Bool.and_eq_true, decide_eq_true_eq] at h
    refine val_ok ev ?_
    obtain ⟨⟨rfl, h1⟩, h2⟩ := h
    exact n_bin o (iha (.e l) G h1) (ihb (.e r) G h2)
  · cases h

theorem ck_neg {a : Ex} (iha : ChkOk T N tb fa ca Φ kin k a) : ChkOk T N tb fa ca Φ kin k (.neg a) := by
  intro X W fl sc m G h
  unfold chk at h
  split at h
  · rename_i x p ev
    try simp only [Bool.and_eq_true, decide_eq_true_eq] at h
    refine val_ok ev ?_
    exact n_neg (iha (.e x) G h)
  · cases h

theorem ck_io {f : Nat} {i : Nat} {a : Ex} (iha : ChkOk T N tb fa ca Φ kin k a) : ChkOk T N tb fa ca Φ kin k (.io f i a) := by
  intro X W fl sc m G h
  unfold chk at h
  split at h
  · rename_i y p1 x p2 es p ev
    try simp only [Bool.and_eq_true, decide_eq_true_eq] at h
    refine val_ok ev ?_
    obtain ⟨⟨⟨h1, h2⟩, h3⟩, h4⟩ := h
    obtain ⟨n, F⟩ := G.nmf h1
    exact n_io F G.room G.tk n (G.var h2 p2) (iha (.a es) G h4) (plain_of (by rw [List.all_cons, h3]; rfl))
  · cases h

theorem ck_callV {i : Nat} {fs : List Nat} {a : Ex} (iha : ChkOk T N tb fa ca Φ kin k a) : ChkOk T N tb fa ca Φ kin k (.callV i fs a) := by
  intro X W fl sc m G h
  unfold chk at h
  split at h
  · rename_i x p1 e es p ev
    try simp only [Bool.and_eq_true, decide_eq_true_eq] at h
    refine val_ok ev ?_
    obtain ⟨⟨⟨h1, h2⟩, h3⟩, h4⟩ := h
    exact n_callV (fun f hf => G.fok f false (of_decide_eq_true (List.all_eq_true.mp h2 f hf))) G.room G.tk (G.var h1 p1) (iha (.a (e :: es)) G h4) (plain_of h3)
  · cases h

theorem ck_lenS {i : Nat}  : ChkOk T N tb fa ca Φ kin k (.lenS i) := by
  intro X W fl sc m G h
  unfold chk at h
  split at h
  · rename_i f p1 x p2 p ev
    try simp only [Bool.and_eq_true, decide_eq_true_eq] at h
    refine val_ok ev ?_
    obtain ⟨h1, h2⟩ := h
    obtain ⟨rfl, hg, hm⟩ := G.mNone (f := "len") (by simp [bltNames]) h1
    exact n_lenS G.calm ⟨hg, hm, PySem.boot_len, by decide +kernel, by decide +kernel⟩ (G.var h2 p2) (plain_of rfl)
  · cases h

theorem ck_ix {a : Ex} {b : Ex} (iha : ChkOk T N tb fa ca Φ kin k a) (ihb : ChkOk T N tb fa ca Φ kin k b) : ChkOk T N tb fa ca Φ kin k (.ix a b) := by
  intro X W fl sc m G h
  unfold chk at h
  split at h
  · rename_i x y p ev
    try simp only [Bool.and_eq_true, decide_eq_true_eq] at h
    refine val_ok ev ?_
    obtain ⟨⟨h1, h2⟩, h3⟩ := h
    exact n_ix (iha (.e x) G h2) (ihb (.e y) G h3) (plainIx_of h1)
  · cases h

theorem ck_ixS {i : Nat} {b : Ex} (ihb : ChkOk T N tb fa ca Φ kin k b) : ChkOk T N tb fa ca Φ kin k (.ixS i b) := by
  intro X W fl sc m G h
  unfold chk at h
  split at h
  · rename_i x p1 y p ev
    try simp only [Bool.and_eq_true, decide_eq_true_eq] at h
    refine val_ok ev ?_
    obtain ⟨⟨h1, h2⟩, h3⟩ := h
    exact n_ixS G.units1 (G.var h1 p1) (ihb (.e y) G h3) (plainIx_of h2) (noSl_of h2)
  · cases h

theorem ck_sl {a : Ex} {lo : Ex} {hi : Ex} (iha : ChkOk T N tb fa ca Φ kin k a) (ihlo : ChkOk T N tb fa ca Φ kin k lo) (ihhi : ChkOk T N tb fa ca Φ kin k hi) : ChkOk T N tb fa ca Φ kin k (.sl a lo hi) := by
  intro X W fl sc m G h
  unfold chk at h
  split at h
  · rename_i x y z p1 p ev
    try simp only [Bool.and_eq_true, decide_eq_true_eq] at h
    refine val_ok ev ?_
    obtain ⟨⟨h1, h2⟩, h3⟩ := h
    exact n_sl (iha (.e x) G h1) (ihlo (.e y) G h2) (ihhi (.e z) G h3)
  · cases h

theorem ck_slL {a : Ex} {lo : Ex} (iha : ChkOk T N tb fa ca Φ kin k a) (ihlo : ChkOk T N tb fa ca Φ kin k lo) : ChkOk T N tb fa ca Φ kin k (.slL a lo) := by
  intro X W fl sc m G h
  unfold chk at h
  split at h
  · rename_i x y p1 p ev
    try simp only [Bool.and_eq_true, decide_eq_true_eq] at h
    refine val_ok ev ?_
    obtain ⟨h1, h2⟩ := h
    exact n_slL (iha (.e x) G h1) (ihlo (.e y) G h2)
  · cases h

theorem ck_slH {a : Ex} {hi : Ex} (iha : ChkOk T N tb fa ca Φ kin k a) (ihhi : ChkOk T N tb fa ca Φ kin k hi) : ChkOk T N tb fa ca Φ kin k (.slH a hi) := by
  intro X W fl sc m G h
  unfold chk at h
  split at h
  · rename_i x z p1 p ev
    try simp only [Bool.and_eq_true, decide_eq_true_eq] at h
    refine val_ok ev ?_
    obtain ⟨h1, h2⟩ := h
    exact n_slH (iha (.e x) G h1) (ihhi (.e z) G h2)
  · cases h

theorem ck_rev {a : Ex} (iha : ChkOk T N tb fa ca Φ kin k a) : ChkOk T N tb fa ca Φ kin k (.rev a) := by
  intro X W fl sc m G h
  unfold chk at h
  split at h
  · rename_i x i j p1 p2 p3 p ev
    try simp only [Bool.and_eq_true, decide_eq_true_eq] at h
    refine val_ok ev ?_
    obtain ⟨rfl, h2⟩ := h
    exact n_rev (iha (.e x) G h2)
  · cases h

theorem ck_getS {i : Nat} {kk : Ex} {d : Ex} (ihkk : ChkOk T N tb fa ca Φ kin k kk) (ihd : ChkOk T N tb fa ca Φ kin k d) : ChkOk T N tb fa ca Φ kin k (.getS i kk d) := by
  intro X W fl sc m G h
  unfold chk at h
  split at h
  · rename_i x p1 mt ap y z p ev
    try simp only [Bool.and_eq_true, decide_eq_true_eq] at h
    refine val_ok ev ?_
    obtain ⟨⟨⟨⟨⟨⟨rfl, h2⟩, h3⟩, h4⟩, h5⟩, h6⟩, h7⟩ := h
    exact n_getS G.units1 (G.var h2 p1) (ihkk (.e y) G h6) (ihd (.e z) G h7) (m2_of h3 h4 h5)
  · cases h

theorem ck_pop0 {i : Nat}  : ChkOk T N tb fa ca Φ kin k (.pop0 i) := by
  intro X W fl sc m G h
  unfold chk at h
  split at h
  · rename_i x p1 mt ap kz j p2 p ev
    try simp only [Bool.and_eq_true, decide_eq_true_eq] at h
    refine val_ok ev ?_
    obtain ⟨⟨⟨rfl, rfl⟩, h3⟩, h4⟩ := h
    exact n_pop0 (G.var h3 p1) h4
  · cases h

theorem ck_dnk   : ChkOk T N tb fa ca Φ kin k (.dnk) := by
  intro X W fl sc m G h
  unfold chk at h
  split at h
  · rename_i p ev
    try simp only [Bool.and_eq_true, decide_eq_true_eq] at h
    refine val_ok ev ?_
    exact n_dnk
  · cases h

theorem ck_dnt   : ChkOk T N tb fa ca Φ kin k (.dnt) := by
  intro X W fl sc m G h
  unfold chk at h
  split at h
  · rename_i p ev
    try simp only [Bool.and_eq_true, decide_eq_true_eq] at h
    refine val_ok ev ?_
    exact n_dnt
  · cases h

theorem ck_disp {a : Ex} (iha : ChkOk T N tb fa ca Φ kin k a) : ChkOk T N tb fa ca Φ kin k (.disp a) := by
  intro X W fl sc m G h
  unfold chk at h
  split at h
  · rename_i kz ks vs p ev
    try simp only [Bool.and_eq_true, decide_eq_true_eq] at h
    refine val_ok ev ?_
    obtain ⟨⟨⟨h1, h2⟩, h3⟩, h4⟩ := h
    exact n_disp (iha (.p (kz :: ks) vs) G h4 p) h1 h2 (by simp) h3
  · cases h

theorem ck_join {z : Str} {b : Ex} (ihb : ChkOk T N tb fa ca Φ kin k b) : ChkOk T N tb fa ca Φ kin k (.join z b) := by
  intro X W fl sc m G h
  unfold chk at h
  split at h
  · rename_i y j p1 mt ap x p ev
    try simp only [Bool.and_eq_true, decide_eq_true_eq] at h
    refine val_ok ev ?_
    obtain ⟨⟨⟨⟨rfl, rfl⟩, h3⟩, h4⟩, h5⟩ := h
    exact n_join (ihb (.e x) G h5) (star_of h3) h4
  · cases h

theorem ck_split {a : Ex} {c : Str} (iha : ChkOk T N tb fa ca Φ kin k a) : ChkOk T N tb fa ca Φ kin k (.split a c) := by
  intro X W fl sc m G h
  unfold chk at h
  split at h
  · rename_i x mt ap y j p1 p ev
    try simp only [Bool.and_eq_true, decide_eq_true_eq] at h
    refine val_ok ev ?_
    obtain ⟨⟨⟨⟨rfl, rfl⟩, h3⟩, h4⟩, h5⟩ := h
    exact n_split (iha (.e x) G h5) (star_of rfl) (base_of h3) h4
  · cases h

theorem ck_nil   : ChkOk T N tb fa ca Φ kin k (.nil) := by
  intro X W fl sc m G h
  unfold chk at h
  split at h
  · exact n_nil
  · exact fun pos => n_pnil
  · cases h

theorem ck_cons {a : Ex} {b : Ex} (iha : ChkOk T N tb fa ca Φ kin k a) (ihb : ChkOk T N tb fa ca Φ kin k b) : ChkOk T N tb fa ca Φ kin k (.cons a b) := by
  intro X W fl sc m G h
  unfold chk at h
  split at h
  · rename_i x xs
    try simp only [Bool.and_eq_true, decide_eq_true_eq] at h
    exact n_cons (iha (.e x) G h.1.2) (ihb (.a xs) G h.2) (star_of h.1.1)
  · cases h

theorem ck_pair {a : Ex} {c : Ex} {b : Ex} (iha : ChkOk T N tb fa ca Φ kin k a) (ihc : ChkOk T N tb fa ca Φ kin k c) (ihb : ChkOk T N tb fa ca Φ kin k b) : ChkOk T N tb fa ca Φ kin k (.pair a c b) := by
  intro X W fl sc m G h
  unfold chk at h
  split at h
  · rename_i x ks y vs
    try simp only [Bool.and_eq_true, decide_eq_true_eq] at h
    exact fun pos => n_pcons (iha (.e x) G h.1.1) (ihc (.e y) G h.1.2) (ihb (.p ks vs) G h.2 pos)
  · cases h

theorem ck_and {a : Ex} {b : Ex} (iha : ChkOk T N tb fa ca Φ kin k a) (ihb : ChkOk T N tb fa ca Φ kin k b) : ChkOk T N tb fa ca Φ kin k (.and a b) := by
  intro X W fl sc m G h
  unfold chk at h
  split at h
  · rename_i x y r p
    try simp only [Bool.and_eq_true, decide_eq_true_eq] at h
    obtain ⟨h1, h2⟩ := h
    refine n_and (iha (.e x) G h1) ?_
    cases r with
    | nil => exact n_and1 (ihb (.e y) G h2)
    | cons z r => exact ihb (.e (.BoolOp .And (y :: z :: r) p)) G h2
  · rename_i x y r p
    try simp only [Bool.and_eq_true, decide_eq_true_eq] at h
    obtain ⟨h1, h2⟩ := h
    refine pt_pw (n_tand (iha (.t x) G h1) ?_)
    cases r with
    | nil => exact n_tand1 (ihb (.t y) G h2)
    | cons z r => exact ihb (.w (.BoolOp .And (y :: z :: r) p)) G h2
  · rename_i x y r p
    try simp only [Bool.and_eq_true, decide_eq_true_eq] at h
    obtain ⟨h1, h2⟩ := h
    refine n_tand (iha (.t x) G h1) ?_
    cases r with
    | nil => exact n_tand1 (ihb (.t y) G h2)
    | cons z r => exact ihb (.w (.BoolOp .And (y :: z :: r) p)) G h2
  · cases h

theorem ck_or {a : Ex} {b : Ex} (iha : ChkOk T N tb fa ca Φ kin k a) (ihb : ChkOk T N tb fa ca Φ kin k b) : ChkOk T N tb fa ca Φ kin k (.or a b) := by
  intro X W fl sc m G h
  unfold chk at h
  split at h
  · rename_i x y r p
    try simp only [Bool.and_eq_true, decide_eq_true_eq] at h
    obtain ⟨h1, h2⟩ := h
    refine n_or (iha (.e x) G h1) ?_
    cases r with
    | nil => exact n_and1 (ihb (.e y) G h2)
    | cons z r => exact ihb (.e (.BoolOp .Or (y :: z :: r) p)) G h2
  · rename_i x y r p
    try simp only [Bool.and_eq_true, decide_eq_true_eq] at h
    obtain ⟨h1, h2⟩ := h
    refine pt_pw (n_tor (iha (.t x) G h1) ?_)
    cases r with
    | nil => exact n_tor1 (ihb (.t y) G h2)
    | cons z r => exact ihb (.w (.BoolOp .Or (y :: z :: r) p)) G h2
  · rename_i x y r p
    try simp only [Bool.and_eq_true, decide_eq_true_eq] at h
    obtain ⟨h1, h2⟩ := h
    refine n_tor (iha (.t x) G h1) ?_
    cases r with
    | nil => exact n_tor1 (ihb (.t y) G h2)
    | cons z r => exact ihb (.w (.BoolOp .Or (y :: z :: r) p)) G h2
  · cases h

theorem ck_not {a : Ex} (iha : ChkOk T N tb fa ca Φ kin k a) : ChkOk T N tb fa ca Φ kin k (.not a) := by
  intro X W fl sc m G h
  unfold chk at h
  split at h
  · rename_i x p
    try simp only [Bool.and_eq_true, decide_eq_true_eq] at h
    exact n_not (iha (.e x) G h)
  · rename_i x p
    try simp only [Bool.and_eq_true, decide_eq_true_eq] at h
    exact n_tnot (iha (.t x) G h)
  · cases h

theorem ck_cmp {o : Cop} {a : Ex} {b : Ex} (iha : ChkOk T N tb fa ca Φ kin k a) (ihb : ChkOk T N tb fa ca Φ kin k b) : ChkOk T N tb fa ca Φ kin k (.cmp o a b) := by
  intro X W fl sc m G h
  unfold chk at h
  split at h
  · rename_i x op y p
    try simp only [Bool.and_eq_true, decide_eq_true_eq] at h
    obtain ⟨⟨⟨rfl, h1⟩, h2⟩, h3⟩ := h
    exact n_cmp o G.units (iha (.e x) G h2) (ihb (.e y) G h3) (behind_of h1)
  · rename_i x op y p
    try simp only [Bool.and_eq_true, decide_eq_true_eq] at h
    obtain ⟨⟨⟨rfl, h1⟩, h2⟩, h3⟩ := h
    exact n_tcmp o G.units (iha (.e x) G h2) (ihb (.e y) G h3) (behind_of h1)
  · cases h

theorem ck_cmpS {o : Cop} {i : Nat} {b : Ex} (ihb : ChkOk T N tb fa ca Φ kin k b) : ChkOk T N tb fa ca Φ kin k (.cmpS o i b) := by
  intro X W fl sc m G h
  unfold chk at h
  split at h
  · rename_i x p1 op y p
    try simp only [Bool.and_eq_true, decide_eq_true_eq] at h
    obtain ⟨⟨⟨rfl, h1⟩, h2⟩, h3⟩ := h
    exact n_cmpS o G.units (G.var h2 p1) (ihb (.e y) G h3) (behind_of h1)
  · rename_i x p1 op y p
    try simp only [Bool.and_eq_true, decide_eq_true_eq] at h
    obtain ⟨⟨⟨rfl, h1⟩, h2⟩, h3⟩ := h
    exact n_tcmpS o G.units (G.var h2 p1) (ihb (.e y) G h3) (behind_of h1)
  · cases h

theorem ck_inS {n : Bool} {a : Ex} {i : Nat} (iha : ChkOk T N tb fa ca Φ kin k a) : ChkOk T N tb fa ca Φ kin k (.inS n a i) := by
  intro X W fl sc m G h
  unfold chk at h
  split at h
  · rename_i y op x p1 p
    try simp only [Bool.and_eq_true, decide_eq_true_eq] at h
    obtain ⟨⟨rfl, h1⟩, h2⟩ := h
    exact n_inS n G.units (iha (.e y) G h2) (G.var h1 p1)
  · rename_i y op x p1 p
    try simp only [Bool.and_eq_true, decide_eq_true_eq] at h
    obtain ⟨⟨rfl, h1⟩, h2⟩ := h
    exact n_tinS n G.units (iha (.e y) G h2) (G.var h1 p1)
  · cases h

theorem ck_chain {o : Cop} {o2 : Cop} {a : Ex} {b : Ex} {c : Ex} (iha : ChkOk T N tb fa ca Φ kin k a) (ihb : ChkOk T N tb fa ca Φ kin k b) (ihc : ChkOk T N tb fa ca Φ kin k c) : ChkOk T N tb fa ca Φ kin k (.chain o o2 a b c) := by
  intro X W fl sc m G h
  unfold chk at h
  split at h
  · rename_i x op op2 y z p
    try simp only [Bool.and_eq_true, decide_eq_true_eq] at h
    obtain ⟨⟨⟨⟨⟨⟨rfl, rfl⟩, h1⟩, h2⟩, h3⟩, h4⟩, h5⟩ := h
    exact n_chain o o2 G.units (iha (.e x) G h3) (ihb (.e y) G h4) (ihc (.e z) G h5) (behind_of h2)
  · rename_i x op op2 y z p
    try simp only [Bool.and_eq_true, decide_eq_true_eq] at h
    obtain ⟨⟨⟨⟨⟨⟨rfl, rfl⟩, h1⟩, h2⟩, h3⟩, h4⟩, h5⟩ := h
    exact n_tchain o o2 G.units (iha (.e x) G h3) (ihb (.e y) G h4) (ihc (.e z) G h5) (behind_of h2)
  · cases h

theorem ck_ife {c : Ex} {a : Ex} {b : Ex} (ihc : ChkOk T N tb fa ca Φ kin k c) (iha : ChkOk T N tb fa ca Φ kin k a) (ihb : ChkOk T N tb fa ca Φ kin k b) : ChkOk T N tb fa ca Φ kin k (.ife c a b) := by
  intro X W fl sc m G h
  unfold chk at h
  split at h
  · rename_i z x y p
    try simp only [Bool.and_eq_true, decide_eq_true_eq] at h
    exact n_ife (ihc (.t z) G h.1.1) (iha (.e x) G h.1.2) (ihb (.e y) G h.2)
  · cases h

theorem ck_itSeq {a : Ex} (iha : ChkOk T N tb fa ca Φ kin k a) : ChkOk T N tb fa ca Φ kin k (.itSeq a) := by
  intro X W fl sc m G h
  unfold chk at h
  split at h
  · rename_i tg x
    try simp only [Bool.and_eq_true, decide_eq_true_eq] at h
    exact n_itSeq (iha (.e x) G h)
  · cases h

theorem ck_itRng1 {a : Ex} (iha : ChkOk T N tb fa ca Φ kin k a) : ChkOk T N tb fa ca Φ kin k (.itRng1 a) := by
  intro X W fl sc m G h
  unfold chk at h
  split at h
  · rename_i tg f p1 x p
    try simp only [Bool.and_eq_true, decide_eq_true_eq] at h
    obtain ⟨⟨hb, h1⟩, h2⟩ := h
    obtain ⟨rfl, hg, hm⟩ := G.mNone (f := "range") (by simp [bltNames]) hb
    exact n_itRng1 hg hm (iha (.e x) G h2) (star_of h1)
  · cases h

theorem ck_itRng {a : Ex} {b : Ex} (iha : ChkOk T N tb fa ca Φ kin k a) (ihb : ChkOk T N tb fa ca Φ kin k b) : ChkOk T N tb fa ca Φ kin k (.itRng a b) := by
  intro X W fl sc m G h
  unfold chk at h
  split at h
  · rename_i tg f p1 x y p
    try simp only [Bool.and_eq_true, decide_eq_true_eq] at h
    obtain ⟨⟨⟨⟨hb, h1⟩, h2⟩, h3⟩, h4⟩ := h
    obtain ⟨rfl, hg, hm⟩ := G.mNone (f := "range") (by simp [bltNames]) hb
    exact n_itRng hg hm (iha (.e x) G h3) (ihb (.e y) G h4) (by rw [star_of h1, star_of h2]; rfl) (star_of h2)
  · cases h

theorem ck_itDown {a : Ex} {b : Ex} (iha : ChkOk T N tb fa ca Φ kin k a) (ihb : ChkOk T N tb fa ca Φ kin k b) : ChkOk T N tb fa ca Φ kin k (.itDown a b) := by
  intro X W fl sc m G h
  unfold chk at h
  split at h
  · rename_i tg f p1 x y kz j p2 p3 p
    try simp only [Bool.and_eq_true, decide_eq_true_eq] at h
    obtain ⟨⟨⟨⟨⟨hb, rfl⟩, h1⟩, h2⟩, h3⟩, h4⟩ := h
    obtain ⟨rfl, hg, hm⟩ := G.mNone (f := "range") (by simp [bltNames]) hb
    exact n_itDown hg hm (iha (.e x) G h3) (ihb (.e y) G h4) (star_of h1) (star_of h2) (star_plain (by rw [List.all_cons, h2]; rfl))
  · cases h

theorem ck_itZip {a : Ex} {b : Ex} (iha : ChkOk T N tb fa ca Φ kin k a) (ihb : ChkOk T N tb fa ca Φ kin k b) : ChkOk T N tb fa ca Φ kin k (.itZip a b) := by
  intro X W fl sc m G h
  unfold chk at h
  split at h
  · rename_i tg f p1 x y p
    try simp only [Bool.and_eq_true, decide_eq_true_eq] at h
    obtain ⟨⟨⟨⟨⟨ht, hb⟩, h1⟩, h2⟩, h3⟩, h4⟩ := h
    obtain ⟨rfl, hg, hm⟩ := G.mNone (f := "zip") (by simp [bltNames]) hb
    cases tg <;> first | (cases ht; done) | skip
    exact n_itZip hg hm (iha (.e x) G h3) (ihb (.e y) G h4) (star_of h2) (plain_of (by simp [h1, h2]))
  · cases h

theorem ck_itZip3 {a : Ex} {b : Ex} {c : Ex} (iha : ChkOk T N tb fa ca Φ kin k a) (ihb : ChkOk T N tb fa ca Φ kin k b) (ihc : ChkOk T N tb fa ca Φ kin k c) : ChkOk T N tb fa ca Φ kin k (.itZip3 a b c) := by
  intro X W fl sc m G h
  unfold chk at h
  split at h
  · rename_i tg f p1 x y z p
    try simp only [Bool.and_eq_true, decide_eq_true_eq] at h
    obtain ⟨⟨⟨⟨⟨⟨⟨ht, hb⟩, h1⟩, h2⟩, h3⟩, h4⟩, h5⟩, h6⟩ := h
    obtain ⟨rfl, hg, hm⟩ := G.mNone (f := "zip") (by simp [bltNames]) hb
    cases tg <;> first | (cases ht; done) | skip
    exact n_itZip3 hg hm (iha (.e x) G h4) (ihb (.e y) G h5) (ihc (.e z) G h6) h1 h2 h3
  · cases h

theorem ck_itEnum {a : Ex} (iha : ChkOk T N tb fa ca Φ kin k a) : ChkOk T N tb fa ca Φ kin k (.itEnum a) := by
  intro X W fl sc m G h
  unfold chk at h
  split at h
  · rename_i tg f p1 x p
    try simp only [Bool.and_eq_true, decide_eq_true_eq] at h
    obtain ⟨⟨⟨ht, hb⟩, h1⟩, h2⟩ := h
    obtain ⟨rfl, hg, hm⟩ := G.mNone (f := "enumerate") (by simp [bltNames]) hb
    cases tg <;> first | (cases ht; done) | skip
    exact n_itEnum hg hm (iha (.e x) G h2) (star_of h1)
  · cases h

theorem ck_sortedKeys {i : Nat} : ChkOk T N tb fa ca Φ kin k (.sortedKeys i) := by
  intro X W fl sc m G h
  unfold chk at h
  split at h
  · rename_i f p1 x p2 p ev
    simp only [Bool.and_eq_true] at h
    obtain ⟨hb, h2⟩ := h
    refine val_ok ev ?_
    exact n_sortedKeys G.calm G.units (blt_of G (b := .sorted) rfl hb) (G.var h2 p2) (plain_of rfl)
  · cases h
end
end Ir

set_option Elab.async false
set_option linter.all false
set_option maxRecDepth 100000
set_option maxHeartbeats 8000000
/-! The checker is sound (3). -/
namespace Ir
open PySem PySem.Spec PyProof.Rows L2
section
variable {T : Tab} {N : List Str} {tb : Tbs} {fa ca : Nat → Addr} {Φ : Fs} {kin : Exn → D} {k : Nat}
theorem ck_call {f : Nat} {a : Ex} (iha : ChkOk T N tb fa ca Φ kin k a) : ChkOk T N tb fa ca Φ kin k (.call f a) := by
  intro X W fl sc m G h
  unfold chk at h
  split at h
  · rename_i x p1 es p ev
    simp only [Bool.and_eq_true] at h
    obtain ⟨⟨h1, h2⟩, h3⟩ := h
    obtain ⟨n, F⟩ := G.nmf h1
    refine val_ok ev ?_
    cases es with
    | nil =>
      cases a <;> first | (cases h3; done) | exact n_call0 F G.room G.tk n
    | cons e es => exact n_call F G.room G.tk n (iha (.a (e :: es)) G h3) (plain_of h2)
  · cases h
theorem ck_bi0 {bf : Bif} {a : Ex} {X : Cx} {W : WX} {fl : Bool} {sc : Scope} (m : Md) (iha : ChkOk T N tb fa ca Φ kin k a) (G : GoodX T N X tb fa ca W Φ kin k fl sc) (h : (match m.val with
      | some (.Call (.Name x _) (e :: es) [] _) => bB sc x (bifN bf) && bifOk bf && (e :: es).all nst && chk T N a sc (.a (e :: es))
      | _ => false) = true) : Snd X tb fa ca W Φ kin (.bi bf a) m := by
  split at h
  · rename_i x p1 e es p ev
    simp only [Bool.and_eq_true] at h
    obtain ⟨⟨⟨h1, h2⟩, h3⟩, h4⟩ := h
    refine val_ok ev ?_
    exact n_bi bf (bif_call h2 G.calm G.units) (blt_of G h2 h1) (iha (.a (e :: es)) G h4) (plain_of h3)
  · cases h
theorem ck_bi {bf : Bif} {a : Ex} (iha : ChkOk T N tb fa ca Φ kin k a) : ChkOk T N tb fa ca Φ kin k (.bi bf a) := by
  intro X W fl sc m G h
  by_cases hs : bf = .sortedSet
  · subst hs
    have h : (match m.val with
      | some (.Call (.Name x _) [.Call (.Name y _) [e] [] _] [] _) => bB sc x "sorted" && bB sc y "set" && nst e && chk T N a sc (.a [e])
      | _ => false) = true := by
      unfold chk at h
      exact h
    split at h
    · rename_i x p1 y p2 e p3 p ev
      simp only [Bool.and_eq_true] at h
      obtain ⟨⟨⟨h1, h2⟩, h3⟩, h4⟩ := h
      refine val_ok ev ?_
      obtain ⟨rfl, hg, hm⟩ := G.mNone (f := "set") (by simp [bltNames]) h2
      exact n_sortedSet G.calm G.units (blt_of G (b := .sorted) rfl h1) ⟨hg, hm, by decide +kernel, by decide +kernel, by decide +kernel⟩ (iha (.a [e]) G h4) (plain_of (by rw [List.all_cons, h3]; rfl)) (plain_of rfl)
    · cases h
  · refine ck_bi0 m iha G ?_
    have e : chk T N (.bi bf a) sc m = (match m.val with
      | some (.Call (.Name x _) (e :: es) [] _) => bB sc x (bifN bf) && bifOk bf && (e :: es).all nst && chk T N a sc (.a (e :: es))
      | _ => false) := by
      cases bf <;> first | exact absurd rfl hs | (rw [chk] <;> first | exact hs | rfl)
    rw [e] at h
    exact h
theorem bltT {X : Cx} {W : WX} {fl : Bool} {sc : Scope} (G : GoodX T N X tb fa ca W Φ kin k fl sc) {t : Ty} {y : Str} {p : Pos} (h : bB sc y (tyS t) = true) : PE X (.Name y p) (tC (.ty (tyN t))) := by
  have hm : tyS t ∈ bltNames := by cases t <;> simp [tyS, bltNames]
  obtain ⟨rfl, hg, hn⟩ := G.mNone hm h
  cases t <;> exact pe_bltn hg hn (by first | exact PyProof.Rows.boot_int | exact PyProof.Rows.boot_str | exact PyProof.Rows.boot_list | exact PyProof.Rows.boot_tuple | decide +kernel) rfl (by decide +kernel) (by decide +kernel)
theorem ck_isi {t : Ty} {a : Ex} (iha : ChkOk T N tb fa ca Φ kin k a) : ChkOk T N tb fa ca Φ kin k (.isi t a) := by
  intro X W fl sc m G h
  unfold chk at h
  split at h
  · rename_i f p1 x y p2 p ev
    simp only [Bool.and_eq_true, decide_eq_true_eq] at h
    obtain ⟨⟨⟨⟨⟨rfl, h2⟩, h3⟩, h4⟩, h5⟩, h6⟩ := h
    refine val_ok ev ?_
    have hb : Blt X "isinstance" (.builtin "isinstance") := ⟨G.gl h2, G.blt _ (by simp [bltNames]), PyProof.Rows.boot_isinstance, by decide +kernel, by decide +kernel⟩
    have ht : t ≠ .tuplist := fun z => by
      subst z
      cases h4
    exact n_isi (p := p1) t ht hb (iha (.e x) G h6) (bltT G h3) (star_of rfl) (plain_of (by rw [List.all_cons, h5]; rfl))
  · rename_i f p1 x y p2 z p3 j p4 p ev
    simp only [Bool.and_eq_true, decide_eq_true_eq] at h
    obtain ⟨⟨⟨⟨⟨⟨rfl, h2⟩, h3⟩, h4⟩, ht⟩, h5⟩, h6⟩ := h
    refine val_ok ev ?_
    have hb : Blt X "isinstance" (.builtin "isinstance") := ⟨G.gl h2, G.blt _ (by simp [bltNames]), PyProof.Rows.boot_isinstance, by decide +kernel, by decide +kernel⟩
    cases t <;> first | (cases ht; done) | skip
    exact n_isiTL (p := p1) hb (iha (.e x) G h6) (bltT (t := .tuple) G h3) (bltT (t := .list) G h4) (star_of rfl) (star_of rfl) (plain_of (by rw [List.all_cons, h5]; rfl))
  · cases h
theorem isYes_of {c : Ex} (h : isYes c = true) : c = .cst (.bool true) := by
  unfold isYes at h
  split at h
  · rfl
  · cases h
/-- the block's parts, checked -/
theorem blk_ok {X : Cx} {W : WX} {fl : Bool} {sc scope : Scope} (G : GoodX T N X tb fa ca W Φ kin k fl sc) {e c : Ex} {t : Tg} {own : List Nat} {elt tg : Expr} {ifs : List Expr} (ihe : ChkOk T.low N tb fa ca Φ kin k e) (ihc : ChkOk T.low N tb fa ca Φ kin k c)
    (h2 : blkC N sc scope (ownP N own) = true) (h1 : (ownP N own).map (·.2) = own) (h3 : tgB N false (relS scope sc) t (.inl tg) = true) (h4 : (tgSlots t).all (fun j => decide (j ∈ own)) = true) (h5 : chk T.low N e (relS scope sc) (.e elt) = true)
    (h6 : (match ifs with
        | [] => isYes c
        | [x] => chk T.low N c (relS scope sc) (.t x)
        | _ => false) = true) : Blk X tb fa ca Φ kin scope (ownP N own) tg t ifs c elt e := by
  have ok := blkOk_by h2
  refine ⟨by rw [G.eSc, G.eN]; exact ok, fun s H C cl fp => ?_, fun s H C cl fp => ?_, fun s H C cl fp => ?_, fun j hj => ?_⟩
  · exact tg_ok (G.blk ok s H C cl fp) t (.inl tg) h3
  · split at h6
    · rw [isYes_of h6]
      exact n_noif
    · exact pts_one (ihc (.t _) (G.blk ok s H C cl fp) h6)
    · cases h6
  · exact ihe (.e elt) (G.blk ok s H C cl fp) h5
  · rw [h1]
    exact of_decide_eq_true (List.all_eq_true.mp h4 j hj)
theorem ck_comp {e it c : Ex} {t : Tg} {own : List Nat} (ihe : ChkOk T.low N tb fa ca Φ kin k e) (ihit : ChkOk T N tb fa ca Φ kin k it) (ihc : ChkOk T.low N tb fa ca Φ kin k c) : ChkOk T N tb fa ca Φ kin k (.comp e t it c own) := by
  intro X W fl sc m G h
  unfold chk at h
  split at h
  · rename_i elt g scope p ev
    obtain ⟨tg, iter, ifs, asy⟩ := g
    simp only [Bool.and_eq_true, decide_eq_true_eq] at h
    obtain ⟨⟨⟨⟨⟨⟨⟨⟨rfl, h1⟩, h2⟩, h3⟩, h4⟩, h5⟩, h6⟩, h7⟩, h8⟩ := h
    refine val_ok ev ?_
    have B := blk_ok G (t := t) (ifs := ifs) ihe ihc h2 h1 h3 h4 h7 h8
    have := n_comp (pos := p) G.calm G.nd B (ihit (.i tg iter) G h6) (folded_of h5)
    rw [h1] at this
    exact this
  · cases h
theorem ck_ltry {e : Ex} (ihe : ChkOk T.low N tb fa ca Φ kin k e) : ChkOk T N tb fa ca Φ kin k (.ltry e) := by
  intro X W fl sc m G h
  unfold chk at h
  split at h
  · rename_i f p1 params body scope lp p ev
    simp only [Bool.and_eq_true, decide_eq_true_eq] at h
    obtain ⟨⟨⟨⟨⟨htr, rfl⟩, hg⟩, hl⟩, hp⟩, hb⟩ := h
    refine val_ok ev ?_
    have L := LamX.lamS_by hl
    obtain ⟨st, g, kst, kg, kscope, sg, c, P, TM, TB, hcode, hmT, hu⟩ := G.lm htr
    have hk := G.kq htr
    subst hk
    unfold noPar at hp
    simp only [Bool.and_eq_true, List.isEmpty_iff, Option.isNone_iff_eq_none] at hp
    obtain ⟨⟨⟨⟨⟨⟨a1, a2⟩, a3⟩, a4⟩, a5⟩, a6⟩, a7⟩ := hp
    obtain ⟨q1, q2, q3, q4, q5, q6, q7⟩ := params
    dsimp only at a1 a2 a3 a4 a5 a6 a7
    subst a1 a2 a3 a4 a5 a6 a7
    exact n_ltry TM (G.room2 htr) (G.gl hg) TB hcode hmT hu (by rw [G.eSc]; exact L) rfl (fun _ _ _ _ _ => rfl) fun A outer s H E f d hr => ihe (.e body) (G.lam L hr) hb
  · cases h
theorem chk_ok (ir : Ex) : ChkOk T N tb fa ca Φ kin k ir := by
  induction ir generalizing T with
  | var i => exact ck_var
  | take i => exact ck_take
  | cst c => exact ck_cst
  | glob x c => exact ck_glob
  | nil => exact ck_nil
  | cons a b iha ihb => exact ck_cons iha ihb
  | pair a c b iha ihc ihb => exact ck_pair iha ihc ihb
  | tup a iha => exact ck_tup iha
  | lst a iha => exact ck_lst iha
  | bin o a b iha ihb => exact ck_bin iha ihb
  | neg a iha => exact ck_neg iha
  | and a b iha ihb => exact ck_and iha ihb
  | or a b iha ihb => exact ck_or iha ihb
  | not a iha => exact ck_not iha
  | cmp o a b iha ihb => exact ck_cmp iha ihb
  | cmpS o i b ihb => exact ck_cmpS ihb
  | inS n a i iha => exact ck_inS iha
  | chain o o' a b c iha ihb ihc => exact ck_chain iha ihb ihc
  | ife c a b ihc iha ihb => exact ck_ife ihc iha ihb
  | call f a iha => exact ck_call iha
  | io f i a iha => exact ck_io iha
  | callV i fs a iha => exact ck_callV iha
  | bi b a iha => exact ck_bi iha
  | lenS i => exact ck_lenS
  | isi t a iha => exact ck_isi iha
  | ix a b iha ihb => exact ck_ix iha ihb
  | ixS i b ihb => exact ck_ixS ihb
  | sl a lo hi iha ihlo ihhi => exact ck_sl iha ihlo ihhi
  | slL a lo iha ihlo => exact ck_slL iha ihlo
  | slH a hi iha ihhi => exact ck_slH iha ihhi
  | rev a iha => exact ck_rev iha
  | getS i k d ihk ihd => exact ck_getS ihk ihd
  | pop0 i => exact ck_pop0
  | dnk => exact ck_dnk
  | dnt => exact ck_dnt
  | disp a iha => exact ck_disp iha
  | join z b ihb => exact ck_join ihb
  | split a c iha => exact ck_split iha
  | comp e t it c own ihe ihit ihc => exact ck_comp ihe ihit ihc
  | itSeq a iha => exact ck_itSeq iha
  | itRng1 a iha => exact ck_itRng1 iha
  | itRng a b iha ihb => exact ck_itRng iha ihb
  | itDown a b iha ihb => exact ck_itDown iha ihb
  | itZip a b iha ihb => exact ck_itZip iha ihb
  | itZip3 a b c iha ihb ihc => exact ck_itZip3 iha ihb ihc
  | itEnum a iha => exact ck_itEnum iha
  | sortedKeys i => exact ck_sortedKeys
  | ltry e ihe => exact ck_ltry ihe
  | _ =>
    intro X W fl sc m G h
    unfold chk at h
    cases h
end
end Ir

set_option Elab.async false
set_option linter.all false
set_option maxRecDepth 100000
set_option maxHeartbeats 8000000
/-! The checker: statements. -/
namespace Ir
open PySem PySem.Spec PyProof.Rows L2
inductive Ms where
  | s (x : Stmt)
  | b (xs : List Stmt)
def Ms.one : Ms → Option Stmt
  | .s x => some x
  | .b [x] => some x
  | _ => none
def noz (p0 : Bool) (i : Nat) : Bool := !p0 || !(i == 0)
def fnsB (T : Tab) (sc : Scope) : List Expr → List Nat → Bool
  | [], [] => true
  | .Name x _ :: es, f :: fs => decide (T.names f = some x) && glB sc x && fnsB T sc es fs
  | _, _ => false
def ownsB (scope : Scope) (x : Str) : Bool := scope.names.any fun (n, k) => n == x && (k == .local || k == .cell)
def allFolded : Expr → Bool
  | .Tuple vs _ _ => vs.all (foldedForSure 8)
  | _ => false
def isComp : Ex → Bool
  | .comp _ _ _ _ _ => true
  | _ => false
section
variable (T : Tab) (N : List Str) (sc : Scope) (p0 : Bool)
def chkS : Sm → Ms → Bool
  | .set i e, m => match m.one with
    | some (.Assign [.Name x pn] v _) => decide (N[i]? = some x) && locB true sc x && noz p0 i && chk T N e sc (.e v) && (ncomp v || (match v with
      | .ListComp _ _ scope cp => !lcB sc x || (isComp e && decide (pn.line = cp.line) && !ownsB scope x)
      | _ => false))
    | _ => false
  | .setT t e, m => match m.one with
    | some (.Assign [.Tuple ts k p1] v _) => tgB N true sc t (.inl (.Tuple ts k p1)) && chk T N e sc (.e v) && (tgSlots t).all (noz p0) && (!isTup v || decide ((swNames sc ((ts.head?.map (·.pos.line)).getD 0) ts).length ≠ ts.length) || allFolded v)
    | _ => false
  | .par i j a b, m => match m.one with
    | some (.Assign [.Tuple [.Name x px, .Name y py] _ _] (.Tuple [u, v] _ _) _) => decide (N[i]? = some x) && decide (N[j]? = some y) && !(i == j) && lcB sc x && lcB sc y && decide (x ≠ y) && nst u && nst v && (py.line == px.line) &&
      !(foldedForSure 8 u && foldedForSure 8 v) && !(constantsAlone 8 u && constantsAlone 8 v) && noz p0 i && noz p0 j && chk T N a sc (.e u) && chk T N b sc (.e v)
    | _ => false
  | .setIx i k e, m => match m.one with
    | some (.Assign [.Subscript (.Name x _) y _] v _) => vB N sc x i && nslice y && chk T N k sc (.e y) && chk T N e sc (.e v)
    | _ => false
  | .setIx2 i k k2 e e2, m => match m.one with
    | some (.Assign [.Tuple [.Subscript (.Name x _) y _, .Subscript (.Name x2 _) y2 _] _ _] (.Tuple [v, v2] _ _) _) => vB N sc x i && decide (x2 = x) && nslice y && nslice y2 && nst v && nst v2 && chk T N k sc (.e y) && chk T N k2 sc (.e y2) && chk T N e sc (.e v) && chk T N e2 sc (.e v2)
    | _ => false
  | .app i e, m => match m.one with
    | some (.Expr (.Call (.Attribute (.Name x _) mt ap) [y] [] cp) _) => decide (mt = "append") && vB N sc x i && nst y && (ap.endLine == cp.line) && chk T N e sc (.e y)
    | _ => false
  | .ife c a b, m => match m.one with
    | some (.If t as bs _) => chk T N c sc (.t t) && chkS a (.b as) && chkS b (.b bs)
    | _ => false
  | .for_ t it b, m => match m.one with
    | some (.For tg iter body [] _) => tgB N true sc t (.inl tg) && chk T N it sc (.i tg iter) && nset iter && (tgSlots t).all (noz p0) && chkS b (.b body)
    | _ => false
  | .forFn i fs b, m => match m.one with
    | some (.For (.Name x _) (.Tuple es _ _) body [] _) => decide (N[i]? = some x) && locB true sc x && noz p0 i && decide (fs.length ≤ 1000) && fnsB T sc es fs && chkS b (.b body)
    | _ => false
  | .while_ _ c b, m => match m.one with
    | some (.While t body [] _) => chk T N c sc (.t t) && chkS b (.b body)
    | _ => false
  | .ret e, m => match m.one with
    | some (.Return (some v) _) => chk T N e sc (.e v)
    | _ => false
  | .retn, m => match m.one with
    | some (.Return none _) => true
    | _ => false
  | .raise x, m => match m.one with
    | some (.Raise (some (.Call (.Name y _) [.Constant (.str _) _ _] [] _)) none _) => x.lim.isNone && decide (T.cls[x.cls]? = some y) && glB sc y
    | _ => false
  | .expr e, m => match m.one with
    | some (.Expr v _) => ncomp v && chk T N e sc (.e v)
    | _ => false
  | .seq a b, m => match m with
    | .b (x :: xs) => chkS a (.s x) && chkS b (.b xs)
    | _ => false
  | .skip, m => match m with
    | .b [] => true
    | .s (.Pass _) => true
    | .b [.Pass _] => true
    | _ => false
  | .brk, m => match m.one with
    | some (.Break _) => true
    | _ => false
  | .cont, m => match m.one with
    | some (.Continue _) => true
    | _ => false
end
def SndM (X : Cx) (tb : Tbs) (fa ca : Nat → Addr) (W : WX) (Φ : Fs) (kin : Exn → D) (p0 : Bool) (ir : Sm) : Ms → Prop
  | .s x => PSx X tb fa ca W Φ kin p0 x ir
  | .b xs => PSsx X tb fa ca W Φ kin p0 xs ir
section
variable {T : Tab} {N : List Str} {X : Cx} {tb : Tbs} {fa ca : Nat → Addr} {W : WX} {Φ : Fs} {kin : Exn → D} {k : Nat} {sc : Scope} {p0 : Bool}
theorem one_ok {m : Ms} {x : Stmt} {ir : Sm} (h : m.one = some x) (p : PSx X tb fa ca W Φ kin p0 x ir) : SndM X tb fa ca W Φ kin p0 ir m := by
  cases m with
  | s y =>
    cases h
    exact p
  | b ys =>
    cases ys with
    | nil => cases h
    | cons y r =>
      cases r with
      | nil =>
        cases h
        exact n_one p
      | cons z r => cases h
theorem noz_of {i : Nat} (h : noz p0 i = true) : p0 = true → i ≠ 0 := fun e z => by
  subst e z
  cases h
theorem nozs_of {is : List Nat} (h : is.all (noz p0) = true) : p0 = true → 0 ∉ is := fun e z => by
  have := List.all_eq_true.mp h 0 z
  subst e
  cases this
theorem lc_of {x : Str} (h : lcB sc x = true) : sc.names.lookup x = some .local := of_decide_eq_true h
theorem fns_ok {fl : Bool} (G : GoodX T N X tb fa ca W Φ kin k fl sc) : ∀ {es : List Expr} {fs : List Nat}, fnsB T sc es fs = true → PA X es (tFa fa fs)
  | [], [], _ => n_fnil
  | [], _ :: _, h => by simp [fnsB] at h
  | e :: es, [], h => by cases e <;> simp [fnsB] at h
  | e :: es, f :: fs, h => by
    cases e <;> first | (simp [fnsB] at h; done) | skip
    rename_i x p
    simp only [fnsB, Bool.and_eq_true, decide_eq_true_eq] at h
    obtain ⟨⟨h1, h2⟩, h3⟩ := h
    obtain ⟨m, d⟩ := G.nmd f x h1
    exact n_fcons ⟨G.gl h2, m, d⟩ (fns_ok G h3) (star_of rfl)
theorem chkS_ok (G : GoodX T N X tb fa ca W Φ kin k true sc) (hp : PassesOwn (model X.prog X.w) X.A X.env X.xe) : ∀ (ir : Sm) (m : Ms), chkS T N sc p0 ir m = true → SndM X tb fa ca W Φ kin p0 ir m := by
  have ix : ∀ {i : Nat} {x : Str}, N[i]? = some x → X.N[i]? = some x := fun h => by rw [G.eN]; exact h
  have lo : ∀ {x : Str}, locB true sc x = true → Loc X.env.scope x := fun h => by rw [G.eSc]; exact (locB_of h).1
  have fn : ∀ x, X.fn x = true := G.fn rfl
  have E : ∀ {e : Ex} (x : Expr), chk T N e sc (.e x) = true → PEx X tb fa ca W Φ kin x e := fun x h => chk_ok _ (.e x) G h
  have Te : ∀ {e : Ex} (x : Expr), chk T N e sc (.t x) = true → PTx X tb fa ca W Φ kin x e := fun x h => chk_ok _ (.t x) G h
  have I : ∀ {e : Ex} (tg x : Expr), chk T N e sc (.i tg x) = true → PIx X tb fa ca W Φ kin tg x e := fun tg x h => chk_ok _ (.i tg x) G h
  intro ir
  induction ir with
  | set i e =>
    intro m h
    unfold chkS at h
    split at h
    · rename_i x pn v p ev
      simp only [Bool.and_eq_true, decide_eq_true_eq] at h
      obtain ⟨⟨⟨⟨h1, h2⟩, h3⟩, h4⟩, h5⟩ := h
      refine one_ok ev ?_
      have pl := fun hs => n_set (pn := pn) (pos := p) (p0 := p0) G.nd (ix h1) (lo h2) (.inl (fn _)) (E v h4) hs (noz_of h3)
      rw [Bool.or_eq_true] at h5
      rcases h5 with h5 | h5
      · exact pl (swaps_of h5)
      · cases v <;> first | (cases h5; done) | skip
        rename_i elt gs scope cp
        simp only [Bool.and_eq_true, Bool.or_eq_true, Bool.not_eq_true', decide_eq_true_eq] at h5
        rcases h5 with h5 | ⟨⟨h5, h6⟩, h7⟩
        · exact pl (swaps_comp_no (by rw [G.eSc]; exact h5))
        · by_cases hl : lcB sc x = true
          · cases e <;> first | (cases h5; done) | skip
            rename_i e t it c own
            unfold chk at h4
            split at h4
            · rename_i elt' g scope' p' ev'
              cases ev'
              obtain ⟨tg, iter, ifs, asy⟩ := g
              simp only [Bool.and_eq_true, decide_eq_true_eq] at h4
              obtain ⟨⟨⟨⟨⟨⟨⟨⟨rfl, g1⟩, g2⟩, g3⟩, g4⟩, g5⟩, g6⟩, g7⟩, g8⟩ := h4
              have B := blk_ok G (t := t) (ifs := ifs) (chk_ok e) (chk_ok c) g2 g1 g3 g4 g7 g8
              have hk : X.env.scope.kind = .function := by rw [G.eSc]; exact G.kind
              have lx : X.env.scope.names.lookup x = some .local := by rw [G.eSc]; exact lc_of hl
              have r := n_setLc (pos := p) (cp := cp) (pn := pn) (i := i) (p0 := p0) G.calm G.nd (ix h1) lx (swaps_comp hk lx h6 h7) B (I tg iter g6) (folded_of g5) (noz_of h3)
              rw [g1] at r
              exact r
            · cases h4
          · exact pl (swaps_comp_no (by rw [G.eSc]; exact eq_false_of_ne_true hl))
    · cases h
  | setT t e =>
    intro m h
    unfold chkS at h
    split at h
    · rename_i ts kk p1 v p ev
      simp only [Bool.and_eq_true, Bool.or_eq_true, Bool.not_eq_true', decide_eq_true_eq] at h
      obtain ⟨⟨⟨h1, h2⟩, h3⟩, h4⟩ := h
      refine one_ok ev (n_setT (E v h2) (tg_ok G t (.inl _) h1) (swapsSole_of (.inr rfl)) ?_ (asg1_of rfl) (nozs_of h3))
      rcases h4 with (h4 | h4) | h4
      · exact swapped_noTup (by cases v <;> first | rfl | (cases h4; done))
      · cases v with
        | Tuple vs k2 p2 => exact swapped_none (by rw [G.eSc]; exact h4)
        | _ => exact swapped_noTup rfl
      · cases v with
        | Tuple vs k2 p2 => exact swapped_folded h4
        | _ => exact swapped_noTup rfl
    · cases h
  | par i j a b =>
    intro m h
    unfold chkS at h
    split at h
    · rename_i x px y py k1 p1 u v k2 p2 p ev
      simp only [Bool.and_eq_true, Bool.not_eq_true', decide_eq_true_eq, beq_iff_eq, beq_eq_false_iff_ne] at h
      obtain ⟨⟨⟨⟨⟨⟨⟨⟨⟨⟨⟨⟨⟨⟨h1, h2⟩, h3⟩, h4⟩, h5⟩, h6⟩, h7⟩, h8⟩, h9⟩, h10⟩, h11⟩, h12⟩, h13⟩, h14⟩, h15⟩ := h
      have lx : X.env.scope.names.lookup x = some .local := by rw [G.eSc]; exact lc_of h4
      have ly : X.env.scope.names.lookup y = some .local := by rw [G.eSc]; exact lc_of h5
      have hk : X.env.scope.kind = .function := by rw [G.eSc]; exact G.kind
      exact one_ok ev (n_par G.calm G.nd (ix h1) (ix h2) h3 lx ly (E u h14) (E v h15) (by rw [star_of h7, star_of h8]; rfl) (star_of h8) (swapped_two hk lx ly h6 h9 h7 h8 h10 h11) (swapsSole_of (.inr rfl)) fun z => ⟨noz_of h12 z, noz_of h13 z⟩)
    · cases h
  | setIx i kk e =>
    intro m h
    unfold chkS at h
    split at h
    · rename_i x pn y po v p ev
      simp only [Bool.and_eq_true] at h
      obtain ⟨⟨⟨h1, h2⟩, h3⟩, h4⟩ := h
      exact one_ok ev (n_setIx G.units1 (G.var h1 pn) (E y h3) (E v h4) (asgSub_of h2) (swapsSole_of (.inr rfl)) (swapped_single rfl) (asg1_of rfl))
    · cases h
  | setIx2 i kk k2 e e2 =>
    intro m h
    unfold chkS at h
    split at h
    · rename_i x pn y po x2 pn2 y2 po2 k1 p1 v v2 k2 p2 p ev
      simp only [Bool.and_eq_true, decide_eq_true_eq] at h
      obtain ⟨⟨⟨⟨⟨⟨⟨⟨⟨h1, rfl⟩, h2⟩, h3⟩, h4⟩, h5⟩, h6⟩, h7⟩, h8⟩, h9⟩ := h
      exact one_ok ev (n_setIx2 G.calm G.units1 (G.var h1 pn) (G.var h1 pn2) (E y h6) (E y2 h7) (E v h8) (E v2 h9) (by rw [star_of h4, star_of h5]; rfl) (star_of h5) (asgSub_of h2) (asgSub_of h3) (asg1_of rfl) (asg1_of rfl) (asgLen_of rfl) (asgStar_of rfl)
        (swapsSole_of (.inr rfl)) (swapped_none (by simp [swNames])) (asg1_of rfl))
    · cases h
  | app i e =>
    intro m h
    unfold chkS at h
    split at h
    · rename_i x pn mt ap y cp p ev
      simp only [Bool.and_eq_true, decide_eq_true_eq] at h
      obtain ⟨⟨⟨⟨rfl, h1⟩, h2⟩, h3⟩, h4⟩ := h
      exact one_ok ev (n_app (G.var h1 pn) (E y h4) rfl (by rw [star_of h2]; rfl) h3 (star_of h2) (swaps_of rfl))
    · cases h
  | ife c a b iha ihb =>
    intro m h
    unfold chkS at h
    split at h
    · rename_i t as bs p ev
      simp only [Bool.and_eq_true] at h
      exact one_ok ev (n_ifS (Te t h.1.1) (iha (.b as) h.1.2) (ihb (.b bs) h.2))
    · cases h
  | for_ t it b ihb =>
    intro m h
    unfold chkS at h
    split at h
    · rename_i tg iter body p ev
      simp only [Bool.and_eq_true] at h
      obtain ⟨⟨⟨⟨h1, h2⟩, h3⟩, h4⟩, h5⟩ := h
      exact one_ok ev (n_for hp G.calm (I tg iter h2) (tg_ok G t (.inl tg) h1) (ihb (.b body) h5) (folded_of h3) (nozs_of h4))
    · cases h
  | forFn i fs b ihb =>
    intro m h
    unfold chkS at h
    split at h
    · rename_i x pn es kk pt body p ev
      simp only [Bool.and_eq_true, decide_eq_true_eq] at h
      obtain ⟨⟨⟨⟨⟨h1, h2⟩, h3⟩, h4⟩, h5⟩, h6⟩ := h
      exact one_ok ev (n_forFn hp G.calm (Nat.le_of_lt (small1000 h4)) (fns_ok G h5) G.nd (ix h1) (lo h2) (.inl (fn _)) (ihb (.b body) h6) (folded_of rfl) (noz_of h3))
    · cases h
  | while_ n c b ihb =>
    intro m h
    unfold chkS at h
    split at h
    · rename_i t body p ev
      simp only [Bool.and_eq_true] at h
      exact one_ok ev (n_while hp (Te t h.1) (ihb (.b body) h.2))
    · cases h
  | ret e =>
    intro m h
    unfold chkS at h
    split at h
    · rename_i v p ev
      exact one_ok ev (n_ret (E v h))
    · cases h
  | retn =>
    intro m h
    unfold chkS at h
    split at h
    · rename_i p ev
      exact one_ok ev n_retn
    · cases h
  | raise x =>
    intro m h
    unfold chkS at h
    split at h
    · rename_i y p1 z kk p2 p3 p ev
      simp only [Bool.and_eq_true, decide_eq_true_eq] at h
      obtain ⟨⟨h1, h2⟩, h3⟩ := h
      obtain ⟨c, l⟩ := x
      cases l with
      | some n => cases h1
      | none =>
        obtain ⟨q1, q2, q3, q4, q5⟩ := G.cls c y h2
        exact one_ok ev (n_raise G.calm G.tk ⟨G.gl h3, q1, q2, q3, q4, q5⟩)
    · cases h
  | expr e =>
    intro m h
    unfold chkS at h
    split at h
    · rename_i v p ev
      simp only [Bool.and_eq_true] at h
      exact one_ok ev (n_expr (E v h.2) (swaps_of h.1))
    · cases h
  | seq a b iha ihb =>
    intro m h
    unfold chkS at h
    split at h
    · rename_i x xs
      simp only [Bool.and_eq_true] at h
      exact n_seq (iha (.s x) h.1) (ihb (.b xs) h.2)
    · cases h
  | skip =>
    intro m h
    unfold chkS at h
    split at h
    · exact n_nilS
    · exact n_pass
    · exact n_one n_pass
    · cases h
  | brk =>
    intro m h
    unfold chkS at h
    split at h
    · rename_i p ev
      exact one_ok ev n_brk
    · cases h
  | cont =>
    intro m h
    unfold chkS at h
    split at h
    · rename_i p ev
      exact one_ok ev n_cont
    · cases h
end
end Ir

set_option Elab.async false
set_option linter.all false
set_option maxRecDepth 100000
set_option maxHeartbeats 8000000
/-! The table of defs keeps its promises, level by level. -/
namespace Ir
open PySem PySem.Spec PyProof.Rows L2
def RaisesK (K : PySem.W.Frag) (cls : Value) : Prop := ∀ (M : Model) (h : Heap), K.In h → PySem.W.Looks M h (isSubtype cls (.type "BaseException")) true ∧ PySem.W.Looks M h (typeOf cls) (.type "type")
structure ClK (K : PySem.W.Frag) (mg : Str → Option Value) (ca : Nat → Addr) (x : Str) (c : Nat) : Prop where
  m : mg x = some (.ref (ca c))
  k : PySem.W.keepIn K (.ref (ca c)) = true
  r : RaisesK K (.ref (ca c))
  d : (x == ("__debug__" : Str)) = false
  e : ∃ B newId initId bmB, ExcBaseFacts B newId initId bmB ∧ PySem.W.excIn K (ca c) bmB newId = true
def nmOk (x : Str) : Bool := !(x == ("__debug__" : Str)) && !(x == ("__classdict__" : Str))
/-- a def's text beside its mirror -/
def chkFn (T : Tab) (fn : Fn) (st : Stmt) : Bool :=
  C8.scC fn.ns (fn.ns.take fn.np) (defScope st) && fn.ns.all nmOk && argsB (defArgs st) (fn.ns.take fn.np) && decide (fn.np ≤ fn.ns.length) && chkS T fn.ns (defScope st) fn.io fn.body (.b (defBody st))
/-- the module, as it stands -/
structure ModI (TT : Nat → Option Fn) (T : Tab) (K : PySem.W.Frag) (mg : Str → Option Value) (tb : Tbs) (fa ca : Nat → Addr) (st : Nat → Stmt) (lt : Nat → Bool) : Prop where
  blt : ∀ x ∈ bltNames, mg x = none
  tn : ∀ f, T.names f = (TT f).map (·.name)
  ti : ∀ f, T.ios f = (TT f).map (·.io)
  nmd : ∀ f fn, TT f = some fn → mg fn.name = some (.ref (fa f)) ∧ (fn.name == ("__debug__" : Str)) = false
  fu : ∀ f fn, TT f = some fn → ∃ fd, Fun K fn.name fn.name (st f) (fa f) fd
  ck : ∀ f fn, TT f = some fn → chkFn { T with tr := lt f } fn (st f) = true
  con : ∀ p ∈ T.con, (∃ u, mg p.1 = some u ∧ RelV (.int p.2) u) ∧ (p.1 == ("__debug__" : Str)) = false
  cls : ∀ c x, T.cls[c]? = some x → ClK K mg ca x c
/-- the defs that make lambdas -/
structure ModL (TT : Nat → Option Fn) (K : PySem.W.Frag) (mg : Str → Option Value) (base : Heap) (tb : Tbs) (fa ca : Nat → Addr) (lt : Nat → Bool) (kin : Exn → D) : Prop where
  kq : ∀ f, lt f = true → kin = kinD
  lm : ∀ f fn, TT f = some fn → lt f = true → ∃ st g kst kg kscope sg c P, TryM K mg ca st g kst kg kscope sg ∧ LamX.TabB base mg c P ∧ (∀ oc od fd osl, K.lookup (fa f) = some ⟨oc, od, .func fd, osl⟩ → fd.code = .ref c) ∧
    (P, fn.name ++ ".<locals>." ++ "<lambda>") ∈ tb ∧ ∀ p ∈ tb, p.1 = P → p.2 = fn.name ++ ".<locals>." ++ "<lambda>"
structure FokK (P : Program) (w : World) (K : PySem.W.Frag) (mg : Str → Option Value) (base : Heap) (tb : Tbs) (fa ca : Nat → Addr) (k : Nat) (io : Bool) (g : List D → List D → FRes) (f : Nat) : Prop where
  ok : ∃ fd ps, FnOk P w K mg base (L2N.CX P w) k (fa f) fd ps (spOf ⟨K, tb, fa, ca⟩ io g) ∧ Binds K fd ps []
  kp : PySem.W.keepIn K (.ref (fa f)) = true
section
variable {P : Program} {w : World} {K : PySem.W.Frag} {mg : Str → Option Value} {base : Heap} {tb : Tbs} {fa ca : Nat → Addr} {TT : Nat → Option Fn} {T : Tab} {st : Nat → Stmt} {Φ : Fs} {kin : Exn → D} {k : Nat} {lt : Nat → Bool}
theorem def_okF (M : ModI TT T K mg tb fa ca st lt) (ML : ModL TT K mg base tb fa ca lt kin) (hΦ : ∀ f fn, TT f = some fn → FokK P w K mg base tb fa ca k fn.io (Φ f) f) {f : Nat} {fn : Fn} (hf : TT f = some fn) {fd : FuncData}
    (F : Fun K fn.name fn.name (st f) (fa f) fd) : FnOk P w K mg base (L2N.CX P w) (k + 3) (fa f) fd (fn.ns.take fn.np) (spOf ⟨K, tb, fa, ca⟩ fn.io (callF Φ kin fn)) ∧ Binds K fd (fn.ns.take fn.np) [] := by
  have ck := M.ck f fn hf
  unfold chkFn at ck
  simp only [Bool.and_eq_true, decide_eq_true_eq] at ck
  obtain ⟨⟨⟨⟨c1, c2⟩, c3⟩, c4⟩, c5⟩ := ck
  have S := C8.fnScope_by c1
  have kp := F.kp
  have hps : (fn.ns.take fn.np).length = fn.np := by rw [List.length_take]; omega
  have ndP : (fn.ns.take fn.np).Nodup := S.nd.sublist (List.take_sublist _ _)
  refine ⟨?_, F.binds fun kV doc pm an cdv ct us hl => bind_plain c3 rfl ndP hl⟩
  obtain ⟨oc, od, kV, doc, pm, an, cdv, ct, osl, rfl, lk, hcd⟩ := F.ex
  refine fn_of lk hcd S (fun vs H Q E h => ?_) fun A outer s H vs Q E hr hsp => ?_
  · obtain ⟨Hf, cur, ds, us, ia, h1, ht, hs, h2, h3, h4⟩ := h
    have hl := DpAll.len h2
    unfold callF at h4
    by_cases hh : (ds.length + if fn.io then 1 else 0) = fn.np ∧ fn.np ≤ fn.ns.length
    · rw [if_pos hh] at h4
      rw [hps, ← hh.1]
      cases hio : fn.io with
      | true =>
        rw [hio, if_pos rfl] at h3
        obtain ⟨a, ws, _, rfl, _⟩ := h3
        simp [hl]
      | false =>
        rw [hio, if_neg Bool.false_ne_true] at h3
        obtain ⟨_, rfl, _⟩ := h3
        simp [hl]
    · rw [if_neg hh] at h4
      exact h4.elim
  · refine ⟨tS ⟨K, tb, fa, ca⟩ (fun cls d _ H => E cls d H) fn.io (run Φ kin fn.body), ?_, ?_⟩
    · have G : GoodX { T with tr := lt f } fn.ns (cxOf (L2N.CX P w) P w K mg base fn.ns fn.name (defScope (st f)) (fa f) cdv A outer s H E) tb fa ca (fun cls d _ H => E cls d H) Φ kin k true (defScope (st f)) := {
        eSc := rfl
        eN := rfl
        nd := S.nd
        nm := fun x hx => by
          have := List.all_eq_true.mp c2 x hx
          unfold nmOk at this
          simpa using this
        kind := S.kind
        calm := rfl
        room := hr.mono (by omega)
        room2 := fun _ => hr
        kq := fun h => ML.kq f h
        lm := fun h => by
          obtain ⟨a1, a2, a3, a4, a5, a6, a7, a8, b1, b2, b3, b4, b5⟩ := ML.lm f fn hf h
          exact ⟨a1, a2, a3, a4, a5, a6, a7, a8, b1, b2, b3 _ _ _ _ lk, b4, b5⟩
        tk := L2N.takes_of rfl rfl rfl rfl
        blt := M.blt
        nmd := fun f x h => by
          rw [M.tn] at h
          cases e : TT f with
          | none => rw [e] at h; cases h
          | some g =>
            rw [e] at h
            cases h
            exact M.nmd f g e
        fok := fun f io h => by
          rw [M.ti] at h
          cases e : TT f with
          | none => rw [e] at h; cases h
          | some g =>
            rw [e] at h
            cases h
            obtain ⟨⟨fd, ps, q1, q2⟩, q3⟩ := hΦ f g e
            exact ⟨⟨fd, ps, q1, q2⟩, q3⟩
        con := M.con
        cls := fun c x h => by
          obtain ⟨q1, q2, q3, q4, q5⟩ := M.cls c x h
          exact ⟨q1, q2, q3, q4, q5⟩
        fn := fun _ _ => rfl }
      exact chkS_ok G (passes_of rfl) fn.body (.b (defBody (st f))) c5
    · obtain ⟨Hf, cur, ds, us, ia, h1, ht, hs, h2, h3, h4⟩ := hsp
      unfold callF at h4
      by_cases hh : (ds.length + if fn.io then 1 else 0) = fn.np ∧ fn.np ≤ fn.ns.length
      · rw [if_pos hh] at h4
        have hl := DpAll.len h2
        cases hio : fn.io with
        | true =>
          rw [hio, if_pos rfl] at h3
          obtain ⟨a, ws, rfl, rfl, q1, q2, q3⟩ := h3
          have hn : ds.length + 1 = fn.np := by
            have := hh.1
            rw [hio] at this
            exact this
          have z := st0_io (w := ⟨K, tb, fa, ca⟩) (m := fn.ns.length) h1 ht hs h2 hn q1 q2 q3
          have e1 : startS fn cur ds = some (.own cur) :: (ds.map (fun x => some (.d x)) ++ List.replicate (fn.ns.length - fn.np) none) := by
            unfold startS
            rw [hio]
            rfl
          have e2 : L2.start fn.ns (.ref a :: us) = some (.ref a) :: (us.map some ++ List.replicate (fn.ns.length - (us.length + 1)) none) := rfl
          rw [e1] at h4
          rw [e2]
          have := entry z (by rw [hio]; rfl) h4
          rw [hio] at this
          exact this
        | false =>
          rw [hio, if_neg Bool.false_ne_true] at h3
          obtain ⟨rfl, rfl, rfl⟩ := h3
          have hn : ds.length = fn.np := by
            have := hh.1
            rw [hio] at this
            exact this
          have z := st0_plain (w := ⟨K, tb, fa, ca⟩) (m := fn.ns.length) h1 ht hs h2 hn
          have e1 : startS fn [] ds = ds.map (fun x => some (.d x)) ++ List.replicate (fn.ns.length - fn.np) none := by
            unfold startS
            rw [hio]
            rfl
          rw [e1] at h4
          have := entry z (by rw [hio]; rfl) h4
          rw [hio] at this
          exact this
      · rw [if_neg hh] at h4
        exact h4.elim
theorem def_ok (M : ModI TT T K mg tb fa ca st lt) (ML : ModL TT K mg base tb fa ca lt kin) (hΦ : ∀ f fn, TT f = some fn → FokK P w K mg base tb fa ca k fn.io (Φ f) f) {f : Nat} {fn : Fn} (hf : TT f = some fn) :
    FokK P w K mg base tb fa ca (k + 3) fn.io (callF Φ kin fn) f := by
  obtain ⟨fd, F⟩ := M.fu f fn hf
  obtain ⟨h1, h2⟩ := def_okF (k := k) M ML hΦ hf F
  exact ⟨⟨fd, _, h1, h2⟩, F.kp⟩
theorem table (M : ModI TT T K mg tb fa ca st lt) (ML : ModL TT K mg base tb fa ca lt kin) : ∀ (n f : Nat) (fn : Fn), TT f = some fn → FokK P w K mg base tb fa ca (3 * n) fn.io (sem TT kin n f) f
  | 0, f, fn, hf => by
    obtain ⟨fd, F⟩ := M.fu f fn hf
    have no : ∀ vs H Q E, ¬ spOf (⟨K, tb, fa, ca⟩ : Wd) fn.io (sem TT kin 0 f) vs H Q E := fun vs H Q E ⟨_, _, _, _, _, _, _, _, _, _, h⟩ => h
    exact ⟨⟨fd, fn.ns.take fn.np, ⟨fun vs H Q E h => (no _ _ _ _ h).elim, fun A outer s H args us vs Q E _ _ _ _ h => (no _ _ _ _ h).elim⟩, by
      have ck := M.ck f fn hf
      unfold chkFn at ck
      simp only [Bool.and_eq_true, decide_eq_true_eq] at ck
      obtain ⟨⟨⟨⟨c1, c2⟩, c3⟩, c4⟩, c5⟩ := ck
      have S := C8.fnScope_by c1
      exact F.binds fun kV doc pm an cdv ct us hl => bind_plain c3 rfl (S.nd.sublist (List.take_sublist _ _)) hl⟩, F.kp⟩
  | n + 1, f, fn, hf => by
    have h := def_ok (kin := kin) M ML (fun f fn hf => table M ML n f fn hf) hf
    have e : sem TT kin (n + 1) f = callF (sem TT kin n) kin fn := by
      funext io as
      show (match TT f with
        | some fn => callF (sem TT kin n) kin fn io as
        | none => .bad) = _
      rw [hf]
    rw [e]
    exact h
end
end Ir

set_option Elab.async false
set_option linter.all false
set_option maxRecDepth 100000
set_option maxHeartbeats 8000000
/-! The head: what the written part must say, by computation. -/
namespace Ir
open PySem PySem.Spec PyProof.Rows L2
section
variable (K : PySem.W.Frag)
def faOf (x : Str) : Addr := match PySem.W.nsIn K mainGlobals x with
  | some (some (.ref f)) => f
  | _ => 0
def glOk (x : Str) : Bool := match PySem.W.nsIn K mainGlobals x with
  | some (some (.ref _)) => true
  | _ => false
def getFn (f : Addr) : FuncData := match K.lookup f with
  | some ⟨_, _, .func fd, _⟩ => fd
  | _ => default
def hasFn (f : Addr) : Bool := match K.lookup f with
  | some ⟨_, _, .func _, _⟩ => true
  | _ => false
def fnEq (x : Str) (st : Stmt) (f : Addr) : FuncData := PySem.W.fnOf x x (defArgs st) (defBody st) (defScope st) .none (getFn K f).kwdefaults (getFn K f).doc (getFn K f).pyModule (getFn K f).annotations (getFn K f).code (getFn K f).closureTuple
def defB (x : Str) : Bool := glOk K x && hasFn K (faOf K x) && PySem.W.codeIn K (getFn K (faOf K x)).code x && PySem.W.keepIn K (.ref (faOf K x)) && nmOk x
def codeOf (f : Addr) : Addr := match (getFn K f).code with
  | .ref c => c
  | _ => 0
def codeB (f : Addr) : Bool := match (getFn K f).code with
  | .ref _ => true
  | _ => false
def tabOf (c : Addr) : Addr := match K.lookup c with
  | some ⟨_, _, .fields vs, _⟩ => (match (vs[11]? : Option Value) with
    | some (.ref P) => P
    | _ => 0)
  | _ => 0
def freeB (x : Str) : Bool := match PySem.W.nsIn K mainGlobals x with
  | some none => true
  | _ => false
def conB (p : Str × Int) : Bool := match PySem.W.nsIn K mainGlobals p.1 with
  | some (some (.int j _)) => decide (p.2 = j) && !(p.1 == ("__debug__" : Str))
  | _ => false
def optB (o : Option Bool) (b : Bool) : Bool := match o with
  | some c => c == b
  | none => false
def veBm : List Value := [.type "ValueError", .type "Exception", .type "BaseException", .type "object"]
def tyB (o : Option Value) (t : String) : Bool := match o with
  | some (.type u) => u == t
  | _ => false
def blB (o : Option (Option Value)) (t : String) : Bool := match o with
  | some (some (.builtin u)) => u == t
  | _ => false
def clsB (x : Str) : Bool := glOk K x && PySem.W.keepIn K (.ref (faOf K x)) && optB (PySem.W.subIn K (.ref (faOf K x)) (.type "BaseException")) true && tyB (PySem.W.typeIn K (.ref (faOf K x))) "type" && PySem.W.excIn K (faOf K x) veBm "ValueError.__new__" && nmOk x
def noneB (o : Option (Option Value)) : Bool := match o with
  | some none => true
  | _ => false
def excCB (D : Addr) : Bool := blB (PySem.W.findIn K (.ref D) "__getattribute__") "BaseException.__getattribute__" && noneB (PySem.W.findIn K (.ref D) "__getattr__") && optB (PySem.W.subIn K (.ref D) (.type "BaseException")) true && PySem.W.hasDictIn K D &&
  blB (PySem.W.findIn K (.ref D) "__class__") "object.__class__" && blB (PySem.W.specialIn K (.builtin "object.__class__") "__get__") "getset_descriptor.__get__" && optB (PySem.W.takesIn K (.builtin "object.__class__")) true && optB (PySem.W.mroIn K D (.type "object")) true
def caN (c : Nat) : Addr := faOf K (kinC.getD c "")
def kinKB (sg : Addr) : Bool := (List.range 13).all fun c => ((List.range 14).all fun j => optB (PySem.W.kitOne K (.ref (caN K c)) (.ref (caN K j))) (decide (c = j))) && optB (PySem.W.kitOne K (.ref (caN K c)) (.type "ValueError")) true && excCB K (caN K c) &&
  optB (PySem.W.exmOne K (.ref (caN K c)) (.ref sg)) true && optB (PySem.W.exmOne K (.ref (caN K c)) (.ref (caN K 13))) false
def noListB : Bool := K.all fun p => match p.2.cls with
  | .type t => !(t == "list")
  | _ => true
def blt2 : List Str := bltNames ++ (["ValueError"] : List Str)
/-- all of it -/
def headB (nms : List Str) (cons : List (Str × Int)) (lts : List Str) (ts : List Addr) : Bool :=
  nms.all (defB K) && defB K "_law_try" && defB K "_law_kin" && blt2.all (freeB K) && cons.all (conB K) && (kinC.take 13).all (clsB K) && kinC.all (glOk K) && glOk K "SignError" && kinKB K (faOf K "SignError") && noListB K &&
  lts.all (fun x => codeB K (faOf K x) && PySem.W.codeHdIn K (codeOf K (faOf K x)) (tabOf K (codeOf K (faOf K x))) && decide (tabOf K (codeOf K (faOf K x)) ∈ ts) && (K.lookup (tabOf K (codeOf K (faOf K x)))).isNone) &&
  decide ((lts.map fun x => tabOf K (codeOf K (faOf K x))).Nodup)
end
section
variable {K : PySem.W.Frag} {h : Heap} {mg : Str → Option Value}
theorem optB_of {o : Option Bool} {b : Bool} (e : optB o b = true) : o = some b := by
  unfold optB at e
  split at e
  · rw [eq_of_beq e]
  · cases e
theorem tyB_of {o : Option Value} {t : String} (e : tyB o t = true) : o = some (.type t) := by
  unfold tyB at e
  split at e
  · rw [eq_of_beq e]
  · cases e
theorem blB_of {o : Option (Option Value)} {t : String} (e : blB o t = true) : o = some (some (.builtin t)) := by
  unfold blB at e
  split at e
  · rw [eq_of_beq e]
  · cases e
theorem noneB_of {o : Option (Option Value)} (e : noneB o = true) : o = some none := by
  unfold noneB at e
  split at e
  · rfl
  · cases e
theorem glOk_of {x : Str} (e : glOk K x = true) : PySem.W.nsIn K mainGlobals x = some (some (.ref (faOf K x))) := by
  unfold glOk at e
  unfold faOf
  split at e
  · rename_i f hf
    rw [hf]
  · cases e
theorem freeB_of {x : Str} (e : freeB K x = true) : PySem.W.nsIn K mainGlobals x = some none := by
  unfold freeB at e
  split at e
  · assumption
  · cases e
theorem hasFn_of {f : Addr} (e : hasFn K f = true) : ∃ oc od osl, K.lookup f = some ⟨oc, od, .func (getFn K f), osl⟩ := by
  unfold hasFn at e
  unfold getFn
  split at e
  · rename_i a b fd c hf
    rw [hf]
    exact ⟨_, _, _, rfl⟩
  · cases e
theorem codeB_of {f : Addr} (e : codeB K f = true) : (getFn K f).code = .ref (codeOf K f) := by
  unfold codeB at e
  unfold codeOf
  split at e
  · rename_i c hc
    rw [hc]
  · cases e
theorem conB_of {p : Str × Int} (X : K.In h) (G : h.Ns mainGlobals mg) (e : conB K p = true) : (∃ u, mg p.1 = some u ∧ RelV (.int p.2) u) ∧ (p.1 == ("__debug__" : Str)) = false := by
  unfold conB at e
  split at e
  · rename_i j t hj
    simp only [Bool.and_eq_true, decide_eq_true_eq, Bool.not_eq_true'] at e
    exact ⟨⟨_, PySem.W.mg_of X G hj, t, by rw [e.1]⟩, e.2⟩
  · cases e
theorem defB_of {x : Str} {st : Stmt} (e : defB K x = true) (q : getFn K (faOf K x) = fnEq K x st (faOf K x)) : PySem.W.nsIn K mainGlobals x = some (some (.ref (faOf K x))) ∧ Fun K x x st (faOf K x) (getFn K (faOf K x)) ∧ nmOk x = true := by
  unfold defB at e
  simp only [Bool.and_eq_true] at e
  obtain ⟨⟨⟨⟨e1, e2⟩, e3⟩, e4⟩, e5⟩ := e
  obtain ⟨oc, od, osl, hl⟩ := hasFn_of e2
  exact ⟨glOk_of e1, ⟨⟨oc, od, _, _, _, _, _, _, osl, q, hl, e3⟩, e4⟩, e5⟩
theorem clsB_of {ca : Nat → Addr} {x : Str} {c : Nat} (X : K.In h) (G : h.Ns mainGlobals mg) (hc : ca c = faOf K x) (e : clsB K x = true) : ClK K mg ca x c := by
  unfold clsB at e
  simp only [Bool.and_eq_true] at e
  obtain ⟨⟨⟨⟨⟨e1, e2⟩, e3⟩, e4⟩, e5⟩, e6⟩ := e
  unfold nmOk at e6
  simp only [Bool.and_eq_true, Bool.not_eq_true'] at e6
  refine ⟨by rw [hc]; exact PySem.W.mg_of X G (glOk_of e1), by rw [hc]; exact e2, fun M h k => ?_, e6.1, _, _, _, veBm, PySem.F.excBase_ValueError, by rw [hc]; exact e5⟩
  rw [hc]
  exact ⟨PySem.W.looks_subIn k (optB_of e3), PySem.W.looks_typeIn k (tyB_of e4)⟩
theorem excCB_of {D : Addr} (e : excCB K D = true) : ExcC K D := by
  unfold excCB at e
  simp only [Bool.and_eq_true] at e
  obtain ⟨⟨⟨⟨⟨⟨⟨e1, e2⟩, e3⟩, e4⟩, e5⟩, e6⟩, e7⟩, e8⟩ := e
  exact ⟨blB_of e1, noneB_of e2, optB_of e3, e4, blB_of e5, blB_of e6, optB_of e7, optB_of e8⟩
theorem kinKB_of {sg : Addr} (e : kinKB K sg = true) : KinK K (caN K) sg := by
  unfold kinKB at e
  have a : ∀ c, c < 13 → _ := fun c hc => List.all_eq_true.mp e c (List.mem_range.mpr hc)
  simp only [Bool.and_eq_true, List.all_eq_true, List.mem_range] at a
  exact ⟨fun c hc j hj => optB_of ((a c hc).1.1.1.1 j hj), fun c hc => optB_of (a c hc).1.1.1.2, fun c hc => excCB_of (a c hc).1.1.2, fun c hc => optB_of (a c hc).1.2, fun c hc => optB_of (a c hc).2⟩
theorem noList_of (e : noListB K = true) {a : Addr} {o : Obj} (hl : K.lookup a = some o) (hc : o.cls = .type "list") : False := by
  have hm : (a, o) ∈ K := by
    clear e
    induction K with
    | nil => cases hl
    | cons p r ih =>
      obtain ⟨b, q⟩ := p
      rw [List.lookup_cons] at hl
      by_cases z : (a == b) = true
      · rw [z] at hl
        cases hl
        rw [eq_of_beq z]
        exact List.mem_cons_self
      · rw [Bool.eq_false_iff.mpr z] at hl
        exact List.mem_cons_of_mem _ (ih hl)
  have := List.all_eq_true.mp e _ hm
  dsimp only at this
  rw [hc] at this
  simp at this
end
/-- the module's facts, of a law -/
structure LawM (TL : List (Nat × Fn)) (st : Nat → Stmt) (sTry sKin : Stmt) (kscope : Scope) (cons : List (Str × Int)) (lts : List Nat) : Prop where
  ck : TL.all (fun p => chkFn { names := fun f => (TL.lookup f).map (·.name), ios := fun f => (TL.lookup f).map (·.io), cls := kinC.take 13, con := cons, tr := decide (p.1 ∈ lts) } p.2 (st p.1)) = true
  ky : ((TL.map (·.1)).Nodup)
  ln : ∀ g ∈ lts, (TL.lookup g).isSome = true
  tsc : C8.scC tryN ["call_so"] (defScope sTry) = true
  tar : argsB (defArgs sTry) ["call_so"] = true
  tgl : tryScB (defScope sTry) = true
  tbd : IsTry (defBody sTry)
  ksc : C8.scC kinN ["e"] (defScope sKin) = true
  kar : argsB (defArgs sKin) ["e"] = true
  kgl : kinScB (defScope sKin) kscope = true
  kbd : ∀ (ca : Nat → Addr) (X : Cx) (tb : Tbs) (W : WX) (Φ : Fs) (kin : Exn → D) (c : Nat) (p : Addr × Obj), KinX X p ca c kscope → PSsx X tb (fun _ => p.1) ca W Φ kin false (defBody sKin) (kinIR c)
theorem lookup_mem {β : Type} : ∀ {l : List (Nat × β)} {g : Nat} {x : β}, l.lookup g = some x → (g, x) ∈ l
  | [], _, _, h => nomatch h
  | (k, v) :: r, g, x, h => by
    rw [List.lookup_cons] at h
    by_cases e : (g == k) = true
    · rw [e] at h
      cases h
      rw [eq_of_beq e]
      exact List.mem_cons_self
    · rw [Bool.eq_false_iff.mpr e] at h
      exact List.mem_cons_of_mem _ (lookup_mem h)
section
variable {TL : List (Nat × Fn)} {st : Nat → Stmt} {sTry sKin : Stmt} {kscope : Scope} {cons : List (Str × Int)} {lts : List Nat} {K : PySem.W.Frag} {h : Heap} {mg : Str → Option Value} {ts : List Addr}
def nmOf (TL : List (Nat × Fn)) (g : Nat) : Str := ((TL.lookup g).map (·.name)).getD ""
/-- the law's promise at the head's heap -/
theorem law_at {l : PySem.W.OpenLaw} {w : World} {fa : Addr} {lawG N : Nat} {fl : Fn} (M : LawM TL st sTry sKin kscope cons lts) (X : K.In h) (G : h.Ns mainGlobals mg) (hT : ∀ P ∈ ts, h.get? P = some { cls := .none, data := .fields #[] })
    (hB : headB K (TL.map (·.2.name)) cons (lts.map (nmOf TL)) ts = true)
    (hF : (TL.map fun p => getFn K (faOf K p.2.name)) = TL.map fun p => fnEq K p.2.name (st p.1) (faOf K p.2.name))
    (hF2 : getFn K (faOf K "_law_try") = fnEq K "_law_try" sTry (faOf K "_law_try")) (hF3 : getFn K (faOf K "_law_kin") = fnEq K "_law_kin" sKin (faOf K "_law_kin"))
    (hl : TL.lookup lawG = some fl) (hps : fl.ns.take fl.np = (["script"] : List Str)) (hio : fl.io = false) (hfa : mg fl.name = some (.ref fa))
    (sem_ : ∀ ns : List Int, ns.length ≤ 63 → sem (fun g => TL.lookup g) kinD (N + 1) lawG [] [.list (ofInts ns)] = .ok (.d (.bool true)) []) :
    LamX.LawAtS l w K (L2N.CX l.prog w) (3 * N + 3) 63 "script" mg fa h := by
  unfold headB at hB
  simp only [Bool.and_eq_true, List.all_eq_true, decide_eq_true_eq] at hB
  obtain ⟨⟨⟨⟨⟨⟨⟨⟨⟨⟨⟨b1, b2⟩, b3⟩, b4⟩, b5⟩, b6⟩, b7⟩, b8⟩, b9⟩, b10⟩, b11⟩, b12⟩ := hB
  let TT : Nat → Option Fn := fun g => TL.lookup g
  let fA : Nat → Addr := fun g => faOf K (nmOf TL g)
  let lt : Nat → Bool := fun g => decide (g ∈ lts)
  let tb : Tbs := lts.map fun g => (tabOf K (codeOf K (fA g)), nmOf TL g ++ ".<locals>." ++ "<lambda>")
  let T : Tab := { names := fun f => (TL.lookup f).map (·.name), ios := fun f => (TL.lookup f).map (·.io), cls := kinC.take 13, con := cons }
  have nmE : ∀ {f fn}, TT f = some fn → nmOf TL f = fn.name := fun {f fn} e => by
    show ((TL.lookup f).map (·.name)).getD ("" : Str) = _
    rw [show TL.lookup f = some fn from e]
    rfl
  have fuE : ∀ {f fn}, TT f = some fn → PySem.W.nsIn K mainGlobals fn.name = some (some (.ref (fA f))) ∧ Fun K fn.name fn.name (st f) (fA f) (getFn K (fA f)) ∧ nmOk fn.name = true := fun {f fn} e => by
    have hm := lookup_mem (show TL.lookup f = some fn from e)
    have q : getFn K (faOf K fn.name) = fnEq K fn.name (st f) (faOf K fn.name) := by
      have := List.map_inj_left.mp hF (f, fn) hm
      exact this
    have eA : fA f = faOf K fn.name := by
      show faOf K (nmOf TL f) = _
      rw [nmE e]
    rw [eA]
    exact defB_of (b1 _ (List.mem_map_of_mem hm)) q
  have MI : ModI TT T K mg tb fA (caN K) st lt := {
    blt := fun x hx => PySem.W.mg_none_of X G (freeB_of (b4 x (List.mem_append_left _ hx)))
    tn := fun f => rfl
    ti := fun f => rfl
    nmd := fun f fn e => by
      obtain ⟨q1, q2, q3⟩ := fuE e
      unfold nmOk at q3
      simp only [Bool.and_eq_true, Bool.not_eq_true'] at q3
      exact ⟨PySem.W.mg_of X G q1, q3.1⟩
    fu := fun f fn e => ⟨_, (fuE e).2.1⟩
    ck := fun f fn e => List.all_eq_true.mp M.ck (f, fn) (lookup_mem e)
    con := fun p hp => conB_of X G (b5 p hp)
    cls := fun c x e => clsB_of X G (by
        have : kinC.getD c "" = x := by
          have e' : (kinC.take 13)[c]? = some x := e
          rw [List.getElem?_take] at e'
          split at e'
          · rw [List.getD_eq_getElem?_getD, e']; rfl
          · cases e'
        show faOf K (kinC.getD c "") = _
        rw [this]) (b6 x (List.mem_of_getElem? e)) }
  obtain ⟨t1, t2, t3⟩ := defB_of b2 hF2
  obtain ⟨k1, k2, k3⟩ := defB_of b3 hF3
  have clE : ∀ j x, kinC[j]? = some x → mg x = some (.ref (caN K j)) := fun j x e => by
    have : kinC.getD j "" = x := by rw [List.getD_eq_getElem?_getD, e]; rfl
    show mg x = some (.ref (faOf K (kinC.getD j "")))
    rw [this]
    exact PySem.W.mg_of X G (glOk_of (b7 x (List.mem_of_getElem? e)))
  have KK := kinKB_of b9
  have TM : TryM K mg (caN K) sTry (faOf K "_law_try") sKin (faOf K "_law_kin") kscope (faOf K "SignError") := {
    fu := ⟨_, t2⟩
    m := PySem.W.mg_of X G t1
    sc := M.tsc
    ar := M.tar
    gl := M.tgl
    mt := clE 13 "TooMany" rfl
    ms := PySem.W.mg_of X G (glOk_of b8)
    bd := M.tbd
    kin := {
      fu := ⟨_, k2⟩
      m := PySem.W.mg_of X G k1
      sc := M.ksc
      ar := M.kar
      gl := M.kgl
      nb := fun x hx => PySem.W.mg_none_of X G (freeB_of (b4 x (by
        simp only [List.mem_cons, List.not_mem_nil, or_false] at hx
        rcases hx with rfl | rfl | rfl <;> simp [blt2, bltNames])))
      cl := clE
      bd := M.kbd (caN K) }
    kk := KK }
  have ltE : ∀ g ∈ lts, codeB K (fA g) = true ∧ PySem.W.codeHdIn K (codeOf K (fA g)) (tabOf K (codeOf K (fA g))) = true ∧ tabOf K (codeOf K (fA g)) ∈ ts ∧ K.lookup (tabOf K (codeOf K (fA g))) = none := fun g hg => by
    have := b11 (nmOf TL g) (List.mem_map_of_mem hg)
    simp only [Bool.and_eq_true, decide_eq_true_eq, Option.isNone_iff_eq_none] at this
    exact ⟨this.1.1.1, this.1.1.2, this.1.2, this.2⟩
  have ML : ∀ base : Heap, (∀ p ∈ lts.map (fun g => (codeOf K (fA g), tabOf K (codeOf K (fA g)))), LamX.TabB base mg p.1 p.2) → ModL TT K mg base tb fA (caN K) lt kinD := fun base TB => {
    kq := fun _ _ => rfl
    lm := fun f fn e hlt => by
      have hm : f ∈ lts := of_decide_eq_true hlt
      refine ⟨_, _, _, _, _, _, codeOf K (fA f), tabOf K (codeOf K (fA f)), TM, TB _ (List.mem_map_of_mem hm), fun oc od fd osl hlk => ?_, ?_, fun p hp hp1 => ?_⟩
      · obtain ⟨oc', od', kV, doc, pm, an, cdv, ct, osl', q1, q2, q3⟩ := (fuE e).2.1.ex
        rw [q2] at hlk
        cases hlk
        exact codeB_of (ltE f hm).1
      · have := List.mem_map_of_mem (f := fun g => (tabOf K (codeOf K (fA g)), nmOf TL g ++ ".<locals>." ++ "<lambda>")) hm
        rw [nmE e] at this
        exact this
      · obtain ⟨g, hg, rfl⟩ := List.mem_map.mp hp
        have e2 : g = f := by
          have nd : (lts.map fun g => tabOf K (codeOf K (fA g))).Nodup := by
            have := b12
            rw [List.map_map] at this
            exact this
          have inj : ∀ (l : List Nat), (l.map fun g => tabOf K (codeOf K (fA g))).Nodup → ∀ a ∈ l, ∀ b ∈ l, tabOf K (codeOf K (fA a)) = tabOf K (codeOf K (fA b)) → a = b := by
            intro l
            induction l with
            | nil => intro _ a ha; cases ha
            | cons c r ih =>
              intro hn a ha b hb hab
              rw [List.map_cons, List.nodup_cons] at hn
              rcases List.mem_cons.mp ha with ea | ha
              · rcases List.mem_cons.mp hb with eb | hb
                · rw [ea, eb]
                · exact (hn.1 (by rw [← ea, hab]; exact List.mem_map_of_mem hb)).elim
              · rcases List.mem_cons.mp hb with eb | hb
                · exact (hn.1 (by rw [← eb, ← hab]; exact List.mem_map_of_mem ha)).elim
                · exact ih hn.2 a ha b hb hab
          exact inj lts nd g hg f hm hp1
        rw [e2, nmE e] }
  have hlaw : TT lawG = some fl := hl
  obtain ⟨g1, g2, g3⟩ := fuE hlaw
  have efa : fa = fA lawG := by
    have := hfa.symm.trans (PySem.W.mg_of X G g1)
    cases this
    rfl
  subst efa
  have ck := MI.ck lawG fl hlaw
  unfold chkFn at ck
  simp only [Bool.and_eq_true] at ck
  refine ⟨getFn K (fA lawG), lts.map (fun g => (codeOf K (fA g), tabOf K (codeOf K (fA g)))), spOf ⟨K, tb, fA, caN K⟩ fl.io (callF (sem TT kinD N) kinD fl), ?_, ?_, ?_, ?_, ?_, ?_⟩
  · intro p hp
    obtain ⟨g, hg, rfl⟩ := List.mem_map.mp hp
    exact hT _ (ltE g hg).2.2.1
  · intro p hp
    obtain ⟨g, hg, rfl⟩ := List.mem_map.mp hp
    exact (ltE g hg).2.2.2
  · intro p hp
    obtain ⟨g, hg, rfl⟩ := List.mem_map.mp hp
    exact PySem.W.codeHd_of_K X (ltE g hg).2.1
  · intro s u
    obtain ⟨oc', od', kV, doc, pm, an, cdv, ct, osl', q1, q2, q3⟩ := g2.ex
    have hpn : argsB (getFn K (fA lawG)).params ["script"] = true := by
      rw [q1]
      have := ck.1.1.2
      rw [hps] at this
      exact this
    exact .of_eq (bind_plain (us := [u]) hpn (by rw [q1]) (by decide) rfl)
  · intro H a ns hlen _ hTab hS
    have hR : Rd H a (.lst (ns.map V.int)) := by
      rcases hS with h | ⟨o, its, n, hk, hc, _⟩
      · exact h
      · exact (noList_of b10 hk hc).elim
    -- the script as frozen data
    refine ⟨fun b => if b = a then H a else none, [], [.list (ofInts ns)], [.ref a], none, fun b o e => ?_, ?_, fun b o e => ?_, ?_, ?_, ?_⟩
    · dsimp only at e
      by_cases z : b = a
      · rw [if_pos z] at e
        rw [z]
        exact e
      · rw [if_neg z] at e
        cases e
    · intro p hp
      obtain ⟨g, hg, rfl⟩ := List.mem_map.mp hp
      exact ⟨#[], hTab _ (List.mem_map_of_mem hg), by trivial, fun pos cv z => by simp [codeAmong] at z⟩
    · dsimp only at e
      by_cases z : b = a
      · rw [if_pos z] at e
        rcases hR with q | ⟨ob, q⟩
        · rw [q] at e
          cases e
          exact so_lst
        · rw [q] at e
          cases e
          exact fun ps z => nomatch z
      · rw [if_neg z] at e
        cases e
    · refine .cons (.lst ?_ (all_ints ns)) .nil
      unfold Rd
      dsimp only
      rw [if_pos rfl]
      exact hR
    · rw [hio, if_neg Bool.false_ne_true]
      exact ⟨rfl, rfl, rfl⟩
    · have e := sem_ ns hlen
      have e2 : sem (fun g => TL.lookup g) kinD (N + 1) lawG [] [.list (ofInts ns)] = callF (sem TT kinD N) kinD fl [] [.list (ofInts ns)] := by
        show (match TL.lookup lawG with | some fn => callF (sem TT kinD N) kinD fn [] [.list (ofInts ns)] | none => .bad) = _
        rw [hl]
      rw [e2] at e
      rw [e]
      intro x Hf' H' _ r _
      exact dp_bl r
  · intro base KB _ TB
    have := (def_okF (P := l.prog) (w := w) (k := 3 * N) MI (ML base TB) (fun f fn hf => table MI (ML base TB) N f fn hf) hlaw g2).1
    rw [hps] at this
    exact this
end
end Ir

set_option Elab.async false
set_option linter.all false
set_option maxRecDepth 100000
set_option maxHeartbeats 4000000
/-! The mirror's own calculus: what a reading, a block, a call must satisfy. -/
namespace Ir
open PySem L2
/-- a mark by which simp leaves alone what comes later -/
inductive Hold {β : Type} (q : β) : Type where
  | mk
def Res.sat {α : Type} (r : Res α) (Q : α → Sl → Prop) (E : Exn → Sl → Prop) (_ : Hold (Q, E) := .mk) : Prop := match r with
  | .ok a s => Q a s
  | .exc x s => E x s
  | .bad => False
def FRes.sat (r : FRes) (Q : Val → List D → Prop) (E : Exn → List D → Prop) (_ : Hold (Q, E) := .mk) : Prop := match r with
  | .ok a s => Q a s
  | .exc x s => E x s
  | .bad => False
structure Post where
  nx : Sl → Prop
  rt : Val → Sl → Prop
  bk : Sl → Prop
  ct : Sl → Prop
  ex : Exn → Sl → Prop
def Flo.sat (f : Flo) (P : Post) (_ : Hold P := .mk) : Prop := match f with
  | .next s => P.nx s
  | .ret v s => P.rt v s
  | .brk s => P.bk s
  | .cont s => P.ct s
  | .exc x s => P.ex x s
  | .bad => False
def datQ (Q : D → Sl → Prop) (_ : Hold Q := .mk) (v : Val) (s : Sl) : Prop := match v.toD with
  | some x => Q x s
  | none => False
def blQ (Q : Bool → Sl → Prop) (_ : Hold Q := .mk) (v : Val) (s : Sl) : Prop := match v with
  | .d (.bool b) => Q b s
  | _ => False
def itmQ (Q : List D → Sl → Prop) (_ : Hold Q := .mk) (v : Val) (s : Sl) : Prop := match v with
  | .d (.list xs) => Q xs s
  | _ => False
def optQ {α : Type} (Q : α → Prop) (o : Option α) (_ : Hold Q := .mk) : Prop := match o with
  | some x => Q x
  | none => False
theorem sat_ext {α : Type} {r : Res α} {Q Q' : α → Sl → Prop} {E : Exn → Sl → Prop} (h : ∀ a s, Q a s = Q' a s) : r.sat Q E = r.sat Q' E := by
  have : Q = Q' := funext fun a => funext (h a)
  subst this
  rfl
theorem sat_extD {r : Res Val} {Q Q' : D → Sl → Prop} {E : Exn → Sl → Prop} (h : ∀ a s, Q a s = Q' a s) : r.sat (datQ Q) E = r.sat (datQ Q') E := by
  have : Q = Q' := funext fun a => funext (h a)
  subst this
  rfl
theorem sat_extB {r : Res Val} {Q Q' : Bool → Sl → Prop} {E : Exn → Sl → Prop} (h : ∀ a s, Q a s = Q' a s) : r.sat (blQ Q) E = r.sat (blQ Q') E := by
  have : Q = Q' := funext fun a => funext (h a)
  subst this
  rfl
theorem sat_extI {r : Res Val} {Q Q' : List D → Sl → Prop} {E : Exn → Sl → Prop} (h : ∀ a s, Q a s = Q' a s) : r.sat (itmQ Q) E = r.sat (itmQ Q') E := by
  have : Q = Q' := funext fun a => funext (h a)
  subst this
  rfl
section
variable {α β : Type} {Q : α → Sl → Prop} {E : Exn → Sl → Prop}
@[simp] theorem sat_ok {a : α} {s : Sl} {h : Hold (Q, E)} : (Res.ok a s).sat Q E h = Q a s := Eq.trans rfl rfl
@[simp] theorem sat_exc {x : Exn} {s : Sl} {h : Hold (Q, E)} : (Res.exc x s : Res α).sat Q E h = E x s := Eq.trans rfl rfl
@[simp] theorem sat_bad {h : Hold (Q, E)} : (Res.bad : Res α).sat Q E h = False := Eq.trans rfl rfl
@[simp] theorem fsat_ok {a : Val} {s : List D} {Q E} {h : Hold (Q, E)} : (FRes.ok a s).sat Q E h = Q a s := Eq.trans rfl rfl
@[simp] theorem fsat_exc {x : Exn} {s : List D} {Q E} {h : Hold (Q, E)} : (FRes.exc x s).sat Q E h = E x s := Eq.trans rfl rfl
@[simp] theorem fsat_bad {Q E} {h : Hold (Q, E)} : (FRes.bad).sat Q E h = False := Eq.trans rfl rfl
@[simp] theorem gsat_next {s P} {h : Hold P} : (Flo.next s).sat P h = P.nx s := Eq.trans rfl rfl
@[simp] theorem gsat_ret {v s P} {h : Hold P} : (Flo.ret v s).sat P h = P.rt v s := Eq.trans rfl rfl
@[simp] theorem gsat_brk {s P} {h : Hold P} : (Flo.brk s).sat P h = P.bk s := Eq.trans rfl rfl
@[simp] theorem gsat_cont {s P} {h : Hold P} : (Flo.cont s).sat P h = P.ct s := Eq.trans rfl rfl
@[simp] theorem gsat_exc {x s P} {h : Hold P} : (Flo.exc x s).sat P h = P.ex x s := Eq.trans rfl rfl
@[simp] theorem gsat_bad {P} {h : Hold P} : (Flo.bad).sat P h = False := Eq.trans rfl rfl
@[simp] theorem datQ_d {Q : D → Sl → Prop} {x s} {h : Hold Q} : datQ Q h (.d x) s = Q x s := Eq.trans rfl rfl
@[simp] theorem datQ_own {Q : D → Sl → Prop} {x s} {h : Hold Q} : datQ Q h (.own x) s = Q (.list x) s := Eq.trans rfl rfl
@[simp] theorem blQ_b {Q : Bool → Sl → Prop} {b s} {h : Hold Q} : blQ Q h (.d (.bool b)) s = Q b s := Eq.trans rfl rfl
@[simp] theorem itmQ_l {Q : List D → Sl → Prop} {b s} {h : Hold Q} : itmQ Q h (.d (.list b)) s = Q b s := Eq.trans rfl rfl
@[simp] theorem optQ_some {Q : α → Prop} {x} {h : Hold Q} : optQ Q (some x) h = Q x := Eq.trans rfl rfl
@[simp] theorem optQ_none {Q : α → Prop} {h : Hold Q} : optQ Q none h = False := Eq.trans rfl rfl
theorem Res.sat.mono {r : Res α} {Q' : α → Sl → Prop} {E' : Exn → Sl → Prop} (h : r.sat Q E) (i : ∀ a s, Q a s → Q' a s) (j : ∀ a s, E a s → E' a s) : r.sat Q' E' := by
  cases r with
  | ok a s => exact i _ _ h
  | exc a s => exact j _ _ h
  | bad => exact h
theorem FRes.sat.mono {r : FRes} {Q Q' : Val → List D → Prop} {E E' : Exn → List D → Prop} (h : r.sat Q E) (i : ∀ a s, Q a s → Q' a s) (j : ∀ a s, E a s → E' a s) : r.sat Q' E' := by
  cases r with
  | ok a s => exact i _ _ h
  | exc a s => exact j _ _ h
  | bad => exact h
theorem Flo.sat.mono {r : Flo} {P P' : Post} (h : r.sat P) (a : ∀ s, P.nx s → P'.nx s) (b : ∀ v s, P.rt v s → P'.rt v s) (c : ∀ s, P.bk s → P'.bk s) (d : ∀ s, P.ct s → P'.ct s) (e : ∀ x s, P.ex x s → P'.ex x s) : r.sat P' := by
  cases r with
  | next s => exact a _ h
  | ret v s => exact b _ _ h
  | brk s => exact c _ h
  | cont s => exact d _ h
  | exc x s => exact e _ _ h
  | bad => exact h
/-- an answer that is told whole -/
theorem FRes.sat.eq {r : FRes} {v : Val} {io : List D} (h : r.sat (fun a s => a = v ∧ s = io) fun _ _ => False) : r = .ok v io := by
  cases r with
  | ok a s => obtain ⟨rfl, rfl⟩ := h; rfl
  | exc a s => exact h.elim
  | bad => exact h.elim
@[simp] theorem sat_bind {r : Res α} {k : α → Sl → Res β} {Q : β → Sl → Prop} {h : Hold (Q, E)} : (r.bind k).sat Q E h = r.sat (fun a s => (k a s).sat Q E) E := by cases r <;> rfl
@[simp] theorem sat_dat {r : Res Val} {k : D → Sl → Res β} {Q : β → Sl → Prop} {h : Hold (Q, E)} : (r.dat k).sat Q E h = r.sat (datQ fun a s => (k a s).sat Q E) E := by
  cases r with
  | ok v s =>
    show Res.sat (match v.toD with | some x => k x s | none => .bad) Q E = datQ (fun a s => (k a s).sat Q E) .mk v s
    unfold datQ
    cases v.toD <;> rfl
  | _ => rfl
@[simp] theorem sat_bl {r : Res Val} {k : Bool → Sl → Res β} {Q : β → Sl → Prop} {h : Hold (Q, E)} : (r.bl k).sat Q E h = r.sat (blQ fun a s => (k a s).sat Q E) E := by
  cases r with
  | ok v s => cases v with
    | d x => cases x <;> rfl
    | _ => rfl
  | _ => rfl
@[simp] theorem sat_itm {r : Res Val} {k : List D → Sl → Res β} {Q : β → Sl → Prop} {h : Hold (Q, E)} : (r.itm k).sat Q E h = r.sat (itmQ fun a s => (k a s).sat Q E) E := by
  cases r with
  | ok v s => cases v with
    | d x => cases x <;> rfl
    | _ => rfl
  | _ => rfl
@[simp] theorem sat_go {r : Res α} {k : α → Sl → Flo} {P : Post} {h : Hold P} : (r.go k).sat P h = r.sat (fun a s => (k a s).sat P) P.ex := by cases r <;> rfl
@[simp] theorem sat_goD {r : Res Val} {k : D → Sl → Flo} {P : Post} {h : Hold P} : (r.goD k).sat P h = r.sat (datQ fun a s => (k a s).sat P) P.ex := by
  cases r with
  | ok v s =>
    show Flo.sat (match v.toD with | some x => k x s | none => .bad) P = datQ (fun a s => (k a s).sat P) .mk v s
    unfold datQ
    cases v.toD <;> rfl
  | _ => rfl
@[simp] theorem sat_goB {r : Res Val} {k : Bool → Sl → Flo} {P : Post} {h : Hold P} : (r.goB k).sat P h = r.sat (blQ fun a s => (k a s).sat P) P.ex := by
  cases r with
  | ok v s => cases v with
    | d x => cases x <;> rfl
    | _ => rfl
  | _ => rfl
@[simp] theorem sat_then {f : Flo} {k : Sl → Flo} {P : Post} {h : Hold P} : (f.then_ k).sat P h = f.sat { P with nx := fun s => (k s).sat P } := by cases f <;> rfl
@[simp] theorem sat_optV {o : Option Val} {s : Sl} {Q : Val → Sl → Prop} {h : Hold (Q, E)} : (optV o s).sat Q E h = optQ (fun v => Q v s) o := by cases o <;> rfl
@[simp] theorem sat_optD {o : Option D} {s : Sl} {Q : Val → Sl → Prop} {h : Hold (Q, E)} : (optD o s).sat Q E h = optQ (fun v => Q (.d v) s) o := by cases o <;> rfl
@[simp] theorem sat_optF {o : Option Sl} {P : Post} {h : Hold P} : (optF o).sat P h = optQ P.nx o := by cases o <;> rfl
@[simp] theorem sat_ofF {r : FRes} {s : Sl} {Q : Val → Sl → Prop} {h : Hold (Q, E)} : (ofF r s).sat Q E h = r.sat (fun v _ => Q v s) (fun x _ => E x s) := by cases r <;> rfl
@[simp] theorem sat_ofIo {r : FRes} {i : Nat} {s : Sl} {Q : Val → Sl → Prop} {h : Hold (Q, E)} : (ofIo i r s).sat Q E h = r.sat (fun v xs => Q v (s.set i (some (.own xs)))) (fun x xs => E x (s.set i (some (.own xs)))) := by cases r <;> rfl
theorem sat_ite {c : Prop} [Decidable c] {a b : Res α} : (if c then a else b).sat Q E = if c then a.sat Q E else b.sat Q E := by split <;> rfl
theorem gsat_ite {c : Prop} [Decidable c] {a b : Flo} {P : Post} : (if c then a else b).sat P = if c then a.sat P else b.sat P := by split <;> rfl
/-- the end of a def -/
def finQ (io : Bool) (Q : Val → List D → Prop) (v : Val) (s : Sl) : Prop := match ioOf io s with
  | some xs => Q v xs
  | none => False
def finE (io : Bool) (Q : Exn → List D → Prop) (v : Exn) (s : Sl) : Prop := match ioOf io s with
  | some xs => Q v xs
  | none => False
@[simp] theorem finQ_f {Q v s} : finQ false Q v s = Q v [] := Eq.trans rfl rfl
@[simp] theorem finE_f {Q v s} : finE false Q v s = Q v [] := Eq.trans rfl rfl
@[simp] theorem finQ_t {Q v xs s} : finQ true Q v (some (.own xs) :: s) = Q v xs := Eq.trans rfl rfl
@[simp] theorem finE_t {Q v xs s} : finE true Q v (some (.own xs) :: s) = Q v xs := Eq.trans rfl rfl
theorem sat_fin {f : Fn} {r : Flo} {Q : Val → List D → Prop} {E : Exn → List D → Prop} : (fin f r).sat Q E = r.sat ⟨finQ f.io Q (.d .none), finQ f.io Q, fun _ => False, fun _ => False, finE f.io E⟩ := by
  cases r with
  | next s => show FRes.sat (match ioOf f.io s with | some xs => .ok (.d .none) xs | none => .bad) Q E = finQ f.io Q _ s; unfold finQ; cases ioOf f.io s <;> rfl
  | ret v s => show FRes.sat (match ioOf f.io s with | some xs => .ok v xs | none => .bad) Q E = finQ f.io Q _ s; unfold finQ; cases ioOf f.io s <;> rfl
  | exc v s => show FRes.sat (match ioOf f.io s with | some xs => .exc v xs | none => .bad) Q E = finE f.io E _ s; unfold finE; cases ioOf f.io s <;> rfl
  | _ => rfl
end
/-- a def's call, by its body -/
theorem call_sat {Φ : Fs} {kin : Exn → D} {f : Fn} {io as : List D} {Q : Val → List D → Prop} {E : Exn → List D → Prop} (h : (as.length + if f.io then 1 else 0) = f.np ∧ f.np ≤ f.ns.length)
    (q : (run Φ kin f.body (startS f io as)).sat ⟨finQ f.io Q (.d .none), finQ f.io Q, fun _ => False, fun _ => False, finE f.io E⟩) : (callF Φ kin f io as).sat Q E := by
  unfold callF
  rw [if_pos h, sat_fin]
  exact q

/-! ### blocks -/
section
variable {Φ : Fs} {kin : Exn → D} {P : Post} {s : Sl}
@[simp] theorem w_seq {a b} {h : Hold P} : (run Φ kin (.seq a b) s).sat P h = (run Φ kin a s).sat { P with nx := fun s => (run Φ kin b s).sat P } := by
  rw [run]; exact sat_then
@[simp] theorem w_set {i e} {h : Hold P} : (run Φ kin (.set i e) s).sat P h = (ev Φ kin e s).sat (fun v s => i < s.length ∧ P.nx (s.set i (some v))) P.ex := by
  rw [run, sat_go]
  refine sat_ext fun v s => ?_
  by_cases h : i < s.length
  · rw [if_pos h]; simp [h]
  · rw [if_neg h]; simp [h]
@[simp] theorem w_setT {t e} {h : Hold P} : (run Φ kin (.setT t e) s).sat P h = (ev Φ kin e s).sat (datQ fun x s => optQ P.nx (tgSet t [x] s)) P.ex := by
  rw [run, sat_goD]
  exact sat_extD fun _ _ => sat_optF
@[simp] theorem w_par {i j a b} {h : Hold P} : (run Φ kin (.par i j a b) s).sat P h = (ev Φ kin a s).sat (fun v s => (ev Φ kin b s).sat (fun u s => (i < s.length ∧ j < s.length ∧ i ≠ j) ∧ P.nx ((s.set i (some v)).set j (some u))) P.ex) P.ex := by
  rw [run, sat_go]
  refine sat_ext fun v s => ?_
  rw [sat_go]
  refine sat_ext fun u s => ?_
  by_cases h : i < s.length ∧ j < s.length ∧ i ≠ j
  · rw [if_pos h]; simp [h]
  · rw [if_neg h]; simp [h]
@[simp] theorem w_ife {c a b} {h : Hold P} : (run Φ kin (.ife c a b) s).sat P h = (ev Φ kin c s).sat (blQ fun x s => if x then (run Φ kin a s).sat P else (run Φ kin b s).sat P) P.ex := by
  rw [run, sat_goB]
  first | refine sat_extD fun x s => ?_ | refine sat_extB fun x s => ?_ | refine sat_extI fun x s => ?_
  cases x <;> rfl
@[simp] theorem w_ret {e} {h : Hold P} : (run Φ kin (.ret e) s).sat P h = (ev Φ kin e s).sat P.rt P.ex := by
  rw [run, sat_go]; rfl
@[simp] theorem w_retn {h : Hold P} : (run Φ kin .retn s).sat P h = P.rt (.d .none) s := by rw [run]; rfl
@[simp] theorem w_raise {x} {h : Hold P} : (run Φ kin (.raise x) s).sat P h = P.ex x s := by rw [run]; rfl
@[simp] theorem w_expr {e} {h : Hold P} : (run Φ kin (.expr e) s).sat P h = (ev Φ kin e s).sat (fun _ s => P.nx s) P.ex := by
  rw [run, sat_go]; rfl
@[simp] theorem w_skip {h : Hold P} : (run Φ kin .skip s).sat P h = P.nx s := by rw [run]; rfl
@[simp] theorem w_brk {h : Hold P} : (run Φ kin .brk s).sat P h = P.bk s := by rw [run]; rfl
@[simp] theorem w_cont {h : Hold P} : (run Φ kin .cont s).sat P h = P.ct s := by rw [run]; rfl
@[simp] theorem w_app {i e} {h : Hold P} : (run Φ kin (.app i e) s).sat P h = if hasOwn s i then (ev Φ kin e s).sat (datQ fun x s => match slGet s i with
    | some (.own xs) => xs.length < lineMax ∧ P.nx (s.set i (some (.own (xs ++ [x]))))
    | _ => False) P.ex else False := by
  rw [run]
  by_cases h : hasOwn s i = true
  · rw [if_pos h, if_pos h, sat_goD]
    first | refine sat_extD fun x s => ?_ | refine sat_extB fun x s => ?_ | refine sat_extI fun x s => ?_
    cases slGet s i with
    | none => rfl
    | some v =>
      cases v with
      | own xs =>
        dsimp only
        by_cases hl : xs.length < lineMax
        · rw [if_pos hl]; simp [hl]
        · rw [if_neg hl]; simp [hl]
      | _ => rfl
  · rw [if_neg h, if_neg h]; rfl
@[simp] theorem w_setIx {i k e} {h : Hold P} : (run Φ kin (.setIx i k e) s).sat P h = if hasDict s i then (ev Φ kin e s).sat (datQ fun x s => if hasDict s i then (ev Φ kin k s).sat (datQ fun k s => optQ P.nx (putD i k x s)) P.ex else False) P.ex
    else (ev Φ kin e s).sat (datQ fun x s => if hasS s i then (ev Φ kin k s).sat (datQ fun k s => optQ P.nx (putL i k x s)) P.ex else False) P.ex := by
  rw [run]
  split
  · rw [sat_goD]
    first | refine sat_extD fun x s => ?_ | refine sat_extB fun x s => ?_ | refine sat_extI fun x s => ?_
    split
    · rw [sat_goD]; exact sat_extD fun _ _ => sat_optF
    · rfl
  · rw [sat_goD]
    first | refine sat_extD fun x s => ?_ | refine sat_extB fun x s => ?_ | refine sat_extI fun x s => ?_
    split
    · rw [sat_goD]; exact sat_extD fun _ _ => sat_optF
    · rfl
theorem w_for {t it b} : (run Φ kin (.for_ t it b) s).sat P = (ev Φ kin it s).sat (itmQ fun items s => (forL (run Φ kin b) t items s).sat P) P.ex := by
  rw [run, sat_go]
  refine sat_ext fun v s => ?_
  cases v with
  | d x => cases x <;> rfl
  | _ => rfl
theorem w_while {n c b} : (run Φ kin (.while_ n c b) s).sat P = (whileL (ev Φ kin c) (run Φ kin b) n s).sat P := by rw [run]
theorem w_forFn {i fs b} : (run Φ kin (.forFn i fs b) s).sat P = (forF (run Φ kin b) i fs s).sat P := by rw [run]
/-- a for: I before each item (with what is left); J behind all; a break gives J, too -/
theorem for_rule {b : Sl → Flo} {t : Tg} (I : List D → Sl → Prop) : ∀ (items : List D) (s : Sl), I items s → (∀ x r s, I (x :: r) s → optQ (fun s1 => (b s1).sat ⟨I r, P.rt, P.nx, I r, P.ex⟩) (tgSet t [x] s)) →
    (∀ s, I [] s → P.nx s) → (forL b t items s).sat P
  | [], s, h, _, e => e s h
  | x :: r, s, h, st, e => by
    have h1 := st x r s h
    rw [forL]
    cases q : tgSet t [x] s with
    | none => rw [q] at h1; exact h1.elim
    | some s1 =>
      rw [q] at h1
      dsimp only
      have h1 : (b s1).sat _ := h1
      cases q2 : b s1 with
      | next s2 => rw [q2] at h1; exact for_rule I r s2 h1 st e
      | cont s2 => rw [q2] at h1; exact for_rule I r s2 h1 st e
      | brk s2 => rw [q2] at h1; exact h1
      | ret v s2 => rw [q2] at h1; exact h1
      | exc v s2 => rw [q2] at h1; exact h1
      | bad => rw [q2] at h1; exact h1.elim
/-- a walk over defs -/
theorem forFn_rule {b : Sl → Flo} {i : Nat} (I : List Nat → Sl → Prop) : ∀ (fs : List Nat) (s : Sl), I fs s → (∀ f r s, I (f :: r) s → i < s.length ∧ (b (s.set i (some (.fn f)))).sat ⟨I r, P.rt, P.nx, I r, P.ex⟩) →
    (∀ s, I [] s → P.nx s) → (forF b i fs s).sat P
  | [], s, h, _, e => e s h
  | f :: r, s, h, st, e => by
    obtain ⟨hl, h1⟩ := st f r s h
    rw [forF, if_pos hl]
    cases q2 : b (s.set i (some (.fn f))) with
    | next s2 => rw [q2] at h1; exact forFn_rule I r s2 h1 st e
    | cont s2 => rw [q2] at h1; exact forFn_rule I r s2 h1 st e
    | brk s2 => rw [q2] at h1; exact h1
    | ret v s2 => rw [q2] at h1; exact h1
    | exc v s2 => rw [q2] at h1; exact h1
    | bad => rw [q2] at h1; exact h1.elim
/-- a while: m bounds the turns that are left -/
theorem while_rule {c : Sl → Res Val} {b : Sl → Flo} (I : Nat → Sl → Prop) (st : ∀ m s, I m s → (c s).sat (blQ fun x s1 => if x then 0 < m ∧ (b s1).sat ⟨fun s => ∃ m', m' < m ∧ I m' s, P.rt, P.nx, fun s => ∃ m', m' < m ∧ I m' s, P.ex⟩ else P.nx s1) P.ex) :
    ∀ (n m : Nat) (s : Sl), m < n → I m s → (whileL c b n s).sat P
  | 0, m, s, h, _ => absurd h (Nat.not_lt_zero _)
  | n + 1, m, s, h, hi => by
    have h1 := st m s hi
    rw [whileL, sat_goB]
    refine h1.mono (fun v s1 q => ?_) fun _ _ z => z
    cases v with
    | d x =>
      cases x with
      | bool y =>
        have q : if y then _ else _ := q
        show Flo.sat (if y = true then _ else _) P
        cases y with
        | false => exact q
        | true =>
          rw [if_pos rfl] at q ⊢
          obtain ⟨_, q⟩ := q
          cases q2 : b s1 with
          | next s2 => rw [q2] at q; obtain ⟨m', hm, q⟩ := q; exact while_rule I st n m' s2 (by omega) q
          | cont s2 => rw [q2] at q; obtain ⟨m', hm, q⟩ := q; exact while_rule I st n m' s2 (by omega) q
          | brk s2 => rw [q2] at q; exact q
          | ret v s2 => rw [q2] at q; exact q
          | exc v s2 => rw [q2] at q; exact q
          | bad => rw [q2] at q; exact q.elim
      | _ => exact q.elim
    | _ => exact q.elim
end
end Ir

set_option Elab.async false
set_option linter.all false
set_option maxRecDepth 100000
set_option maxHeartbeats 4000000
/-! The mirror's own calculus: expressions. -/
namespace Ir
open PySem L2
section slots
@[simp] theorem slGet_z {v : Val} {s : Sl} : slGet (some v :: s) 0 = some v := Eq.trans rfl rfl
@[simp] theorem slGet_zn {s : Sl} : slGet (none :: s) 0 = none := Eq.trans rfl rfl
@[simp] theorem slGet_s {o : Option Val} {s : Sl} {i : Nat} : slGet (o :: s) (i + 1) = slGet s i := by
  unfold slGet; rw [List.getElem?_cons_succ]
theorem slGet_setW {s : Sl} {i j : Nat} {o : Option Val} : slGet (s.set i o) j = if i = j ∧ i < s.length then o else slGet s j := by
  unfold slGet
  rw [List.getElem?_set]
  by_cases h : i = j
  · subst h
    by_cases h2 : i < s.length
    · rw [if_pos rfl, if_pos h2, if_pos ⟨rfl, h2⟩]
      cases o <;> rfl
    · rw [if_pos rfl, if_neg h2, if_neg fun z => h2 z.2]
      rw [List.getElem?_eq_none (by omega)]
  · rw [if_neg h, if_neg fun z => h z.1]
@[simp] theorem hasS_z {v : Val} {s : Sl} : hasS (some v :: s) 0 = true := Eq.trans rfl rfl
@[simp] theorem hasS_s {o : Option Val} {s : Sl} {i : Nat} : hasS (o :: s) (i + 1) = hasS s i := by unfold hasS; rw [slGet_s]
@[simp] theorem hasOwn_own {v} {s : Sl} : hasOwn (some (.own v) :: s) 0 = true := Eq.trans rfl rfl
@[simp] theorem hasOwn_s {o : Option Val} {s : Sl} {i : Nat} : hasOwn (o :: s) (i + 1) = hasOwn s i := by unfold hasOwn; rw [slGet_s]
@[simp] theorem hasDict_d {v} {s : Sl} : hasDict (some (.d v) :: s) 0 = false := Eq.trans rfl rfl
@[simp] theorem hasDict_own {v} {s : Sl} : hasDict (some (.own v) :: s) 0 = false := Eq.trans rfl rfl
@[simp] theorem hasDict_dk {v} {s : Sl} : hasDict (some (.dk v) :: s) 0 = true := Eq.trans rfl rfl
@[simp] theorem hasDict_dt {v} {s : Sl} : hasDict (some (.dt v) :: s) 0 = true := Eq.trans rfl rfl
@[simp] theorem hasDict_s {o : Option Val} {s : Sl} {i : Nat} : hasDict (o :: s) (i + 1) = hasDict s i := by unfold hasDict; rw [slGet_s]
@[simp] theorem toD_d {x : D} : (Val.d x).toD = some x := Eq.trans rfl rfl
@[simp] theorem toD_own {x : List D} : (Val.own x).toD = some (.list x) := Eq.trans rfl rfl
@[simp] theorem tg_nm {i : Nat} {x : D} {s : Sl} : tgSet (.nm i) [x] s = if i < s.length then some (s.set i (some (.d x))) else none := by rw [tgSet]
@[simp] theorem tg_nil {s : Sl} : tgSet .nil [] s = some s := by rw [tgSet]
@[simp] theorem tg_cons {a b : Tg} {x : D} {r : List D} {s : Sl} : tgSet (.cons a b) (x :: r) s = (tgSet a [x] s).bind fun s1 => tgSet b r s1 := by
  rw [tgSet]
  cases tgSet a [x] s <;> rfl
@[simp] theorem tg_tup {a : Tg} {xs : List D} {s : Sl} : tgSet (.tup a) [.tuple xs] s = tgSet a xs s := by rw [tgSet]
@[simp] theorem wipe_nil {s : Sl} : wipeS s [] = s := Eq.trans rfl rfl
@[simp] theorem wipe_cons {s : Sl} {i r} : wipeS s (i :: r) = wipeS (s.set i none) r := Eq.trans rfl rfl
@[simp] theorem back_nil {o s : Sl} : backS o s [] = s := Eq.trans rfl rfl
@[simp] theorem back_cons {o s : Sl} {i r} : backS o s (i :: r) = backS o (s.set i (match o[i]? with | some v => v | none => none)) r := Eq.trans rfl rfl
theorem set_set_same {s : Sl} {i : Nat} {a b : Option Val} : (s.set i a).set i b = s.set i b := by rw [List.set_set]
theorem back_wipe (old : Sl) : ∀ (own : List Nat) (s : Sl), backS old (wipeS s own) own = backS old s own := by
  have key : ∀ (own : List Nat) (s : Sl) (i : Nat) (o : Option Val), i ∈ own → backS old (s.set i o) own = backS old s own := by
    intro own
    induction own with
    | nil => intro s i o h; cases h
    | cons j r ih =>
      intro s i o h
      rw [back_cons, back_cons]
      by_cases e : i = j
      · subst e
        rw [List.set_set]
      · rw [List.set_comm _ _ e]
        exact ih _ i o (by rcases List.mem_cons.mp h with z | z; exact absurd z e; exact z)
  have k2 : ∀ (r own : List Nat) (s : Sl), (∀ i ∈ r, i ∈ own) → backS old (wipeS s r) own = backS old s own := by
    intro r
    induction r with
    | nil => intro own s _; rfl
    | cons j r ih =>
      intro own s h
      rw [wipe_cons, ih own _ fun i hi => h i (List.mem_cons_of_mem _ hi)]
      exact key own s j none (h j List.mem_cons_self)
  exact fun own s => k2 own own s fun _ h => h
end slots
section
variable {Φ : Fs} {kin : Exn → D} {s : Sl} {Q : Val → Sl → Prop} {E : Exn → Sl → Prop}
@[simp] theorem w_var {i} {h : Hold (Q, E)} : (ev Φ kin (.var i) s).sat Q E h = match slGet s i with
    | some (.d x) => Q (.d x) s
    | some (.own xs) => Q (.d (.list xs)) (s.set i (some (.d (.list xs))))
    | _ => False := by
  rw [ev]
  cases slGet s i with
  | none => rfl
  | some v => cases v <;> rfl
@[simp] theorem w_take {i} {h : Hold (Q, E)} : (ev Φ kin (.take i) s).sat Q E h = match slGet s i with
    | some (.d x) => Q (.d x) s
    | some (.own xs) => Q (.own xs) (s.set i none)
    | some (.dk xs) => Q (.dk xs) (s.set i none)
    | some (.dt xs) => Q (.dt xs) (s.set i none)
    | _ => False := by
  rw [ev]
  cases slGet s i with
  | none => rfl
  | some v => cases v <;> rfl
@[simp] theorem w_cst {c} {h : Hold (Q, E)} : (ev Φ kin (.cst c) s).sat Q E h = Q (.d c) s := by rw [ev]; rfl
@[simp] theorem w_glob {x c} {h : Hold (Q, E)} : (ev Φ kin (.glob x c) s).sat Q E h = Q (.d (.int c)) s := by rw [ev]; rfl
@[simp] theorem w_evs_nil {Q : List D → Sl → Prop} {h : Hold (Q, E)} : (evs Φ kin .nil s).sat Q E h = Q [] s := by rw [evs]; rfl
@[simp] theorem w_evs_cons {a b} {Q : List D → Sl → Prop} {h : Hold (Q, E)} : (evs Φ kin (.cons a b) s).sat Q E h = (ev Φ kin a s).sat (datQ fun x s => (evs Φ kin b s).sat (fun xs s => Q (x :: xs) s) E) E := by
  rw [evs, sat_dat]; exact sat_extD fun _ _ => by rw [sat_bind]; rfl
@[simp] theorem w_tup {a} {h : Hold (Q, E)} : (ev Φ kin (.tup a) s).sat Q E h = (evs Φ kin a s).sat (fun xs s => xs.length ≤ lineMax ∧ Q (.d (.tuple xs)) s) E := by
  rw [ev, sat_bind]
  refine sat_ext fun xs s => ?_
  by_cases h : xs.length ≤ lineMax
  · rw [if_pos h]; simp [h]
  · rw [if_neg h]; simp [h]
@[simp] theorem w_lst {a} {h : Hold (Q, E)} : (ev Φ kin (.lst a) s).sat Q E h = (evs Φ kin a s).sat (fun xs s => xs.length ≤ lineMax ∧ Q (.own xs) s) E := by
  rw [ev, sat_bind]
  refine sat_ext fun xs s => ?_
  by_cases h : xs.length ≤ lineMax
  · rw [if_pos h]; simp [h]
  · rw [if_neg h]; simp [h]
@[simp] theorem w_bin {o a b} {h : Hold (Q, E)} : (ev Φ kin (.bin o a b) s).sat Q E h = (ev Φ kin a s).sat (datQ fun x s => (ev Φ kin b s).sat (datQ fun y s => optQ (fun v => Q v s) (bopV o x y)) E) E := by
  rw [ev, sat_dat]; exact sat_extD fun _ _ => by rw [sat_dat]; exact sat_extD fun _ _ => sat_optV
@[simp] theorem w_neg {a} {h : Hold (Q, E)} : (ev Φ kin (.neg a) s).sat Q E h = (ev Φ kin a s).sat (datQ fun x s => match x with
    | .int i => Q (.d (.int (-i))) s
    | _ => False) E := by
  rw [ev, sat_dat]
  first | refine sat_extD fun x s => ?_ | refine sat_extB fun x s => ?_ | refine sat_extI fun x s => ?_
  cases x <;> rfl
@[simp] theorem w_and {a b} {h : Hold (Q, E)} : (ev Φ kin (.and a b) s).sat Q E h = (ev Φ kin a s).sat (blQ fun x s => if x then (ev Φ kin b s).sat Q E else Q (.d (.bool false)) s) E := by
  rw [ev, sat_bl]
  first | refine sat_extD fun x s => ?_ | refine sat_extB fun x s => ?_ | refine sat_extI fun x s => ?_
  cases x <;> rfl
@[simp] theorem w_or {a b} {h : Hold (Q, E)} : (ev Φ kin (.or a b) s).sat Q E h = (ev Φ kin a s).sat (blQ fun x s => if x then Q (.d (.bool true)) s else (ev Φ kin b s).sat Q E) E := by
  rw [ev, sat_bl]
  first | refine sat_extD fun x s => ?_ | refine sat_extB fun x s => ?_ | refine sat_extI fun x s => ?_
  cases x <;> rfl
@[simp] theorem w_not {a} {h : Hold (Q, E)} : (ev Φ kin (.not a) s).sat Q E h = (ev Φ kin a s).sat (blQ fun x s => Q (.d (.bool (!x))) s) E := by
  rw [ev, sat_bl]; rfl
@[simp] theorem w_cmp {o a b} {h : Hold (Q, E)} : (ev Φ kin (.cmp o a b) s).sat Q E h = (ev Φ kin a s).sat (datQ fun x s => (ev Φ kin b s).sat (datQ fun y s => optQ (fun z => Q (.d (.bool z)) s) (cop o x y)) E) E := by
  rw [ev, sat_dat]
  first | refine sat_extD fun x s => ?_ | refine sat_extB fun x s => ?_ | refine sat_extI fun x s => ?_
  rw [sat_dat]
  first | refine sat_extD fun y s => ?_ | refine sat_extB fun y s => ?_ | refine sat_extI fun y s => ?_
  cases cop o x y <;> rfl
@[simp] theorem w_cmpS {o i b} {h : Hold (Q, E)} : (ev Φ kin (.cmpS o i b) s).sat Q E h = if hasS s i then (ev Φ kin b s).sat (datQ fun y s => optQ (fun v => optQ (fun x => optQ (fun z => Q (.d (.bool z)) s) (cop o x y)) v.toD) (slGet s i)) E else False := by
  rw [ev]
  split
  · rw [sat_dat]
    first | refine sat_extD fun y s => ?_ | refine sat_extB fun y s => ?_ | refine sat_extI fun y s => ?_
    cases slGet s i with
    | none => rfl
    | some v =>
      simp only [optQ_some]
      cases v.toD with
      | none => rfl
      | some x => simp only [optQ_some]; cases cop o x y <;> rfl
  · rfl
@[simp] theorem w_inS {n a i} {h : Hold (Q, E)} : (ev Φ kin (.inS n a i) s).sat Q E h = if hasDict s i then (ev Φ kin a s).sat (datQ fun x s => optQ (fun v => optQ (fun (o : Option D) => Q (.d (.bool (if n then !o.isSome else o.isSome))) s) (dlook v x)) (slGet s i)) E
    else (ev Φ kin a s).sat (datQ fun x s => optQ (fun v => optQ (fun y => optQ (fun z => Q (.d (.bool z)) s) (cop (if n then .notin else .inn) x y)) v.toD) (slGet s i)) E := by
  rw [ev]
  split
  · rw [sat_dat]
    first | refine sat_extD fun y s => ?_ | refine sat_extB fun y s => ?_ | refine sat_extI fun y s => ?_
    cases slGet s i with
    | none => rfl
    | some v =>
      simp only [optQ_some]
      cases dlook v y <;> rfl
  · rw [sat_dat]
    first | refine sat_extD fun y s => ?_ | refine sat_extB fun y s => ?_ | refine sat_extI fun y s => ?_
    cases slGet s i with
    | none => rfl
    | some v =>
      simp only [optQ_some]
      cases v.toD with
      | none => rfl
      | some x => simp only [optQ_some]; cases cop (if n then .notin else .inn) y x <;> rfl
@[simp] theorem w_chain {o o' a b c} {h : Hold (Q, E)} : (ev Φ kin (.chain o o' a b c) s).sat Q E h = (ev Φ kin a s).sat (datQ fun x s => (ev Φ kin b s).sat (datQ fun y s => optQ (fun t => if t then (ev Φ kin c s).sat (datQ fun z s => optQ (fun k => Q (.d (.bool k)) s) (cop o' y z)) E else Q (.d (.bool false)) s) (cop o x y)) E) E := by
  rw [ev, sat_dat]
  first | refine sat_extD fun x s => ?_ | refine sat_extB fun x s => ?_ | refine sat_extI fun x s => ?_
  rw [sat_dat]
  first | refine sat_extD fun y s => ?_ | refine sat_extB fun y s => ?_ | refine sat_extI fun y s => ?_
  cases cop o x y with
  | none => rfl
  | some t =>
    cases t with
    | false => rfl
    | true =>
      simp only [optQ_some, if_true]
      rw [sat_dat]
      first | refine sat_extD fun z s => ?_ | refine sat_extB fun z s => ?_ | refine sat_extI fun z s => ?_
      cases cop o' y z <;> rfl
@[simp] theorem w_ifeE {c a b} {h : Hold (Q, E)} : (ev Φ kin (.ife c a b) s).sat Q E h = (ev Φ kin c s).sat (blQ fun x s => if x then (ev Φ kin a s).sat Q E else (ev Φ kin b s).sat Q E) E := by
  rw [ev, sat_bl]
  first | refine sat_extD fun x s => ?_ | refine sat_extB fun x s => ?_ | refine sat_extI fun x s => ?_
  cases x <;> rfl
@[simp] theorem w_call {f a} {h : Hold (Q, E)} : (ev Φ kin (.call f a) s).sat Q E h = (evs Φ kin a s).sat (fun xs s => (Φ f [] xs).sat (fun v _ => Q v s) (fun x _ => E x s)) E := by
  rw [ev, sat_bind]; exact sat_ext fun _ _ => sat_ofF
@[simp] theorem w_io {f i a} {h : Hold (Q, E)} : (ev Φ kin (.io f i a) s).sat Q E h = if hasS s i then (evs Φ kin a s).sat (fun xs s => match slGet s i with
    | some (.own cur) => (Φ f cur xs).sat (fun v ys => Q v (s.set i (some (.own ys)))) (fun x ys => E x (s.set i (some (.own ys))))
    | _ => False) E else False := by
  rw [ev]
  split
  · rw [sat_bind]
    refine sat_ext fun xs s => ?_
    cases slGet s i with
    | none => rfl
    | some v => cases v <;> first | exact sat_ofIo | rfl
  · rfl
@[simp] theorem w_callV {i fs a} {h : Hold (Q, E)} : (ev Φ kin (.callV i fs a) s).sat Q E h = match slGet s i with
    | some (.fn f) => fs.elem f = true ∧ (evs Φ kin a s).sat (fun xs s => (Φ f [] xs).sat (fun v _ => Q v s) (fun x _ => E x s)) E
    | _ => False := by
  rw [ev]
  cases slGet s i with
  | none => rfl
  | some v =>
    cases v with
    | fn f =>
      dsimp only
      by_cases h : fs.elem f = true
      · rw [if_pos h, sat_bind, eq_true h, true_and]; exact sat_ext fun _ _ => sat_ofF
      · rw [if_neg h]; exact (eq_false fun z => h z.1).symm
    | _ => rfl
@[simp] theorem w_bi {b a} {h : Hold (Q, E)} : (ev Φ kin (.bi b a) s).sat Q E h = (evs Φ kin a s).sat (fun xs s => optQ (fun v => Q v s) (Ir.bfn b xs)) E := by
  rw [ev, sat_bind]; exact sat_ext fun _ _ => sat_optV
@[simp] theorem w_lenS {i} {h : Hold (Q, E)} : (ev Φ kin (.lenS i) s).sat Q E h = optQ (fun v => optQ (fun x => optQ (fun v => Q v s) (Ir.bfn .len [x])) v.toD) (slGet s i) := by
  rw [ev]
  cases slGet s i with
  | none => rfl
  | some v =>
    simp only [optQ_some]
    cases v.toD with
    | none => rfl
    | some x => exact sat_optV
@[simp] theorem w_isi {t a} {h : Hold (Q, E)} : (ev Φ kin (.isi t a) s).sat Q E h = (ev Φ kin a s).sat (datQ fun x s => Q (.d (.bool (isTy t x))) s) E := by
  rw [ev, sat_dat]; rfl
@[simp] theorem w_ix {a b} {h : Hold (Q, E)} : (ev Φ kin (.ix a b) s).sat Q E h = (ev Φ kin a s).sat (datQ fun x s => (ev Φ kin b s).sat (datQ fun y s => optQ (fun v => Q (.d v) s) (ixD x y)) E) E := by
  rw [ev, sat_dat]; exact sat_extD fun _ _ => by rw [sat_dat]; exact sat_extD fun _ _ => sat_optD
@[simp] theorem w_ixS {i b} {h : Hold (Q, E)} : (ev Φ kin (.ixS i b) s).sat Q E h = if hasDict s i then (ev Φ kin b s).sat (datQ fun y s => optQ (fun v => optQ (fun (o : Option D) => optQ (fun z => Q (.d z) s) o) (dlook v y)) (slGet s i)) E
    else if hasS s i then (ev Φ kin b s).sat (datQ fun y s => optQ (fun v => optQ (fun x => optQ (fun z => Q (.d z) s) (ixD x y)) v.toD) (slGet s i)) E else False := by
  rw [ev]
  split
  · rw [sat_dat]
    first | refine sat_extD fun y s => ?_ | refine sat_extB fun y s => ?_ | refine sat_extI fun y s => ?_
    cases slGet s i with
    | none => rfl
    | some v =>
      simp only [optQ_some]
      cases dlook v y with
      | none => rfl
      | some o => cases o <;> rfl
  · split
    · rw [sat_dat]
      first | refine sat_extD fun y s => ?_ | refine sat_extB fun y s => ?_ | refine sat_extI fun y s => ?_
      cases slGet s i with
      | none => rfl
      | some v =>
        simp only [optQ_some]
        cases v.toD with
        | none => rfl
        | some x => exact sat_optD
    · rfl
@[simp] theorem w_sl {a lo hi} {h : Hold (Q, E)} : (ev Φ kin (.sl a lo hi) s).sat Q E h = (ev Φ kin a s).sat (datQ fun x s => (ev Φ kin lo s).sat (datQ fun l s => match l with
    | .int l => (ev Φ kin hi s).sat (datQ fun h s => match h with
      | .int h => optQ (fun v => Q v s) (slD x (some l) (some h))
      | _ => False) E
    | _ => False) E) E := by
  rw [ev, sat_dat]
  first | refine sat_extD fun x s => ?_ | refine sat_extB fun x s => ?_ | refine sat_extI fun x s => ?_
  rw [sat_dat]
  first | refine sat_extD fun l s => ?_ | refine sat_extB fun l s => ?_ | refine sat_extI fun l s => ?_
  cases l <;> first | rfl | skip
  dsimp only
  rw [sat_dat]
  first | refine sat_extD fun h s => ?_ | refine sat_extB fun h s => ?_ | refine sat_extI fun h s => ?_
  cases h <;> first | rfl | exact sat_optV
@[simp] theorem w_slL {a lo} {h : Hold (Q, E)} : (ev Φ kin (.slL a lo) s).sat Q E h = (ev Φ kin a s).sat (datQ fun x s => (ev Φ kin lo s).sat (datQ fun l s => match l with
    | .int l => optQ (fun v => Q v s) (slD x (some l) none)
    | _ => False) E) E := by
  rw [ev, sat_dat]
  first | refine sat_extD fun x s => ?_ | refine sat_extB fun x s => ?_ | refine sat_extI fun x s => ?_
  rw [sat_dat]
  first | refine sat_extD fun l s => ?_ | refine sat_extB fun l s => ?_ | refine sat_extI fun l s => ?_
  cases l <;> first | rfl | exact sat_optV
@[simp] theorem w_slH {a hi} {h : Hold (Q, E)} : (ev Φ kin (.slH a hi) s).sat Q E h = (ev Φ kin a s).sat (datQ fun x s => (ev Φ kin hi s).sat (datQ fun l s => match l with
    | .int l => optQ (fun v => Q v s) (slD x none (some l))
    | _ => False) E) E := by
  rw [ev, sat_dat]
  first | refine sat_extD fun x s => ?_ | refine sat_extB fun x s => ?_ | refine sat_extI fun x s => ?_
  rw [sat_dat]
  first | refine sat_extD fun l s => ?_ | refine sat_extB fun l s => ?_ | refine sat_extI fun l s => ?_
  cases l <;> first | rfl | exact sat_optV
@[simp] theorem w_rev {a} {h : Hold (Q, E)} : (ev Φ kin (.rev a) s).sat Q E h = (ev Φ kin a s).sat (datQ fun x s => optQ (fun v => Q v s) (revD x)) E := by
  rw [ev, sat_dat]; exact sat_extD fun _ _ => sat_optV
@[simp] theorem w_getS {i k d} {h : Hold (Q, E)} : (ev Φ kin (.getS i k d) s).sat Q E h = if hasDict s i then (ev Φ kin k s).sat (datQ fun k s => (ev Φ kin d s).sat (datQ fun d s => optQ (fun v => optQ (fun (o : Option D) => Q (.d (o.getD d)) s) (dlook v k)) (slGet s i)) E) E else False := by
  rw [ev]
  split
  · rw [sat_dat]
    first | refine sat_extD fun y s => ?_ | refine sat_extB fun y s => ?_ | refine sat_extI fun y s => ?_
    rw [sat_dat]
    first | refine sat_extD fun z s => ?_ | refine sat_extB fun z s => ?_ | refine sat_extI fun z s => ?_
    cases slGet s i with
    | none => rfl
    | some v =>
      simp only [optQ_some]
      cases dlook v y <;> rfl
  · rfl
@[simp] theorem w_pop0 {i} {h : Hold (Q, E)} : (ev Φ kin (.pop0 i) s).sat Q E h = match slGet s i with
    | some (.own (x :: r)) => Q (.d x) (s.set i (some (.own r)))
    | _ => False := by
  rw [ev]
  cases slGet s i with
  | none => rfl
  | some v =>
    cases v with
    | own xs => cases xs <;> rfl
    | _ => rfl
@[simp] theorem w_dnk {h : Hold (Q, E)} : (ev Φ kin .dnk s).sat Q E h = Q (.dk []) s := by rw [ev]; rfl
@[simp] theorem w_dnt {h : Hold (Q, E)} : (ev Φ kin .dnt s).sat Q E h = Q (.dt []) s := by rw [ev]; rfl
@[simp] theorem w_isF {i b} {h : Hold (Q, E)} : (ev Φ kin (.isF i b) s).sat Q E h = match slGet s i with
    | some (.fn _) => Q (.d (.bool b)) s
    | _ => False := by
  rw [ev]
  cases slGet s i with
  | none => rfl
  | some v => cases v <;> rfl
@[simp] theorem w_itSeq {a} {h : Hold (Q, E)} : (ev Φ kin (.itSeq a) s).sat Q E h = (ev Φ kin a s).sat (datQ fun x s => optQ (fun xs => Q (.d (.list xs)) s) (seqOf x)) E := by
  rw [ev, sat_dat]
  first | refine sat_extD fun x s => ?_ | refine sat_extB fun x s => ?_ | refine sat_extI fun x s => ?_
  cases seqOf x <;> rfl
@[simp] theorem w_itRng1 {a} {h : Hold (Q, E)} : (ev Φ kin (.itRng1 a) s).sat Q E h = (ev Φ kin a s).sat (datQ fun x s => match x with
    | .int j => small62 j = true ∧ Q (.d (.list (rngL 0 j.toNat))) s
    | _ => False) E := by
  rw [ev, sat_dat]
  first | refine sat_extD fun x s => ?_ | refine sat_extB fun x s => ?_ | refine sat_extI fun x s => ?_
  cases x <;> first | rfl | skip
  rename_i j
  dsimp only
  by_cases h : small62 j = true
  · rw [if_pos h]; simp [h]
  · rw [if_neg h]; simp [h]
@[simp] theorem w_itRng {a b} {h : Hold (Q, E)} : (ev Φ kin (.itRng a b) s).sat Q E h = (ev Φ kin a s).sat (datQ fun x s => (ev Φ kin b s).sat (datQ fun y s => match x, y with
    | .int i, .int j => (small62 i && small62 j) = true ∧ Q (.d (.list (rngL i (j - i).toNat))) s
    | _, _ => False) E) E := by
  rw [ev, sat_dat]
  first | refine sat_extD fun x s => ?_ | refine sat_extB fun x s => ?_ | refine sat_extI fun x s => ?_
  rw [sat_dat]
  first | refine sat_extD fun y s => ?_ | refine sat_extB fun y s => ?_ | refine sat_extI fun y s => ?_
  cases x <;> first | rfl | skip
  cases y <;> first | rfl | skip
  rename_i i j
  dsimp only
  by_cases h : (small62 i && small62 j) = true
  · rw [if_pos h]; simp [h]
  · rw [if_neg h]; simp [h]
@[simp] theorem w_itDown {a b} {h : Hold (Q, E)} : (ev Φ kin (.itDown a b) s).sat Q E h = (ev Φ kin a s).sat (datQ fun x s => (ev Φ kin b s).sat (datQ fun y s => match x, y with
    | .int i, .int j => (small62 i && small62 j) = true ∧ Q (.d (.list (downL i (i - j).toNat))) s
    | _, _ => False) E) E := by
  rw [ev, sat_dat]
  first | refine sat_extD fun x s => ?_ | refine sat_extB fun x s => ?_ | refine sat_extI fun x s => ?_
  rw [sat_dat]
  first | refine sat_extD fun y s => ?_ | refine sat_extB fun y s => ?_ | refine sat_extI fun y s => ?_
  cases x <;> first | rfl | skip
  cases y <;> first | rfl | skip
  rename_i i j
  dsimp only
  by_cases h : (small62 i && small62 j) = true
  · rw [if_pos h]; simp [h]
  · rw [if_neg h]; simp [h]
@[simp] theorem w_itZip {a b} {h : Hold (Q, E)} : (ev Φ kin (.itZip a b) s).sat Q E h = (ev Φ kin a s).sat (datQ fun x s => (ev Φ kin b s).sat (datQ fun y s => match x, y with
    | .list xs, .list ys => Q (.d (.list (zipD xs ys))) s
    | .tuple xs, .tuple ys => Q (.d (.list (zipD xs ys))) s
    | _, _ => False) E) E := by
  rw [ev, sat_dat]
  first | refine sat_extD fun x s => ?_ | refine sat_extB fun x s => ?_ | refine sat_extI fun x s => ?_
  rw [sat_dat]
  first | refine sat_extD fun y s => ?_ | refine sat_extB fun y s => ?_ | refine sat_extI fun y s => ?_
  cases x <;> cases y <;> rfl
@[simp] theorem w_itZip3 {a b c} {h : Hold (Q, E)} : (ev Φ kin (.itZip3 a b c) s).sat Q E h = (ev Φ kin a s).sat (datQ fun x s => (ev Φ kin b s).sat (datQ fun y s => (ev Φ kin c s).sat (datQ fun z s => match x, y, z with
    | .tuple xs, .tuple ys, .tuple zs => Q (.d (.list (zip3D xs ys zs))) s
    | _, _, _ => False) E) E) E := by
  rw [ev, sat_dat]
  first | refine sat_extD fun x s => ?_ | refine sat_extB fun x s => ?_ | refine sat_extI fun x s => ?_
  rw [sat_dat]
  first | refine sat_extD fun y s => ?_ | refine sat_extB fun y s => ?_ | refine sat_extI fun y s => ?_
  rw [sat_dat]
  first | refine sat_extD fun z s => ?_ | refine sat_extB fun z s => ?_ | refine sat_extI fun z s => ?_
  cases x <;> cases y <;> cases z <;> rfl
@[simp] theorem w_itEnum {a} {h : Hold (Q, E)} : (ev Φ kin (.itEnum a) s).sat Q E h = (ev Φ kin a s).sat (datQ fun x s => optQ (fun xs => Q (.d (.list (enumD 0 xs))) s) (seqOf x)) E := by
  rw [ev, sat_dat]
  first | refine sat_extD fun x s => ?_ | refine sat_extB fun x s => ?_ | refine sat_extI fun x s => ?_
  cases seqOf x <;> rfl
@[simp] theorem w_sortedKeys {i} {h : Hold (Q, E)} : (ev Φ kin (.sortedKeys i) s).sat Q E h = match slGet s i with
    | some (.dk kvs) => optQ (fun xs => Q (.own xs) s) (sortD (kvs.map fun p => unkey p.1))
    | some (.dt kvs) => optQ (fun xs => Q (.own xs) s) (sortD (kvs.map fun p => .tuple (p.1.map unkey)))
    | _ => False := by
  rw [ev]
  cases slGet s i with
  | none => rfl
  | some v =>
    cases v with
    | dk kvs =>
      dsimp only
      cases sortD (kvs.map fun p => unkey p.1) <;> rfl
    | dt kvs =>
      dsimp only
      cases sortD (kvs.map fun p => .tuple (p.1.map unkey)) <;> rfl
    | _ => rfl
@[simp] theorem w_itKeys {i} {h : Hold (Q, E)} : (ev Φ kin (.itKeys i) s).sat Q E h = match slGet s i with
    | some (.dk kvs) => Q (.d (.list (kvs.map fun p => unkey p.1))) s
    | some (.dt kvs) => Q (.d (.list (kvs.map fun p => .tuple (p.1.map unkey)))) s
    | _ => False := by
  rw [ev]
  cases slGet s i with
  | none => rfl
  | some v => cases v <;> rfl
theorem w_ltry {e} : (ev Φ kin (.ltry e) s).sat Q E = (ev Φ kin e s).sat (datQ fun x s => Q (.d (.tuple [.str "told", x])) s) (fun x s => (x.lim = none ∧ x.cls < 13) ∧ Q (.d (kin x)) s) := by
  rw [ev]
  cases ev Φ kin e s with
  | bad => rfl
  | ok v s =>
    show Res.sat (match v.toD with | some x => _ | none => .bad) Q E = datQ _ .mk v s
    unfold datQ
    cases v.toD <;> rfl
  | exc x s =>
    show Res.sat (if _ then _ else _) Q E = _
    by_cases h : x.lim = none ∧ x.cls < 13
    · rw [if_pos h]; simp [h]
    · rw [if_neg h]; simp only [sat_exc, sat_bad, h, false_and]
theorem w_comp {e t it c own} : (ev Φ kin (.comp e t it c own) s).sat Q E = (ev Φ kin it s).sat (itmQ fun items s => plainSlots s own = true ∧ (compL (ev Φ kin c) (ev Φ kin e) t own items [] s).sat (fun ys s' => Q (.own ys) (backS s s' own)) E) E := by
  rw [ev, sat_itm]
  first | refine sat_extD fun xs s => ?_ | refine sat_extB fun xs s => ?_ | refine sat_extI fun xs s => ?_
  by_cases h : plainSlots s own = true
  · rw [if_pos h]; rw [sat_bind, eq_true h, true_and]; exact sat_ext fun _ _ => rfl
  · rw [if_neg h]; simp only [h, sat_bad]; simp
end
/-- a comprehension's turns: I of what is left, what there is, and the slots (its own ones empty) -/
theorem compL_rule {c e : Sl → Res Val} {t : Tg} {own : List Nat} {Q : List D → Sl → Prop} {E : Exn → Sl → Prop} (I : List D → List D → Sl → Prop) : ∀ (items acc : List D) (s : Sl), I items acc (wipeS s own) →
    (∀ x r acc w, I (x :: r) acc w → optQ (fun s1 => (c s1).sat (blQ fun b s2 => if b then (e s2).sat (datQ fun y s3 => acc.length < lineMax ∧ I r (acc ++ [y]) (wipeS s3 own)) (fun _ _ => False) else I r acc (wipeS s2 own)) (fun _ _ => False)) (tgSet t [x] w)) →
    (∀ acc s, I [] acc (wipeS s own) → Q acc s) → (compL c e t own items acc s).sat Q E
  | [], acc, s, h, _, k => k acc s h
  | x :: r, acc, s, h, st, k => by
    have h1 := st x r acc _ h
    rw [compL]
    cases q : tgSet t [x] (wipeS s own) with
    | none => rw [q] at h1; exact h1.elim
    | some s1 =>
      rw [q] at h1
      have h1 : (c s1).sat _ _ := h1
      dsimp only
      cases q2 : c s1 with
      | bad => rw [q2] at h1; exact h1.elim
      | exc _ _ => rw [q2] at h1; exact h1.elim
      | ok v s2 =>
        rw [q2] at h1
        cases v with
        | d y =>
          cases y with
          | bool b =>
            cases b with
            | false =>
              have h1 : I r acc (wipeS s2 own) := h1
              exact compL_rule I r acc s2 h1 st k
            | true =>
              have h1 : (e s2).sat (datQ fun y s3 => acc.length < lineMax ∧ I r (acc ++ [y]) (wipeS s3 own)) (fun _ _ => False) := h1
              dsimp only
              cases q3 : e s2 with
              | bad => rw [q3] at h1; exact h1.elim
              | exc _ _ => rw [q3] at h1; exact h1.elim
              | ok u s3 =>
                rw [q3] at h1
                have h1 : datQ (fun y s3 => acc.length < lineMax ∧ I r (acc ++ [y]) (wipeS s3 own)) .mk u s3 := h1
                unfold datQ at h1
                dsimp only
                cases q4 : u.toD with
                | none => rw [q4] at h1; exact h1.elim
                | some y =>
                  rw [q4] at h1
                  dsimp only
                  rw [if_pos h1.1]
                  exact compL_rule I r _ s3 h1.2 st k
          | _ => exact h1.elim
        | _ => exact h1.elim
/-- a comprehension as a whole -/
theorem comp_rule {Φ : Fs} {kin : Exn → D} {e it c : Ex} {t : Tg} {own : List Nat} {s : Sl} {Q : Val → Sl → Prop} {E : Exn → Sl → Prop}
    (h : (ev Φ kin it s).sat (itmQ fun items s1 => plainSlots s1 own = true ∧ ∃ I : List D → List D → Sl → Prop, I items [] (wipeS s1 own) ∧
      (∀ x r acc w, I (x :: r) acc w → optQ (fun s1 => (ev Φ kin c s1).sat (blQ fun b s2 => if b then (ev Φ kin e s2).sat (datQ fun y s3 => acc.length < lineMax ∧ I r (acc ++ [y]) (wipeS s3 own)) (fun _ _ => False) else I r acc (wipeS s2 own)) (fun _ _ => False)) (tgSet t [x] w)) ∧
      (∀ acc w, I [] acc w → Q (.own acc) (backS s1 w own))) E) : (ev Φ kin (.comp e t it c own) s).sat Q E := by
  rw [w_comp]
  refine h.mono (fun v s1 q => ?_) fun _ _ z => z
  cases v with
  | d x =>
    cases x with
    | list items =>
      obtain ⟨h1, I, h2, h3, h4⟩ := q
      refine ⟨h1, compL_rule I items [] s1 h2 h3 fun acc s2 hh => ?_⟩
      have := h4 acc _ hh
      rw [back_wipe] at this
      exact this
    | _ => exact q.elim
  | _ => exact q.elim
/-- a comprehension that leaves the slots: [f x for x in items if p x] -/
theorem comp_map {Φ : Fs} {kin : Exn → D} {e it c : Ex} {t : Tg} {own : List Nat} {s : Sl} {Q : Val → Sl → Prop} {E : Exn → Sl → Prop} (p : D → Bool) (f : D → D)
    (h : (ev Φ kin it s).sat (itmQ fun items s1 => plainSlots s1 own = true ∧ items.length ≤ lineMax ∧
      (∀ x ∈ items, optQ (fun s2 => (ev Φ kin c s2).sat (blQ fun b s3 => b = p x ∧ if p x then (ev Φ kin e s3).sat (datQ fun y s4 => y = f x ∧ wipeS s4 own = wipeS s1 own) (fun _ _ => False) else wipeS s3 own = wipeS s1 own) (fun _ _ => False)) (tgSet t [x] (wipeS s1 own))) ∧
      Q (.own ((items.filter p).map f)) (backS s1 (wipeS s1 own) own)) E) : (ev Φ kin (.comp e t it c own) s).sat Q E := by
  refine comp_rule (h.mono (fun v s1 q => ?_) fun _ _ z => z)
  cases v with
  | d x =>
    cases x with
    | list items =>
      obtain ⟨h1, hl, h2, h3⟩ := q
      refine ⟨h1, fun r acc w => ∃ pre, items = pre ++ r ∧ acc = (pre.filter p).map f ∧ w = wipeS s1 own, ⟨[], rfl, rfl, rfl⟩, ?_, ?_⟩
      · rintro x r acc w ⟨pre, e1, rfl, rfl⟩
        have hx := h2 x (by rw [e1]; exact List.mem_append_right _ List.mem_cons_self)
        have hacc : ((pre.filter p).map f).length < lineMax := by
          have a1 := List.length_filter_le p pre
          rw [e1] at hl
          simp only [List.length_append, List.length_cons] at hl
          rw [List.length_map]
          omega
        cases q : tgSet t [x] (wipeS s1 own) with
        | none => rw [q] at hx; exact hx
        | some s2 =>
          rw [q] at hx
          refine Res.sat.mono (show (ev Φ kin c s2).sat _ _ from hx) (fun v s3 z => ?_) fun _ _ z => z
          cases v with
          | d y =>
            cases y with
            | bool b =>
              obtain ⟨rfl, z⟩ := z
              show if p x = true then _ else _
              cases hp : p x with
              | true =>
                rw [hp] at z
                rw [if_pos rfl] at z ⊢
                refine z.mono (fun v s4 z => ?_) fun _ _ z => z
                unfold datQ at z ⊢
                cases ey : v.toD with
                | none => rw [ey] at z; exact z
                | some y =>
                  rw [ey] at z
                  obtain ⟨rfl, z⟩ := z
                  exact ⟨hacc, pre ++ [x], by rw [e1, List.append_assoc]; rfl, by simp [hp], z⟩
              | false =>
                rw [hp] at z
                rw [if_neg Bool.false_ne_true] at z ⊢
                exact ⟨pre ++ [x], by rw [e1, List.append_assoc]; rfl, by simp [hp], z⟩
            | _ => exact z.elim
          | _ => exact z.elim
      · rintro acc w ⟨pre, e1, rfl, rfl⟩
        rw [List.append_nil] at e1
        rw [← e1]
        exact h3
    | _ => exact q.elim
  | _ => exact q.elim
end Ir

set_option linter.all false
set_option maxRecDepth 100000
/-! All defs of all laws, as the mirror has them (printed by gen.py). -/
namespace Fns
open PySem Ir
/-- 0 -/
def f_is_within : Fn :=
  { name := "is_within", io := false, np := 3, ns := ["value", "low", "high"], body := .ret (.and (.isi .int (.var 0)) (.and (.not (.isi .bool (.var 0))) (.chain .le .le (.var 1) (.var 0) (.var 2)))) }
/-- 1 -/
def f_has_items : Fn :=
  { name := "has_items", io := false, np := 3, ns := ["value", "low", "high"], body := .ret (.and (.isi .tuple (.var 0)) (.chain .le .le (.var 1) (.lenS 0) (.var 2))) }
/-- 2 -/
def f_is_gate : Fn :=
  { name := "is_gate", io := false, np := 2, ns := ["value", "floors", "number", "place"], body := .seq (.ife (.or (.not (.call 1 (.cons (.var 0) (.cons (.cst (.int 4)) (.cons (.cst (.int 4)) (.nil)))))) (.not (.bi .all (.cons (.comp (.call 0 (.cons (.var 3) (.cons (.neg (.cst (.int 1))) (.cons (.bin .sub (.var 1) (.cst (.int 1))) (.nil))))) (.nm 3) (.itSeq (.slH (.var 0) (.cst (.int 2)))) (.cst (.bool true)) [3]) (.nil))))) (.ret (.cst (.bool false))) (.skip)) (.ret (.and (.cmp .ne (.ixS 0 (.cst (.int 0))) (.ixS 0 (.cst (.int 1)))) (.bi .all (.cons (.comp (.call 0 (.cons (.var 2) (.cons (.cst (.int 0)) (.cons (.cst (.int 5)) (.nil))))) (.nm 2) (.itSeq (.slL (.var 0) (.cst (.int 2)))) (.cst (.bool true)) [2]) (.nil))))) }
/-- 3 -/
def f_is_house_value : Fn :=
  { name := "is_house_value", io := false, np := 1, ns := ["value", "gate", "room"], body := .seq (.ife (.or (.not (.call 1 (.cons (.var 0) (.cons (.cst (.int 2)) (.cons (.cst (.int 2)) (.nil)))))) (.or (.not (.call 1 (.cons (.ixS 0 (.cst (.int 0))) (.cons (.cst (.int 1)) (.cons (.cst (.int 3)) (.nil)))))) (.not (.call 1 (.cons (.ixS 0 (.cst (.int 1))) (.cons (.cst (.int 1)) (.cons (.cst (.int 5)) (.nil)))))))) (.ret (.cst (.bool false))) (.skip)) (.seq (.ife (.not (.bi .all (.cons (.comp (.call 0 (.cons (.var 2) (.cons (.cst (.int 1)) (.cons (.cst (.int 40)) (.nil))))) (.nm 2) (.itSeq (.ixS 0 (.cst (.int 0)))) (.cst (.bool true)) [2]) (.nil)))) (.ret (.cst (.bool false))) (.skip)) (.ret (.bi .all (.cons (.comp (.call 2 (.cons (.var 1) (.cons (.bi .len (.cons (.ixS 0 (.cst (.int 0))) (.nil))) (.nil)))) (.nm 1) (.itSeq (.ixS 0 (.cst (.int 1)))) (.cst (.bool true)) [1]) (.nil))))) }
/-- 4 -/
def f_is_stretch : Fn :=
  { name := "is_stretch", io := false, np := 2, ns := ["house", "value", "count"], body := .ret (.and (.call 1 (.cons (.var 1) (.cons (.bi .len (.cons (.ixS 0 (.cst (.int 1))) (.nil))) (.cons (.bi .len (.cons (.ixS 0 (.cst (.int 1))) (.nil))) (.nil))))) (.bi .all (.cons (.comp (.call 0 (.cons (.var 2) (.cons (.cst (.int 0)) (.cons (.cst (.int 99)) (.nil))))) (.nm 2) (.itSeq (.var 1)) (.cst (.bool true)) [2]) (.nil)))) }
/-- 5 -/
def f_is_look : Fn :=
  { name := "is_look", io := false, np := 3, ns := ["house", "moments", "value"], body := .seq (.ife (.or (.not (.call 1 (.cons (.var 2) (.cons (.cst (.int 3)) (.cons (.cst (.int 3)) (.nil)))))) (.not (.call 0 (.cons (.ixS 2 (.cst (.int 0))) (.cons (.cst (.int 0)) (.cons (.var 1) (.nil))))))) (.ret (.cst (.bool false))) (.skip)) (.ret (.and (.call 0 (.cons (.ixS 2 (.cst (.int 1))) (.cons (.cst (.int 0)) (.cons (.bin .sub (.bi .len (.cons (.ixS 0 (.cst (.int 0))) (.nil))) (.cst (.int 1))) (.nil))))) (.call 0 (.cons (.ixS 2 (.cst (.int 2))) (.cons (.cst (.int 0)) (.cons (.ix (.ixS 0 (.cst (.int 0))) (.ixS 2 (.cst (.int 1)))) (.nil))))))) }
/-- 6 -/
def f_is_book_value : Fn :=
  { name := "is_book_value", io := false, np := 2, ns := ["house", "value", "spots", "look", "one", "other", "counts"], body := .seq (.ife (.or (.not (.call 1 (.cons (.var 1) (.cons (.cst (.int 2)) (.cons (.cst (.int 2)) (.nil)))))) (.not (.call 1 (.cons (.ixS 1 (.cst (.int 0))) (.cons (.cst (.int 0)) (.cons (.glob "MOST_STRETCHES" 4) (.nil))))))) (.ret (.cst (.bool false))) (.skip)) (.seq (.ife (.or (.not (.call 1 (.cons (.ixS 1 (.cst (.int 1))) (.cons (.cst (.int 0)) (.cons (.glob "MOST_LOOKS" 8) (.nil)))))) (.not (.bi .all (.cons (.comp (.call 4 (.cons (.var 0) (.cons (.var 6) (.nil)))) (.nm 6) (.itSeq (.ixS 1 (.cst (.int 0)))) (.cst (.bool true)) [6]) (.nil))))) (.ret (.cst (.bool false))) (.skip)) (.seq (.ife (.not (.bi .all (.cons (.comp (.call 5 (.cons (.var 0) (.cons (.bi .len (.cons (.ixS 1 (.cst (.int 0))) (.nil))) (.cons (.var 3) (.nil))))) (.nm 3) (.itSeq (.ixS 1 (.cst (.int 1)))) (.cst (.bool true)) [3]) (.nil)))) (.ret (.cst (.bool false))) (.skip)) (.seq (.set 2 (.comp (.slH (.var 3) (.cst (.int 2))) (.nm 3) (.itSeq (.ixS 1 (.cst (.int 1)))) (.cst (.bool true)) [3])) (.ret (.bi .all (.cons (.comp (.cmp .lt (.var 4) (.var 5)) (.tup (.cons (.nm 4) (.cons (.nm 5) (.nil)))) (.itZip (.var 2) (.slL (.var 2) (.cst (.int 1)))) (.cst (.bool true)) [4, 5]) (.nil))))))) }
/-- 7 -/
def f_need_house : Fn :=
  { name := "need_house", io := false, np := 1, ns := ["value"], body := .ife (.not (.call 3 (.cons (.var 0) (.nil)))) (.raise ⟨0, none⟩) (.skip) }
/-- 8 -/
def f_need_gate : Fn :=
  { name := "need_gate", io := false, np := 2, ns := ["house", "value"], body := .ife (.not (.call 0 (.cons (.var 1) (.cons (.cst (.int 0)) (.cons (.bin .sub (.bi .len (.cons (.ixS 0 (.cst (.int 1))) (.nil))) (.cst (.int 1))) (.nil)))))) (.raise ⟨4, none⟩) (.skip) }
/-- 9 -/
def f_need_number : Fn :=
  { name := "need_number", io := false, np := 2, ns := ["value", "most"], body := .ife (.not (.call 0 (.cons (.var 0) (.cons (.cst (.int 0)) (.cons (.var 1) (.nil)))))) (.raise ⟨5, none⟩) (.skip) }
/-- 10 -/
def f_pass_bounds : Fn :=
  { name := "pass_bounds", io := false, np := 2, ns := ["gate", "count"], body := .ret (.tup (.cons (.bin .sub (.var 1) (.bi .min2 (.cons (.ixS 0 (.cst (.int 3))) (.cons (.bin .fdiv (.var 1) (.cst (.int 2))) (.nil))))) (.cons (.bin .add (.var 1) (.ixS 0 (.cst (.int 2)))) (.nil)))) }
/-- 11 -/
def f_is_house : Fn :=
  { name := "is_house", io := false, np := 1, ns := ["value"], body := .ret (.call 3 (.cons (.var 0) (.nil))) }
/-- 12 -/
def f_is_book : Fn :=
  { name := "is_book", io := false, np := 2, ns := ["house", "value"], body := .seq (.expr (.call 7 (.cons (.var 0) (.nil)))) (.ret (.call 6 (.cons (.var 0) (.cons (.var 1) (.nil))))) }
/-- 13 -/
def f_can_pass : Fn :=
  { name := "can_pass", io := false, np := 3, ns := ["house", "gate", "count"], body := .seq (.expr (.call 7 (.cons (.var 0) (.nil)))) (.seq (.expr (.call 8 (.cons (.var 0) (.cons (.var 1) (.nil))))) (.seq (.expr (.call 9 (.cons (.var 2) (.cons (.cst (.int 99)) (.nil))))) (.ret (.call 10 (.cons (.ix (.ixS 0 (.cst (.int 1))) (.var 1)) (.cons (.var 2) (.nil))))))) }
/-- 14 -/
def f_law_deck : Fn :=
  { name := "_law_deck", io := false, np := 2, ns := ["cell", "turn"], body := .seq (.ife (.cmp .ge (.var 0) (.bin .pow (.cst (.int 10)) (.cst (.int 18)))) (.ret (.lst (.cons (.bin .sub (.var 0) (.bin .pow (.cst (.int 10)) (.cst (.int 18)))) (.cons (.bin .mod (.var 0) (.cst (.int 2147483579))) (.cons (.var 1) (.nil)))))) (.skip)) (.ret (.lst (.cons (.cst (.int 0)) (.cons (.bin .mod (.var 0) (.cst (.int 2147483579))) (.cons (.var 1) (.nil)))))) }
/-- 15 -/
def f_law_pick : Fn :=
  { name := "_law_pick", io := true, np := 2, ns := ["deck", "size", "number", "found"], body := .seq (.ife (.cmp .gt (.ixS 0 (.cst (.int 0))) (.cst (.int 1))) (.seq (.set 3 (.bin .mod (.bi .int (.cons (.ixS 0 (.cst (.int 0))) (.nil))) (.var 1))) (.seq (.setIx 0 (.cst (.int 0)) (.bin .fdiv (.ixS 0 (.cst (.int 0))) (.var 1))) (.ret (.take 3)))) (.skip)) (.seq (.setIx 0 (.cst (.int 2)) (.bin .add (.ixS 0 (.cst (.int 2))) (.cst (.int 1)))) (.seq (.set 2 (.bin .mod (.bin .pow (.bin .add (.ixS 0 (.cst (.int 1))) (.bin .mul (.cst (.int 15485867)) (.ixS 0 (.cst (.int 2))))) (.cst (.int 5))) (.cst (.int 2147483647)))) (.seq (.set 3 (.bin .fdiv (.bin .mod (.bin .pow (.bin .add (.var 2) (.bin .mul (.cst (.int 7919)) (.ixS 0 (.cst (.int 2))))) (.cst (.int 3))) (.cst (.int 2147483629))) (.cst (.int 32)))) (.ret (.bin .mod (.bi .int (.cons (.var 3) (.nil))) (.var 1)))))) }
/-- 16 -/
def f_law_whole : Fn :=
  { name := "_law_whole", io := false, np := 1, ns := ["thing"], body := .ret (.and (.isi .int (.var 0)) (.not (.isi .bool (.var 0)))) }
/-- 17 -/
def f_law_one : Fn :=
  { name := "_law_one", io := true, np := 2, ns := ["deck", "some"], body := .ret (.ixS 1 (.io 15 0 (.cons (.lenS 1) (.nil)))) }
/-- 18 -/
def f_law_sort : Fn :=
  { name := "_law_sort", io := false, np := 1, ns := ["thing"], body := .seq (.ife (.isi .bool (.var 0)) (.ret (.cst (.int 1))) (.skip)) (.seq (.ife (.isi .int (.var 0)) (.ret (.cst (.int 2))) (.skip)) (.seq (.ife (.isi .str (.var 0)) (.ret (.cst (.int 3))) (.skip)) (.seq (.ife (.isi .list (.var 0)) (.ret (.cst (.int 4))) (.skip)) (.ret (.ife (.isi .tuple (.var 0)) (.cst (.int 5)) (.cst (.int 6))))))) }
/-- 19 -/
def f_law_same : Fn :=
  { name := "_law_same", io := false, np := 2, ns := ["told", "due", "k", "part"], body := .seq (.ife (.cmp .ne (.call 18 (.cons (.var 0) (.nil))) (.call 18 (.cons (.var 1) (.nil)))) (.ret (.cst (.bool false))) (.skip)) (.seq (.ife (.and (.cmp .gt (.call 18 (.cons (.var 0) (.nil))) (.cst (.int 3))) (.cmp .lt (.call 18 (.cons (.var 0) (.nil))) (.cst (.int 6)))) (.seq (.ife (.cmp .ne (.lenS 0) (.lenS 1)) (.ret (.cst (.bool false))) (.skip)) (.ret (.cmp .eq (.comp (.var 2) (.tup (.cons (.nm 2) (.cons (.nm 3) (.nil)))) (.itEnum (.var 0)) (.not (.call 19 (.cons (.var 3) (.cons (.ixS 1 (.var 2)) (.nil))))) [2, 3]) (.lst (.nil))))) (.skip)) (.ret (.cmpS .eq 0 (.var 1)))) }
/-- 20 -/
def f_law_known : Fn :=
  { name := "_law_known", io := false, np := 0, ns := ["small"], body := .seq (.set 0 (.tup (.cons (.tup (.cons (.cst (.int 4)) (.nil))) (.cons (.tup (.cons (.tup (.cons (.neg (.cst (.int 1))) (.cons (.cst (.int 0)) (.cons (.cst (.int 0)) (.cons (.cst (.int 0)) (.nil)))))) (.cons (.tup (.cons (.cst (.int 0)) (.cons (.neg (.cst (.int 1))) (.cons (.cst (.int 0)) (.cons (.cst (.int 1)) (.nil)))))) (.nil)))) (.nil))))) (.ret (.tup (.cons (.var 0) (.cons (.tup (.cons (.tup (.cons (.cst (.int 3)) (.cons (.cst (.int 2)) (.nil)))) (.cons (.tup (.cons (.tup (.cons (.neg (.cst (.int 1))) (.cons (.cst (.int 0)) (.cons (.cst (.int 1)) (.cons (.cst (.int 0)) (.nil)))))) (.cons (.tup (.cons (.cst (.int 0)) (.cons (.cst (.int 1)) (.cons (.cst (.int 0)) (.cons (.cst (.int 0)) (.nil)))))) (.cons (.tup (.cons (.cst (.int 1)) (.cons (.neg (.cst (.int 1))) (.cons (.cst (.int 1)) (.cons (.cst (.int 0)) (.nil)))))) (.nil))))) (.nil)))) (.nil))))) }
/-- 21 -/
def f_law_books : Fn :=
  { name := "_law_books", io := false, np := 0, ns := ["one", "two", "three", "four"], body := .seq (.setT (.tup (.cons (.nm 0) (.cons (.nm 1) (.nil)))) (.tup (.cons (.tup (.cons (.tup (.cons (.tup (.cons (.cst (.int 5)) (.cons (.cst (.int 2)) (.nil)))) (.nil))) (.cons (.tup (.cons (.tup (.cons (.cst (.int 0)) (.cons (.cst (.int 0)) (.cons (.cst (.int 1)) (.nil))))) (.nil))) (.nil)))) (.cons (.tup (.cons (.tup (.cons (.tup (.cons (.cst (.int 5)) (.cons (.cst (.int 2)) (.nil)))) (.nil))) (.cons (.tup (.nil)) (.nil)))) (.nil))))) (.seq (.setT (.tup (.cons (.nm 2) (.cons (.nm 3) (.nil)))) (.tup (.cons (.tup (.cons (.tup (.cons (.tup (.cons (.cst (.int 4)) (.cons (.cst (.int 2)) (.cons (.cst (.int 0)) (.nil))))) (.nil))) (.cons (.tup (.nil)) (.nil)))) (.cons (.tup (.cons (.tup (.cons (.tup (.cons (.cst (.int 4)) (.cons (.cst (.int 2)) (.cons (.cst (.int 0)) (.nil))))) (.cons (.tup (.cons (.cst (.int 0)) (.cons (.cst (.int 0)) (.cons (.cst (.int 1)) (.nil))))) (.nil)))) (.cons (.tup (.cons (.tup (.cons (.cst (.int 2)) (.cons (.cst (.int 1)) (.cons (.cst (.int 0)) (.nil))))) (.nil))) (.nil)))) (.nil))))) (.ret (.tup (.cons (.var 0) (.cons (.var 1) (.cons (.var 2) (.cons (.var 3) (.cons (.tup (.cons (.tup (.cons (.tup (.cons (.cst (.int 9)) (.cons (.cst (.int 2)) (.nil)))) (.nil))) (.cons (.tup (.cons (.tup (.cons (.cst (.int 0)) (.cons (.cst (.int 0)) (.cons (.cst (.int 0)) (.nil))))) (.nil))) (.nil)))) (.nil))))))))) }
/-- 22 -/
def f_law_ends : Fn :=
  { name := "_law_ends", io := false, np := 2, ns := ["gate_so", "count_so"], body := .ret (.tup (.cons (.bin .sub (.var 1) (.bi .min2 (.cons (.ixS 0 (.cst (.int 3))) (.cons (.bin .fdiv (.var 1) (.cst (.int 2))) (.nil))))) (.cons (.bin .add (.var 1) (.ixS 0 (.cst (.int 2)))) (.nil)))) }
/-- 23 -/
def f_law_later : Fn :=
  { name := "_law_later", io := false, np := 3, ns := ["house_so", "row", "passes_so", "found", "gate_so", "number"], body := .seq (.set 3 (.bi .list (.cons (.var 1) (.nil)))) (.seq (.for_ (.tup (.cons (.nm 4) (.cons (.nm 5) (.nil)))) (.itZip (.ixS 0 (.cst (.int 1))) (.var 2)) (.seq (.ife (.cmp .ne (.ixS 4 (.cst (.int 0))) (.neg (.cst (.int 1)))) (.setIx 3 (.ixS 4 (.cst (.int 0))) (.bin .sub (.ixS 3 (.ixS 4 (.cst (.int 0)))) (.var 5))) (.skip)) (.ife (.cmp .ne (.ixS 4 (.cst (.int 1))) (.neg (.cst (.int 1)))) (.setIx 3 (.ixS 4 (.cst (.int 1))) (.bin .add (.ixS 3 (.ixS 4 (.cst (.int 1)))) (.var 5))) (.skip)))) (.ret (.bi .tuple (.cons (.var 3) (.nil))))) }
/-- 24 -/
def f_law_fits : Fn :=
  { name := "_law_fits", io := false, np := 4, ns := ["house_so", "looks_so", "moment_so", "row", "number", "room_so", "at", "floor_so"], body := .seq (.for_ (.tup (.cons (.nm 4) (.cons (.nm 5) (.nil)))) (.itZip (.var 3) (.ixS 0 (.cst (.int 0)))) (.ife (.or (.cmp .lt (.var 4) (.cst (.int 0))) (.cmp .gt (.var 4) (.var 5))) (.ret (.cst (.bool false))) (.skip))) (.seq (.for_ (.tup (.cons (.nm 6) (.cons (.nm 7) (.cons (.nm 4) (.nil))))) (.itSeq (.var 1)) (.ife (.and (.cmpS .eq 6 (.var 2)) (.cmp .ne (.ixS 3 (.var 7)) (.var 4))) (.ret (.cst (.bool false))) (.skip))) (.ret (.cst (.bool true)))) }
/-- 25 -/
def f_law_a_house : Fn :=
  { name := "_law_a_house", io := true, np := 3, ns := ["deck", "floors_so", "gates_so", "many", "found", "turn", "one", "other", "at"], body := .seq (.set 3 (.bin .add (.cst (.int 1)) (.io 15 0 (.cons (.var 1) (.nil))))) (.seq (.set 4 (.lst (.nil))) (.seq (.for_ (.nm 5) (.itRng1 (.bin .add (.cst (.int 1)) (.io 15 0 (.cons (.var 2) (.nil))))) (.seq (.set 6 (.bin .sub (.io 15 0 (.cons (.bin .add (.var 3) (.cst (.int 1))) (.nil))) (.cst (.int 1)))) (.seq (.set 7 (.io 17 0 (.cons (.comp (.var 8) (.nm 8) (.itRng (.neg (.cst (.int 1))) (.var 3)) (.cmpS .ne 8 (.var 6)) [8]) (.nil)))) (.app 4 (.tup (.cons (.var 6) (.cons (.var 7) (.cons (.io 17 0 (.cons (.lst (.cons (.cst (.int 0)) (.cons (.cst (.int 0)) (.cons (.cst (.int 1)) (.cons (.cst (.int 2)) (.nil)))))) (.nil))) (.cons (.io 17 0 (.cons (.lst (.cons (.cst (.int 0)) (.cons (.cst (.int 0)) (.cons (.cst (.int 1)) (.cons (.cst (.int 2)) (.nil)))))) (.nil))) (.nil)))))))))) (.ret (.tup (.cons (.bi .tuple (.cons (.comp (.bin .add (.cst (.int 1)) (.io 15 0 (.cons (.cst (.int 4)) (.nil)))) (.nm 5) (.itRng1 (.var 3)) (.cst (.bool true)) [5]) (.nil))) (.cons (.bi .tuple (.cons (.var 4) (.nil))) (.nil))))))) }
/-- 26 -/
def f_law_a_book : Fn :=
  { name := "_law_a_book", io := true, np := 3, ns := ["deck", "house_so", "most", "row", "turn", "looks_so", "counts_so", "rows_so", "some", "again_so", "told", "number", "gate_so", "least_so", "at", "floor_so", "room_so", "key"], body := .seq (.set 3 (.bi .tuple (.cons (.comp (.io 15 0 (.cons (.bin .add (.var 16) (.cst (.int 1))) (.nil))) (.nm 16) (.itSeq (.ixS 1 (.cst (.int 0)))) (.cst (.bool true)) [16]) (.nil)))) (.seq (.par 6 7 (.tup (.nil)) (.lst (.cons (.var 3) (.nil)))) (.seq (.for_ (.nm 4) (.itRng1 (.io 15 0 (.cons (.bin .add (.var 2) (.cst (.int 1))) (.nil)))) (.seq (.set 8 (.bi .tuple (.cons (.comp (.io 15 0 (.cons (.cst (.int 4)) (.nil))) (.nm 12) (.itSeq (.ixS 1 (.cst (.int 1)))) (.cst (.bool true)) [12]) (.nil)))) (.seq (.for_ (.nm 9) (.itRng1 (.cst (.int 4))) (.ife (.not (.call 24 (.cons (.var 1) (.cons (.tup (.nil)) (.cons (.cst (.int 0)) (.cons (.call 23 (.cons (.var 1) (.cons (.ixS 7 (.neg (.cst (.int 1)))) (.cons (.var 8) (.nil))))) (.nil))))))) (.set 8 (.bi .tuple (.cons (.comp (.io 15 0 (.cons (.cst (.int 3)) (.nil))) (.nm 12) (.itSeq (.ixS 1 (.cst (.int 1)))) (.cst (.bool true)) [12]) (.nil)))) (.skip))) (.seq (.app 7 (.call 23 (.cons (.var 1) (.cons (.ixS 7 (.neg (.cst (.int 1)))) (.cons (.var 8) (.nil)))))) (.seq (.set 10 (.lst (.nil))) (.seq (.for_ (.tup (.cons (.nm 12) (.cons (.nm 11) (.nil)))) (.itZip (.ixS 1 (.cst (.int 1))) (.var 8)) (.seq (.set 13 (.bi .max2 (.cons (.cst (.int 0)) (.cons (.bin .sub (.var 11) (.ixS 12 (.cst (.int 2)))) (.nil))))) (.app 10 (.io 17 0 (.cons (.lst (.cons (.var 11) (.cons (.var 11) (.cons (.var 13) (.cons (.bin .add (.var 11) (.bi .min2 (.cons (.bin .fdiv (.var 11) (.cst (.int 2))) (.cons (.ixS 12 (.cst (.int 3))) (.nil))))) (.nil)))))) (.nil)))))) (.set 6 (.bin .add (.var 6) (.tup (.cons (.bi .tuple (.cons (.var 10) (.nil))) (.nil))))))))))) (.seq (.set 5 (.dnt)) (.seq (.for_ (.nm 4) (.itRng1 (.io 15 0 (.cons (.cst (.int 3)) (.nil)))) (.seq (.par 14 15 (.io 15 0 (.cons (.lenS 7) (.nil))) (.io 15 0 (.cons (.bi .len (.cons (.ixS 1 (.cst (.int 0))) (.nil))) (.nil)))) (.seq (.set 11 (.io 17 0 (.cons (.lst (.cons (.ix (.ixS 7 (.var 14)) (.var 15)) (.cons (.ix (.ixS 7 (.var 14)) (.var 15)) (.cons (.io 15 0 (.cons (.cst (.int 3)) (.nil))) (.nil))))) (.nil)))) (.setIx 5 (.tup (.cons (.var 14) (.cons (.var 15) (.nil)))) (.tup (.cons (.var 14) (.cons (.var 15) (.cons (.bi .max2 (.cons (.cst (.int 0)) (.cons (.bi .min2 (.cons (.ix (.ixS 1 (.cst (.int 0))) (.var 15)) (.cons (.var 11) (.nil)))) (.nil)))) (.nil))))))))) (.ret (.tup (.cons (.var 6) (.cons (.bi .tuple (.cons (.comp (.ixS 5 (.var 17)) (.nm 17) (.itSeq (.sortedKeys 5)) (.cst (.bool true)) [17]) (.nil))) (.nil))))))))) }
/-- 27 -/
def f_law_number_so : Fn :=
  { name := "_law_number_so", io := false, np := 3, ns := ["thing", "low", "high"], body := .ret (.and (.call 16 (.cons (.var 0) (.nil))) (.chain .le .le (.var 1) (.var 0) (.var 2))) }
/-- 28 -/
def f_law_is_a_house : Fn :=
  { name := "_law_is_a_house", io := false, np := 1, ns := ["thing", "gate_so", "part", "most", "odd", "room_so", "one"], body := .seq (.ife (.or (.not (.isi .tuple (.var 0))) (.cmp .ne (.lenS 0) (.cst (.int 2)))) (.ret (.cst (.bool false))) (.skip)) (.seq (.for_ (.tup (.cons (.nm 2) (.cons (.nm 3) (.nil)))) (.itSeq (.lst (.cons (.tup (.cons (.ixS 0 (.cst (.int 0))) (.cons (.cst (.int 3)) (.nil)))) (.cons (.tup (.cons (.ixS 0 (.cst (.int 1))) (.cons (.cst (.int 5)) (.nil)))) (.nil))))) (.ife (.or (.not (.isi .tuple (.var 2))) (.not (.chain .le .le (.cst (.int 1)) (.lenS 2) (.var 3)))) (.ret (.cst (.bool false))) (.skip))) (.seq (.ife (.cmp .ne (.comp (.cst (.int 1)) (.nm 5) (.itSeq (.ixS 0 (.cst (.int 0)))) (.not (.call 27 (.cons (.var 5) (.cons (.cst (.int 1)) (.cons (.cst (.int 40)) (.nil)))))) [5]) (.lst (.nil))) (.ret (.cst (.bool false))) (.skip)) (.seq (.for_ (.nm 1) (.itSeq (.ixS 0 (.cst (.int 1)))) (.seq (.ife (.or (.not (.isi .tuple (.var 1))) (.cmp .ne (.lenS 1) (.cst (.int 4)))) (.ret (.cst (.bool false))) (.skip)) (.seq (.ife (.cmp .ne (.comp (.cst (.int 1)) (.nm 6) (.itSeq (.slH (.var 1) (.cst (.int 2)))) (.not (.call 27 (.cons (.var 6) (.cons (.neg (.cst (.int 1))) (.cons (.bin .sub (.bi .len (.cons (.ixS 0 (.cst (.int 0))) (.nil))) (.cst (.int 1))) (.nil)))))) [6]) (.lst (.nil))) (.ret (.cst (.bool false))) (.skip)) (.seq (.set 4 (.comp (.cst (.int 1)) (.nm 6) (.itSeq (.slL (.var 1) (.cst (.int 2)))) (.not (.call 27 (.cons (.var 6) (.cons (.cst (.int 0)) (.cons (.cst (.int 5)) (.nil)))))) [6])) (.ife (.or (.cmp .eq (.ixS 1 (.cst (.int 0))) (.ixS 1 (.cst (.int 1)))) (.cmpS .ne 4 (.lst (.nil)))) (.ret (.cst (.bool false))) (.skip)))))) (.ret (.cst (.bool true)))))) }
/-- 29 -/
def f_law_is_a_book : Fn :=
  { name := "_law_is_a_book", io := false, np := 2, ns := ["house_so", "thing", "row", "look", "keys", "part", "most", "one"], body := .seq (.ife (.or (.not (.isi .tuple (.var 1))) (.cmp .ne (.lenS 1) (.cst (.int 2)))) (.ret (.cst (.bool false))) (.skip)) (.seq (.for_ (.tup (.cons (.nm 5) (.cons (.nm 6) (.nil)))) (.itSeq (.lst (.cons (.tup (.cons (.ixS 1 (.cst (.int 0))) (.cons (.cst (.int 4)) (.nil)))) (.cons (.tup (.cons (.ixS 1 (.cst (.int 1))) (.cons (.cst (.int 8)) (.nil)))) (.nil))))) (.ife (.or (.not (.isi .tuple (.var 5))) (.cmp .gt (.lenS 5) (.var 6))) (.ret (.cst (.bool false))) (.skip))) (.seq (.for_ (.nm 2) (.itSeq (.ixS 1 (.cst (.int 0)))) (.seq (.ife (.or (.not (.isi .tuple (.var 2))) (.cmp .ne (.lenS 2) (.bi .len (.cons (.ixS 0 (.cst (.int 1))) (.nil))))) (.ret (.cst (.bool false))) (.skip)) (.ife (.cmp .ne (.comp (.cst (.int 1)) (.nm 7) (.itSeq (.var 2)) (.not (.call 27 (.cons (.var 7) (.cons (.cst (.int 0)) (.cons (.cst (.int 99)) (.nil)))))) [7]) (.lst (.nil))) (.ret (.cst (.bool false))) (.skip)))) (.seq (.for_ (.nm 3) (.itSeq (.ixS 1 (.cst (.int 1)))) (.seq (.ife (.or (.not (.isi .tuple (.var 3))) (.cmp .ne (.lenS 3) (.cst (.int 3)))) (.ret (.cst (.bool false))) (.skip)) (.seq (.ife (.not (.call 27 (.cons (.ixS 3 (.cst (.int 0))) (.cons (.cst (.int 0)) (.cons (.bi .len (.cons (.ixS 1 (.cst (.int 0))) (.nil))) (.nil)))))) (.ret (.cst (.bool false))) (.skip)) (.seq (.ife (.not (.call 27 (.cons (.ixS 3 (.cst (.int 1))) (.cons (.cst (.int 0)) (.cons (.bin .sub (.bi .len (.cons (.ixS 0 (.cst (.int 0))) (.nil))) (.cst (.int 1))) (.nil)))))) (.ret (.cst (.bool false))) (.skip)) (.ife (.not (.call 27 (.cons (.ixS 3 (.cst (.int 2))) (.cons (.cst (.int 0)) (.cons (.ix (.ixS 0 (.cst (.int 0))) (.ixS 3 (.cst (.int 1)))) (.nil)))))) (.ret (.cst (.bool false))) (.skip)))))) (.seq (.set 4 (.comp (.slH (.var 3) (.cst (.int 2))) (.nm 3) (.itSeq (.ixS 1 (.cst (.int 1)))) (.cst (.bool true)) [3])) (.ret (.cmpS .eq 4 (.bi .sortedSet (.cons (.var 4) (.nil))))))))) }
/-- 30 -/
def f_law_spoilt : Fn :=
  { name := "_law_spoilt", io := true, np := 2, ns := ["deck", "thing", "some", "at", "turned_so"], body := .seq (.ife (.and (.isi .tuplist (.var 1)) (.and (.cmp .gt (.lenS 1) (.cst (.int 0))) (.cmp .gt (.io 15 0 (.cons (.cst (.int 7)) (.nil))) (.cst (.int 0))))) (.seq (.set 2 (.bi .list (.cons (.var 1) (.nil)))) (.seq (.set 3 (.io 15 0 (.cons (.lenS 2) (.nil)))) (.seq (.setIx 2 (.var 3) (.io 30 0 (.cons (.ixS 2 (.var 3)) (.nil)))) (.ret (.ife (.isi .tuple (.var 1)) (.bi .tuple (.cons (.var 2) (.nil))) (.var 2)))))) (.skip)) (.seq (.ife (.isi .tuplist (.var 1)) (.seq (.set 4 (.ife (.isi .tuple (.var 1)) (.bi .list (.cons (.var 1) (.nil))) (.bi .tuple (.cons (.var 1) (.nil))))) (.ret (.io 17 0 (.cons (.lst (.cons (.var 4) (.cons (.bin .add (.var 1) (.slH (.var 1) (.cst (.int 1)))) (.cons (.slL (.var 1) (.cst (.int 1))) (.cons (.rev (.var 1)) (.cons (.tup (.cons (.cst (.int 0)) (.cons (.cst (.int 1)) (.nil)))) (.cons (.cst .none) (.nil)))))))) (.nil))))) (.skip)) (.seq (.ife (.call 16 (.cons (.var 1) (.nil))) (.ret (.io 17 0 (.cons (.lst (.cons (.neg (.var 1)) (.cons (.bin .add (.var 1) (.cst (.int 1))) (.cons (.bin .sub (.var 1) (.cst (.int 1))) (.cons (.cst (.int 0)) (.cons (.neg (.cst (.int 1))) (.cons (.cst (.bool true)) (.cons (.cst .none) (.cons (.cst (.str "1")) (.cons (.cst (.int 5)) (.cons (.cst (.int 40)) (.cons (.cst (.int 99)) (.nil))))))))))))) (.nil)))) (.skip)) (.ret (.io 17 0 (.cons (.lst (.cons (.cst .none) (.cons (.cst (.int 0)) (.cons (.cst (.int 1)) (.cons (.cst (.bool true)) (.cons (.tup (.nil)) (.cons (.lst (.nil)) (.nil)))))))) (.nil)))))) }
/-- 31 -/
def f_law_written_k01 : Fn :=
  { name := "_law_written", io := false, np := 0, ns := ["gates_so", "odd", "some", "one", "two", "a", "b", "c", "d", "e"], body := .seq (.setT (.tup (.cons (.nm 3) (.cons (.nm 4) (.nil)))) (.call 20 (.nil))) (.seq (.setT (.tup (.cons (.nm 5) (.cons (.nm 6) (.cons (.nm 7) (.cons (.nm 8) (.cons (.nm 9) (.nil))))))) (.call 21 (.nil))) (.seq (.set 0 (.ixS 3 (.cst (.int 1)))) (.seq (.for_ (.nm 1) (.itSeq (.lst (.cons (.tup (.nil)) (.cons (.tup (.cons (.cst (.int 0)) (.nil))) (.cons (.tup (.cons (.cst (.int 41)) (.nil))) (.cons (.tup (.cons (.cst (.bool true)) (.nil))) (.cons (.lst (.cons (.cst (.int 4)) (.nil))) (.cons (.tup (.cons (.cst (.int 1)) (.cons (.cst (.int 1)) (.cons (.cst (.int 1)) (.cons (.cst (.int 1)) (.nil)))))) (.cons (.tup (.cons (.cst .none) (.nil))) (.nil)))))))))) (.ife (.call 11 (.cons (.tup (.cons (.var 1) (.cons (.var 0) (.nil)))) (.nil))) (.ret (.cst (.bool false))) (.skip))) (.seq (.set 2 (.lst (.cons (.tup (.nil)) (.cons (.bin .mul (.slH (.var 0) (.cst (.int 1))) (.cst (.int 6))) (.cons (.tup (.cons (.tup (.cons (.cst (.int 0)) (.cons (.cst (.int 0)) (.cons (.cst (.int 0)) (.cons (.cst (.int 0)) (.nil)))))) (.nil))) (.cons (.tup (.cons (.tup (.cons (.neg (.cst (.int 1))) (.cons (.cst (.int 1)) (.cons (.cst (.int 0)) (.cons (.cst (.int 0)) (.nil)))))) (.nil))) (.nil))))))) (.seq (.for_ (.nm 1) (.itSeq (.bin .add (.var 2) (.lst (.cons (.tup (.cons (.tup (.cons (.neg (.cst (.int 2))) (.cons (.cst (.int 0)) (.cons (.cst (.int 0)) (.cons (.cst (.int 0)) (.nil)))))) (.nil))) (.cons (.tup (.cons (.tup (.cons (.cst (.int 0)) (.cons (.neg (.cst (.int 1))) (.cons (.cst (.int 6)) (.cons (.cst (.int 0)) (.nil)))))) (.nil))) (.nil)))))) (.ife (.call 11 (.cons (.tup (.cons (.tup (.cons (.cst (.int 4)) (.nil))) (.cons (.var 1) (.nil)))) (.nil))) (.ret (.cst (.bool false))) (.skip))) (.seq (.ife (.or (.not (.call 11 (.cons (.tup (.cons (.tup (.cons (.cst (.int 40)) (.cons (.cst (.int 1)) (.cons (.cst (.int 1)) (.nil))))) (.cons (.bin .mul (.slH (.var 0) (.cst (.int 1))) (.cst (.int 5))) (.nil)))) (.nil)))) (.call 11 (.cons (.tup (.cons (.tup (.cons (.cst (.int 4)) (.nil))) (.cons (.tup (.cons (.tup (.cons (.cst (.int 0)) (.cons (.neg (.cst (.int 1))) (.cons (.cst (.int 0)) (.cons (.neg (.cst (.int 1))) (.nil)))))) (.nil))) (.nil)))) (.nil)))) (.ret (.cst (.bool false))) (.skip)) (.seq (.ife (.or (.not (.call 12 (.cons (.var 3) (.cons (.var 5) (.nil))))) (.not (.call 12 (.cons (.var 4) (.cons (.var 7) (.nil)))))) (.ret (.cst (.bool false))) (.skip)) (.seq (.ife (.or (.call 12 (.cons (.var 3) (.cons (.var 7) (.nil)))) (.call 12 (.cons (.var 3) (.cons (.tup (.cons (.tup (.nil)) (.cons (.tup (.cons (.tup (.cons (.cst (.int 0)) (.cons (.cst (.int 0)) (.cons (.cst (.int 5)) (.nil))))) (.nil))) (.nil)))) (.nil))))) (.ret (.cst (.bool false))) (.skip)) (.seq (.for_ (.nm 1) (.itSeq (.lst (.cons (.bin .mul (.tup (.cons (.tup (.cons (.cst (.int 5)) (.cons (.cst (.int 2)) (.nil)))) (.nil))) (.cst (.int 5))) (.cons (.tup (.cons (.tup (.cons (.cst (.int 5)) (.cons (.cst (.int 100)) (.nil)))) (.nil))) (.cons (.tup (.cons (.tup (.cons (.cst (.int 5)) (.cons (.neg (.cst (.int 1))) (.nil)))) (.nil))) (.cons (.tup (.cons (.tup (.cons (.cst (.int 5)) (.cons (.cst (.bool true)) (.nil)))) (.nil))) (.cons (.tup (.cons (.lst (.cons (.cst (.int 5)) (.cons (.cst (.int 2)) (.nil)))) (.nil))) (.cons (.tup (.cons (.cst (.int 5)) (.cons (.cst (.int 2)) (.nil)))) (.cons (.tup (.cons (.tup (.cons (.cst (.int 5)) (.nil))) (.nil))) (.nil)))))))))) (.ife (.call 12 (.cons (.var 3) (.cons (.tup (.cons (.var 1) (.cons (.tup (.nil)) (.nil)))) (.nil)))) (.ret (.cst (.bool false))) (.skip))) (.seq (.set 2 (.lst (.cons (.tup (.cons (.tup (.cons (.cst (.int 0)) (.cons (.cst (.int 0)) (.cons (.cst (.int 1)) (.nil))))) (.cons (.tup (.cons (.cst (.int 0)) (.cons (.cst (.int 0)) (.cons (.cst (.int 2)) (.nil))))) (.nil)))) (.cons (.tup (.cons (.tup (.cons (.cst (.int 1)) (.cons (.cst (.int 0)) (.cons (.cst (.int 1)) (.nil))))) (.cons (.tup (.cons (.cst (.int 0)) (.cons (.cst (.int 0)) (.cons (.cst (.int 1)) (.nil))))) (.nil)))) (.cons (.tup (.cons (.tup (.cons (.cst (.int 2)) (.cons (.cst (.int 0)) (.cons (.cst (.int 1)) (.nil))))) (.nil))) (.nil)))))) (.seq (.for_ (.nm 1) (.itSeq (.bin .add (.var 2) (.lst (.cons (.tup (.cons (.tup (.cons (.cst (.int 0)) (.cons (.cst (.int 1)) (.cons (.cst (.int 1)) (.nil))))) (.nil))) (.cons (.tup (.cons (.tup (.cons (.cst (.int 0)) (.cons (.cst (.int 0)) (.cons (.neg (.cst (.int 1))) (.nil))))) (.nil))) (.cons (.lst (.cons (.tup (.cons (.cst (.int 0)) (.cons (.cst (.int 0)) (.cons (.cst (.int 1)) (.nil))))) (.nil))) (.nil))))))) (.ife (.call 12 (.cons (.var 3) (.cons (.tup (.cons (.tup (.cons (.tup (.cons (.cst (.int 5)) (.cons (.cst (.int 2)) (.nil)))) (.nil))) (.cons (.var 1) (.nil)))) (.nil)))) (.ret (.cst (.bool false))) (.skip))) (.seq (.set 2 (.lst (.cons (.call 13 (.cons (.var 3) (.cons (.cst (.int 0)) (.cons (.cst (.int 5)) (.nil))))) (.cons (.call 13 (.cons (.var 3) (.cons (.cst (.int 1)) (.cons (.cst (.int 2)) (.nil))))) (.cons (.call 13 (.cons (.var 3) (.cons (.cst (.int 1)) (.cons (.cst (.int 1)) (.nil))))) (.cons (.call 13 (.cons (.var 4) (.cons (.cst (.int 0)) (.cons (.cst (.int 4)) (.nil))))) (.nil))))))) (.seq (.ife (.cmpS .ne 2 (.lst (.cons (.tup (.cons (.cst (.int 5)) (.cons (.cst (.int 5)) (.nil)))) (.cons (.tup (.cons (.cst (.int 1)) (.cons (.cst (.int 2)) (.nil)))) (.cons (.tup (.cons (.cst (.int 1)) (.cons (.cst (.int 1)) (.nil)))) (.cons (.tup (.cons (.cst (.int 4)) (.cons (.cst (.int 5)) (.nil)))) (.nil))))))) (.ret (.cst (.bool false))) (.skip)) (.ret (.and (.cmp .eq (.call 13 (.cons (.tup (.cons (.tup (.cons (.cst (.int 1)) (.nil))) (.cons (.tup (.cons (.tup (.cons (.neg (.cst (.int 1))) (.cons (.cst (.int 0)) (.cons (.cst (.int 2)) (.cons (.cst (.int 5)) (.nil)))))) (.nil))) (.nil)))) (.cons (.cst (.int 0)) (.cons (.cst (.int 9)) (.nil))))) (.tup (.cons (.cst (.int 5)) (.cons (.cst (.int 11)) (.nil))))) (.call 12 (.cons (.var 3) (.cons (.tup (.cons (.bin .mul (.tup (.cons (.tup (.cons (.cst (.int 99)) (.cons (.cst (.int 0)) (.nil)))) (.nil))) (.cst (.int 4))) (.cons (.tup (.nil)) (.nil)))) (.nil))))))))))))))))))) }
/-- 32 -/
def f_law_k01 : Fn :=
  { name := "law", io := false, np := 1, ns := ["script", "cell", "deck", "house_so", "book_so", "turn", "gate", "odd", "thing", "count_so", "one", "two", "due"], body := .seq (.for_ (.nm 1) (.itSeq (.slH (.bin .add (.lst (.cons (.cst (.int 0)) (.nil))) (.var 0)) (.cst (.int 10)))) (.seq (.set 2 (.call 14 (.cons (.var 1) (.cons (.cst (.int 1)) (.nil))))) (.seq (.set 3 (.io 25 2 (.cons (.cst (.int 3)) (.cons (.cst (.int 5)) (.nil))))) (.seq (.set 4 (.io 26 2 (.cons (.var 3) (.cons (.cst (.int 4)) (.nil))))) (.seq (.ife (.cmp .ne (.call 29 (.cons (.var 3) (.cons (.var 4) (.nil)))) (.call 12 (.cons (.var 3) (.cons (.var 4) (.nil))))) (.ret (.cst (.bool false))) (.skip)) (.seq (.for_ (.nm 5) (.itRng1 (.cst (.int 40))) (.seq (.par 10 11 (.io 30 2 (.cons (.var 3) (.nil))) (.io 30 2 (.cons (.var 4) (.nil)))) (.seq (.for_ (.nm 8) (.itSeq (.lst (.cons (.var 3) (.cons (.var 10) (.cons (.io 30 2 (.cons (.var 10) (.nil))) (.cons (.cst .none) (.nil))))))) (.ife (.not (.call 19 (.cons (.call 11 (.cons (.var 8) (.nil))) (.cons (.call 28 (.cons (.var 8) (.nil))) (.nil))))) (.ret (.cst (.bool false))) (.skip))) (.for_ (.nm 8) (.itSeq (.lst (.cons (.var 11) (.cons (.io 30 2 (.cons (.var 11) (.nil))) (.cons (.cst .none) (.nil)))))) (.ife (.not (.call 19 (.cons (.call 12 (.cons (.var 3) (.cons (.var 8) (.nil)))) (.cons (.call 29 (.cons (.var 3) (.cons (.var 8) (.nil)))) (.nil))))) (.ret (.cst (.bool false))) (.skip)))))) (.seq (.for_ (.nm 6) (.itRng1 (.bi .len (.cons (.ixS 3 (.cst (.int 1))) (.nil)))) (.for_ (.nm 9) (.itSeq (.lst (.cons (.cst (.int 0)) (.cons (.cst (.int 1)) (.cons (.cst (.int 2)) (.cons (.cst (.int 3)) (.cons (.io 15 2 (.cons (.cst (.int 100)) (.nil))) (.cons (.cst (.int 99)) (.nil))))))))) (.seq (.set 12 (.call 22 (.cons (.ix (.ixS 3 (.cst (.int 1))) (.var 6)) (.cons (.var 9) (.nil))))) (.ife (.not (.call 19 (.cons (.call 13 (.cons (.var 3) (.cons (.var 6) (.cons (.var 9) (.nil))))) (.cons (.var 12) (.nil))))) (.ret (.cst (.bool false))) (.skip))))) (.seq (.ife (.cmp .ne (.ltry (.call 12 (.cons (.tup (.nil)) (.cons (.cst .none) (.nil))))) (.cst (.str "house +"))) (.ret (.cst (.bool false))) (.skip)) (.seq (.ife (.cmp .ne (.ltry (.call 13 (.cons (.tup (.nil)) (.cons (.cst .none) (.cons (.cst .none) (.nil)))))) (.cst (.str "house +"))) (.ret (.cst (.bool false))) (.skip)) (.seq (.for_ (.nm 7) (.itSeq (.lst (.cons (.cst .none) (.cons (.neg (.cst (.int 1))) (.cons (.bi .len (.cons (.ixS 3 (.cst (.int 1))) (.nil))) (.cons (.cst (.bool true)) (.cons (.cst (.str "0")) (.nil)))))))) (.ife (.cmp .ne (.ltry (.call 13 (.cons (.var 3) (.cons (.var 7) (.cons (.cst .none) (.nil)))))) (.cst (.str "gate +"))) (.ret (.cst (.bool false))) (.skip))) (.for_ (.nm 7) (.itSeq (.lst (.cons (.cst .none) (.cons (.neg (.cst (.int 1))) (.cons (.cst (.int 100)) (.cons (.cst (.bool true)) (.cons (.cst (.str "0")) (.nil)))))))) (.ife (.cmp .ne (.ltry (.call 13 (.cons (.var 3) (.cons (.cst (.int 0)) (.cons (.var 7) (.nil)))))) (.cst (.str "number +"))) (.ret (.cst (.bool false))) (.skip))))))))))))) (.ret (.call 31 (.nil))) }
/-- 33 -/
def f_need_book : Fn :=
  { name := "need_book", io := false, np := 2, ns := ["house", "value"], body := .ife (.not (.call 6 (.cons (.var 0) (.cons (.var 1) (.nil))))) (.raise ⟨1, none⟩) (.skip) }
/-- 34 -/
def f_point_number : Fn :=
  { name := "point_number", io := false, np := 4, ns := ["house", "book", "stretch", "floor"], body := .seq (.ife (.or (.cmp .lt (.var 3) (.cst (.int 0))) (.not (.chain .le .lt (.cst (.int 0)) (.var 2) (.bi .len (.cons (.ixS 1 (.cst (.int 0))) (.nil)))))) (.ret (.neg (.cst (.int 1)))) (.skip)) (.ret (.bin .add (.bin .mul (.var 2) (.bi .len (.cons (.ixS 0 (.cst (.int 0))) (.nil)))) (.var 3))) }
/-- 35 -/
def f_parts_of : Fn :=
  { name := "parts_of", io := false, np := 2, ns := ["house", "book", "looks", "found", "moment", "stretch", "counts", "floor", "room", "low", "high", "ends", "gate", "count", "look", "place"], body := .seq (.set 2 (.dictT (.comp (.tup (.cons (.slH (.var 14) (.cst (.int 2))) (.cons (.ixS 14 (.cst (.int 2))) (.nil)))) (.nm 14) (.itSeq (.ixS 1 (.cst (.int 1)))) (.cst (.bool true)) [14]))) (.seq (.set 3 (.lst (.nil))) (.seq (.for_ (.nm 4) (.itRng1 (.bin .add (.bi .len (.cons (.ixS 1 (.cst (.int 0))) (.nil))) (.cst (.int 1)))) (.for_ (.tup (.cons (.nm 7) (.cons (.nm 8) (.nil)))) (.itEnum (.ixS 0 (.cst (.int 0)))) (.seq (.set 9 (.getS 2 (.tup (.cons (.var 4) (.cons (.var 7) (.nil)))) (.cst (.int 0)))) (.seq (.set 10 (.getS 2 (.tup (.cons (.var 4) (.cons (.var 7) (.nil)))) (.var 8))) (.seq (.set 11 (.tup (.cons (.call 34 (.cons (.var 0) (.cons (.var 1) (.cons (.bin .sub (.var 4) (.cst (.int 1))) (.cons (.var 7) (.nil)))))) (.cons (.call 34 (.cons (.var 0) (.cons (.var 1) (.cons (.var 4) (.cons (.var 7) (.nil)))))) (.nil))))) (.app 3 (.bin .add (.var 11) (.tup (.cons (.var 9) (.cons (.var 10) (.nil))))))))))) (.seq (.for_ (.tup (.cons (.nm 5) (.cons (.nm 6) (.nil)))) (.itEnum (.ixS 1 (.cst (.int 0)))) (.for_ (.tup (.cons (.nm 12) (.cons (.nm 13) (.nil)))) (.itZip (.ixS 0 (.cst (.int 1))) (.var 6)) (.seq (.set 11 (.comp (.call 34 (.cons (.var 0) (.cons (.var 1) (.cons (.var 5) (.cons (.var 15) (.nil)))))) (.nm 15) (.itSeq (.slH (.var 12) (.cst (.int 2)))) (.cst (.bool true)) [15])) (.app 3 (.bin .add (.bi .tuple (.cons (.var 11) (.nil))) (.call 10 (.cons (.var 12) (.cons (.var 13) (.nil))))))))) (.ret (.take 3))))) }
/-- 36 -/
def f_ways_on : Fn :=
  { name := "ways_on", io := false, np := 4, ns := ["parts", "flow", "point", "barred", "found", "index", "one", "other", "low", "high"], body := .seq (.set 4 (.lst (.nil))) (.seq (.for_ (.tup (.cons (.nm 5) (.cons (.tup (.cons (.nm 6) (.cons (.nm 7) (.cons (.nm 8) (.cons (.nm 9) (.nil)))))) (.nil)))) (.itEnum (.var 0)) (.ife (.and (.cmpS .ne 5 (.var 3)) (.cmpS .ne 6 (.var 7))) (.seq (.ife (.and (.cmpS .eq 6 (.var 2)) (.cmp .lt (.ixS 1 (.var 5)) (.var 9))) (.app 4 (.tup (.cons (.var 5) (.cons (.cst (.int 1)) (.cons (.var 7) (.cons (.bin .sub (.var 9) (.ixS 1 (.var 5))) (.nil))))))) (.skip)) (.ife (.and (.cmpS .eq 7 (.var 2)) (.cmp .gt (.ixS 1 (.var 5)) (.var 8))) (.app 4 (.tup (.cons (.var 5) (.cons (.neg (.cst (.int 1))) (.cons (.var 6) (.cons (.bin .sub (.ixS 1 (.var 5)) (.var 8)) (.nil))))))) (.skip))) (.skip))) (.ret (.take 4))) }
/-- 37 -/
def f_reached_from : Fn :=
  { name := "reached_from", io := false, np := 4, ns := ["parts", "flow", "start", "barred", "found", "line", "point", "way"], body := .seq (.par 4 5 (.disp (.pair (.var 2) (.lst (.nil)) (.nil))) (.lst (.cons (.var 2) (.nil)))) (.seq (.while_ 100000 (.cmpS .ne 5 (.lst (.nil))) (.seq (.set 6 (.pop0 5)) (.for_ (.nm 7) (.itSeq (.call 36 (.cons (.var 0) (.cons (.var 1) (.cons (.var 6) (.cons (.var 3) (.nil))))))) (.ife (.inS true (.ixS 7 (.cst (.int 2))) 4) (.seq (.setIx 4 (.ixS 7 (.cst (.int 2))) (.bin .add (.ixS 4 (.var 6)) (.lst (.cons (.var 7) (.nil))))) (.app 5 (.ixS 7 (.cst (.int 2))))) (.skip))))) (.ret (.take 4))) }
/-- 38 -/
def f_pushed : Fn :=
  { name := "pushed", io := false, np := 3, ns := ["flow", "row", "many", "found", "index", "sign", "point", "more"], body := .seq (.set 3 (.bi .list (.cons (.var 0) (.nil)))) (.seq (.for_ (.tup (.cons (.nm 4) (.cons (.nm 5) (.cons (.nm 6) (.cons (.nm 7) (.nil)))))) (.itSeq (.var 1)) (.setIx 3 (.var 4) (.bin .add (.ixS 3 (.var 4)) (.bin .mul (.var 5) (.var 2))))) (.ret (.take 3))) }
/-- 39 -/
def f_excess_of : Fn :=
  { name := "excess_of", io := false, np := 2, ns := ["parts", "flow", "found", "many", "one", "other", "low", "high"], body := .seq (.set 2 (.dnk)) (.seq (.for_ (.tup (.cons (.tup (.cons (.nm 4) (.cons (.nm 5) (.cons (.nm 6) (.cons (.nm 7) (.nil)))))) (.cons (.nm 3) (.nil)))) (.itZip (.var 0) (.var 1)) (.seq (.setIx 2 (.var 4) (.bin .sub (.getS 2 (.var 4) (.cst (.int 0))) (.var 3))) (.setIx 2 (.var 5) (.bin .add (.getS 2 (.var 5) (.cst (.int 0))) (.var 3))))) (.ret (.take 2))) }
/-- 40 -/
def f_settle : Fn :=
  { name := "settle", io := false, np := 1, ns := ["parts", "flow", "excess", "full", "ways", "ends", "row", "many", "one", "other", "low", "high", "point", "index", "sign", "more"], body := .seq (.set 1 (.comp (.var 10) (.tup (.cons (.nm 8) (.cons (.nm 9) (.cons (.nm 10) (.cons (.nm 11) (.nil)))))) (.itSeq (.var 0)) (.cst (.bool true)) [8, 9, 10, 11])) (.while_ 100000 (.cst (.bool true)) (.seq (.set 2 (.call 39 (.cons (.var 0) (.cons (.var 1) (.nil))))) (.seq (.set 3 (.bi .sorted (.cons (.comp (.var 12) (.nm 12) (.itKeys 2) (.cmp .gt (.ixS 2 (.var 12)) (.cst (.int 0))) [12]) (.nil)))) (.seq (.ife (.cmpS .eq 3 (.lst (.nil))) (.ret (.tup (.cons (.var 1) (.cons (.cst .none) (.nil))))) (.skip)) (.seq (.set 4 (.call 37 (.cons (.var 0) (.cons (.var 1) (.cons (.ixS 3 (.cst (.int 0))) (.cons (.cst .none) (.nil))))))) (.seq (.set 5 (.bi .sorted (.cons (.comp (.var 12) (.nm 12) (.itKeys 4) (.cmp .lt (.ixS 2 (.var 12)) (.cst (.int 0))) [12]) (.nil)))) (.seq (.ife (.cmpS .eq 5 (.lst (.nil))) (.ret (.tup (.cons (.cst .none) (.cons (.sortedKeys 4) (.nil))))) (.skip)) (.seq (.set 6 (.ixS 4 (.ixS 5 (.cst (.int 0))))) (.seq (.set 7 (.bi .min1 (.cons (.bin .add (.lst (.cons (.ixS 2 (.ixS 3 (.cst (.int 0)))) (.cons (.neg (.ixS 2 (.ixS 5 (.cst (.int 0))))) (.nil)))) (.comp (.var 15) (.tup (.cons (.nm 13) (.cons (.nm 14) (.cons (.nm 12) (.cons (.nm 15) (.nil)))))) (.itSeq (.var 6)) (.cst (.bool true)) [13, 14, 12, 15])) (.nil)))) (.set 1 (.call 38 (.cons (.var 1) (.cons (.var 6) (.cons (.var 7) (.nil))))))))))))))) }
/-- 41 -/
def f_truth_in : Fn :=
  { name := "truth_in", io := false, np := 3, ns := ["house", "book", "flow", "rest", "rows", "floors", "gates", "at"], body := .seq (.setT (.tup (.cons (.nm 5) (.cons (.nm 6) (.nil)))) (.tup (.cons (.bi .len (.cons (.ixS 0 (.cst (.int 0))) (.nil))) (.cons (.bi .len (.cons (.ixS 0 (.cst (.int 1))) (.nil))) (.nil))))) (.seq (.set 3 (.slL (.var 2) (.bin .mul (.bin .add (.bi .len (.cons (.ixS 1 (.cst (.int 0))) (.nil))) (.cst (.int 1))) (.var 5)))) (.seq (.set 4 (.comp (.bi .tuple (.cons (.sl (.var 3) (.bin .mul (.var 7) (.var 6)) (.bin .mul (.bin .add (.var 7) (.cst (.int 1))) (.var 6))) (.nil))) (.nm 7) (.itRng1 (.bi .len (.cons (.ixS 1 (.cst (.int 0))) (.nil)))) (.cst (.bool true)) [7])) (.ret (.tup (.cons (.bi .tuple (.cons (.slH (.var 2) (.var 5)) (.nil))) (.cons (.bi .tuple (.cons (.var 4) (.nil))) (.nil))))))) }
/-- 42 -/
def f_later_numbers : Fn :=
  { name := "later_numbers", io := false, np := 3, ns := ["house", "before", "passes", "found", "many", "one", "other", "misses", "doubles"], body := .seq (.set 3 (.bi .list (.cons (.var 1) (.nil)))) (.seq (.for_ (.tup (.cons (.tup (.cons (.nm 5) (.cons (.nm 6) (.cons (.nm 7) (.cons (.nm 8) (.nil)))))) (.cons (.nm 4) (.nil)))) (.itZip (.ixS 0 (.cst (.int 1))) (.var 2)) (.seq (.ife (.cmp .ge (.var 5) (.cst (.int 0))) (.setIx 3 (.var 5) (.bin .sub (.ixS 3 (.var 5)) (.var 4))) (.skip)) (.ife (.cmp .ge (.var 6) (.cst (.int 0))) (.setIx 3 (.var 6) (.bin .add (.ixS 3 (.var 6)) (.var 4))) (.skip)))) (.ret (.bi .tuple (.cons (.var 3) (.nil))))) }
/-- 43 -/
def f_rows_of : Fn :=
  { name := "rows_of", io := false, np := 2, ns := ["house", "value", "found", "passes"], body := .seq (.set 2 (.lst (.cons (.ixS 1 (.cst (.int 0))) (.nil)))) (.seq (.for_ (.nm 3) (.itSeq (.ixS 1 (.cst (.int 1)))) (.app 2 (.call 42 (.cons (.var 0) (.cons (.ixS 2 (.neg (.cst (.int 1)))) (.cons (.var 3) (.nil))))))) (.ret (.bi .tuple (.cons (.var 2) (.nil))))) }
/-- 44 -/
def f_has_form : Fn :=
  { name := "has_form", io := false, np := 3, ns := ["house", "book", "value", "counts", "passes", "gate", "count", "many", "low", "high", "number"], body := .seq (.ife (.or (.not (.call 1 (.cons (.var 2) (.cons (.cst (.int 2)) (.cons (.cst (.int 2)) (.nil)))))) (.not (.call 1 (.cons (.ixS 2 (.cst (.int 0))) (.cons (.bi .len (.cons (.ixS 0 (.cst (.int 0))) (.nil))) (.cons (.bi .len (.cons (.ixS 0 (.cst (.int 0))) (.nil))) (.nil))))))) (.ret (.cst (.bool false))) (.skip)) (.seq (.ife (.not (.bi .all (.cons (.comp (.call 0 (.cons (.var 10) (.cons (.cst (.int 0)) (.cons (.cst (.int 40)) (.nil))))) (.nm 10) (.itSeq (.ixS 2 (.cst (.int 0)))) (.cst (.bool true)) [10]) (.nil)))) (.ret (.cst (.bool false))) (.skip)) (.seq (.ife (.not (.call 1 (.cons (.ixS 2 (.cst (.int 1))) (.cons (.bi .len (.cons (.ixS 1 (.cst (.int 0))) (.nil))) (.cons (.bi .len (.cons (.ixS 1 (.cst (.int 0))) (.nil))) (.nil)))))) (.ret (.cst (.bool false))) (.skip)) (.seq (.for_ (.tup (.cons (.nm 3) (.cons (.nm 4) (.nil)))) (.itZip (.ixS 1 (.cst (.int 0))) (.ixS 2 (.cst (.int 1)))) (.seq (.ife (.not (.call 1 (.cons (.var 4) (.cons (.lenS 3) (.cons (.lenS 3) (.nil)))))) (.ret (.cst (.bool false))) (.skip)) (.for_ (.tup (.cons (.nm 5) (.cons (.nm 6) (.cons (.nm 7) (.nil))))) (.itZip3 (.ixS 0 (.cst (.int 1))) (.var 3) (.var 4)) (.seq (.setT (.tup (.cons (.nm 8) (.cons (.nm 9) (.nil)))) (.call 10 (.cons (.var 5) (.cons (.var 6) (.nil))))) (.ife (.not (.call 0 (.cons (.var 7) (.cons (.var 8) (.cons (.var 9) (.nil)))))) (.ret (.cst (.bool false))) (.skip)))))) (.ret (.cst (.bool true)))))) }
/-- 45 -/
def f_is_truth_value : Fn :=
  { name := "is_truth_value", io := false, np := 3, ns := ["house", "book", "value", "rows", "row", "moment", "floor", "number", "room"], body := .seq (.ife (.not (.call 44 (.cons (.var 0) (.cons (.var 1) (.cons (.var 2) (.nil)))))) (.ret (.cst (.bool false))) (.skip)) (.seq (.set 3 (.call 43 (.cons (.var 0) (.cons (.var 2) (.nil))))) (.seq (.for_ (.nm 4) (.itSeq (.var 3)) (.ife (.not (.bi .all (.cons (.comp (.chain .le .le (.cst (.int 0)) (.var 7) (.var 8)) (.tup (.cons (.nm 7) (.cons (.nm 8) (.nil)))) (.itZip (.var 4) (.ixS 0 (.cst (.int 0)))) (.cst (.bool true)) [7, 8]) (.nil)))) (.ret (.cst (.bool false))) (.skip))) (.ret (.bi .all (.cons (.comp (.cmp .eq (.ix (.ixS 3 (.var 5)) (.var 6)) (.var 7)) (.tup (.cons (.nm 5) (.cons (.nm 6) (.cons (.nm 7) (.nil))))) (.itSeq (.ixS 1 (.cst (.int 1)))) (.cst (.bool true)) [5, 6, 7]) (.nil)))))) }
/-- 46 -/
def f_can_be : Fn :=
  { name := "can_be", io := false, np := 2, ns := ["house", "book"], body := .seq (.expr (.call 7 (.cons (.var 0) (.nil)))) (.seq (.expr (.call 33 (.cons (.var 0) (.cons (.var 1) (.nil))))) (.ret (.cmp .isnot (.ix (.call 40 (.cons (.call 35 (.cons (.var 0) (.cons (.var 1) (.nil)))) (.nil))) (.cst (.int 0))) (.cst .none)))) }
/-- 47 -/
def f_truth : Fn :=
  { name := "truth", io := false, np := 2, ns := ["house", "book", "flow"], body := .seq (.expr (.call 7 (.cons (.var 0) (.nil)))) (.seq (.expr (.call 33 (.cons (.var 0) (.cons (.var 1) (.nil))))) (.seq (.set 2 (.ix (.call 40 (.cons (.call 35 (.cons (.var 0) (.cons (.var 1) (.nil)))) (.nil))) (.cst (.int 0)))) (.ret (.ife (.cmp .is (.var 2) (.cst .none)) (.cst .none) (.call 41 (.cons (.var 0) (.cons (.var 1) (.cons (.var 2) (.nil))))))))) }
/-- 48 -/
def f_is_truth : Fn :=
  { name := "is_truth", io := false, np := 3, ns := ["house", "book", "value"], body := .seq (.expr (.call 7 (.cons (.var 0) (.nil)))) (.seq (.expr (.call 33 (.cons (.var 0) (.cons (.var 1) (.nil))))) (.ret (.call 45 (.cons (.var 0) (.cons (.var 1) (.cons (.var 2) (.nil))))))) }
/-- 49 -/
def f_law_all_rows : Fn :=
  { name := "_law_all_rows", io := false, np := 1, ns := ["house_so", "found", "room_so", "longer", "row", "number"], body := .seq (.set 1 (.lst (.cons (.tup (.nil)) (.nil)))) (.seq (.for_ (.nm 2) (.itSeq (.ixS 0 (.cst (.int 0)))) (.seq (.set 3 (.lst (.nil))) (.seq (.for_ (.nm 4) (.itSeq (.var 1)) (.set 3 (.bin .add (.var 3) (.comp (.bin .add (.var 4) (.tup (.cons (.var 5) (.nil)))) (.nm 5) (.itRng1 (.bin .add (.var 2) (.cst (.int 1)))) (.cst (.bool true)) [5])))) (.set 1 (.var 3))))) (.ret (.take 1))) }
/-- 50 -/
def f_law_all_passes : Fn :=
  { name := "_law_all_passes", io := false, np := 2, ns := ["house_so", "counts_so", "found", "gate_so", "count_so", "longer", "row", "low", "high", "number"], body := .seq (.set 2 (.lst (.cons (.tup (.nil)) (.nil)))) (.seq (.for_ (.tup (.cons (.nm 3) (.cons (.nm 4) (.nil)))) (.itZip (.ixS 0 (.cst (.int 1))) (.var 1)) (.seq (.setT (.tup (.cons (.nm 7) (.cons (.nm 8) (.nil)))) (.call 22 (.cons (.var 3) (.cons (.var 4) (.nil))))) (.seq (.set 5 (.lst (.nil))) (.seq (.for_ (.nm 6) (.itSeq (.var 2)) (.set 5 (.bin .add (.var 5) (.comp (.bin .add (.var 6) (.tup (.cons (.var 9) (.nil)))) (.nm 9) (.itRng (.var 7) (.bin .add (.var 8) (.cst (.int 1)))) (.cst (.bool true)) [9])))) (.set 2 (.var 5)))))) (.ret (.take 2))) }
/-- 51 -/
def f_law_alive : Fn :=
  { name := "_law_alive", io := false, np := 2, ns := ["house_so", "book_so", "rows_so", "at", "counts_so", "looks_so", "met", "passes_so", "row", "kept", "there", "later"], body := .seq (.setT (.tup (.cons (.nm 4) (.cons (.nm 5) (.nil)))) (.var 1)) (.seq (.set 2 (.lst (.cons (.comp (.var 8) (.nm 8) (.itSeq (.call 49 (.cons (.var 0) (.nil)))) (.call 24 (.cons (.var 0) (.cons (.var 5) (.cons (.cst (.int 0)) (.cons (.var 8) (.nil)))))) [8]) (.nil)))) (.seq (.for_ (.nm 3) (.itRng1 (.lenS 4)) (.seq (.set 6 (.dnt)) (.seq (.for_ (.nm 7) (.itSeq (.call 50 (.cons (.var 0) (.cons (.ixS 4 (.var 3)) (.nil))))) (.for_ (.nm 8) (.itSeq (.ixS 2 (.var 3))) (.seq (.set 11 (.call 23 (.cons (.var 0) (.cons (.var 8) (.cons (.var 7) (.nil)))))) (.ife (.call 24 (.cons (.var 0) (.cons (.var 5) (.cons (.bin .add (.var 3) (.cst (.int 1))) (.cons (.var 11) (.nil)))))) (.setIx 6 (.var 11) (.cst (.bool true))) (.skip))))) (.app 2 (.sortedKeys 6))))) (.seq (.for_ (.nm 3) (.itDown (.bin .sub (.lenS 4) (.cst (.int 1))) (.neg (.cst (.int 1)))) (.seq (.par 9 10 (.dnt) (.dictT (.comp (.tup (.cons (.var 8) (.cons (.cst (.bool true)) (.nil)))) (.nm 8) (.itSeq (.ixS 2 (.bin .add (.var 3) (.cst (.int 1))))) (.cst (.bool true)) [8]))) (.seq (.for_ (.nm 7) (.itSeq (.call 50 (.cons (.var 0) (.cons (.ixS 4 (.var 3)) (.nil))))) (.for_ (.nm 8) (.itSeq (.ixS 2 (.var 3))) (.ife (.inS false (.call 23 (.cons (.var 0) (.cons (.var 8) (.cons (.var 7) (.nil))))) 10) (.setIx 9 (.var 8) (.cst (.bool true))) (.skip)))) (.setIx 2 (.var 3) (.sortedKeys 9))))) (.ret (.take 2))))) }
/-- 52 -/
def f_law_is_true : Fn :=
  { name := "_law_is_true", io := false, np := 3, ns := ["house_so", "book_so", "value_so", "row", "at", "passes_so", "one"], body := .seq (.ife (.or (.not (.isi .tuple (.var 2))) (.cmp .ne (.lenS 2) (.cst (.int 2)))) (.ret (.cst (.bool false))) (.skip)) (.seq (.ife (.or (.not (.isi .tuple (.ixS 2 (.cst (.int 0))))) (.cmp .ne (.bi .len (.cons (.ixS 2 (.cst (.int 0))) (.nil))) (.bi .len (.cons (.ixS 0 (.cst (.int 0))) (.nil))))) (.ret (.cst (.bool false))) (.skip)) (.seq (.ife (.or (.not (.isi .tuple (.ixS 2 (.cst (.int 1))))) (.cmp .ne (.bi .len (.cons (.ixS 2 (.cst (.int 1))) (.nil))) (.bi .len (.cons (.ixS 1 (.cst (.int 0))) (.nil))))) (.ret (.cst (.bool false))) (.skip)) (.seq (.set 3 (.ixS 2 (.cst (.int 0)))) (.seq (.ife (.or (.cmp .ne (.comp (.cst (.int 1)) (.nm 6) (.itSeq (.var 3)) (.not (.call 16 (.cons (.var 6) (.nil)))) [6]) (.lst (.nil))) (.not (.call 24 (.cons (.var 0) (.cons (.ixS 1 (.cst (.int 1))) (.cons (.cst (.int 0)) (.cons (.var 3) (.nil)))))))) (.ret (.cst (.bool false))) (.skip)) (.seq (.for_ (.nm 4) (.itRng1 (.bi .len (.cons (.ixS 1 (.cst (.int 0))) (.nil)))) (.seq (.set 5 (.ix (.ixS 2 (.cst (.int 1))) (.var 4))) (.seq (.ife (.or (.not (.isi .tuple (.var 5))) (.cmp .ne (.comp (.cst (.int 1)) (.nm 6) (.itSeq (.var 5)) (.not (.call 16 (.cons (.var 6) (.nil)))) [6]) (.lst (.nil)))) (.ret (.cst (.bool false))) (.skip)) (.seq (.ife (.cmp .notin (.var 5) (.call 50 (.cons (.var 0) (.cons (.ix (.ixS 1 (.cst (.int 0))) (.var 4)) (.nil))))) (.ret (.cst (.bool false))) (.skip)) (.seq (.set 3 (.call 23 (.cons (.var 0) (.cons (.var 3) (.cons (.var 5) (.nil)))))) (.ife (.not (.call 24 (.cons (.var 0) (.cons (.ixS 1 (.cst (.int 1))) (.cons (.bin .add (.var 4) (.cst (.int 1))) (.cons (.var 3) (.nil))))))) (.ret (.cst (.bool false))) (.skip))))))) (.ret (.cst (.bool true)))))))) }
/-- 53 -/
def f_law_drawn : Fn :=
  { name := "_law_drawn", io := true, np := 3, ns := ["deck", "house_so", "book_so", "row", "some", "room_so", "counts_so"], body := .seq (.set 3 (.bi .tuple (.cons (.comp (.io 15 0 (.cons (.bin .add (.var 5) (.cst (.int 1))) (.nil))) (.nm 5) (.itSeq (.ixS 1 (.cst (.int 0)))) (.cst (.bool true)) [5]) (.nil)))) (.seq (.set 4 (.bi .tuple (.cons (.comp (.io 17 0 (.cons (.call 50 (.cons (.var 1) (.cons (.var 6) (.nil)))) (.nil))) (.nm 6) (.itSeq (.ixS 2 (.cst (.int 0)))) (.cst (.bool true)) [6]) (.nil)))) (.ret (.tup (.cons (.var 3) (.cons (.var 4) (.nil)))))) }
/-- 54 -/
def f_law_written_k02 : Fn :=
  { name := "_law_written", io := false, np := 0, ns := ["one", "two", "a", "b", "c", "d", "e"], body := .seq (.setT (.tup (.cons (.nm 0) (.cons (.nm 1) (.nil)))) (.call 20 (.nil))) (.seq (.setT (.tup (.cons (.nm 2) (.cons (.nm 3) (.cons (.nm 4) (.cons (.nm 5) (.cons (.nm 6) (.nil))))))) (.call 21 (.nil))) (.seq (.ife (.cmp .ne (.lst (.cons (.call 46 (.cons (.var 0) (.cons (.var 2) (.nil)))) (.cons (.call 46 (.cons (.var 0) (.cons (.var 3) (.nil)))) (.cons (.call 46 (.cons (.var 0) (.cons (.var 6) (.nil)))) (.nil))))) (.lst (.cons (.cst (.bool true)) (.cons (.cst (.bool true)) (.cons (.cst (.bool false)) (.nil)))))) (.ret (.cst (.bool false))) (.skip)) (.seq (.ife (.or (.not (.call 46 (.cons (.var 1) (.cons (.var 4) (.nil))))) (.not (.call 46 (.cons (.var 1) (.cons (.var 5) (.nil)))))) (.ret (.cst (.bool false))) (.skip)) (.seq (.ife (.cmp .ne (.call 47 (.cons (.var 0) (.cons (.var 2) (.nil)))) (.tup (.cons (.tup (.cons (.cst (.int 1)) (.nil))) (.cons (.tup (.cons (.tup (.cons (.cst (.int 5)) (.cons (.cst (.int 2)) (.nil)))) (.nil))) (.nil))))) (.ret (.cst (.bool false))) (.skip)) (.seq (.ife (.cmp .isnot (.call 47 (.cons (.var 0) (.cons (.var 6) (.nil)))) (.cst .none)) (.ret (.cst (.bool false))) (.skip)) (.seq (.ife (.not (.call 48 (.cons (.var 0) (.cons (.var 3) (.cons (.tup (.cons (.tup (.cons (.cst (.int 0)) (.nil))) (.cons (.tup (.cons (.tup (.cons (.cst (.int 5)) (.cons (.cst (.int 1)) (.nil)))) (.nil))) (.nil)))) (.nil)))))) (.ret (.cst (.bool false))) (.skip)) (.seq (.ife (.call 48 (.cons (.var 0) (.cons (.var 3) (.cons (.tup (.cons (.tup (.cons (.cst (.int 1)) (.nil))) (.cons (.tup (.cons (.tup (.cons (.cst (.int 5)) (.cons (.cst (.int 3)) (.nil)))) (.nil))) (.nil)))) (.nil))))) (.ret (.cst (.bool false))) (.skip)) (.seq (.ife (.call 48 (.cons (.var 0) (.cons (.var 3) (.cons (.tup (.cons (.tup (.cons (.cst (.int 1)) (.nil))) (.cons (.tup (.cons (.tup (.cons (.cst (.int 5)) (.cons (.cst (.int 1)) (.nil)))) (.nil))) (.nil)))) (.nil))))) (.ret (.cst (.bool false))) (.skip)) (.seq (.ife (.call 48 (.cons (.var 0) (.cons (.var 2) (.cons (.tup (.cons (.tup (.cons (.cst (.int 0)) (.nil))) (.cons (.tup (.cons (.tup (.cons (.cst (.int 5)) (.cons (.cst (.int 2)) (.nil)))) (.nil))) (.nil)))) (.nil))))) (.ret (.cst (.bool false))) (.skip)) (.seq (.ife (.call 48 (.cons (.var 0) (.cons (.tup (.cons (.tup (.cons (.tup (.cons (.cst (.int 5)) (.cons (.cst (.int 2)) (.nil)))) (.nil))) (.cons (.tup (.cons (.tup (.cons (.cst (.int 0)) (.cons (.cst (.int 0)) (.cons (.cst (.int 0)) (.nil))))) (.nil))) (.nil)))) (.cons (.tup (.cons (.tup (.cons (.cst (.int 1)) (.nil))) (.cons (.tup (.cons (.tup (.cons (.cst (.int 5)) (.cons (.cst (.int 2)) (.nil)))) (.nil))) (.nil)))) (.nil))))) (.ret (.cst (.bool false))) (.skip)) (.seq (.ife (.call 48 (.cons (.var 0) (.cons (.var 3) (.cons (.tup (.cons (.tup (.cons (.cst (.bool true)) (.nil))) (.cons (.tup (.cons (.tup (.cons (.cst (.int 5)) (.cons (.cst (.int 2)) (.nil)))) (.nil))) (.nil)))) (.nil))))) (.ret (.cst (.bool false))) (.skip)) (.seq (.ife (.or (.call 46 (.cons (.var 0) (.cons (.tup (.cons (.tup (.cons (.tup (.cons (.cst (.int 0)) (.cons (.cst (.int 0)) (.nil)))) (.nil))) (.cons (.tup (.cons (.tup (.cons (.cst (.int 0)) (.cons (.cst (.int 0)) (.cons (.cst (.int 1)) (.nil))))) (.cons (.tup (.cons (.cst (.int 1)) (.cons (.cst (.int 0)) (.cons (.cst (.int 3)) (.nil))))) (.nil)))) (.nil)))) (.nil)))) (.not (.call 46 (.cons (.var 0) (.cons (.tup (.cons (.tup (.nil)) (.cons (.tup (.cons (.tup (.cons (.cst (.int 0)) (.cons (.cst (.int 0)) (.cons (.cst (.int 4)) (.nil))))) (.nil))) (.nil)))) (.nil)))))) (.ret (.cst (.bool false))) (.skip)) (.ret (.and (.call 48 (.cons (.var 1) (.cons (.var 4) (.cons (.tup (.cons (.tup (.cons (.cst (.int 0)) (.cons (.cst (.int 0)) (.nil)))) (.cons (.tup (.cons (.tup (.cons (.cst (.int 5)) (.cons (.cst (.int 2)) (.cons (.cst (.int 0)) (.nil))))) (.nil))) (.nil)))) (.nil))))) (.call 48 (.cons (.var 0) (.cons (.tup (.cons (.tup (.nil)) (.cons (.tup (.nil)) (.nil)))) (.cons (.tup (.cons (.tup (.cons (.cst (.int 3)) (.nil))) (.cons (.tup (.nil)) (.nil)))) (.nil))))))))))))))))))) }
/-- 55 -/
def f_law_k02 : Fn :=
  { name := "law", io := false, np := 1, ns := ["script", "cell", "deck", "turn", "call_so", "house_so", "book_so", "good", "found", "more", "value_so", "some", "thing", "due"], body := .seq (.for_ (.nm 1) (.itSeq (.slH (.bin .add (.lst (.cons (.cst (.int 0)) (.nil))) (.var 0)) (.cst (.int 8)))) (.seq (.set 2 (.call 14 (.cons (.var 1) (.cons (.cst (.int 2)) (.nil))))) (.seq (.for_ (.nm 3) (.itRng1 (.cst (.int 3))) (.seq (.set 5 (.io 25 2 (.cons (.cst (.int 2)) (.cons (.cst (.int 3)) (.nil))))) (.seq (.set 6 (.io 26 2 (.cons (.var 5) (.cons (.cst (.int 3)) (.nil))))) (.seq (.set 7 (.cmp .ne (.ix (.call 51 (.cons (.var 5) (.cons (.var 6) (.nil)))) (.cst (.int 0))) (.lst (.nil)))) (.seq (.set 8 (.call 47 (.cons (.var 5) (.cons (.var 6) (.nil))))) (.seq (.ife (.or (.not (.call 19 (.cons (.call 46 (.cons (.var 5) (.cons (.var 6) (.nil)))) (.cons (.var 7) (.nil))))) (.cmp .ne (.cmp .isnot (.var 8) (.cst .none)) (.var 7))) (.ret (.cst (.bool false))) (.skip)) (.seq (.ife (.and (.var 7) (.not (.call 52 (.cons (.var 5) (.cons (.var 6) (.cons (.var 8) (.nil))))))) (.ret (.cst (.bool false))) (.skip)) (.for_ (.nm 9) (.itRng1 (.cst (.int 8))) (.seq (.set 10 (.io 53 2 (.cons (.var 5) (.cons (.var 6) (.nil))))) (.seq (.set 11 (.lst (.cons (.var 10) (.cons (.slH (.var 10) (.cst (.int 1))) (.cons (.bi .list (.cons (.var 10) (.nil))) (.cons (.tup (.cons (.bi .list (.cons (.ixS 10 (.cst (.int 0))) (.nil))) (.cons (.ixS 10 (.cst (.int 1))) (.nil)))) (.nil))))))) (.for_ (.nm 12) (.itSeq (.bin .add (.var 11) (.lst (.cons (.var 8) (.cons (.cst .none) (.nil)))))) (.seq (.set 13 (.call 52 (.cons (.var 5) (.cons (.var 6) (.cons (.var 12) (.nil)))))) (.ife (.not (.call 19 (.cons (.call 48 (.cons (.var 5) (.cons (.var 6) (.cons (.var 12) (.nil))))) (.cons (.var 13) (.nil))))) (.ret (.cst (.bool false))) (.skip)))))))))))))) (.seq (.forFn 4 [46, 47] (.seq (.ife (.cmp .ne (.ltry (.callV 4 [46, 47] (.cons (.cst .none) (.cons (.cst .none) (.nil))))) (.cst (.str "house +"))) (.ret (.cst (.bool false))) (.skip)) (.ife (.cmp .ne (.ltry (.callV 4 [46, 47] (.cons (.var 5) (.cons (.tup (.nil)) (.nil))))) (.cst (.str "book +"))) (.ret (.cst (.bool false))) (.skip)))) (.ife (.cmp .ne (.ltry (.call 48 (.cons (.var 5) (.cons (.lst (.nil)) (.cons (.cst .none) (.nil)))))) (.cst (.str "book +"))) (.ret (.cst (.bool false))) (.skip)))))) (.ret (.call 54 (.nil))) }
/-- 56 -/
def f_need_moment : Fn :=
  { name := "need_moment", io := false, np := 2, ns := ["value", "most"], body := .ife (.not (.call 0 (.cons (.var 0) (.cons (.cst (.int 0)) (.cons (.var 1) (.nil)))))) (.raise ⟨2, none⟩) (.skip) }
/-- 57 -/
def f_need_floor : Fn :=
  { name := "need_floor", io := false, np := 2, ns := ["house", "value"], body := .ife (.not (.call 0 (.cons (.var 1) (.cons (.cst (.int 0)) (.cons (.bin .sub (.bi .len (.cons (.ixS 0 (.cst (.int 0))) (.nil))) (.cst (.int 1))) (.nil)))))) (.raise ⟨3, none⟩) (.skip) }
/-- 58 -/
def f_floor_part : Fn :=
  { name := "floor_part", io := false, np := 3, ns := ["house", "moment", "floor"], body := .ret (.bin .add (.bin .mul (.var 1) (.bi .len (.cons (.ixS 0 (.cst (.int 0))) (.nil)))) (.var 2)) }
/-- 59 -/
def f_gate_part : Fn :=
  { name := "gate_part", io := false, np := 4, ns := ["house", "book", "stretch", "gate"], body := .ret (.bin .add (.bin .add (.bin .mul (.bin .add (.bi .len (.cons (.ixS 1 (.cst (.int 0))) (.nil))) (.cst (.int 1))) (.bi .len (.cons (.ixS 0 (.cst (.int 0))) (.nil)))) (.bin .mul (.var 2) (.bi .len (.cons (.ixS 0 (.cst (.int 1))) (.nil))))) (.var 3)) }
/-- 60 -/
def f_greatest : Fn :=
  { name := "greatest", io := false, np := 3, ns := ["parts", "flow", "index", "one", "other", "low", "high", "ways", "many", "spot", "sign", "point", "more"], body := .seq (.setT (.tup (.cons (.nm 3) (.cons (.nm 4) (.cons (.nm 5) (.cons (.nm 6) (.nil)))))) (.ixS 0 (.var 2))) (.seq (.ife (.cmpS .eq 3 (.var 4)) (.ret (.bin .add (.bin .add (.slH (.var 1) (.var 2)) (.lst (.cons (.var 6) (.nil)))) (.slL (.var 1) (.bin .add (.var 2) (.cst (.int 1)))))) (.skip)) (.seq (.while_ 100000 (.cmp .lt (.ixS 1 (.var 2)) (.var 6)) (.seq (.set 7 (.call 37 (.cons (.var 0) (.cons (.var 1) (.cons (.var 4) (.cons (.var 2) (.nil))))))) (.seq (.ife (.inS true (.var 3) 7) (.ret (.take 1)) (.skip)) (.seq (.set 8 (.bi .min1 (.cons (.bin .add (.lst (.cons (.bin .sub (.var 6) (.ixS 1 (.var 2))) (.nil))) (.comp (.var 12) (.tup (.cons (.nm 9) (.cons (.nm 10) (.cons (.nm 11) (.cons (.nm 12) (.nil)))))) (.itSeq (.ixS 7 (.var 3))) (.cst (.bool true)) [9, 10, 11, 12])) (.nil)))) (.seq (.set 1 (.call 38 (.cons (.var 1) (.cons (.ixS 7 (.var 3)) (.cons (.var 8) (.nil)))))) (.set 1 (.bin .add (.bin .add (.slH (.var 1) (.var 2)) (.lst (.cons (.bin .add (.ixS 1 (.var 2)) (.var 8)) (.nil)))) (.slL (.var 1) (.bin .add (.var 2) (.cst (.int 1))))))))))) (.ret (.take 1)))) }
/-- 61 -/
def f_least : Fn :=
  { name := "least", io := false, np := 3, ns := ["parts", "flow", "index", "one", "other", "low", "high", "ways", "many", "spot", "sign", "point", "more"], body := .seq (.setT (.tup (.cons (.nm 3) (.cons (.nm 4) (.cons (.nm 5) (.cons (.nm 6) (.nil)))))) (.ixS 0 (.var 2))) (.seq (.ife (.cmpS .eq 3 (.var 4)) (.ret (.bin .add (.bin .add (.slH (.var 1) (.var 2)) (.lst (.cons (.var 5) (.nil)))) (.slL (.var 1) (.bin .add (.var 2) (.cst (.int 1)))))) (.skip)) (.seq (.while_ 100000 (.cmp .gt (.ixS 1 (.var 2)) (.var 5)) (.seq (.set 7 (.call 37 (.cons (.var 0) (.cons (.var 1) (.cons (.var 3) (.cons (.var 2) (.nil))))))) (.seq (.ife (.inS true (.var 4) 7) (.ret (.take 1)) (.skip)) (.seq (.set 8 (.bi .min1 (.cons (.bin .add (.lst (.cons (.bin .sub (.ixS 1 (.var 2)) (.var 5)) (.nil))) (.comp (.var 12) (.tup (.cons (.nm 9) (.cons (.nm 10) (.cons (.nm 11) (.cons (.nm 12) (.nil)))))) (.itSeq (.ixS 7 (.var 4))) (.cst (.bool true)) [9, 10, 11, 12])) (.nil)))) (.seq (.set 1 (.call 38 (.cons (.var 1) (.cons (.ixS 7 (.var 4)) (.cons (.var 8) (.nil)))))) (.set 1 (.bin .add (.bin .add (.slH (.var 1) (.var 2)) (.lst (.cons (.bin .sub (.ixS 1 (.var 2)) (.var 8)) (.nil)))) (.slL (.var 1) (.bin .add (.var 2) (.cst (.int 1))))))))))) (.ret (.take 1)))) }
/-- 62 -/
def f_span_of : Fn :=
  { name := "span_of", io := false, np := 3, ns := ["parts", "flow", "index"], body := .ret (.tup (.cons (.ix (.call 61 (.cons (.var 0) (.cons (.var 1) (.cons (.var 2) (.nil))))) (.var 2)) (.cons (.ix (.call 60 (.cons (.var 0) (.cons (.var 1) (.cons (.var 2) (.nil))))) (.var 2)) (.nil)))) }
/-- 63 -/
def f_need_flow : Fn :=
  { name := "need_flow", io := false, np := 2, ns := ["house", "book", "parts", "flow"], body := .seq (.set 2 (.call 35 (.cons (.var 0) (.cons (.var 1) (.nil))))) (.seq (.set 3 (.ix (.call 40 (.cons (.var 2) (.nil))) (.cst (.int 0)))) (.seq (.ife (.cmp .is (.var 3) (.cst .none)) (.raise ⟨10, none⟩) (.skip)) (.ret (.tup (.cons (.var 2) (.cons (.var 3) (.nil))))))) }
/-- 64 -/
def f_spans_at : Fn :=
  { name := "spans_at", io := false, np := 3, ns := ["house", "book", "moment", "parts", "flow", "floor"], body := .seq (.setT (.tup (.cons (.nm 3) (.cons (.nm 4) (.nil)))) (.call 63 (.cons (.var 0) (.cons (.var 1) (.nil))))) (.ret (.comp (.call 62 (.cons (.var 3) (.cons (.var 4) (.cons (.call 58 (.cons (.var 0) (.cons (.var 2) (.cons (.var 5) (.nil))))) (.nil))))) (.nm 5) (.itRng1 (.bi .len (.cons (.ixS 0 (.cst (.int 0))) (.nil)))) (.cst (.bool true)) [5])) }
/-- 65 -/
def f_numbers : Fn :=
  { name := "numbers", io := false, np := 4, ns := ["house", "book", "moment", "floor"], body := .seq (.expr (.call 7 (.cons (.var 0) (.nil)))) (.seq (.expr (.call 33 (.cons (.var 0) (.cons (.var 1) (.nil))))) (.seq (.expr (.call 56 (.cons (.var 2) (.cons (.bi .len (.cons (.ixS 1 (.cst (.int 0))) (.nil))) (.nil))))) (.seq (.expr (.call 57 (.cons (.var 0) (.cons (.var 3) (.nil))))) (.ret (.ix (.call 64 (.cons (.var 0) (.cons (.var 1) (.cons (.var 2) (.nil))))) (.var 3)))))) }
/-- 66 -/
def f_passed : Fn :=
  { name := "passed", io := false, np := 4, ns := ["house", "book", "stretch", "gate", "parts", "flow"], body := .seq (.expr (.call 7 (.cons (.var 0) (.nil)))) (.seq (.expr (.call 33 (.cons (.var 0) (.cons (.var 1) (.nil))))) (.seq (.expr (.call 56 (.cons (.var 2) (.cons (.bin .sub (.bi .len (.cons (.ixS 1 (.cst (.int 0))) (.nil))) (.cst (.int 1))) (.nil))))) (.seq (.expr (.call 8 (.cons (.var 0) (.cons (.var 3) (.nil))))) (.seq (.setT (.tup (.cons (.nm 4) (.cons (.nm 5) (.nil)))) (.call 63 (.cons (.var 0) (.cons (.var 1) (.nil))))) (.ret (.call 62 (.cons (.var 4) (.cons (.var 5) (.cons (.call 59 (.cons (.var 0) (.cons (.var 1) (.cons (.var 2) (.cons (.var 3) (.nil)))))) (.nil)))))))))) }
/-- 67 -/
def f_law_spans : Fn :=
  { name := "_law_spans", io := false, np := 1, ns := ["rows_so", "at", "row"], body := .ret (.comp (.tup (.cons (.bi .min1 (.cons (.comp (.ixS 2 (.var 1)) (.nm 2) (.itSeq (.var 0)) (.cst (.bool true)) [2]) (.nil))) (.cons (.bi .max1 (.cons (.comp (.ixS 2 (.var 1)) (.nm 2) (.itSeq (.var 0)) (.cst (.bool true)) [2]) (.nil))) (.nil)))) (.nm 1) (.itRng1 (.bi .len (.cons (.ixS 0 (.cst (.int 0))) (.nil)))) (.cst (.bool true)) [1]) }
/-- 68 -/
def f_law_gone : Fn :=
  { name := "_law_gone", io := false, np := 4, ns := ["house_so", "book_so", "rows_so", "at", "passes_so", "there", "found", "row"], body := .seq (.setT (.tup (.cons (.nm 5) (.cons (.nm 6) (.nil)))) (.tup (.cons (.dictK (.comp (.tup (.cons (.var 7) (.cons (.cst (.bool true)) (.nil)))) (.nm 7) (.itSeq (.ixS 2 (.bin .add (.var 3) (.cst (.int 1))))) (.cst (.bool true)) [7])) (.cons (.lst (.nil)) (.nil))))) (.seq (.for_ (.nm 4) (.itSeq (.call 50 (.cons (.var 0) (.cons (.ix (.ixS 1 (.cst (.int 0))) (.var 3)) (.nil))))) (.ife (.cmp .ne (.comp (.cst (.int 1)) (.nm 7) (.itSeq (.ixS 2 (.var 3))) (.inS false (.call 23 (.cons (.var 0) (.cons (.var 7) (.cons (.var 4) (.nil))))) 5) [7]) (.lst (.nil))) (.app 6 (.var 4)) (.skip))) (.ret (.take 6))) }
/-- 69 -/
def f_law_good_k03 : Fn :=
  { name := "_law_good", io := false, np := 2, ns := ["house_so", "book_so", "rows_so", "at", "floors_so", "last", "told", "floor_so", "gone_so", "some", "gate", "row"], body := .seq (.set 2 (.call 51 (.cons (.var 0) (.cons (.var 1) (.nil))))) (.seq (.setT (.tup (.cons (.nm 4) (.cons (.nm 5) (.nil)))) (.tup (.cons (.bi .len (.cons (.ixS 0 (.cst (.int 0))) (.nil))) (.cons (.bi .len (.cons (.ixS 1 (.cst (.int 0))) (.nil))) (.nil))))) (.seq (.ife (.cmp .eq (.ixS 2 (.cst (.int 0))) (.lst (.nil))) (.seq (.ife (.cmp .ne (.ltry (.call 65 (.cons (.var 0) (.cons (.var 1) (.cons (.var 5) (.cons (.cst (.int 0)) (.nil))))))) (.cst (.str "none +"))) (.ret (.cst (.bool false))) (.skip)) (.ret (.or (.cmpS .eq 5 (.cst (.int 0))) (.cmp .eq (.ltry (.call 66 (.cons (.var 0) (.cons (.var 1) (.cons (.cst (.int 0)) (.cons (.cst (.int 0)) (.nil))))))) (.cst (.str "none +")))))) (.skip)) (.seq (.for_ (.nm 3) (.itRng1 (.bin .add (.var 5) (.cst (.int 1)))) (.seq (.set 6 (.comp (.call 65 (.cons (.var 0) (.cons (.var 1) (.cons (.var 3) (.cons (.var 7) (.nil)))))) (.nm 7) (.itRng1 (.var 4)) (.cst (.bool true)) [7])) (.seq (.ife (.not (.call 19 (.cons (.var 6) (.cons (.call 67 (.cons (.ixS 2 (.var 3)) (.nil))) (.nil))))) (.ret (.cst (.bool false))) (.skip)) (.for_ (.nm 7) (.itRng1 (.var 4)) (.seq (.set 9 (.bi .sortedSet (.cons (.comp (.ixS 11 (.var 7)) (.nm 11) (.itSeq (.ixS 2 (.var 3))) (.cst (.bool true)) [11]) (.nil)))) (.ife (.cmpS .ne 9 (.bi .list (.cons (.itRng (.ixS 9 (.cst (.int 0))) (.bin .add (.ixS 9 (.neg (.cst (.int 1)))) (.cst (.int 1)))) .nil))) (.ret (.cst (.bool false))) (.skip))))))) (.seq (.for_ (.nm 3) (.itRng1 (.var 5)) (.seq (.set 8 (.call 68 (.cons (.var 0) (.cons (.var 1) (.cons (.var 2) (.cons (.var 3) (.nil))))))) (.seq (.set 6 (.comp (.call 66 (.cons (.var 0) (.cons (.var 1) (.cons (.var 3) (.cons (.var 10) (.nil)))))) (.nm 10) (.itRng1 (.bi .len (.cons (.ixS 0 (.cst (.int 1))) (.nil)))) (.cst (.bool true)) [10])) (.ife (.not (.call 19 (.cons (.var 6) (.cons (.call 67 (.cons (.var 8) (.nil))) (.nil))))) (.ret (.cst (.bool false))) (.skip))))) (.ret (.cst (.bool true))))))) }
/-- 70 -/
def f_law_written_k03 : Fn :=
  { name := "_law_written", io := false, np := 0, ns := ["some", "one", "two", "a", "b", "c", "d", "e"], body := .seq (.setT (.tup (.cons (.nm 1) (.cons (.nm 2) (.nil)))) (.call 20 (.nil))) (.seq (.setT (.tup (.cons (.nm 3) (.cons (.nm 4) (.cons (.nm 5) (.cons (.nm 6) (.cons (.nm 7) (.nil))))))) (.call 21 (.nil))) (.seq (.set 0 (.lst (.cons (.call 65 (.cons (.var 1) (.cons (.var 3) (.cons (.cst (.int 1)) (.cons (.cst (.int 0)) (.nil)))))) (.cons (.call 65 (.cons (.var 1) (.cons (.var 4) (.cons (.cst (.int 0)) (.cons (.cst (.int 0)) (.nil)))))) (.cons (.call 65 (.cons (.var 1) (.cons (.var 4) (.cons (.cst (.int 1)) (.cons (.cst (.int 0)) (.nil)))))) (.cons (.call 66 (.cons (.var 1) (.cons (.var 4) (.cons (.cst (.int 0)) (.cons (.cst (.int 1)) (.nil)))))) (.nil))))))) (.seq (.ife (.or (.cmpS .ne 0 (.lst (.cons (.tup (.cons (.cst (.int 4)) (.cons (.cst (.int 4)) (.nil)))) (.cons (.tup (.cons (.cst (.int 0)) (.cons (.cst (.int 1)) (.nil)))) (.cons (.tup (.cons (.cst (.int 3)) (.cons (.cst (.int 4)) (.nil)))) (.cons (.tup (.cons (.cst (.int 1)) (.cons (.cst (.int 2)) (.nil)))) (.nil))))))) (.cmp .ne (.call 66 (.cons (.var 1) (.cons (.var 3) (.cons (.cst (.int 0)) (.cons (.cst (.int 1)) (.nil)))))) (.tup (.cons (.cst (.int 2)) (.cons (.cst (.int 2)) (.nil)))))) (.ret (.cst (.bool false))) (.skip)) (.seq (.set 0 (.lst (.cons (.call 65 (.cons (.var 2) (.cons (.var 5) (.cons (.cst (.int 0)) (.cons (.cst (.int 0)) (.nil)))))) (.cons (.call 65 (.cons (.var 2) (.cons (.var 5) (.cons (.cst (.int 1)) (.cons (.cst (.int 0)) (.nil)))))) (.cons (.call 65 (.cons (.var 2) (.cons (.var 5) (.cons (.cst (.int 0)) (.cons (.cst (.int 1)) (.nil)))))) (.cons (.call 65 (.cons (.var 2) (.cons (.var 5) (.cons (.cst (.int 1)) (.cons (.cst (.int 1)) (.nil)))))) (.nil))))))) (.seq (.ife (.or (.cmpS .ne 0 (.lst (.cons (.tup (.cons (.cst (.int 0)) (.cons (.cst (.int 1)) (.nil)))) (.cons (.tup (.cons (.cst (.int 2)) (.cons (.cst (.int 3)) (.nil)))) (.cons (.tup (.cons (.cst (.int 0)) (.cons (.cst (.int 1)) (.nil)))) (.cons (.tup (.cons (.cst (.int 1)) (.cons (.cst (.int 2)) (.nil)))) (.nil))))))) (.cmp .ne (.call 66 (.cons (.var 2) (.cons (.var 5) (.cons (.cst (.int 0)) (.cons (.cst (.int 2)) (.nil)))))) (.tup (.cons (.cst (.int 0)) (.cons (.cst (.int 1)) (.nil)))))) (.ret (.cst (.bool false))) (.skip)) (.seq (.ife (.or (.cmp .ne (.call 65 (.cons (.var 1) (.cons (.tup (.cons (.tup (.nil)) (.cons (.tup (.nil)) (.nil)))) (.cons (.cst (.int 0)) (.cons (.cst (.int 0)) (.nil)))))) (.tup (.cons (.cst (.int 0)) (.cons (.cst (.int 4)) (.nil))))) (.cmp .ne (.call 65 (.cons (.var 1) (.cons (.tup (.cons (.tup (.nil)) (.cons (.tup (.cons (.tup (.cons (.cst (.int 0)) (.cons (.cst (.int 0)) (.cons (.cst (.int 3)) (.nil))))) (.nil))) (.nil)))) (.cons (.cst (.int 0)) (.cons (.cst (.int 0)) (.nil)))))) (.tup (.cons (.cst (.int 3)) (.cons (.cst (.int 3)) (.nil)))))) (.ret (.cst (.bool false))) (.skip)) (.seq (.set 0 (.lst (.cons (.call 66 (.cons (.var 2) (.cons (.var 6) (.cons (.cst (.int 0)) (.cons (.cst (.int 2)) (.nil)))))) (.cons (.call 66 (.cons (.var 2) (.cons (.var 6) (.cons (.cst (.int 1)) (.cons (.cst (.int 2)) (.nil)))))) (.cons (.call 65 (.cons (.var 2) (.cons (.var 6) (.cons (.cst (.int 1)) (.cons (.cst (.int 1)) (.nil)))))) (.cons (.call 65 (.cons (.var 2) (.cons (.var 6) (.cons (.cst (.int 2)) (.cons (.cst (.int 0)) (.nil)))))) (.nil))))))) (.ret (.cmpS .eq 0 (.lst (.cons (.tup (.cons (.cst (.int 0)) (.cons (.cst (.int 1)) (.nil)))) (.cons (.tup (.cons (.cst (.int 1)) (.cons (.cst (.int 2)) (.nil)))) (.cons (.tup (.cons (.cst (.int 1)) (.cons (.cst (.int 2)) (.nil)))) (.cons (.tup (.cons (.cst (.int 2)) (.cons (.cst (.int 3)) (.nil)))) (.nil))))))))))))))) }
/-- 71 -/
def f_law_k03 : Fn :=
  { name := "law", io := false, np := 1, ns := ["script", "cell", "deck", "turn", "house_so", "call_so", "odd", "one", "two", "a", "b", "c", "d", "e"], body := .seq (.for_ (.nm 1) (.itSeq (.slH (.bin .add (.lst (.cons (.cst (.int 0)) (.nil))) (.var 0)) (.cst (.int 8)))) (.seq (.set 2 (.call 14 (.cons (.var 1) (.cons (.cst (.int 3)) (.nil))))) (.seq (.for_ (.nm 3) (.itRng1 (.cst (.int 3))) (.seq (.set 4 (.io 25 2 (.cons (.cst (.int 3)) (.cons (.cst (.int 3)) (.nil))))) (.ife (.not (.call 69 (.cons (.var 4) (.cons (.io 26 2 (.cons (.var 4) (.cons (.cst (.int 2)) (.nil)))) (.nil))))) (.ret (.cst (.bool false))) (.skip)))) (.seq (.set 4 (.io 25 2 (.cons (.cst (.int 1)) (.cons (.cst (.int 4)) (.nil))))) (.seq (.ife (.not (.call 69 (.cons (.var 4) (.cons (.io 26 2 (.cons (.var 4) (.cons (.cst (.int 4)) (.nil)))) (.nil))))) (.ret (.cst (.bool false))) (.skip)) (.seq (.setT (.tup (.cons (.nm 7) (.cons (.nm 8) (.nil)))) (.call 20 (.nil))) (.seq (.setT (.tup (.cons (.nm 9) (.cons (.nm 10) (.cons (.nm 11) (.cons (.nm 12) (.cons (.nm 13) (.nil))))))) (.call 21 (.nil))) (.seq (.forFn 5 [65, 66] (.seq (.ife (.cmp .ne (.ltry (.callV 5 [65, 66] (.cons (.tup (.nil)) (.cons (.cst .none) (.cons (.cst .none) (.cons (.cst .none) (.nil))))))) (.cst (.str "house +"))) (.ret (.cst (.bool false))) (.skip)) (.seq (.ife (.cmp .ne (.ltry (.callV 5 [65, 66] (.cons (.var 7) (.cons (.var 11) (.cons (.cst .none) (.cons (.cst .none) (.nil))))))) (.cst (.str "book +"))) (.ret (.cst (.bool false))) (.skip)) (.for_ (.nm 6) (.itSeq (.lst (.cons (.cst .none) (.cons (.neg (.cst (.int 1))) (.cons (.cst (.int 2)) (.cons (.cst (.bool true)) (.cons (.cst (.str "0")) (.nil)))))))) (.ife (.cmp .ne (.ltry (.callV 5 [65, 66] (.cons (.var 7) (.cons (.var 13) (.cons (.var 6) (.cons (.cst .none) (.nil))))))) (.cst (.str "moment +"))) (.ret (.cst (.bool false))) (.skip)))))) (.seq (.ife (.cmp .ne (.ltry (.call 66 (.cons (.var 7) (.cons (.var 13) (.cons (.cst (.int 1)) (.cons (.cst .none) (.nil))))))) (.cst (.str "moment +"))) (.ret (.cst (.bool false))) (.skip)) (.seq (.for_ (.nm 6) (.itSeq (.lst (.cons (.cst .none) (.cons (.neg (.cst (.int 1))) (.cons (.cst (.int 1)) (.cons (.cst (.bool true)) (.nil))))))) (.ife (.cmp .ne (.ltry (.call 65 (.cons (.var 7) (.cons (.var 13) (.cons (.cst (.int 1)) (.cons (.var 6) (.nil))))))) (.cst (.str "floor +"))) (.ret (.cst (.bool false))) (.skip))) (.for_ (.nm 6) (.itSeq (.lst (.cons (.cst .none) (.cons (.neg (.cst (.int 1))) (.cons (.cst (.int 2)) (.cons (.cst (.bool true)) (.nil))))))) (.ife (.cmp .ne (.ltry (.call 66 (.cons (.var 7) (.cons (.var 13) (.cons (.cst (.int 0)) (.cons (.var 6) (.nil))))))) (.cst (.str "gate +"))) (.ret (.cst (.bool false))) (.skip))))))))))))) (.ret (.call 70 (.nil))) }
/-- 72 -/
def f_with_bounds : Fn :=
  { name := "with_bounds", io := false, np := 4, ns := ["parts", "index", "low", "high"], body := .ret (.bin .add (.bin .add (.slH (.var 0) (.var 1)) (.lst (.cons (.bin .add (.slH (.ixS 0 (.var 1)) (.cst (.int 2))) (.tup (.cons (.var 2) (.cons (.var 3) (.nil))))) (.nil)))) (.slL (.var 0) (.bin .add (.var 1) (.cst (.int 1))))) }
/-- 73 -/
def f_truth_with : Fn :=
  { name := "truth_with", io := false, np := 5, ns := ["house", "book", "moment", "floor", "number", "flow", "parts", "index"], body := .seq (.expr (.call 7 (.cons (.var 0) (.nil)))) (.seq (.expr (.call 33 (.cons (.var 0) (.cons (.var 1) (.nil))))) (.seq (.expr (.call 56 (.cons (.var 2) (.cons (.bi .len (.cons (.ixS 1 (.cst (.int 0))) (.nil))) (.nil))))) (.seq (.expr (.call 57 (.cons (.var 0) (.cons (.var 3) (.nil))))) (.seq (.expr (.call 9 (.cons (.var 4) (.cons (.cst (.int 40)) (.nil))))) (.seq (.par 6 7 (.call 35 (.cons (.var 0) (.cons (.var 1) (.nil)))) (.call 58 (.cons (.var 0) (.cons (.var 2) (.cons (.var 3) (.nil)))))) (.seq (.ife (.not (.chain .le .le (.ix (.ixS 6 (.var 7)) (.cst (.int 2))) (.var 4) (.ix (.ixS 6 (.var 7)) (.cst (.int 3))))) (.ret (.cst .none)) (.skip)) (.seq (.set 5 (.ix (.call 40 (.cons (.call 72 (.cons (.var 6) (.cons (.var 7) (.cons (.var 4) (.cons (.var 4) (.nil)))))) (.nil))) (.cst (.int 0)))) (.ret (.ife (.cmp .is (.var 5) (.cst .none)) (.cst .none) (.call 41 (.cons (.var 0) (.cons (.var 1) (.cons (.var 5) (.nil)))))))))))))) }
/-- 74 -/
def f_counts_of : Fn :=
  { name := "counts_of", io := false, np := 3, ns := ["house", "book", "value"], body := .seq (.expr (.call 7 (.cons (.var 0) (.nil)))) (.seq (.expr (.call 33 (.cons (.var 0) (.cons (.var 1) (.nil))))) (.seq (.ife (.not (.call 45 (.cons (.var 0) (.cons (.var 1) (.cons (.var 2) (.nil)))))) (.raise ⟨6, none⟩) (.skip)) (.ret (.call 43 (.cons (.var 0) (.cons (.var 2) (.nil))))))) }
/-- 75 -/
def f_law_counted : Fn :=
  { name := "_law_counted", io := false, np := 2, ns := ["house_so", "value_so", "found", "passes_so"], body := .seq (.set 2 (.lst (.cons (.ixS 1 (.cst (.int 0))) (.nil)))) (.seq (.for_ (.nm 3) (.itSeq (.ixS 1 (.cst (.int 1)))) (.app 2 (.call 23 (.cons (.var 0) (.cons (.ixS 2 (.neg (.cst (.int 1)))) (.cons (.var 3) (.nil))))))) (.ret (.bi .tuple (.cons (.var 2) (.nil))))) }
/-- 76 -/
def f_law_written_k04 : Fn :=
  { name := "_law_written", io := false, np := 0, ns := ["long", "one", "two", "a", "b", "c", "d", "e"], body := .seq (.setT (.tup (.cons (.nm 1) (.cons (.nm 2) (.nil)))) (.call 20 (.nil))) (.seq (.setT (.tup (.cons (.nm 3) (.cons (.nm 4) (.cons (.nm 5) (.cons (.nm 6) (.cons (.nm 7) (.nil))))))) (.call 21 (.nil))) (.seq (.ife (.cmp .notin (.call 73 (.cons (.var 1) (.cons (.var 4) (.cons (.cst (.int 1)) (.cons (.cst (.int 0)) (.cons (.cst (.int 4)) (.nil))))))) (.lst (.cons (.tup (.cons (.tup (.cons (.cst (.int 0)) (.nil))) (.cons (.tup (.cons (.tup (.cons (.cst (.int 5)) (.cons (.cst (.int 1)) (.nil)))) (.nil))) (.nil)))) (.cons (.tup (.cons (.tup (.cons (.cst (.int 1)) (.nil))) (.cons (.tup (.cons (.tup (.cons (.cst (.int 5)) (.cons (.cst (.int 2)) (.nil)))) (.nil))) (.nil)))) (.nil))))) (.ret (.cst (.bool false))) (.skip)) (.seq (.ife (.or (.cmp .isnot (.call 73 (.cons (.var 1) (.cons (.var 4) (.cons (.cst (.int 1)) (.cons (.cst (.int 0)) (.cons (.cst (.int 2)) (.nil))))))) (.cst .none)) (.cmp .isnot (.call 73 (.cons (.var 1) (.cons (.var 3) (.cons (.cst (.int 0)) (.cons (.cst (.int 0)) (.cons (.cst (.int 0)) (.nil))))))) (.cst .none))) (.ret (.cst (.bool false))) (.skip)) (.seq (.set 0 (.tup (.cons (.tup (.cons (.tup (.cons (.cst (.int 1)) (.cons (.cst (.int 0)) (.nil)))) (.cons (.tup (.cons (.cst (.int 2)) (.cons (.cst (.int 0)) (.nil)))) (.cons (.tup (.cons (.cst (.int 0)) (.cons (.cst (.int 1)) (.nil)))) (.nil))))) (.cons (.tup (.nil)) (.nil))))) (.seq (.ife (.cmp .ne (.call 74 (.cons (.var 1) (.cons (.var 0) (.cons (.tup (.cons (.tup (.cons (.cst (.int 0)) (.nil))) (.cons (.tup (.cons (.tup (.cons (.cst (.int 1)) (.cons (.cst (.int 0)) (.nil)))) (.cons (.tup (.cons (.cst (.int 2)) (.cons (.cst (.int 0)) (.nil)))) (.cons (.tup (.cons (.cst (.int 0)) (.cons (.cst (.int 1)) (.nil)))) (.nil))))) (.nil)))) (.nil))))) (.tup (.cons (.tup (.cons (.cst (.int 0)) (.nil))) (.cons (.tup (.cons (.cst (.int 1)) (.nil))) (.cons (.tup (.cons (.cst (.int 3)) (.nil))) (.cons (.tup (.cons (.cst (.int 2)) (.nil))) (.nil))))))) (.ret (.cst (.bool false))) (.skip)) (.seq (.ife (.cmp .ne (.call 74 (.cons (.var 1) (.cons (.var 4) (.cons (.tup (.cons (.tup (.cons (.cst (.int 0)) (.nil))) (.cons (.tup (.cons (.tup (.cons (.cst (.int 5)) (.cons (.cst (.int 2)) (.nil)))) (.nil))) (.nil)))) (.nil))))) (.tup (.cons (.tup (.cons (.cst (.int 0)) (.nil))) (.cons (.tup (.cons (.cst (.int 3)) (.nil))) (.nil))))) (.ret (.cst (.bool false))) (.skip)) (.ret (.cmp .eq (.call 74 (.cons (.var 2) (.cons (.var 5) (.cons (.tup (.cons (.tup (.cons (.cst (.int 0)) (.cons (.cst (.int 0)) (.nil)))) (.cons (.tup (.cons (.tup (.cons (.cst (.int 5)) (.cons (.cst (.int 2)) (.cons (.cst (.int 0)) (.nil))))) (.nil))) (.nil)))) (.nil))))) (.tup (.cons (.tup (.cons (.cst (.int 0)) (.cons (.cst (.int 0)) (.nil)))) (.cons (.tup (.cons (.cst (.int 3)) (.cons (.cst (.int 2)) (.nil)))) (.nil)))))))))))) }
/-- 77 -/
def f_law_k04 : Fn :=
  { name := "law", io := false, np := 1, ns := ["script", "cell", "deck", "turn", "odd", "house_so", "book_so", "span", "number", "at", "floor_so", "found", "good", "told"], body := .seq (.for_ (.nm 1) (.itSeq (.slH (.bin .add (.lst (.cons (.cst (.int 0)) (.nil))) (.var 0)) (.cst (.int 8)))) (.seq (.set 2 (.call 14 (.cons (.var 1) (.cons (.cst (.int 4)) (.nil))))) (.seq (.for_ (.nm 3) (.itRng1 (.cst (.int 4))) (.seq (.set 5 (.io 25 2 (.cons (.cst (.int 3)) (.cons (.cst (.int 4)) (.nil))))) (.seq (.set 6 (.io 26 2 (.cons (.var 5) (.cons (.cst (.int 3)) (.nil))))) (.seq (.setT (.tup (.cons (.nm 9) (.cons (.nm 10) (.nil)))) (.tup (.cons (.io 15 2 (.cons (.bin .add (.bi .len (.cons (.ixS 6 (.cst (.int 0))) (.nil))) (.cst (.int 1))) (.nil))) (.cons (.io 15 2 (.cons (.bi .len (.cons (.ixS 5 (.cst (.int 0))) (.nil))) (.nil))) (.nil))))) (.seq (.set 7 (.ltry (.call 65 (.cons (.var 5) (.cons (.var 6) (.cons (.var 9) (.cons (.var 10) (.nil)))))))) (.for_ (.nm 8) (.itSeq (.lst (.cons (.cst (.int 0)) (.cons (.cst (.int 1)) (.cons (.cst (.int 2)) (.cons (.cst (.int 3)) (.cons (.cst (.int 4)) (.cons (.cst (.int 5)) (.cons (.cst (.int 40)) (.nil)))))))))) (.seq (.set 11 (.call 73 (.cons (.var 5) (.cons (.var 6) (.cons (.var 9) (.cons (.var 10) (.cons (.var 8) (.nil)))))))) (.seq (.set 12 (.and (.cmp .eq (.ixS 7 (.cst (.int 0))) (.cst (.str "told"))) (.chain .le .le (.ix (.ixS 7 (.cst (.int 1))) (.cst (.int 0))) (.var 8) (.ix (.ixS 7 (.cst (.int 1))) (.cst (.int 1)))))) (.seq (.ife (.cmp .ne (.cmp .isnot (.var 11) (.cst .none)) (.var 12)) (.ret (.cst (.bool false))) (.skip)) (.ife (.var 12) (.seq (.set 13 (.call 74 (.cons (.var 5) (.cons (.var 6) (.cons (.var 11) (.nil)))))) (.seq (.ife (.or (.not (.call 48 (.cons (.var 5) (.cons (.var 6) (.cons (.var 11) (.nil)))))) (.cmp .ne (.ix (.ixS 13 (.var 9)) (.var 10)) (.var 8))) (.ret (.cst (.bool false))) (.skip)) (.ife (.not (.call 19 (.cons (.var 13) (.cons (.call 75 (.cons (.var 5) (.cons (.var 11) (.nil)))) (.nil))))) (.ret (.cst (.bool false))) (.skip)))) (.skip))))))))))) (.seq (.for_ (.nm 4) (.itSeq (.lst (.cons (.cst .none) (.cons (.neg (.cst (.int 1))) (.cons (.cst (.int 41)) (.cons (.cst (.bool true)) (.cons (.cst (.str "0")) (.nil)))))))) (.ife (.cmp .ne (.ltry (.call 73 (.cons (.var 5) (.cons (.var 6) (.cons (.cst (.int 0)) (.cons (.cst (.int 0)) (.cons (.var 4) (.nil)))))))) (.cst (.str "number +"))) (.ret (.cst (.bool false))) (.skip))) (.seq (.ife (.cmp .ne (.ltry (.call 73 (.cons (.var 5) (.cons (.var 6) (.cons (.cst (.int 0)) (.cons (.cst (.int 3)) (.cons (.cst (.int 0)) (.nil)))))))) (.cst (.str "floor +"))) (.ret (.cst (.bool false))) (.skip)) (.seq (.ife (.cmp .ne (.ltry (.call 73 (.cons (.var 5) (.cons (.var 6) (.cons (.cst (.int 5)) (.cons (.cst (.int 0)) (.cons (.cst (.int 0)) (.nil)))))))) (.cst (.str "moment +"))) (.ret (.cst (.bool false))) (.skip)) (.seq (.for_ (.nm 4) (.itSeq (.lst (.cons (.cst .none) (.cons (.tup (.nil)) (.cons (.tup (.cons (.tup (.nil)) (.cons (.tup (.nil)) (.nil)))) (.cons (.tup (.cons (.tup (.cons (.cst (.int 9)) (.nil))) (.cons (.tup (.cons (.tup (.cons (.cst (.int 5)) (.cons (.cst (.int 2)) (.nil)))) (.nil))) (.nil)))) (.cons (.tup (.cons (.tup (.cons (.cst (.int 0)) (.nil))) (.cons (.tup (.cons (.tup (.cons (.cst (.int 5)) (.cons (.cst (.int 3)) (.nil)))) (.nil))) (.nil)))) (.nil)))))))) (.ife (.cmp .ne (.ltry (.call 74 (.cons (.ix (.call 20 (.nil)) (.cst (.int 0))) (.cons (.ix (.call 21 (.nil)) (.cst (.int 1))) (.cons (.var 4) (.nil)))))) (.cst (.str "truth +"))) (.ret (.cst (.bool false))) (.skip))) (.ife (.cmp .ne (.ltry (.call 74 (.cons (.tup (.nil)) (.cons (.cst .none) (.cons (.cst .none) (.nil)))))) (.cst (.str "house +"))) (.ret (.cst (.bool false))) (.skip))))))))) (.ret (.call 76 (.nil))) }
/-- 78 -/
def f_all_points : Fn :=
  { name := "all_points", io := false, np := 2, ns := ["house", "book", "stretch", "floor"], body := .ret (.comp2 (.tup (.cons (.var 2) (.cons (.var 3) (.nil)))) (.nm 2) (.itRng1 (.bi .len (.cons (.ixS 1 (.cst (.int 0))) (.nil)))) (.nm 3) (.itRng1 (.bi .len (.cons (.ixS 0 (.cst (.int 0))) (.nil)))) [2, 3]) }
/-- 79 -/
def f_is_paper : Fn :=
  { name := "is_paper", io := false, np := 3, ns := ["house", "book", "value", "point", "every", "number"], body := .seq (.ife (.or (.not (.call 1 (.cons (.var 2) (.cons (.cst (.int 2)) (.cons (.cst (.int 2)) (.nil)))))) (.or (.not (.isi .str (.ixS 2 (.cst (.int 0))))) (.cmp .notin (.ixS 2 (.cst (.int 0))) (.tup (.cons (.cst (.str "in")) (.cons (.cst (.str "out")) (.nil))))))) (.ret (.cst (.bool false))) (.skip)) (.seq (.ife (.not (.call 1 (.cons (.ixS 2 (.cst (.int 1))) (.cons (.cst (.int 1)) (.cons (.cst (.int 12)) (.nil)))))) (.ret (.cst (.bool false))) (.skip)) (.seq (.for_ (.nm 3) (.itSeq (.ixS 2 (.cst (.int 1)))) (.ife (.or (.not (.call 1 (.cons (.var 3) (.cons (.cst (.int 2)) (.cons (.cst (.int 2)) (.nil)))))) (.not (.bi .all (.cons (.comp (.call 0 (.cons (.var 5) (.cons (.cst (.int 0)) (.cons (.cst (.int 12)) (.nil))))) (.nm 5) (.itSeq (.var 3)) (.cst (.bool true)) [5]) (.nil))))) (.ret (.cst (.bool false))) (.skip))) (.seq (.set 4 (.call 78 (.cons (.var 0) (.cons (.var 1) (.nil))))) (.ret (.cmp .eq (.bi .list (.cons (.ixS 2 (.cst (.int 1))) (.nil))) (.comp (.var 3) (.nm 3) (.itSeq (.var 4)) (.cmp .inn (.var 3) (.ixS 2 (.cst (.int 1)))) [3])))))) }
/-- 80 -/
def f_sums_of : Fn :=
  { name := "sums_of", io := false, np := 3, ns := ["house", "book", "points", "lot", "found", "one", "other", "low", "high", "stretch", "floor"], body := .seq (.set 3 (.comp (.call 34 (.cons (.var 0) (.cons (.var 1) (.cons (.var 9) (.cons (.var 10) (.nil)))))) (.tup (.cons (.nm 9) (.cons (.nm 10) (.nil)))) (.itSeq (.var 2)) (.cst (.bool true)) [9, 10])) (.seq (.set 4 (.lst (.cons (.cst (.int 0)) (.cons (.cst (.int 0)) (.cons (.cst (.int 0)) (.cons (.cst (.int 0)) (.nil))))))) (.seq (.for_ (.tup (.cons (.nm 5) (.cons (.nm 6) (.cons (.nm 7) (.cons (.nm 8) (.nil)))))) (.itSeq (.call 35 (.cons (.var 0) (.cons (.var 1) (.nil))))) (.seq (.ife (.and (.inS false (.var 6) 3) (.inS true (.var 5) 3)) (.setIx2 4 (.cst (.int 0)) (.cst (.int 1)) (.bin .add (.ixS 4 (.cst (.int 0))) (.var 7)) (.bin .add (.ixS 4 (.cst (.int 1))) (.var 8))) (.skip)) (.ife (.and (.inS false (.var 5) 3) (.inS true (.var 6) 3)) (.setIx2 4 (.cst (.int 2)) (.cst (.int 3)) (.bin .add (.ixS 4 (.cst (.int 2))) (.var 7)) (.bin .add (.ixS 4 (.cst (.int 3))) (.var 8))) (.skip)))) (.ret (.take 4)))) }
/-- 81 -/
def f_paper_for : Fn :=
  { name := "paper_for", io := false, np := 2, ns := ["house", "book", "every", "flow", "lot", "point"], body := .seq (.expr (.call 7 (.cons (.var 0) (.nil)))) (.seq (.expr (.call 33 (.cons (.var 0) (.cons (.var 1) (.nil))))) (.seq (.setT (.tup (.cons (.nm 3) (.cons (.nm 4) (.nil)))) (.call 40 (.cons (.call 35 (.cons (.var 0) (.cons (.var 1) (.nil)))) (.nil)))) (.seq (.ife (.cmp .isnot (.var 3) (.cst .none)) (.ret (.cst .none)) (.skip)) (.seq (.set 2 (.call 78 (.cons (.var 0) (.cons (.var 1) (.nil))))) (.seq (.ife (.inS false (.neg (.cst (.int 1))) 4) (.ret (.tup (.cons (.cst (.str "out")) (.cons (.bi .tuple (.cons (.comp (.var 5) (.nm 5) (.itSeq (.var 2)) (.inS true (.call 34 (.cons (.var 0) (.cons (.var 1) (.cons (.ixS 5 (.cst (.int 0))) (.cons (.ixS 5 (.cst (.int 1))) (.nil)))))) 4) [5]) (.nil))) (.nil))))) (.skip)) (.ret (.tup (.cons (.cst (.str "in")) (.cons (.bi .tuple (.cons (.comp (.var 5) (.nm 5) (.itSeq (.var 2)) (.inS false (.call 34 (.cons (.var 0) (.cons (.var 1) (.cons (.ixS 5 (.cst (.int 0))) (.cons (.ixS 5 (.cst (.int 1))) (.nil)))))) 4) [5]) (.nil))) (.nil)))))))))) }
/-- 82 -/
def f_shows : Fn :=
  { name := "shows", io := false, np := 3, ns := ["house", "book", "paper", "least_in", "most_in", "least_out", "most_out"], body := .seq (.expr (.call 7 (.cons (.var 0) (.nil)))) (.seq (.expr (.call 33 (.cons (.var 0) (.cons (.var 1) (.nil))))) (.seq (.ife (.not (.call 79 (.cons (.var 0) (.cons (.var 1) (.cons (.var 2) (.nil)))))) (.raise ⟨7, none⟩) (.skip)) (.seq (.setT (.tup (.cons (.nm 3) (.cons (.nm 4) (.cons (.nm 5) (.cons (.nm 6) (.nil)))))) (.call 80 (.cons (.var 0) (.cons (.var 1) (.cons (.ixS 2 (.cst (.int 1))) (.nil)))))) (.ret (.ife (.cmp .eq (.ixS 2 (.cst (.int 0))) (.cst (.str "in"))) (.cmp .gt (.var 3) (.var 6)) (.cmp .gt (.var 5) (.var 4))))))) }
/-- 83 -/
def f_law_shown_k05 : Fn :=
  { name := "_law_shown", io := false, np := 4, ns := ["house_so", "book_so", "word_so", "points_so", "looks_so", "come", "go", "at", "floor_so", "room_so", "key", "gate_so", "count_so", "look", "low", "high"], body := .seq (.set 4 (.dictK (.comp (.tup (.cons (.slH (.var 13) (.cst (.int 2))) (.cons (.ixS 13 (.cst (.int 2))) (.nil)))) (.nm 13) (.itSeq (.ixS 1 (.cst (.int 1)))) (.cst (.bool true)) [13]))) (.seq (.par 5 6 (.lst (.cons (.cst (.int 0)) (.cons (.cst (.int 0)) (.nil)))) (.lst (.cons (.cst (.int 0)) (.cons (.cst (.int 0)) (.nil))))) (.seq (.for_ (.tup (.cons (.nm 7) (.cons (.nm 8) (.nil)))) (.itSeq (.var 3)) (.seq (.set 9 (.ix (.ixS 0 (.cst (.int 0))) (.var 8))) (.seq (.ife (.inS true (.tup (.cons (.bin .sub (.var 7) (.cst (.int 1))) (.cons (.var 8) (.nil)))) 3) (.set 5 (.lst (.cons (.bin .add (.ixS 5 (.cst (.int 0))) (.getS 4 (.tup (.cons (.var 7) (.cons (.var 8) (.nil)))) (.cst (.int 0)))) (.cons (.bin .add (.ixS 5 (.cst (.int 1))) (.getS 4 (.tup (.cons (.var 7) (.cons (.var 8) (.nil)))) (.var 9))) (.nil))))) (.skip)) (.seq (.ife (.inS true (.tup (.cons (.bin .add (.var 7) (.cst (.int 1))) (.cons (.var 8) (.nil)))) 3) (.seq (.set 10 (.tup (.cons (.bin .add (.var 7) (.cst (.int 1))) (.cons (.var 8) (.nil))))) (.set 6 (.lst (.cons (.bin .add (.ixS 6 (.cst (.int 0))) (.getS 4 (.var 10) (.cst (.int 0)))) (.cons (.bin .add (.ixS 6 (.cst (.int 1))) (.getS 4 (.var 10) (.var 9))) (.nil)))))) (.skip)) (.for_ (.tup (.cons (.nm 11) (.cons (.nm 12) (.nil)))) (.itZip (.ixS 0 (.cst (.int 1))) (.ix (.ixS 1 (.cst (.int 0))) (.var 7))) (.seq (.setT (.tup (.cons (.nm 14) (.cons (.nm 15) (.nil)))) (.call 22 (.cons (.var 11) (.cons (.var 12) (.nil))))) (.seq (.ife (.and (.cmp .eq (.ixS 11 (.cst (.int 1))) (.var 8)) (.inS true (.tup (.cons (.var 7) (.cons (.ixS 11 (.cst (.int 0))) (.nil)))) 3)) (.set 5 (.lst (.cons (.bin .add (.ixS 5 (.cst (.int 0))) (.var 14)) (.cons (.bin .add (.ixS 5 (.cst (.int 1))) (.var 15)) (.nil))))) (.skip)) (.ife (.and (.cmp .eq (.ixS 11 (.cst (.int 0))) (.var 8)) (.inS true (.tup (.cons (.var 7) (.cons (.ixS 11 (.cst (.int 1))) (.nil)))) 3)) (.set 6 (.lst (.cons (.bin .add (.ixS 6 (.cst (.int 0))) (.var 14)) (.cons (.bin .add (.ixS 6 (.cst (.int 1))) (.var 15)) (.nil))))) (.skip))))))))) (.ret (.ife (.cmpS .eq 2 (.cst (.str "in"))) (.cmp .gt (.ixS 5 (.cst (.int 0))) (.ixS 6 (.cst (.int 1)))) (.cmp .gt (.ixS 6 (.cst (.int 0))) (.ixS 5 (.cst (.int 1)))))))) }
/-- 84 -/
def f_law_lots : Fn :=
  { name := "_law_lots", io := false, np := 2, ns := ["house_so", "book_so", "found", "at", "floor_so", "row"], body := .seq (.set 2 (.lst (.cons (.tup (.nil)) (.nil)))) (.seq (.for_ (.nm 3) (.itRng1 (.bi .len (.cons (.ixS 1 (.cst (.int 0))) (.nil)))) (.for_ (.nm 4) (.itRng1 (.bi .len (.cons (.ixS 0 (.cst (.int 0))) (.nil)))) (.set 2 (.bin .add (.var 2) (.comp (.bin .add (.var 5) (.tup (.cons (.tup (.cons (.var 3) (.cons (.var 4) (.nil)))) (.nil)))) (.nm 5) (.itSeq (.var 2)) (.cst (.bool true)) [5]))))) (.ret (.take 2))) }
/-- 85 -/
def f_law_good_k05 : Fn :=
  { name := "_law_good", io := false, np := 2, ns := ["house_so", "book_so", "any_so", "points_so", "found", "good", "word_so", "due"], body := .seq (.par 4 5 (.call 81 (.cons (.var 0) (.cons (.var 1) (.nil)))) (.cmp .ne (.ix (.call 51 (.cons (.var 0) (.cons (.var 1) (.nil)))) (.cst (.int 0))) (.lst (.nil)))) (.seq (.ife (.cmp .ne (.cmp .is (.var 4) (.cst .none)) (.var 5)) (.ret (.cst (.bool false))) (.skip)) (.seq (.ife (.and (.cmp .isnot (.var 4) (.cst .none)) (.cmp .isnot (.call 82 (.cons (.var 0) (.cons (.var 1) (.cons (.var 4) (.nil))))) (.cst (.bool true)))) (.ret (.cst (.bool false))) (.skip)) (.seq (.set 2 (.cst (.bool false))) (.seq (.for_ (.nm 3) (.itSeq (.call 84 (.cons (.var 0) (.cons (.var 1) (.nil))))) (.for_ (.nm 6) (.itSeq (.tup (.cons (.cst (.str "in")) (.cons (.cst (.str "out")) (.nil))))) (.ife (.cmpS .ne 3 (.tup (.nil))) (.seq (.set 7 (.call 83 (.cons (.var 0) (.cons (.var 1) (.cons (.var 6) (.cons (.var 3) (.nil))))))) (.seq (.set 2 (.or (.var 2) (.var 7))) (.ife (.not (.call 19 (.cons (.call 82 (.cons (.var 0) (.cons (.var 1) (.cons (.tup (.cons (.var 6) (.cons (.var 3) (.nil)))) (.nil))))) (.cons (.var 7) (.nil))))) (.ret (.cst (.bool false))) (.skip)))) (.skip)))) (.ret (.cmpS .ne 2 (.var 5))))))) }
/-- 86 -/
def f_law_written_k05 : Fn :=
  { name := "_law_written", io := false, np := 0, ns := ["point", "empty", "odds", "odd", "both_so", "one", "two", "a", "b", "c", "d", "e"], body := .seq (.setT (.tup (.cons (.nm 5) (.cons (.nm 6) (.nil)))) (.call 20 (.nil))) (.seq (.setT (.tup (.cons (.nm 7) (.cons (.nm 8) (.cons (.nm 9) (.cons (.nm 10) (.cons (.nm 11) (.nil))))))) (.call 21 (.nil))) (.seq (.set 0 (.tup (.cons (.tup (.cons (.cst (.int 0)) (.cons (.cst (.int 0)) (.nil)))) (.nil)))) (.seq (.ife (.not (.call 82 (.cons (.var 5) (.cons (.var 11) (.cons (.call 81 (.cons (.var 5) (.cons (.var 11) (.nil)))) (.nil)))))) (.ret (.cst (.bool false))) (.skip)) (.seq (.ife (.cmp .isnot (.call 81 (.cons (.var 5) (.cons (.var 7) (.nil)))) (.cst .none)) (.ret (.cst (.bool false))) (.skip)) (.seq (.ife (.not (.call 82 (.cons (.var 5) (.cons (.var 11) (.cons (.tup (.cons (.cst (.str "in")) (.cons (.var 0) (.nil)))) (.nil)))))) (.ret (.cst (.bool false))) (.skip)) (.seq (.ife (.or (.call 82 (.cons (.var 5) (.cons (.var 11) (.cons (.tup (.cons (.cst (.str "out")) (.cons (.var 0) (.nil)))) (.nil))))) (.or (.call 82 (.cons (.var 5) (.cons (.var 7) (.cons (.tup (.cons (.cst (.str "in")) (.cons (.var 0) (.nil)))) (.nil))))) (.call 82 (.cons (.var 5) (.cons (.var 8) (.cons (.tup (.cons (.cst (.str "in")) (.cons (.var 0) (.nil)))) (.nil))))))) (.ret (.cst (.bool false))) (.skip)) (.seq (.set 1 (.tup (.cons (.tup (.cons (.tup (.cons (.cst (.int 0)) (.cons (.cst (.int 3)) (.nil)))) (.nil))) (.cons (.tup (.cons (.tup (.cons (.cst (.int 0)) (.cons (.cst (.int 0)) (.cons (.cst (.int 1)) (.nil))))) (.nil))) (.nil))))) (.seq (.ife (.or (.not (.call 82 (.cons (.var 5) (.cons (.var 1) (.cons (.tup (.cons (.cst (.str "out")) (.cons (.var 0) (.nil)))) (.nil)))))) (.call 82 (.cons (.var 5) (.cons (.var 1) (.cons (.tup (.cons (.cst (.str "in")) (.cons (.var 0) (.nil)))) (.nil)))))) (.ret (.cst (.bool false))) (.skip)) (.seq (.set 2 (.lst (.cons (.cst .none) (.cons (.tup (.nil)) (.cons (.tup (.cons (.cst (.str "in")) (.nil))) (.cons (.tup (.cons (.cst (.str "in")) (.cons (.tup (.nil)) (.nil)))) (.cons (.tup (.cons (.cst (.str "on")) (.cons (.var 0) (.nil)))) (.cons (.tup (.cons (.cst (.str "in")) (.cons (.lst (.cons (.tup (.cons (.cst (.int 0)) (.cons (.cst (.int 0)) (.nil)))) (.nil))) (.nil)))) (.cons (.tup (.cons (.cst (.str "in")) (.cons (.tup (.cons (.tup (.cons (.cst (.int 1)) (.cons (.cst (.int 0)) (.nil)))) (.nil))) (.nil)))) (.nil)))))))))) (.seq (.set 2 (.bin .add (.var 2) (.lst (.cons (.tup (.cons (.cst (.str "in")) (.cons (.tup (.cons (.tup (.cons (.cst (.int 0)) (.cons (.cst (.int 1)) (.nil)))) (.nil))) (.nil)))) (.cons (.tup (.cons (.cst (.str "in")) (.cons (.tup (.cons (.tup (.cons (.cst (.int 0)) (.cons (.cst (.int 0)) (.nil)))) (.cons (.tup (.cons (.cst (.int 0)) (.cons (.cst (.int 0)) (.nil)))) (.nil)))) (.nil)))) (.cons (.tup (.cons (.cst (.str "in")) (.cons (.tup (.cons (.cst .none) (.nil))) (.nil)))) (.cons (.tup (.cons (.cst (.str "in")) (.cons (.tup (.cons (.tup (.cons (.cst (.bool false)) (.cons (.cst (.int 0)) (.nil)))) (.nil))) (.nil)))) (.nil)))))))) (.seq (.for_ (.nm 3) (.itSeq (.bin .add (.var 2) (.lst (.cons (.tup (.cons (.cst .none) (.cons (.var 0) (.nil)))) (.cons (.lst (.cons (.cst (.str "in")) (.cons (.var 0) (.nil)))) (.nil)))))) (.ife (.cmp .ne (.ltry (.call 82 (.cons (.var 5) (.cons (.var 11) (.cons (.var 3) (.nil)))))) (.cst (.str "paper +"))) (.ret (.cst (.bool false))) (.skip))) (.seq (.ife (.cmp .ne (.ltry (.call 82 (.cons (.var 6) (.cons (.var 9) (.cons (.tup (.cons (.cst (.str "in")) (.cons (.tup (.cons (.tup (.cons (.cst (.int 0)) (.cons (.cst (.int 1)) (.nil)))) (.cons (.tup (.cons (.cst (.int 0)) (.cons (.cst (.int 0)) (.nil)))) (.nil)))) (.nil)))) (.nil)))))) (.cst (.str "paper +"))) (.ret (.cst (.bool false))) (.skip)) (.seq (.set 4 (.tup (.cons (.tup (.cons (.tup (.cons (.cst (.int 0)) (.cons (.cst (.int 3)) (.nil)))) (.cons (.tup (.cons (.cst (.int 0)) (.cons (.cst (.int 3)) (.nil)))) (.nil)))) (.cons (.tup (.cons (.tup (.cons (.cst (.int 0)) (.cons (.cst (.int 0)) (.cons (.cst (.int 3)) (.nil))))) (.nil))) (.nil))))) (.seq (.ife (.or (.not (.call 82 (.cons (.var 5) (.cons (.var 4) (.cons (.tup (.cons (.cst (.str "out")) (.cons (.tup (.cons (.tup (.cons (.cst (.int 0)) (.cons (.cst (.int 0)) (.nil)))) (.cons (.tup (.cons (.cst (.int 1)) (.cons (.cst (.int 0)) (.nil)))) (.nil)))) (.nil)))) (.nil)))))) (.call 82 (.cons (.var 5) (.cons (.var 4) (.cons (.tup (.cons (.cst (.str "out")) (.cons (.var 0) (.nil)))) (.nil)))))) (.ret (.cst (.bool false))) (.skip)) (.ret (.and (.not (.call 82 (.cons (.var 6) (.cons (.var 9) (.cons (.tup (.cons (.cst (.str "in")) (.cons (.tup (.cons (.tup (.cons (.cst (.int 0)) (.cons (.cst (.int 0)) (.nil)))) (.cons (.tup (.cons (.cst (.int 0)) (.cons (.cst (.int 1)) (.nil)))) (.nil)))) (.nil)))) (.nil)))))) (.not (.call 82 (.cons (.var 5) (.cons (.var 7) (.cons (.tup (.cons (.cst (.str "out")) (.cons (.var 0) (.nil)))) (.nil)))))))))))))))))))))) }
/-- 87 -/
def f_law_k05 : Fn :=
  { name := "law", io := false, np := 1, ns := ["script", "cell", "deck", "turn", "house_so", "book_so", "looks_so", "look", "at", "harder", "key"], body := .seq (.for_ (.nm 1) (.itSeq (.slH (.bin .add (.lst (.cons (.cst (.int 0)) (.nil))) (.var 0)) (.cst (.int 8)))) (.seq (.set 2 (.call 14 (.cons (.var 1) (.cons (.cst (.int 5)) (.nil))))) (.seq (.for_ (.nm 3) (.itRng1 (.cst (.int 4))) (.seq (.set 4 (.io 25 2 (.cons (.cst (.int 2)) (.cons (.cst (.int 3)) (.nil))))) (.seq (.set 5 (.io 26 2 (.cons (.var 4) (.cons (.cst (.int 3)) (.nil))))) (.seq (.set 6 (.dnk)) (.seq (.for_ (.nm 7) (.itSeq (.ixS 5 (.cst (.int 1)))) (.setIx 6 (.slH (.var 7) (.cst (.int 2))) (.var 7))) (.seq (.set 8 (.io 15 2 (.cons (.bin .add (.bi .len (.cons (.ixS 5 (.cst (.int 0))) (.nil))) (.cst (.int 1))) (.nil)))) (.seq (.setIx 6 (.tup (.cons (.var 8) (.cons (.cst (.int 0)) (.nil)))) (.tup (.cons (.var 8) (.cons (.cst (.int 0)) (.cons (.io 15 2 (.cons (.bin .add (.ix (.ixS 4 (.cst (.int 0))) (.cst (.int 0))) (.cst (.int 1))) (.nil))) (.nil)))))) (.seq (.set 9 (.tup (.cons (.ixS 5 (.cst (.int 0))) (.cons (.bi .tuple (.cons (.comp (.ixS 6 (.var 10)) (.nm 10) (.itSeq (.sortedKeys 6)) (.cst (.bool true)) [10]) (.nil))) (.nil))))) (.ife (.or (.not (.call 85 (.cons (.var 4) (.cons (.var 5) (.nil))))) (.not (.call 85 (.cons (.var 4) (.cons (.var 9) (.nil)))))) (.ret (.cst (.bool false))) (.skip)))))))))) (.seq (.ife (.cmp .ne (.ltry (.call 81 (.cons (.cst .none) (.cons (.cst .none) (.nil))))) (.cst (.str "house +"))) (.ret (.cst (.bool false))) (.skip)) (.seq (.ife (.cmp .ne (.ltry (.call 81 (.cons (.var 4) (.cons (.cst .none) (.nil))))) (.cst (.str "book +"))) (.ret (.cst (.bool false))) (.skip)) (.ife (.cmp .ne (.ltry (.call 82 (.cons (.var 4) (.cons (.cst .none) (.cons (.cst .none) (.nil)))))) (.cst (.str "book +"))) (.ret (.cst (.bool false))) (.skip))))))) (.ret (.call 86 (.nil))) }
/-- 88 -/
def f_shown_by : Fn :=
  { name := "shown_by", io := false, np := 3, ns := ["house", "book", "floor", "looks", "found", "stretch", "counts", "here", "gate", "count", "moment", "spot", "number"], body := .seq (.set 3 (.dictK (.comp (.tup (.cons (.var 10) (.cons (.var 12) (.nil)))) (.tup (.cons (.nm 10) (.cons (.nm 11) (.cons (.nm 12) (.nil))))) (.itSeq (.ixS 1 (.cst (.int 1)))) (.cmpS .eq 11 (.var 2)) [10, 11, 12]))) (.seq (.set 4 (.lst (.cons (.getS 3 (.cst (.int 0)) (.cst (.int 0))) (.nil)))) (.seq (.for_ (.tup (.cons (.nm 5) (.cons (.nm 6) (.nil)))) (.itEnum (.ixS 1 (.cst (.int 0)))) (.seq (.set 7 (.ixS 4 (.neg (.cst (.int 1))))) (.seq (.for_ (.tup (.cons (.nm 8) (.cons (.nm 9) (.nil)))) (.itZip (.ixS 0 (.cst (.int 1))) (.var 6)) (.seq (.ife (.cmp .eq (.ixS 8 (.cst (.int 1))) (.var 2)) (.set 7 (.bin .add (.var 7) (.var 9))) (.skip)) (.ife (.cmp .eq (.ixS 8 (.cst (.int 0))) (.var 2)) (.set 7 (.bin .sub (.var 7) (.var 9))) (.skip)))) (.set 4 (.bin .add (.var 4) (.lst (.cons (.getS 3 (.bin .add (.var 5) (.cst (.int 1))) (.var 7)) (.nil)))))))) (.ret (.take 4)))) }
/-- 89 -/
def f_fullness : Fn :=
  { name := "fullness", io := false, np := 2, ns := ["room", "span"], body := .seq (.ife (.cmp .eq (.ixS 1 (.cst (.int 0))) (.var 0)) (.ret (.cst (.str "sure"))) (.skip)) (.ret (.ife (.cmp .eq (.ixS 1 (.cst (.int 1))) (.var 0)) (.cst (.str "open")) (.cst (.str "never")))) }
/-- 90 -/
def f_full_at : Fn :=
  { name := "full_at", io := false, np := 4, ns := ["house", "book", "moment", "floor"], body := .ret (.call 89 (.cons (.ix (.ixS 0 (.cst (.int 0))) (.var 3)) (.cons (.ix (.call 64 (.cons (.var 0) (.cons (.var 1) (.cons (.var 2) (.nil))))) (.var 3)) (.nil)))) }
/-- 91 -/
def f_shown : Fn :=
  { name := "shown", io := false, np := 3, ns := ["house", "book", "floor"], body := .seq (.expr (.call 7 (.cons (.var 0) (.nil)))) (.seq (.expr (.call 33 (.cons (.var 0) (.cons (.var 1) (.nil))))) (.seq (.expr (.call 57 (.cons (.var 0) (.cons (.var 2) (.nil))))) (.ret (.call 88 (.cons (.var 0) (.cons (.var 1) (.cons (.var 2) (.nil)))))))) }
/-- 92 -/
def f_full : Fn :=
  { name := "full", io := false, np := 4, ns := ["house", "book", "moment", "floor"], body := .seq (.expr (.call 7 (.cons (.var 0) (.nil)))) (.seq (.expr (.call 33 (.cons (.var 0) (.cons (.var 1) (.nil))))) (.seq (.expr (.call 56 (.cons (.var 2) (.cons (.bi .len (.cons (.ixS 1 (.cst (.int 0))) (.nil))) (.nil))))) (.seq (.expr (.call 57 (.cons (.var 0) (.cons (.var 3) (.nil))))) (.ret (.call 90 (.cons (.var 0) (.cons (.var 1) (.cons (.var 2) (.cons (.var 3) (.nil)))))))))) }
/-- 93 -/
def f_false_signs : Fn :=
  { name := "false_signs", io := false, np := 2, ns := ["house", "book", "found", "moment", "spans", "floor", "room", "says"], body := .seq (.expr (.call 7 (.cons (.var 0) (.nil)))) (.seq (.expr (.call 33 (.cons (.var 0) (.cons (.var 1) (.nil))))) (.seq (.set 2 (.lst (.nil))) (.seq (.for_ (.nm 3) (.itRng1 (.bin .add (.bi .len (.cons (.ixS 1 (.cst (.int 0))) (.nil))) (.cst (.int 1)))) (.seq (.set 4 (.call 64 (.cons (.var 0) (.cons (.var 1) (.cons (.var 3) (.nil)))))) (.for_ (.tup (.cons (.nm 5) (.cons (.nm 6) (.nil)))) (.itEnum (.ixS 0 (.cst (.int 0)))) (.seq (.set 7 (.cmp .ge (.ix (.call 88 (.cons (.var 0) (.cons (.var 1) (.cons (.var 5) (.nil))))) (.var 3)) (.var 6))) (.ife (.cmp .eq (.call 89 (.cons (.var 6) (.cons (.ixS 4 (.var 5)) (.nil)))) (.ife (.var 7) (.cst (.str "never")) (.cst (.str "sure")))) (.app 2 (.tup (.cons (.var 3) (.cons (.var 5) (.nil))))) (.skip)))))) (.ret (.take 2))))) }
/-- 94 -/
def f_law_shown_k06 : Fn :=
  { name := "_law_shown", io := false, np := 3, ns := ["house_so", "book_so", "floor_so", "looks_so", "found", "at", "number", "gate_so", "count_so", "look"], body := .seq (.set 3 (.dictK (.comp (.tup (.cons (.slH (.var 9) (.cst (.int 2))) (.cons (.ixS 9 (.cst (.int 2))) (.nil)))) (.nm 9) (.itSeq (.ixS 1 (.cst (.int 1)))) (.cst (.bool true)) [9]))) (.seq (.set 4 (.lst (.cons (.getS 3 (.tup (.cons (.cst (.int 0)) (.cons (.var 2) (.nil)))) (.cst (.int 0))) (.nil)))) (.seq (.for_ (.nm 5) (.itRng1 (.bi .len (.cons (.ixS 1 (.cst (.int 0))) (.nil)))) (.seq (.set 6 (.ixS 4 (.neg (.cst (.int 1))))) (.seq (.for_ (.tup (.cons (.nm 7) (.cons (.nm 8) (.nil)))) (.itZip (.ixS 0 (.cst (.int 1))) (.ix (.ixS 1 (.cst (.int 0))) (.var 5))) (.seq (.set 6 (.bin .add (.var 6) (.ife (.cmp .eq (.ixS 7 (.cst (.int 1))) (.var 2)) (.var 8) (.cst (.int 0))))) (.set 6 (.bin .sub (.var 6) (.ife (.cmp .eq (.ixS 7 (.cst (.int 0))) (.var 2)) (.var 8) (.cst (.int 0))))))) (.app 4 (.getS 3 (.tup (.cons (.bin .add (.var 5) (.cst (.int 1))) (.cons (.var 2) (.nil)))) (.var 6)))))) (.ret (.take 4)))) }
/-- 95 -/
def f_law_good_k06 : Fn :=
  { name := "_law_good", io := false, np := 2, ns := ["house_so", "book_so", "floor_so", "found", "last", "due", "good", "row", "at", "room_so", "word_so", "low", "high"], body := .seq (.setT (.tup (.cons (.nm 4) (.cons (.nm 5) (.cons (.nm 6) (.nil))))) (.tup (.cons (.bi .len (.cons (.ixS 1 (.cst (.int 0))) (.nil))) (.cons (.lst (.nil)) (.cons (.call 46 (.cons (.var 0) (.cons (.var 1) (.nil)))) (.nil)))))) (.seq (.for_ (.nm 2) (.itRng1 (.bi .len (.cons (.ixS 0 (.cst (.int 0))) (.nil)))) (.seq (.set 7 (.call 91 (.cons (.var 0) (.cons (.var 1) (.cons (.var 2) (.nil)))))) (.seq (.ife (.not (.call 19 (.cons (.var 7) (.cons (.call 94 (.cons (.var 0) (.cons (.var 1) (.cons (.var 2) (.nil))))) (.nil))))) (.ret (.cst (.bool false))) (.skip)) (.for_ (.nm 8) (.itRng1 (.bin .add (.var 4) (.cst (.int 1)))) (.ife (.not (.var 6)) (.ife (.cmp .ne (.ltry (.call 92 (.cons (.var 0) (.cons (.var 1) (.cons (.var 8) (.cons (.var 2) (.nil))))))) (.cst (.str "none +"))) (.ret (.cst (.bool false))) (.skip)) (.seq (.setT (.tup (.cons (.nm 11) (.cons (.nm 12) (.nil)))) (.call 65 (.cons (.var 0) (.cons (.var 1) (.cons (.var 8) (.cons (.var 2) (.nil))))))) (.seq (.set 9 (.ix (.ixS 0 (.cst (.int 0))) (.var 2))) (.seq (.set 10 (.ife (.cmpS .eq 11 (.var 9)) (.cst (.str "sure")) (.ife (.cmpS .eq 12 (.var 9)) (.cst (.str "open")) (.cst (.str "never"))))) (.seq (.ife (.not (.call 19 (.cons (.call 92 (.cons (.var 0) (.cons (.var 1) (.cons (.var 8) (.cons (.var 2) (.nil)))))) (.cons (.var 10) (.nil))))) (.ret (.cst (.bool false))) (.skip)) (.ife (.or (.and (.cmp .ge (.ixS 7 (.var 8)) (.var 9)) (.cmpS .eq 10 (.cst (.str "never")))) (.and (.cmp .lt (.ixS 7 (.var 8)) (.var 9)) (.cmpS .eq 10 (.cst (.str "sure"))))) (.app 5 (.tup (.cons (.var 8) (.cons (.var 2) (.nil))))) (.skip))))))))))) (.seq (.set 3 (.ltry (.call 93 (.cons (.var 0) (.cons (.var 1) (.nil)))))) (.ret (.cmpS .eq 3 (.ife (.var 6) (.tup (.cons (.cst (.str "told")) (.cons (.bi .sorted (.cons (.var 5) (.nil))) (.nil)))) (.cst (.str "none +"))))))) }
/-- 96 -/
def f_law_k06 : Fn :=
  { name := "law", io := false, np := 1, ns := ["script", "cell", "told", "some", "late", "deck", "turn", "odd", "house_so", "one", "two", "a", "b", "c", "d", "e"], body := .seq (.for_ (.nm 1) (.itSeq (.slH (.bin .add (.lst (.cons (.cst (.int 0)) (.nil))) (.var 0)) (.cst (.int 10)))) (.seq (.set 5 (.call 14 (.cons (.var 1) (.cons (.cst (.int 6)) (.nil))))) (.seq (.for_ (.nm 6) (.itRng1 (.cst (.int 5))) (.seq (.set 8 (.io 25 5 (.cons (.cst (.int 3)) (.cons (.cst (.int 4)) (.nil))))) (.ife (.not (.call 95 (.cons (.var 8) (.cons (.io 26 5 (.cons (.var 8) (.cons (.cst (.int 3)) (.nil)))) (.nil))))) (.ret (.cst (.bool false))) (.skip)))) (.seq (.setT (.tup (.cons (.nm 9) (.cons (.nm 10) (.nil)))) (.call 20 (.nil))) (.seq (.setT (.tup (.cons (.nm 11) (.cons (.nm 12) (.cons (.nm 13) (.cons (.nm 14) (.cons (.nm 15) (.nil))))))) (.call 21 (.nil))) (.seq (.ife (.cmp .ne (.ltry (.call 91 (.cons (.tup (.nil)) (.cons (.cst .none) (.cons (.cst .none) (.nil)))))) (.cst (.str "house +"))) (.ret (.cst (.bool false))) (.skip)) (.seq (.ife (.cmp .ne (.ltry (.call 91 (.cons (.var 9) (.cons (.var 13) (.cons (.cst .none) (.nil)))))) (.cst (.str "book +"))) (.ret (.cst (.bool false))) (.skip)) (.seq (.for_ (.nm 7) (.itSeq (.lst (.cons (.cst .none) (.cons (.neg (.cst (.int 1))) (.cons (.cst (.int 1)) (.cons (.cst (.bool true)) (.nil))))))) (.seq (.ife (.cmp .ne (.ltry (.call 91 (.cons (.var 9) (.cons (.var 15) (.cons (.var 7) (.nil)))))) (.cst (.str "floor +"))) (.ret (.cst (.bool false))) (.skip)) (.ife (.cmp .ne (.ltry (.call 92 (.cons (.var 9) (.cons (.var 15) (.cons (.cst (.int 0)) (.cons (.var 7) (.nil))))))) (.cst (.str "floor +"))) (.ret (.cst (.bool false))) (.skip)))) (.seq (.for_ (.nm 7) (.itSeq (.lst (.cons (.cst .none) (.cons (.neg (.cst (.int 1))) (.cons (.cst (.int 2)) (.cons (.cst (.bool true)) (.nil))))))) (.ife (.cmp .ne (.ltry (.call 92 (.cons (.var 9) (.cons (.var 15) (.cons (.var 7) (.cons (.cst .none) (.nil))))))) (.cst (.str "moment +"))) (.ret (.cst (.bool false))) (.skip))) (.seq (.ife (.cmp .ne (.ltry (.call 93 (.cons (.var 9) (.cons (.var 13) (.nil))))) (.cst (.str "book +"))) (.ret (.cst (.bool false))) (.skip)) (.ife (.cmp .ne (.ltry (.call 93 (.cons (.var 9) (.cons (.var 15) (.nil))))) (.cst (.str "none +"))) (.ret (.cst (.bool false))) (.skip)))))))))))) (.seq (.ife (.or (.cmp .ne (.call 91 (.cons (.var 9) (.cons (.var 11) (.cons (.cst (.int 0)) (.nil))))) (.lst (.cons (.cst (.int 1)) (.cons (.cst (.int 4)) (.nil))))) (.or (.cmp .ne (.call 91 (.cons (.var 9) (.cons (.var 12) (.cons (.cst (.int 0)) (.nil))))) (.lst (.cons (.cst (.int 0)) (.cons (.cst (.int 3)) (.nil))))) (.cmp .ne (.call 91 (.cons (.var 10) (.cons (.var 13) (.cons (.cst (.int 0)) (.nil))))) (.lst (.cons (.cst (.int 0)) (.cons (.cst (.int 2)) (.nil))))))) (.ret (.cst (.bool false))) (.skip)) (.seq (.ife (.or (.cmp .ne (.call 91 (.cons (.var 10) (.cons (.var 14) (.cons (.cst (.int 1)) (.nil))))) (.lst (.cons (.cst (.int 0)) (.cons (.cst (.int 2)) (.cons (.cst (.int 0)) (.nil)))))) (.cmp .ne (.call 91 (.cons (.var 9) (.cons (.tup (.cons (.tup (.cons (.tup (.cons (.cst (.int 0)) (.cons (.cst (.int 4)) (.nil)))) (.cons (.tup (.cons (.cst (.int 9)) (.cons (.cst (.int 0)) (.nil)))) (.nil)))) (.cons (.tup (.nil)) (.nil)))) (.cons (.cst (.int 0)) (.nil))))) (.lst (.cons (.cst (.int 0)) (.cons (.neg (.cst (.int 4))) (.cons (.cst (.int 5)) (.nil))))))) (.ret (.cst (.bool false))) (.skip)) (.seq (.set 2 (.lst (.cons (.call 92 (.cons (.var 9) (.cons (.var 11) (.cons (.cst (.int 1)) (.cons (.cst (.int 0)) (.nil)))))) (.cons (.call 92 (.cons (.var 9) (.cons (.var 12) (.cons (.cst (.int 1)) (.cons (.cst (.int 0)) (.nil)))))) (.cons (.call 92 (.cons (.var 9) (.cons (.var 12) (.cons (.cst (.int 0)) (.cons (.cst (.int 0)) (.nil)))))) (.cons (.call 92 (.cons (.var 10) (.cons (.var 13) (.cons (.cst (.int 0)) (.cons (.cst (.int 1)) (.nil)))))) (.nil))))))) (.seq (.ife (.cmpS .ne 2 (.lst (.cons (.cst (.str "sure")) (.cons (.cst (.str "open")) (.cons (.cst (.str "never")) (.cons (.cst (.str "never")) (.nil))))))) (.ret (.cst (.bool false))) (.skip)) (.seq (.set 3 (.tup (.cons (.tup (.cons (.cst (.int 3)) (.nil))) (.cons (.tup (.cons (.tup (.cons (.neg (.cst (.int 1))) (.cons (.cst (.int 0)) (.cons (.cst (.int 0)) (.cons (.cst (.int 1)) (.nil)))))) (.nil))) (.nil))))) (.seq (.ife (.or (.cmp .ne (.call 93 (.cons (.var 3) (.cons (.tup (.cons (.tup (.cons (.tup (.cons (.cst (.int 3)) (.nil))) (.cons (.tup (.cons (.cst (.int 1)) (.nil))) (.nil)))) (.cons (.tup (.cons (.tup (.cons (.cst (.int 0)) (.cons (.cst (.int 0)) (.cons (.cst (.int 0)) (.nil))))) (.nil))) (.nil)))) (.nil)))) (.lst (.cons (.tup (.cons (.cst (.int 1)) (.cons (.cst (.int 0)) (.nil)))) (.nil)))) (.cmp .ne (.call 93 (.cons (.var 9) (.cons (.var 11) (.nil)))) (.lst (.nil)))) (.ret (.cst (.bool false))) (.skip)) (.seq (.set 4 (.tup (.cons (.tup (.cons (.cst (.int 3)) (.nil))) (.cons (.tup (.cons (.tup (.cons (.neg (.cst (.int 1))) (.cons (.cst (.int 0)) (.cons (.cst (.int 1)) (.cons (.cst (.int 0)) (.nil)))))) (.nil))) (.nil))))) (.ret (.cmp .eq (.call 93 (.cons (.var 4) (.cons (.tup (.cons (.tup (.cons (.tup (.cons (.cst (.int 2)) (.nil))) (.cons (.tup (.cons (.cst (.int 0)) (.nil))) (.nil)))) (.cons (.tup (.cons (.tup (.cons (.cst (.int 0)) (.cons (.cst (.int 0)) (.cons (.cst (.int 0)) (.nil))))) (.cons (.tup (.cons (.cst (.int 2)) (.cons (.cst (.int 0)) (.cons (.cst (.int 3)) (.nil))))) (.nil)))) (.nil)))) (.nil)))) (.lst (.nil))))))))))) }
/-- 97 -/
def f_lots_of : Fn :=
  { name := "lots_of", io := false, np := 1, ns := ["many", "found", "index", "row"], body := .seq (.set 1 (.lst (.cons (.tup (.nil)) (.nil)))) (.seq (.for_ (.nm 2) (.itRng1 (.var 0)) (.set 1 (.bin .add (.var 1) (.comp (.bin .add (.var 3) (.tup (.cons (.var 2) (.nil)))) (.nm 3) (.itSeq (.var 1)) (.cst (.bool true)) [3])))) (.ret (.take 1))) }
/-- 98 -/
def f_is_enough : Fn :=
  { name := "is_enough", io := false, np := 3, ns := ["house", "book", "lot", "parts", "stretch", "counts", "gate", "count"], body := .seq (.set 3 (.call 35 (.cons (.var 0) (.cons (.var 1) (.nil))))) (.seq (.for_ (.tup (.cons (.nm 4) (.cons (.nm 5) (.nil)))) (.itEnum (.ixS 1 (.cst (.int 0)))) (.for_ (.tup (.cons (.nm 6) (.cons (.nm 7) (.nil)))) (.itEnum (.var 5)) (.ife (.inS true (.var 6) 2) (.set 3 (.call 72 (.cons (.var 3) (.cons (.call 59 (.cons (.var 0) (.cons (.var 1) (.cons (.var 4) (.cons (.var 6) (.nil)))))) (.cons (.var 7) (.cons (.var 7) (.nil))))))) (.skip)))) (.ret (.cmp .isnot (.ix (.call 40 (.cons (.var 3) (.nil))) (.cst (.int 0))) (.cst .none)))) }
/-- 99 -/
def f_sure_slips : Fn :=
  { name := "sure_slips", io := false, np := 2, ns := ["house", "book", "found", "parts", "flow", "stretch", "counts", "gate", "count", "low", "high"], body := .seq (.expr (.call 7 (.cons (.var 0) (.nil)))) (.seq (.expr (.call 33 (.cons (.var 0) (.cons (.var 1) (.nil))))) (.seq (.setT (.tup (.cons (.nm 3) (.cons (.nm 4) (.nil)))) (.call 63 (.cons (.var 0) (.cons (.var 1) (.nil))))) (.seq (.set 2 (.lst (.nil))) (.seq (.for_ (.tup (.cons (.nm 5) (.cons (.nm 6) (.nil)))) (.itEnum (.ixS 1 (.cst (.int 0)))) (.for_ (.tup (.cons (.nm 7) (.cons (.nm 8) (.nil)))) (.itEnum (.var 6)) (.seq (.setT (.tup (.cons (.nm 9) (.cons (.nm 10) (.nil)))) (.call 62 (.cons (.var 3) (.cons (.var 4) (.cons (.call 59 (.cons (.var 0) (.cons (.var 1) (.cons (.var 5) (.cons (.var 7) (.nil)))))) (.nil)))))) (.ife (.not (.chain .le .le (.var 9) (.var 8) (.var 10))) (.app 2 (.tup (.cons (.var 5) (.cons (.var 7) (.nil))))) (.skip))))) (.ret (.take 2)))))) }
/-- 100 -/
def f_blamed : Fn :=
  { name := "blamed", io := false, np := 2, ns := ["house", "book", "lots", "many", "lot"], body := .seq (.expr (.call 7 (.cons (.var 0) (.nil)))) (.seq (.expr (.call 33 (.cons (.var 0) (.cons (.var 1) (.nil))))) (.seq (.expr (.call 63 (.cons (.var 0) (.cons (.var 1) (.nil))))) (.seq (.set 2 (.comp (.var 4) (.nm 4) (.itSeq (.call 97 (.cons (.bi .len (.cons (.ixS 0 (.cst (.int 1))) (.nil))) (.nil)))) (.call 98 (.cons (.var 0) (.cons (.var 1) (.cons (.var 4) (.nil))))) [4])) (.seq (.set 3 (.bi .min1 (.cons (.comp (.lenS 4) (.nm 4) (.itSeq (.var 2)) (.cst (.bool true)) [4]) (.nil)))) (.ret (.tup (.cons (.var 3) (.cons (.bi .sorted (.cons (.comp (.var 4) (.nm 4) (.itSeq (.var 2)) (.cmp .eq (.lenS 4) (.var 3)) [4]) (.nil))) (.nil))))))))) }
/-- 101 -/
def f_law_held : Fn :=
  { name := "_law_held", io := false, np := 2, ns := ["house_so", "lot_so", "some", "at", "gate_so"], body := .seq (.set 2 (.comp (.ife (.inS false (.var 3) 1) (.var 4) (.bin .add (.slH (.var 4) (.cst (.int 2))) (.tup (.cons (.cst (.int 0)) (.cons (.cst (.int 0)) (.nil)))))) (.tup (.cons (.nm 3) (.cons (.nm 4) (.nil)))) (.itEnum (.ixS 0 (.cst (.int 1)))) (.cst (.bool true)) [3, 4])) (.ret (.tup (.cons (.ixS 0 (.cst (.int 0))) (.cons (.bi .tuple (.cons (.var 2) (.nil))) (.nil))))) }
/-- 102 -/
def f_law_right : Fn :=
  { name := "_law_right", io := false, np := 5, ns := ["house_so", "book_so", "rows_so", "at", "gate", "there", "passes_so", "row"], body := .seq (.set 5 (.dictK (.comp (.tup (.cons (.var 7) (.cons (.cst (.bool true)) (.nil)))) (.nm 7) (.itSeq (.ixS 2 (.bin .add (.var 3) (.cst (.int 1))))) (.cst (.bool true)) [7]))) (.seq (.for_ (.nm 6) (.itSeq (.call 50 (.cons (.var 0) (.cons (.ix (.ixS 1 (.cst (.int 0))) (.var 3)) (.nil))))) (.ife (.cmp .eq (.ixS 6 (.var 4)) (.ix (.ix (.ixS 1 (.cst (.int 0))) (.var 3)) (.var 4))) (.ife (.cmp .ne (.comp (.cst (.int 1)) (.nm 7) (.itSeq (.ixS 2 (.var 3))) (.inS false (.call 23 (.cons (.var 0) (.cons (.var 7) (.cons (.var 6) (.nil))))) 5) [7]) (.lst (.nil))) (.ret (.cst (.bool true))) (.skip)) (.skip))) (.ret (.cst (.bool false)))) }
/-- 103 -/
def f_law_good_k07 : Fn :=
  { name := "_law_good", io := false, np := 2, ns := ["house_so", "book_so", "rows_so", "told", "due", "at", "lots_so", "gate", "good", "many", "fewest_so", "every", "lot_so"], body := .seq (.set 2 (.call 51 (.cons (.var 0) (.cons (.var 1) (.nil))))) (.seq (.set 3 (.lst (.cons (.ltry (.call 99 (.cons (.var 0) (.cons (.var 1) (.nil))))) (.nil)))) (.seq (.app 3 (.ltry (.call 100 (.cons (.var 0) (.cons (.var 1) (.nil)))))) (.seq (.ife (.cmp .eq (.ixS 2 (.cst (.int 0))) (.lst (.nil))) (.ret (.cmpS .eq 3 (.lst (.cons (.cst (.str "none +")) (.cons (.cst (.str "none +")) (.nil)))))) (.skip)) (.seq (.set 4 (.lst (.nil))) (.seq (.for_ (.nm 5) (.itRng1 (.bi .len (.cons (.ixS 1 (.cst (.int 0))) (.nil)))) (.seq (.set 11 (.bi .list (.cons (.itRng1 (.bi .len (.cons (.ixS 0 (.cst (.int 1))) (.nil)))) .nil))) (.for_ (.nm 7) (.itSeq (.var 11)) (.ife (.not (.call 102 (.cons (.var 0) (.cons (.var 1) (.cons (.var 2) (.cons (.var 5) (.cons (.var 7) (.nil)))))))) (.app 4 (.tup (.cons (.var 5) (.cons (.var 7) (.nil))))) (.skip))))) (.seq (.set 6 (.lst (.cons (.tup (.nil)) (.nil)))) (.seq (.for_ (.nm 7) (.itRng1 (.bi .len (.cons (.ixS 0 (.cst (.int 1))) (.nil)))) (.set 6 (.bin .add (.var 6) (.comp (.bin .add (.var 12) (.tup (.cons (.var 7) (.nil)))) (.nm 12) (.itSeq (.var 6)) (.cst (.bool true)) [12])))) (.seq (.set 8 (.comp (.var 12) (.nm 12) (.itSeq (.var 6)) (.cmp .ne (.ix (.call 51 (.cons (.call 101 (.cons (.var 0) (.cons (.var 12) (.nil)))) (.cons (.var 1) (.nil)))) (.cst (.int 0))) (.lst (.nil))) [12])) (.seq (.set 9 (.bi .min1 (.cons (.comp (.lenS 12) (.nm 12) (.itSeq (.var 8)) (.cst (.bool true)) [12]) (.nil)))) (.seq (.set 10 (.bi .sorted (.cons (.comp (.var 12) (.nm 12) (.itSeq (.var 8)) (.cmp .eq (.lenS 12) (.var 9)) [12]) (.nil)))) (.ret (.cmpS .eq 3 (.lst (.cons (.tup (.cons (.cst (.str "told")) (.cons (.var 4) (.nil)))) (.cons (.tup (.cons (.cst (.str "told")) (.cons (.tup (.cons (.var 9) (.cons (.var 10) (.nil)))) (.nil)))) (.nil)))))))))))))))) }
/-- 104 -/
def f_law_k07 : Fn :=
  { name := "law", io := false, np := 1, ns := ["script", "cell", "some", "either", "deck", "turn", "call_so", "house_so", "one", "two", "a", "b", "c", "d", "e"], body := .seq (.for_ (.nm 1) (.itSeq (.slH (.bin .add (.lst (.cons (.cst (.int 0)) (.nil))) (.var 0)) (.cst (.int 8)))) (.seq (.set 4 (.call 14 (.cons (.var 1) (.cons (.cst (.int 7)) (.nil))))) (.seq (.for_ (.nm 5) (.itRng1 (.cst (.int 3))) (.seq (.set 7 (.io 25 4 (.cons (.cst (.int 2)) (.cons (.cst (.int 3)) (.nil))))) (.ife (.not (.call 103 (.cons (.var 7) (.cons (.io 26 4 (.cons (.var 7) (.cons (.cst (.int 2)) (.nil)))) (.nil))))) (.ret (.cst (.bool false))) (.skip)))) (.seq (.setT (.tup (.cons (.nm 8) (.cons (.nm 9) (.nil)))) (.call 20 (.nil))) (.seq (.setT (.tup (.cons (.nm 10) (.cons (.nm 11) (.cons (.nm 12) (.cons (.nm 13) (.cons (.nm 14) (.nil))))))) (.call 21 (.nil))) (.forFn 6 [99, 100] (.seq (.ife (.cmp .ne (.ltry (.callV 6 [99, 100] (.cons (.cst .none) (.cons (.cst .none) (.nil))))) (.cst (.str "house +"))) (.ret (.cst (.bool false))) (.skip)) (.seq (.ife (.cmp .ne (.ltry (.callV 6 [99, 100] (.cons (.var 8) (.cons (.var 12) (.nil))))) (.cst (.str "book +"))) (.ret (.cst (.bool false))) (.skip)) (.ife (.cmp .ne (.ltry (.callV 6 [99, 100] (.cons (.var 8) (.cons (.var 14) (.nil))))) (.cst (.str "none +"))) (.ret (.cst (.bool false))) (.skip)))))))))) (.seq (.set 2 (.tup (.cons (.tup (.cons (.tup (.cons (.cst (.int 5)) (.cons (.cst (.int 2)) (.nil)))) (.nil))) (.cons (.tup (.cons (.tup (.cons (.cst (.int 0)) (.cons (.cst (.int 0)) (.cons (.cst (.int 0)) (.nil))))) (.cons (.tup (.cons (.cst (.int 1)) (.cons (.cst (.int 0)) (.cons (.cst (.int 4)) (.nil))))) (.nil)))) (.nil))))) (.seq (.ife (.or (.cmp .ne (.call 99 (.cons (.var 8) (.cons (.var 10) (.nil)))) (.lst (.nil))) (.cmp .ne (.call 99 (.cons (.var 8) (.cons (.var 2) (.nil)))) (.lst (.cons (.tup (.cons (.cst (.int 0)) (.cons (.cst (.int 1)) (.nil)))) (.nil))))) (.ret (.cst (.bool false))) (.skip)) (.seq (.ife (.or (.cmp .ne (.call 100 (.cons (.var 8) (.cons (.var 10) (.nil)))) (.tup (.cons (.cst (.int 0)) (.cons (.lst (.cons (.tup (.nil)) (.nil))) (.nil))))) (.or (.cmp .ne (.call 100 (.cons (.var 8) (.cons (.var 2) (.nil)))) (.tup (.cons (.cst (.int 1)) (.cons (.lst (.cons (.tup (.cons (.cst (.int 1)) (.nil))) (.nil))) (.nil))))) (.cmp .ne (.call 100 (.cons (.var 9) (.cons (.var 13) (.nil)))) (.tup (.cons (.cst (.int 1)) (.cons (.lst (.cons (.tup (.cons (.cst (.int 2)) (.nil))) (.nil))) (.nil))))))) (.ret (.cst (.bool false))) (.skip)) (.seq (.set 3 (.tup (.cons (.tup (.cons (.cst (.int 4)) (.nil))) (.cons (.tup (.cons (.tup (.cons (.neg (.cst (.int 1))) (.cons (.cst (.int 0)) (.cons (.cst (.int 1)) (.cons (.cst (.int 0)) (.nil)))))) (.cons (.tup (.cons (.neg (.cst (.int 1))) (.cons (.cst (.int 0)) (.cons (.cst (.int 1)) (.cons (.cst (.int 0)) (.nil)))))) (.nil)))) (.nil))))) (.ret (.cmp .eq (.call 100 (.cons (.var 3) (.cons (.tup (.cons (.tup (.cons (.tup (.cons (.cst (.int 1)) (.cons (.cst (.int 1)) (.nil)))) (.nil))) (.cons (.tup (.cons (.tup (.cons (.cst (.int 0)) (.cons (.cst (.int 0)) (.cons (.cst (.int 0)) (.nil))))) (.cons (.tup (.cons (.cst (.int 1)) (.cons (.cst (.int 0)) (.cons (.cst (.int 3)) (.nil))))) (.nil)))) (.nil)))) (.nil)))) (.tup (.cons (.cst (.int 1)) (.cons (.lst (.cons (.tup (.cons (.cst (.int 0)) (.nil))) (.cons (.tup (.cons (.cst (.int 1)) (.nil))) (.nil)))) (.nil)))))))))) }
/-- 105 -/
def f_is_new : Fn :=
  { name := "is_new", io := false, np := 3, ns := ["house", "book", "look", "other"], body := .seq (.ife (.or (.not (.call 5 (.cons (.var 0) (.cons (.bi .len (.cons (.ixS 1 (.cst (.int 0))) (.nil))) (.cons (.var 2) (.nil)))))) (.cmp .ge (.bi .len (.cons (.ixS 1 (.cst (.int 1))) (.nil))) (.glob "MOST_LOOKS" 8))) (.ret (.cst (.bool false))) (.skip)) (.ret (.cmp .notin (.slH (.var 2) (.cst (.int 2))) (.comp (.slH (.var 3) (.cst (.int 2))) (.nm 3) (.itSeq (.ixS 1 (.cst (.int 1)))) (.cst (.bool true)) [3]))) }
/-- 106 -/
def f_all_widths : Fn :=
  { name := "all_widths", io := false, np := 2, ns := ["house", "book", "low", "high"], body := .ret (.comp (.bin .sub (.var 3) (.var 2)) (.tup (.cons (.nm 2) (.cons (.nm 3) (.nil)))) (.itSeq (.call 64 (.cons (.var 0) (.cons (.var 1) (.cons (.bi .len (.cons (.ixS 1 (.cst (.int 0))) (.nil))) (.nil)))))) (.cst (.bool true)) [2, 3]) }
/-- 107 -/
def f_widest_with : Fn :=
  { name := "widest_with", io := false, np := 4, ns := ["house", "book", "floor", "number", "last", "index", "parts", "flow", "spans", "other", "low", "high"], body := .seq (.set 4 (.bi .len (.cons (.ixS 1 (.cst (.int 0))) (.nil)))) (.seq (.set 5 (.call 58 (.cons (.var 0) (.cons (.var 4) (.cons (.var 2) (.nil)))))) (.seq (.set 6 (.call 72 (.cons (.call 35 (.cons (.var 0) (.cons (.var 1) (.nil)))) (.cons (.var 5) (.cons (.var 3) (.cons (.var 3) (.nil))))))) (.seq (.set 7 (.ix (.call 40 (.cons (.var 6) (.nil))) (.cst (.int 0)))) (.seq (.set 8 (.comp (.call 62 (.cons (.var 6) (.cons (.var 7) (.cons (.call 58 (.cons (.var 0) (.cons (.var 4) (.cons (.var 9) (.nil))))) (.nil))))) (.nm 9) (.itRng1 (.bi .len (.cons (.ixS 0 (.cst (.int 0))) (.nil)))) (.cst (.bool true)) [9])) (.ret (.bi .max1 (.cons (.comp (.bin .sub (.var 11) (.var 10)) (.tup (.cons (.nm 10) (.cons (.nm 11) (.nil)))) (.itSeq (.var 8)) (.cst (.bool true)) [10, 11]) (.nil)))))))) }
/-- 108 -/
def f_widths : Fn :=
  { name := "widths", io := false, np := 2, ns := ["house", "book"], body := .seq (.expr (.call 7 (.cons (.var 0) (.nil)))) (.seq (.expr (.call 33 (.cons (.var 0) (.cons (.var 1) (.nil))))) (.ret (.call 106 (.cons (.var 0) (.cons (.var 1) (.nil)))))) }
/-- 109 -/
def f_best_look : Fn :=
  { name := "best_look", io := false, np := 2, ns := ["house", "book", "found", "floor", "worst", "low", "high", "number"], body := .seq (.expr (.call 7 (.cons (.var 0) (.nil)))) (.seq (.expr (.call 33 (.cons (.var 0) (.cons (.var 1) (.nil))))) (.seq (.set 2 (.lst (.nil))) (.seq (.for_ (.tup (.cons (.nm 3) (.cons (.tup (.cons (.nm 5) (.cons (.nm 6) (.nil)))) (.nil)))) (.itEnum (.call 64 (.cons (.var 0) (.cons (.var 1) (.cons (.bi .len (.cons (.ixS 1 (.cst (.int 0))) (.nil))) (.nil)))))) (.seq (.set 4 (.bi .max1 (.cons (.comp (.call 107 (.cons (.var 0) (.cons (.var 1) (.cons (.var 3) (.cons (.var 7) (.nil)))))) (.nm 7) (.itRng (.var 5) (.bin .add (.var 6) (.cst (.int 1)))) (.cst (.bool true)) [7]) (.nil)))) (.app 2 (.tup (.cons (.var 4) (.cons (.var 3) (.nil))))))) (.ret (.bi .min1 (.cons (.var 2) (.nil))))))) }
/-- 110 -/
def f_tells : Fn :=
  { name := "tells", io := false, np := 3, ns := ["house", "book", "look", "low", "high"], body := .seq (.expr (.call 7 (.cons (.var 0) (.nil)))) (.seq (.expr (.call 33 (.cons (.var 0) (.cons (.var 1) (.nil))))) (.seq (.ife (.not (.call 105 (.cons (.var 0) (.cons (.var 1) (.cons (.var 2) (.nil)))))) (.raise ⟨8, none⟩) (.skip)) (.seq (.setT (.tup (.cons (.nm 3) (.cons (.nm 4) (.nil)))) (.ix (.call 64 (.cons (.var 0) (.cons (.var 1) (.cons (.ixS 2 (.cst (.int 0))) (.nil))))) (.ixS 2 (.cst (.int 1))))) (.seq (.ife (.not (.chain .le .le (.var 3) (.ixS 2 (.cst (.int 2))) (.var 4))) (.ret (.cst (.str "none"))) (.skip)) (.ret (.ife (.cmpS .eq 3 (.var 4)) (.cst (.str "nothing")) (.cst (.str "something")))))))) }
/-- 111 -/
def f_law_due_k08 : Fn :=
  { name := "_law_due", io := false, np := 1, ns := ["rows_so", "found", "at", "worst", "number", "spans_so", "row", "low", "high"], body := .seq (.set 1 (.lst (.nil))) (.seq (.for_ (.nm 2) (.itRng1 (.bi .len (.cons (.ixS 0 (.cst (.int 0))) (.nil)))) (.seq (.set 3 (.cst (.int 0))) (.seq (.for_ (.nm 4) (.itSeq (.bi .sortedSet (.cons (.comp (.ixS 6 (.var 2)) (.nm 6) (.itSeq (.var 0)) (.cst (.bool true)) [6]) (.nil)))) (.seq (.set 5 (.call 67 (.cons (.comp (.var 6) (.nm 6) (.itSeq (.var 0)) (.cmp .eq (.ixS 6 (.var 2)) (.var 4)) [6]) (.nil)))) (.set 3 (.bi .max1 (.cons (.bin .add (.lst (.cons (.var 3) (.nil))) (.comp (.bin .sub (.var 8) (.var 7)) (.tup (.cons (.nm 7) (.cons (.nm 8) (.nil)))) (.itSeq (.var 5)) (.cst (.bool true)) [7, 8])) (.nil)))))) (.app 1 (.tup (.cons (.var 3) (.cons (.var 2) (.nil)))))))) (.ret (.bi .min1 (.cons (.var 1) (.nil))))) }
/-- 112 -/
def f_law_good_k08 : Fn :=
  { name := "_law_good", io := false, np := 2, ns := ["house_so", "book_so", "rows_so", "told", "due", "known", "at", "floor_so", "look", "number", "found", "some", "word_so", "row", "low", "high"], body := .seq (.set 2 (.call 51 (.cons (.var 0) (.cons (.var 1) (.nil))))) (.seq (.set 3 (.lst (.cons (.ltry (.call 108 (.cons (.var 0) (.cons (.var 1) (.nil))))) (.nil)))) (.seq (.app 3 (.ltry (.call 109 (.cons (.var 0) (.cons (.var 1) (.nil)))))) (.seq (.set 4 (.lst (.cons (.cst (.str "none +")) (.cons (.cst (.str "none +")) (.nil))))) (.seq (.ife (.cmp .ne (.ixS 2 (.cst (.int 0))) (.lst (.nil))) (.seq (.set 4 (.lst (.cons (.tup (.cons (.cst (.str "told")) (.cons (.comp (.bin .sub (.var 15) (.var 14)) (.tup (.cons (.nm 14) (.cons (.nm 15) (.nil)))) (.itSeq (.call 67 (.cons (.ixS 2 (.neg (.cst (.int 1)))) (.nil)))) (.cst (.bool true)) [14, 15]) (.nil)))) (.nil)))) (.app 4 (.tup (.cons (.cst (.str "told")) (.cons (.call 111 (.cons (.ixS 2 (.neg (.cst (.int 1)))) (.nil))) (.nil)))))) (.skip)) (.seq (.ife (.cmpS .ne 3 (.var 4)) (.ret (.cst (.bool false))) (.skip)) (.seq (.set 5 (.comp (.slH (.var 8) (.cst (.int 2))) (.nm 8) (.itSeq (.ixS 1 (.cst (.int 1)))) (.cst (.bool true)) [8])) (.seq (.for_ (.nm 6) (.itRng1 (.bin .add (.bi .len (.cons (.ixS 1 (.cst (.int 0))) (.nil))) (.cst (.int 1)))) (.for_ (.nm 7) (.itRng1 (.bi .len (.cons (.ixS 0 (.cst (.int 0))) (.nil)))) (.for_ (.nm 9) (.itRng1 (.bin .add (.ix (.ixS 0 (.cst (.int 0))) (.var 7)) (.cst (.int 1)))) (.seq (.set 10 (.ltry (.call 110 (.cons (.var 0) (.cons (.var 1) (.cons (.tup (.cons (.var 6) (.cons (.var 7) (.cons (.var 9) (.nil))))) (.nil))))))) (.seq (.set 11 (.comp (.var 13) (.nm 13) (.itSeq (.ixS 2 (.var 6))) (.cmp .eq (.ixS 13 (.var 7)) (.var 9)) [13])) (.seq (.set 12 (.ife (.cmpS .eq 11 (.ixS 2 (.var 6))) (.cst (.str "nothing")) (.cst (.str "something")))) (.seq (.set 12 (.tup (.cons (.cst (.str "told")) (.cons (.ife (.cmpS .eq 11 (.lst (.nil))) (.cst (.str "none")) (.var 12)) (.nil))))) (.seq (.ife (.inS false (.tup (.cons (.var 6) (.cons (.var 7) (.nil)))) 5) (.set 12 (.cst (.str "look +"))) (.ife (.cmp .eq (.ixS 2 (.var 6)) (.lst (.nil))) (.set 12 (.cst (.str "none +"))) (.skip))) (.ife (.cmpS .ne 10 (.var 12)) (.ret (.cst (.bool false))) (.skip)))))))))) (.ret (.cst (.bool true)))))))))) }
/-- 113 -/
def f_law_k08 : Fn :=
  { name := "law", io := false, np := 1, ns := ["script", "cell", "full_so", "pair_so", "some", "deck", "turn", "call_so", "odd", "house_so", "one", "two", "a", "b", "c", "d", "e", "at"], body := .seq (.for_ (.nm 1) (.itSeq (.slH (.bin .add (.lst (.cons (.cst (.int 0)) (.nil))) (.var 0)) (.cst (.int 8)))) (.seq (.set 5 (.call 14 (.cons (.var 1) (.cons (.cst (.int 8)) (.nil))))) (.seq (.for_ (.nm 6) (.itRng1 (.cst (.int 3))) (.seq (.set 9 (.io 25 5 (.cons (.cst (.int 3)) (.cons (.cst (.int 3)) (.nil))))) (.ife (.not (.call 112 (.cons (.var 9) (.cons (.io 26 5 (.cons (.var 9) (.cons (.cst (.int 2)) (.nil)))) (.nil))))) (.ret (.cst (.bool false))) (.skip)))) (.seq (.setT (.tup (.cons (.nm 10) (.cons (.nm 11) (.nil)))) (.call 20 (.nil))) (.seq (.setT (.tup (.cons (.nm 12) (.cons (.nm 13) (.cons (.nm 14) (.cons (.nm 15) (.cons (.nm 16) (.nil))))))) (.call 21 (.nil))) (.seq (.forFn 7 [108, 109] (.seq (.ife (.cmp .ne (.ltry (.callV 7 [108, 109] (.cons (.tup (.nil)) (.cons (.cst .none) (.nil))))) (.cst (.str "house +"))) (.ret (.cst (.bool false))) (.skip)) (.ife (.cmp .ne (.ltry (.callV 7 [108, 109] (.cons (.var 10) (.cons (.var 14) (.nil))))) (.cst (.str "book +"))) (.ret (.cst (.bool false))) (.skip)))) (.for_ (.nm 8) (.itSeq (.lst (.cons (.cst .none) (.cons (.tup (.cons (.cst (.int 0)) (.cons (.cst (.int 0)) (.nil)))) (.cons (.tup (.cons (.cst (.int 0)) (.cons (.cst (.int 0)) (.cons (.cst (.int 5)) (.nil))))) (.cons (.tup (.cons (.cst (.int 2)) (.cons (.cst (.int 0)) (.cons (.cst (.int 0)) (.nil))))) (.cons (.tup (.cons (.cst (.int 0)) (.cons (.cst (.int 1)) (.cons (.cst (.int 0)) (.nil))))) (.cons (.tup (.cons (.cst (.bool true)) (.cons (.cst (.int 0)) (.cons (.cst (.int 0)) (.nil))))) (.cons (.lst (.cons (.cst (.int 1)) (.cons (.cst (.int 0)) (.cons (.cst (.int 0)) (.nil))))) (.cons (.tup (.cons (.cst (.int 0)) (.cons (.cst (.int 0)) (.cons (.neg (.cst (.int 1))) (.nil))))) (.nil))))))))))) (.ife (.cmp .ne (.ltry (.call 110 (.cons (.var 10) (.cons (.var 16) (.cons (.var 8) (.nil)))))) (.cst (.str "look +"))) (.ret (.cst (.bool false))) (.skip))))))))) (.seq (.ife (.or (.cmp .ne (.call 108 (.cons (.var 10) (.cons (.var 13) (.nil)))) (.lst (.cons (.cst (.int 1)) (.nil)))) (.or (.cmp .ne (.call 108 (.cons (.var 10) (.cons (.var 12) (.nil)))) (.lst (.cons (.cst (.int 0)) (.nil)))) (.cmp .ne (.call 108 (.cons (.var 11) (.cons (.var 14) (.nil)))) (.lst (.cons (.cst (.int 1)) (.cons (.cst (.int 1)) (.nil))))))) (.ret (.cst (.bool false))) (.skip)) (.seq (.ife (.or (.cmp .ne (.call 109 (.cons (.var 10) (.cons (.var 13) (.nil)))) (.tup (.cons (.cst (.int 0)) (.cons (.cst (.int 0)) (.nil))))) (.cmp .ne (.call 109 (.cons (.var 11) (.cons (.var 14) (.nil)))) (.tup (.cons (.cst (.int 1)) (.cons (.cst (.int 0)) (.nil)))))) (.ret (.cst (.bool false))) (.skip)) (.seq (.set 2 (.tup (.cons (.bin .mul (.tup (.cons (.tup (.cons (.cst (.int 0)) (.cons (.cst (.int 0)) (.nil)))) (.nil))) (.cst (.int 4))) (.cons (.bi .tuple (.cons (.comp (.tup (.cons (.var 17) (.cons (.cst (.int 0)) (.cons (.cst (.int 2)) (.nil))))) (.nm 17) (.itRng1 (.cst (.int 4))) (.cst (.bool true)) [17]) (.nil))) (.nil))))) (.seq (.ife (.cmp .ne (.ltry (.call 110 (.cons (.var 10) (.cons (.var 2) (.cons (.tup (.cons (.cst (.int 3)) (.cons (.cst (.int 0)) (.cons (.cst (.int 1)) (.nil))))) (.nil)))))) (.cst (.str "look +"))) (.ret (.cst (.bool false))) (.skip)) (.seq (.ife (.cmp .ne (.call 110 (.cons (.var 10) (.cons (.var 2) (.cons (.tup (.cons (.cst (.int 4)) (.cons (.cst (.int 0)) (.cons (.cst (.int 2)) (.nil))))) (.nil))))) (.cst (.str "nothing"))) (.ret (.cst (.bool false))) (.skip)) (.seq (.set 3 (.tup (.cons (.tup (.cons (.cst (.int 4)) (.cons (.cst (.int 2)) (.nil)))) (.cons (.tup (.cons (.tup (.cons (.cst (.int 0)) (.cons (.cst (.int 1)) (.cons (.cst (.int 0)) (.cons (.cst (.int 0)) (.nil)))))) (.nil))) (.nil))))) (.seq (.ife (.or (.cmp .ne (.call 109 (.cons (.var 3) (.cons (.tup (.cons (.tup (.cons (.tup (.cons (.cst (.int 0)) (.nil))) (.nil))) (.cons (.tup (.cons (.tup (.cons (.cst (.int 0)) (.cons (.cst (.int 0)) (.cons (.cst (.int 2)) (.nil))))) (.nil))) (.nil)))) (.nil)))) (.tup (.cons (.cst (.int 0)) (.cons (.cst (.int 1)) (.nil))))) (.cmp .ne (.call 109 (.cons (.var 3) (.cons (.tup (.cons (.tup (.nil)) (.cons (.tup (.nil)) (.nil)))) (.nil)))) (.tup (.cons (.cst (.int 2)) (.cons (.cst (.int 0)) (.nil)))))) (.ret (.cst (.bool false))) (.skip)) (.seq (.ife (.cmp .ne (.call 109 (.cons (.tup (.cons (.tup (.cons (.cst (.int 2)) (.cons (.cst (.int 2)) (.nil)))) (.cons (.tup (.cons (.tup (.cons (.cst (.int 0)) (.cons (.cst (.int 1)) (.cons (.cst (.int 1)) (.cons (.cst (.int 0)) (.nil)))))) (.nil))) (.nil)))) (.cons (.tup (.cons (.tup (.cons (.tup (.cons (.cst (.int 1)) (.nil))) (.nil))) (.cons (.tup (.cons (.tup (.cons (.cst (.int 0)) (.cons (.cst (.int 1)) (.cons (.cst (.int 0)) (.nil))))) (.nil))) (.nil)))) (.nil)))) (.tup (.cons (.cst (.int 1)) (.cons (.cst (.int 0)) (.nil))))) (.ret (.cst (.bool false))) (.skip)) (.seq (.set 4 (.lst (.cons (.call 110 (.cons (.var 10) (.cons (.var 13) (.cons (.tup (.cons (.cst (.int 0)) (.cons (.cst (.int 0)) (.cons (.cst (.int 0)) (.nil))))) (.nil))))) (.cons (.call 110 (.cons (.var 10) (.cons (.var 13) (.cons (.tup (.cons (.cst (.int 1)) (.cons (.cst (.int 0)) (.cons (.cst (.int 2)) (.nil))))) (.nil))))) (.cons (.call 110 (.cons (.var 10) (.cons (.var 12) (.cons (.tup (.cons (.cst (.int 1)) (.cons (.cst (.int 0)) (.cons (.cst (.int 4)) (.nil))))) (.nil))))) (.nil)))))) (.ret (.cmpS .eq 4 (.lst (.cons (.cst (.str "something")) (.cons (.cst (.str "none")) (.cons (.cst (.str "nothing")) (.nil)))))))))))))))) }
/-- 114 -/
def f_need_two : Fn :=
  { name := "need_two", io := false, np := 3, ns := ["house", "one", "other"], body := .seq (.expr (.call 7 (.cons (.var 0) (.nil)))) (.seq (.expr (.call 33 (.cons (.var 0) (.cons (.var 1) (.nil))))) (.seq (.expr (.call 33 (.cons (.var 0) (.cons (.var 2) (.nil))))) (.expr (.call 115 (.cons (.var 1) (.cons (.var 2) (.nil))))))) }
/-- 115 -/
def f_need_stretches : Fn :=
  { name := "need_stretches", io := false, np := 2, ns := ["one", "other"], body := .ife (.cmp .ne (.bi .len (.cons (.ixS 0 (.cst (.int 0))) (.nil))) (.bi .len (.cons (.ixS 1 (.cst (.int 0))) (.nil)))) (.raise ⟨11, none⟩) (.skip) }
/-- 116 -/
def f_parted : Fn :=
  { name := "parted", io := false, np := 3, ns := ["house", "one", "other", "moment", "here", "there", "floor", "mine", "yours"], body := .seq (.par 4 5 (.cmp .is (.ix (.call 40 (.cons (.call 35 (.cons (.var 0) (.cons (.var 1) (.nil)))) (.nil))) (.cst (.int 0))) (.cst .none)) (.cmp .is (.ix (.call 40 (.cons (.call 35 (.cons (.var 0) (.cons (.var 2) (.nil)))) (.nil))) (.cst (.int 0))) (.cst .none))) (.seq (.ife (.or (.var 4) (.var 5)) (.ret (.ife (.and (.var 4) (.var 5)) (.cst .none) (.tup (.cons (.cst (.int 0)) (.cons (.cst (.int 0)) (.nil)))))) (.skip)) (.seq (.for_ (.nm 3) (.itRng1 (.bin .add (.bi .len (.cons (.ixS 1 (.cst (.int 0))) (.nil))) (.cst (.int 1)))) (.seq (.par 7 8 (.call 64 (.cons (.var 0) (.cons (.var 1) (.cons (.var 3) (.nil))))) (.call 64 (.cons (.var 0) (.cons (.var 2) (.cons (.var 3) (.nil)))))) (.for_ (.nm 6) (.itRng1 (.bi .len (.cons (.ixS 0 (.cst (.int 0))) (.nil)))) (.ife (.cmp .ne (.ixS 7 (.var 6)) (.ixS 8 (.var 6))) (.ret (.tup (.cons (.var 3) (.cons (.var 6) (.nil))))) (.skip))))) (.ret (.cst .none)))) }
/-- 117 -/
def f_alike : Fn :=
  { name := "alike", io := false, np := 3, ns := ["house", "one", "other"], body := .seq (.expr (.call 114 (.cons (.var 0) (.cons (.var 1) (.cons (.var 2) (.nil)))))) (.ret (.cmp .is (.call 116 (.cons (.var 0) (.cons (.var 1) (.cons (.var 2) (.nil))))) (.cst .none))) }
/-- 118 -/
def f_parting : Fn :=
  { name := "parting", io := false, np := 3, ns := ["house", "one", "other"], body := .seq (.expr (.call 114 (.cons (.var 0) (.cons (.var 1) (.cons (.var 2) (.nil)))))) (.ret (.call 116 (.cons (.var 0) (.cons (.var 1) (.cons (.var 2) (.nil)))))) }
/-- 119 -/
def f_law_near : Fn :=
  { name := "_law_near", io := true, np := 3, ns := ["deck", "house_so", "book_so", "way", "at", "number", "counts_so", "looks_so", "row", "look"], body := .seq (.setT (.tup (.cons (.nm 6) (.cons (.nm 7) (.nil)))) (.var 2)) (.seq (.set 3 (.io 15 0 (.cons (.cst (.int 4)) (.nil)))) (.seq (.ife (.and (.cmpS .eq 3 (.cst (.int 0))) (.cmpS .ne 7 (.tup (.nil)))) (.ret (.tup (.cons (.var 6) (.cons (.slL (.var 7) (.cst (.int 1))) (.nil))))) (.skip)) (.seq (.ife (.and (.cmpS .eq 3 (.cst (.int 1))) (.cmpS .ne 6 (.tup (.nil)))) (.seq (.set 8 (.bi .list (.cons (.ixS 6 (.cst (.int 0))) (.nil)))) (.seq (.set 4 (.io 15 0 (.cons (.lenS 8) (.nil)))) (.seq (.setIx 8 (.var 4) (.bi .max2 (.cons (.cst (.int 0)) (.cons (.bin .add (.ixS 8 (.var 4)) (.io 17 0 (.cons (.lst (.cons (.neg (.cst (.int 1))) (.cons (.cst (.int 1)) (.nil)))) (.nil)))) (.nil))))) (.ret (.tup (.cons (.bin .add (.tup (.cons (.bi .tuple (.cons (.var 8) (.nil))) (.nil))) (.slL (.var 6) (.cst (.int 1)))) (.cons (.var 7) (.nil)))))))) (.skip)) (.seq (.set 4 (.tup (.cons (.io 15 0 (.cons (.bin .add (.lenS 6) (.cst (.int 1))) (.nil))) (.cons (.io 15 0 (.cons (.bi .len (.cons (.ixS 1 (.cst (.int 0))) (.nil))) (.nil))) (.nil))))) (.seq (.ife (.cmp .inn (.var 4) (.comp (.slH (.var 9) (.cst (.int 2))) (.nm 9) (.itSeq (.var 7)) (.cst (.bool true)) [9])) (.ret (.take 2)) (.skip)) (.seq (.set 5 (.io 15 0 (.cons (.bin .add (.ix (.ixS 1 (.cst (.int 0))) (.ixS 4 (.cst (.int 1)))) (.cst (.int 1))) (.nil)))) (.ret (.tup (.cons (.var 6) (.cons (.bi .tuple (.cons (.bi .sorted (.cons (.bin .add (.bi .list (.cons (.var 7) (.nil))) (.lst (.cons (.bin .add (.var 4) (.tup (.cons (.var 5) (.nil)))) (.nil)))) (.nil))) (.nil))) (.nil))))))))))) }
/-- 120 -/
def f_law_due_k09 : Fn :=
  { name := "_law_due", io := false, np := 3, ns := ["house_so", "one", "other", "at", "here", "there", "floor_so"], body := .seq (.par 4 5 (.call 46 (.cons (.var 0) (.cons (.var 1) (.nil)))) (.call 46 (.cons (.var 0) (.cons (.var 2) (.nil))))) (.seq (.ife (.or (.not (.var 4)) (.not (.var 5))) (.ret (.ife (.cmpS .eq 4 (.var 5)) (.cst .none) (.tup (.cons (.cst (.int 0)) (.cons (.cst (.int 0)) (.nil)))))) (.skip)) (.seq (.for_ (.nm 3) (.itRng1 (.bin .add (.bi .len (.cons (.ixS 1 (.cst (.int 0))) (.nil))) (.cst (.int 1)))) (.for_ (.nm 6) (.itRng1 (.bi .len (.cons (.ixS 0 (.cst (.int 0))) (.nil)))) (.ife (.cmp .ne (.call 65 (.cons (.var 0) (.cons (.var 1) (.cons (.var 3) (.cons (.var 6) (.nil)))))) (.call 65 (.cons (.var 0) (.cons (.var 2) (.cons (.var 3) (.cons (.var 6) (.nil))))))) (.ret (.tup (.cons (.var 3) (.cons (.var 6) (.nil))))) (.skip)))) (.ret (.cst .none)))) }
/-- 121 -/
def f_law_written_k09 : Fn :=
  { name := "_law_written", io := false, np := 0, ns := ["one", "two", "a", "b", "c", "d", "e", "bare", "held"], body := .seq (.setT (.tup (.cons (.nm 0) (.cons (.nm 1) (.nil)))) (.call 20 (.nil))) (.seq (.setT (.tup (.cons (.nm 2) (.cons (.nm 3) (.cons (.nm 4) (.cons (.nm 5) (.cons (.nm 6) (.nil))))))) (.call 21 (.nil))) (.seq (.ife (.not (.call 117 (.cons (.var 0) (.cons (.var 2) (.cons (.var 2) (.nil)))))) (.ret (.cst (.bool false))) (.skip)) (.seq (.ife (.call 117 (.cons (.var 0) (.cons (.var 2) (.cons (.var 3) (.nil))))) (.ret (.cst (.bool false))) (.skip)) (.seq (.ife (.cmp .ne (.call 118 (.cons (.var 0) (.cons (.var 2) (.cons (.var 3) (.nil))))) (.tup (.cons (.cst (.int 0)) (.cons (.cst (.int 0)) (.nil))))) (.ret (.cst (.bool false))) (.skip)) (.seq (.ife (.cmp .ne (.call 118 (.cons (.var 0) (.cons (.var 2) (.cons (.var 6) (.nil))))) (.tup (.cons (.cst (.int 0)) (.cons (.cst (.int 0)) (.nil))))) (.ret (.cst (.bool false))) (.skip)) (.seq (.ife (.or (.not (.call 117 (.cons (.var 0) (.cons (.var 2) (.cons (.tup (.cons (.tup (.cons (.tup (.cons (.cst (.int 5)) (.cons (.cst (.int 2)) (.nil)))) (.nil))) (.cons (.tup (.cons (.tup (.cons (.cst (.int 0)) (.cons (.cst (.int 0)) (.cons (.cst (.int 1)) (.nil))))) (.cons (.tup (.cons (.cst (.int 1)) (.cons (.cst (.int 0)) (.cons (.cst (.int 4)) (.nil))))) (.nil)))) (.nil)))) (.nil)))))) (.not (.call 117 (.cons (.var 0) (.cons (.var 6) (.cons (.var 6) (.nil))))))) (.ret (.cst (.bool false))) (.skip)) (.seq (.setT (.tup (.cons (.nm 7) (.cons (.nm 8) (.nil)))) (.tup (.cons (.tup (.cons (.tup (.cons (.tup (.cons (.cst (.int 0)) (.cons (.cst (.int 0)) (.nil)))) (.nil))) (.cons (.tup (.nil)) (.nil)))) (.cons (.tup (.cons (.tup (.cons (.tup (.cons (.cst (.int 1)) (.cons (.cst (.int 0)) (.nil)))) (.nil))) (.cons (.tup (.nil)) (.nil)))) (.nil))))) (.seq (.ife (.cmp .ne (.call 118 (.cons (.var 0) (.cons (.var 7) (.cons (.var 8) (.nil))))) (.tup (.cons (.cst (.int 0)) (.cons (.cst (.int 0)) (.nil))))) (.ret (.cst (.bool false))) (.skip)) (.seq (.ife (.cmp .ne (.call 118 (.cons (.var 0) (.cons (.tup (.cons (.tup (.cons (.tup (.cons (.cst (.int 0)) (.cons (.cst (.int 0)) (.nil)))) (.nil))) (.cons (.tup (.cons (.tup (.cons (.cst (.int 0)) (.cons (.cst (.int 0)) (.cons (.cst (.int 1)) (.nil))))) (.nil))) (.nil)))) (.cons (.tup (.cons (.tup (.cons (.tup (.cons (.cst (.int 2)) (.cons (.cst (.int 0)) (.nil)))) (.nil))) (.cons (.tup (.cons (.tup (.cons (.cst (.int 0)) (.cons (.cst (.int 0)) (.cons (.cst (.int 1)) (.nil))))) (.nil))) (.nil)))) (.nil))))) (.tup (.cons (.cst (.int 1)) (.cons (.cst (.int 0)) (.nil))))) (.ret (.cst (.bool false))) (.skip)) (.seq (.ife (.cmp .ne (.call 118 (.cons (.var 0) (.cons (.tup (.cons (.tup (.nil)) (.cons (.tup (.nil)) (.nil)))) (.cons (.tup (.cons (.tup (.nil)) (.cons (.tup (.cons (.tup (.cons (.cst (.int 0)) (.cons (.cst (.int 0)) (.cons (.cst (.int 0)) (.nil))))) (.nil))) (.nil)))) (.nil))))) (.tup (.cons (.cst (.int 0)) (.cons (.cst (.int 0)) (.nil))))) (.ret (.cst (.bool false))) (.skip)) (.ret (.cmp .eq (.call 118 (.cons (.var 0) (.cons (.var 3) (.cons (.tup (.cons (.tup (.cons (.tup (.cons (.cst (.int 5)) (.cons (.cst (.int 2)) (.nil)))) (.nil))) (.cons (.tup (.cons (.tup (.cons (.cst (.int 1)) (.cons (.cst (.int 0)) (.cons (.cst (.int 3)) (.nil))))) (.nil))) (.nil)))) (.nil))))) (.tup (.cons (.cst (.int 0)) (.cons (.cst (.int 0)) (.nil)))))))))))))))) }
/-- 122 -/
def f_law_k09 : Fn :=
  { name := "law", io := false, np := 1, ns := ["script", "cell", "deck", "turn", "call_so", "house_so", "mine", "yours", "one", "two", "a", "b", "c", "d", "e", "due", "told"], body := .seq (.for_ (.nm 1) (.itSeq (.slH (.bin .add (.lst (.cons (.cst (.int 0)) (.nil))) (.var 0)) (.cst (.int 8)))) (.seq (.set 2 (.call 14 (.cons (.var 1) (.cons (.cst (.int 9)) (.nil))))) (.seq (.for_ (.nm 3) (.itRng1 (.cst (.int 4))) (.seq (.set 5 (.io 25 2 (.cons (.cst (.int 3)) (.cons (.cst (.int 3)) (.nil))))) (.seq (.set 6 (.io 26 2 (.cons (.var 5) (.cons (.cst (.int 3)) (.nil))))) (.for_ (.nm 7) (.itSeq (.lst (.cons (.var 6) (.cons (.io 119 2 (.cons (.var 5) (.cons (.var 6) (.nil)))) (.nil))))) (.seq (.set 15 (.call 120 (.cons (.var 5) (.cons (.var 6) (.cons (.var 7) (.nil)))))) (.seq (.set 16 (.lst (.cons (.call 117 (.cons (.var 5) (.cons (.var 6) (.cons (.var 7) (.nil))))) (.cons (.call 118 (.cons (.var 5) (.cons (.var 6) (.cons (.var 7) (.nil))))) (.nil))))) (.seq (.app 16 (.call 118 (.cons (.var 5) (.cons (.var 7) (.cons (.var 6) (.nil)))))) (.ife (.not (.call 19 (.cons (.var 16) (.cons (.lst (.cons (.cmp .is (.var 15) (.cst .none)) (.cons (.var 15) (.cons (.var 15) (.nil))))) (.nil))))) (.ret (.cst (.bool false))) (.skip))))))))) (.seq (.setT (.tup (.cons (.nm 8) (.cons (.nm 9) (.nil)))) (.call 20 (.nil))) (.seq (.setT (.tup (.cons (.nm 10) (.cons (.nm 11) (.cons (.nm 12) (.cons (.nm 13) (.cons (.nm 14) (.nil))))))) (.call 21 (.nil))) (.forFn 4 [117, 118] (.seq (.ife (.cmp .ne (.ltry (.callV 4 [117, 118] (.cons (.tup (.nil)) (.cons (.cst .none) (.cons (.cst .none) (.nil)))))) (.cst (.str "house +"))) (.ret (.cst (.bool false))) (.skip)) (.seq (.ife (.cmp .ne (.ltry (.callV 4 [117, 118] (.cons (.var 8) (.cons (.var 12) (.cons (.cst .none) (.nil)))))) (.cst (.str "book +"))) (.ret (.cst (.bool false))) (.skip)) (.seq (.ife (.cmp .ne (.ltry (.callV 4 [117, 118] (.cons (.var 8) (.cons (.var 10) (.cons (.var 12) (.nil)))))) (.cst (.str "book +"))) (.ret (.cst (.bool false))) (.skip)) (.ife (.cmp .ne (.ltry (.callV 4 [117, 118] (.cons (.var 8) (.cons (.var 10) (.cons (.tup (.cons (.tup (.nil)) (.cons (.tup (.nil)) (.nil)))) (.nil)))))) (.cst (.str "unlike +"))) (.ret (.cst (.bool false))) (.skip))))))))))) (.ret (.call 121 (.nil))) }
/-- 123 -/
def f_wall : Fn :=
  { name := "_wall", io := false, np := 1, ns := ["k"], body := .while_ 100000 (.cst (.bool true)) (.skip) }
/-- 124 -/
def f_line_of : Fn :=
  { name := "line_of", io := false, np := 2, ns := ["word", "row", "number"], body := .ret (.join " " (.bin .add (.lst (.cons (.var 0) (.nil))) (.comp (.bi .str (.cons (.var 2) (.nil))) (.nm 2) (.itSeq (.var 1)) (.cst (.bool true)) [2]))) }
/-- 125 -/
def f_lines_of : Fn :=
  { name := "lines_of", io := false, np := 2, ns := ["house", "book", "found", "gate", "look", "counts"], body := .seq (.set 2 (.bin .add (.lst (.cons (.call 124 (.cons (.cst (.str "rooms")) (.cons (.ixS 0 (.cst (.int 0))) (.nil)))) (.nil))) (.comp (.call 124 (.cons (.cst (.str "gate")) (.cons (.var 3) (.nil)))) (.nm 3) (.itSeq (.ixS 0 (.cst (.int 1)))) (.cst (.bool true)) [3]))) (.ret (.bin .add (.bin .add (.var 2) (.comp (.call 124 (.cons (.cst (.str "counts")) (.cons (.var 5) (.nil)))) (.nm 5) (.itSeq (.ixS 1 (.cst (.int 0)))) (.cst (.bool true)) [5])) (.comp (.call 124 (.cons (.cst (.str "look")) (.cons (.var 4) (.nil)))) (.nm 4) (.itSeq (.ixS 1 (.cst (.int 1)))) (.cst (.bool true)) [4]))) }
/-- 126 -/
def f_integer_in : Fn :=
  { name := "integer_in", io := false, np := 1, ns := ["word", "sign"], body := .seq (.ife (.cmpS .eq 0 (.cst (.str "-1"))) (.ret (.neg (.cst (.int 1)))) (.skip)) (.seq (.ife (.or (.cmpS .eq 0 (.cst (.str ""))) (.or (.cmp .gt (.lenS 0) (.cst (.int 2))) (.not (.bi .all (.cons (.comp (.cmp .inn (.var 1) (.cst (.str "0123456789"))) (.nm 1) (.itSeq (.var 0)) (.cst (.bool true)) [1]) (.nil)))))) (.ret (.cst .none)) (.skip)) (.ret (.bi .int (.cons (.var 0) (.nil))))) }
-- 127 both_in (k10): name WORDS
/-- 128 -/
def f_book_text : Fn :=
  { name := "book_text", io := false, np := 2, ns := ["house", "book"], body := .seq (.expr (.call 7 (.cons (.var 0) (.nil)))) (.seq (.expr (.call 33 (.cons (.var 0) (.cons (.var 1) (.nil))))) (.ret (.join "\n" (.call 125 (.cons (.var 0) (.cons (.var 1) (.nil))))))) }
/-- 129 -/
def f_read_book : Fn :=
  { name := "read_book", io := false, np := 1, ns := ["value"], body := .ret (.call 127 (.cons (.var 0) (.nil))) }
/-- 130 -/
def f_law_writing : Fn :=
  { name := "_law_writing", io := false, np := 2, ns := ["house_so", "book_so", "found", "gate_so", "counts_so", "look", "row", "one"], body := .seq (.set 2 (.bin .add (.lst (.cons (.bin .add (.lst (.cons (.cst (.str "rooms")) (.nil))) (.bi .list (.cons (.ixS 0 (.cst (.int 0))) (.nil)))) (.nil))) (.comp (.bin .add (.lst (.cons (.cst (.str "gate")) (.nil))) (.bi .list (.cons (.var 3) (.nil)))) (.nm 3) (.itSeq (.ixS 0 (.cst (.int 1)))) (.cst (.bool true)) [3]))) (.seq (.set 2 (.bin .add (.var 2) (.comp (.bin .add (.lst (.cons (.cst (.str "counts")) (.nil))) (.bi .list (.cons (.var 4) (.nil)))) (.nm 4) (.itSeq (.ixS 1 (.cst (.int 0)))) (.cst (.bool true)) [4]))) (.seq (.set 2 (.bin .add (.var 2) (.comp (.bin .add (.lst (.cons (.cst (.str "look")) (.nil))) (.bi .list (.cons (.var 5) (.nil)))) (.nm 5) (.itSeq (.ixS 1 (.cst (.int 1)))) (.cst (.bool true)) [5]))) (.ret (.join "\n" (.comp (.join " " (.comp (.bi .str (.cons (.var 7) (.nil))) (.nm 7) (.itSeq (.var 6)) (.cst (.bool true)) [7])) (.nm 6) (.itSeq (.var 2)) (.cst (.bool true)) [6]))))) }
/-- 131 -/
def f_law_bent : Fn :=
  { name := "_law_bent", io := true, np := 2, ns := ["deck", "text", "some", "at", "lines_so", "row", "way"], body := .seq (.par 3 4 (.io 15 0 (.cons (.bin .add (.lenS 1) (.cst (.int 1))) (.nil))) (.split (.var 1) "\n")) (.seq (.par 5 6 (.io 15 0 (.cons (.lenS 4) (.nil))) (.io 15 0 (.cons (.cst (.int 6)) (.nil)))) (.seq (.ife (.cmpS .eq 6 (.cst (.int 0))) (.ret (.bin .add (.bin .add (.slH (.var 1) (.var 3)) (.io 17 0 (.cons (.lst (.cons (.cst (.str " ")) (.cons (.cst (.str "-")) (.cons (.cst (.str "0")) (.cons (.cst (.str "5")) (.cons (.cst (.str "\n")) (.cons (.cst (.str "9")) (.cons (.cst (.str "g")) (.cons (.cst (.str "1")) (.cons (.cst (.str "-1")) (.nil))))))))))) (.nil)))) (.slL (.var 1) (.var 3)))) (.skip)) (.seq (.ife (.cmpS .eq 6 (.cst (.int 1))) (.ret (.bin .add (.slH (.var 1) (.var 3)) (.slL (.var 1) (.bin .add (.var 3) (.cst (.int 1)))))) (.skip)) (.seq (.ife (.cmpS .eq 6 (.cst (.int 2))) (.ret (.join "\n" (.bin .add (.slH (.var 4) (.var 5)) (.slL (.var 4) (.bin .add (.var 5) (.cst (.int 1))))))) (.skip)) (.seq (.ife (.cmpS .eq 6 (.cst (.int 3))) (.ret (.join "\n" (.bin .add (.bin .add (.slH (.var 4) (.var 5)) (.bin .mul (.lst (.cons (.ixS 4 (.var 5)) (.nil))) (.cst (.int 2)))) (.slL (.var 4) (.var 5))))) (.skip)) (.seq (.ife (.cmpS .eq 6 (.cst (.int 4))) (.ret (.join "\n" (.bin .add (.slL (.var 4) (.var 5)) (.slH (.var 4) (.var 5))))) (.skip)) (.seq (.set 2 (.lst (.cons (.cst (.str "rooms 4 4")) (.cons (.cst (.str "rooms 041")) (.cons (.cst (.str "gate 0 -1 0 0")) (.cons (.cst (.str "gate -1 0 00 0")) (.nil))))))) (.seq (.set 2 (.bin .add (.var 2) (.lst (.cons (.cst (.str "counts 1 1")) (.cons (.cst (.str "look 0 0 0")) (.cons (.cst (.str "look 0 0")) (.cons (.cst (.str "")) (.nil)))))))) (.ret (.join "\n" (.bin .add (.bin .add (.slH (.var 4) (.var 5)) (.lst (.cons (.io 17 0 (.cons (.var 2) (.nil))) (.nil)))) (.slL (.var 4) (.bin .add (.var 5) (.cst (.int 1))))))))))))))) }
-- 132 _law_written (k10): method read
-- 133 law (k10): call Log
-- 134 _law_shows (k11): call bool
-- 135 _law_made (k11): expression (one + value_so).book
/-- 136 -/
def f_law_due_k11 : Fn :=
  { name := "_law_due", io := false, np := 4, ns := ["call_so", "house_so", "book_so", "value_so", "counts_so", "looks_so", "found", "look"], body := .seq (.setT (.tup (.cons (.nm 4) (.cons (.nm 5) (.nil)))) (.var 2)) (.seq (.ife (.cmpS .eq 0 (.cst (.int 2))) (.set 6 (.tup (.cons (.bin .add (.var 4) (.tup (.cons (.var 3) (.nil)))) (.cons (.var 5) (.nil))))) (.ife (.cmpS .eq 0 (.cst (.int 1))) (.seq (.ife (.or (.not (.call 138 (.cons (.var 1) (.cons (.var 2) (.cons (.var 3) (.nil)))))) (.inS true (.var 3) 5)) (.ret (.cst (.str "look +"))) (.skip)) (.set 6 (.tup (.cons (.var 4) (.cons (.bi .tuple (.cons (.comp (.var 7) (.nm 7) (.itSeq (.var 5)) (.cmpS .ne 7 (.var 3)) [7]) (.nil))) (.nil)))))) (.ife (.call 138 (.cons (.var 1) (.cons (.var 2) (.cons (.var 3) (.nil))))) (.set 6 (.tup (.cons (.var 4) (.cons (.bi .tuple (.cons (.bi .sorted (.cons (.bin .add (.bi .list (.cons (.var 5) (.nil))) (.lst (.cons (.var 3) (.nil)))) (.nil))) (.nil))) (.nil))))) (.ret (.cst (.str "book +")))))) (.ret (.ife (.call 12 (.cons (.var 1) (.cons (.var 6) (.nil)))) (.tup (.cons (.cst (.str "told")) (.cons (.var 6) (.nil)))) (.cst (.str "book +"))))) }
-- 137 _law_all_made (k11): call Log
/-- 138 -/
def f_law_is_look : Fn :=
  { name := "_law_is_look", io := false, np := 3, ns := ["house_so", "book_so", "value_so"], body := .ret (.and (.isi .tuple (.var 2)) (.call 12 (.cons (.var 0) (.cons (.tup (.cons (.ixS 1 (.cst (.int 0))) (.cons (.tup (.cons (.var 2) (.nil))) (.nil)))) (.nil))))) }
-- 139 _law_written (k11): call Log
-- 140 law (k11): call Log
/-- 141 -/
def f_is_step : Fn :=
  { name := "is_step", io := false, np := 2, ns := ["house", "value"], body := .seq (.ife (.isi .list (.var 1)) (.seq (.ife (.or (.cmp .ne (.lenS 1) (.cst (.int 2))) (.not (.call 0 (.cons (.ixS 1 (.cst (.int 0))) (.cons (.cst (.int 0)) (.cons (.bin .sub (.bi .len (.cons (.ixS 0 (.cst (.int 0))) (.nil))) (.cst (.int 1))) (.nil))))))) (.ret (.cst (.bool false))) (.skip)) (.ret (.call 0 (.cons (.ixS 1 (.cst (.int 1))) (.cons (.cst (.int 0)) (.cons (.ix (.ixS 0 (.cst (.int 0))) (.ixS 1 (.cst (.int 0)))) (.nil))))))) (.skip)) (.ret (.call 4 (.cons (.var 0) (.cons (.var 1) (.nil))))) }
/-- 142 -/
def f_law_told : Fn :=
  { name := "_law_told", io := false, np := 2, ns := ["house_so", "book_so", "last", "floor_so"], body := .seq (.set 2 (.bi .len (.cons (.ixS 1 (.cst (.int 0))) (.nil)))) (.ret (.comp (.call 65 (.cons (.var 0) (.cons (.var 1) (.cons (.var 2) (.cons (.var 3) (.nil)))))) (.nm 3) (.itRng1 (.bi .len (.cons (.ixS 0 (.cst (.int 0))) (.nil)))) (.cst (.bool true)) [3])) }
-- 143 _law_shows (k12): expression thing.book
-- 144 _law_grown (k12): statement thing += steps_so
-- 145 _law_odd (k12): method note
/-- 146 -/
def f_law_stepped : Fn :=
  { name := "_law_stepped", io := false, np := 3, ns := ["house_so", "book_so", "step_so", "counts_so", "looks_so", "look", "later", "other"], body := .seq (.setT (.tup (.cons (.nm 3) (.cons (.nm 4) (.nil)))) (.var 1)) (.seq (.ife (.isi .list (.var 2)) (.seq (.set 5 (.tup (.cons (.lenS 3) (.cons (.ixS 2 (.cst (.int 0))) (.cons (.ixS 2 (.cst (.int 1))) (.nil)))))) (.seq (.ife (.cmp .inn (.slH (.var 5) (.cst (.int 2))) (.comp (.slH (.var 7) (.cst (.int 2))) (.nm 7) (.itSeq (.var 4)) (.cst (.bool true)) [7])) (.ret (.cst (.str "look +"))) (.skip)) (.set 6 (.tup (.cons (.var 3) (.cons (.bi .tuple (.cons (.bi .sorted (.cons (.bin .add (.bi .list (.cons (.var 4) (.nil))) (.lst (.cons (.var 5) (.nil)))) (.nil))) (.nil))) (.nil))))))) (.set 6 (.tup (.cons (.bin .add (.var 3) (.tup (.cons (.var 2) (.nil)))) (.cons (.var 4) (.nil)))))) (.seq (.ife (.cmp .eq (.ix (.call 51 (.cons (.var 0) (.cons (.var 6) (.nil)))) (.cst (.int 0))) (.lst (.nil))) (.ret (.cst (.str "none +"))) (.skip)) (.seq (.ife (.cmp .gt (.bi .len (.cons (.ixS 6 (.cst (.int 0))) (.nil))) (.cst (.int 4))) (.ret (.tup (.cons (.cst (.str "many +")) (.cons (.cst (.int 4)) (.nil))))) (.skip)) (.ret (.ife (.cmp .lt (.bi .len (.cons (.ixS 6 (.cst (.int 1))) (.nil))) (.cst (.int 9))) (.var 6) (.tup (.cons (.cst (.str "many +")) (.cons (.cst (.int 8)) (.nil))))))))) }
-- 147 _law_call (k12): method undo
-- 148 _law_written (k12): call Desk
-- 149 law (k12): call Desk
-- 150 _law_look (k13): call bool
-- 151 _law_led_on (k13): method note
-- 152 _law_word_of (k13): statement try:
-- 153 law (k13): call Desk
-- 154 _law_asked (k14): name book_text
/-- 155 -/
def f_law_odd_of : Fn :=
  { name := "_law_odd_of", io := true, np := 2, ns := ["deck", "sort"], body := .seq (.ife (.cmpS .eq 1 (.cst (.str "h"))) (.ret (.io 17 0 (.cons (.lst (.cons (.cst .none) (.cons (.tup (.nil)) (.cons (.tup (.cons (.tup (.cons (.cst (.int 0)) (.nil))) (.cons (.tup (.nil)) (.nil)))) (.cons (.tup (.cons (.tup (.cons (.cst (.int 4)) (.nil))) (.cons (.tup (.cons (.tup (.cons (.cst (.int 0)) (.cons (.cst (.int 0)) (.cons (.cst (.int 0)) (.cons (.cst (.int 0)) (.nil)))))) (.nil))) (.nil)))) (.cons (.cst (.int 7)) (.cons (.cst (.str "rooms 4")) (.nil)))))))) (.nil)))) (.skip)) (.seq (.ife (.cmpS .eq 1 (.cst (.str "b"))) (.ret (.io 17 0 (.cons (.lst (.cons (.cst .none) (.cons (.tup (.nil)) (.cons (.tup (.cons (.tup (.cons (.tup (.cons (.cst (.int 5)) (.nil))) (.nil))) (.cons (.tup (.nil)) (.nil)))) (.cons (.tup (.cons (.tup (.cons (.tup (.cons (.cst (.int 5)) (.cons (.cst (.int 2)) (.nil)))) (.nil))) (.cons (.tup (.cons (.tup (.cons (.cst (.int 2)) (.cons (.cst (.int 0)) (.cons (.cst (.int 0)) (.nil))))) (.nil))) (.nil)))) (.cons (.lst (.cons (.tup (.nil)) (.cons (.tup (.nil)) (.nil)))) (.cons (.cst (.int 5)) (.nil)))))))) (.nil)))) (.skip)) (.seq (.ife (.cmpS .eq 1 (.cst (.str "m"))) (.ret (.io 17 0 (.cons (.lst (.cons (.cst .none) (.cons (.neg (.cst (.int 1))) (.cons (.cst (.int 2)) (.cons (.cst (.bool true)) (.cons (.cst (.str "0")) (.nil))))))) (.nil)))) (.skip)) (.seq (.ife (.cmpS .eq 1 (.cst (.str "s"))) (.ret (.io 17 0 (.cons (.lst (.cons (.cst .none) (.cons (.neg (.cst (.int 1))) (.cons (.cst (.int 1)) (.cons (.cst (.bool true)) (.cons (.tup (.cons (.cst (.int 0)) (.nil))) (.nil))))))) (.nil)))) (.skip)) (.seq (.ife (.cmpS .eq 1 (.cst (.str "n"))) (.ret (.io 17 0 (.cons (.lst (.cons (.cst .none) (.cons (.neg (.cst (.int 1))) (.cons (.cst (.int 100)) (.cons (.cst (.bool true)) (.cons (.cst (.str "3")) (.nil))))))) (.nil)))) (.skip)) (.ret (.io 17 0 (.cons (.lst (.cons (.cst .none) (.cons (.neg (.cst (.int 1))) (.cons (.cst (.int 3)) (.cons (.cst (.bool true)) (.cons (.cst (.str "0")) (.cons (.tup (.cons (.cst (.int 0)) (.nil))) (.nil)))))))) (.nil)))))))) }
-- 156 _law_classes (k14): call InvalidFloor
/-- 157 -/
def f_law_k14 : Fn :=
  { name := "law", io := false, np := 1, ns := ["script", "sorts", "due_of", "good", "cell", "one", "two", "a", "b", "c", "d", "e", "deck", "call_so", "sort", "which", "rare", "some", "due", "bad", "found"], body := .seq (.setT (.tup (.cons (.nm 5) (.cons (.nm 6) (.nil)))) (.call 20 (.nil))) (.seq (.setT (.tup (.cons (.nm 7) (.cons (.nm 8) (.cons (.nm 9) (.cons (.nm 10) (.cons (.nm 11) (.nil))))))) (.call 21 (.nil))) (.seq (.set 1 (.lst (.cons (.cst (.str "hb")) (.cons (.cst (.str "hbmf")) (.cons (.cst (.str "hbsg")) (.cons (.cst (.str "hbf")) (.cons (.cst (.str "hbmfn")) (.cons (.cst (.str "hgn")) (.cons (.cst (.str "hbb")) (.cons (.cst (.str "hbx")) (.nil))))))))))) (.seq (.set 2 (.disp (.pair (.cst (.str "h")) (.cst (.str "house +")) (.pair (.cst (.str "b")) (.cst (.str "book +")) (.pair (.cst (.str "m")) (.cst (.str "moment +")) (.pair (.cst (.str "s")) (.cst (.str "moment +")) (.pair (.cst (.str "f")) (.cst (.str "floor +")) (.nil)))))))) (.seq (.setIx 2 (.cst (.str "g")) (.cst (.str "gate +"))) (.seq (.setIx 2 (.cst (.str "n")) (.cst (.str "number +"))) (.seq (.set 3 (.disp (.pair (.cst (.str "h")) (.var 5) (.pair (.cst (.str "b")) (.var 8) (.pair (.cst (.str "m")) (.cst (.int 1)) (.pair (.cst (.str "s")) (.cst (.int 0)) (.pair (.cst (.str "f")) (.cst (.int 0)) (.pair (.cst (.str "g")) (.cst (.int 1)) (.pair (.cst (.str "n")) (.cst (.int 3)) (.pair (.cst (.str "x")) (.cst .none) (.nil))))))))))) (.seq (.for_ (.nm 4) (.itSeq (.slH (.bin .add (.lst (.cons (.cst (.int 0)) (.nil))) (.var 0)) (.cst (.int 10)))) (.seq (.set 12 (.call 14 (.cons (.var 4) (.cons (.cst (.int 14)) (.nil))))) (.for_ (.nm 13) (.itRng1 (.cst (.int 8))) (.seq (.setT (.tup (.cons (.nm 16) (.cons (.nm 17) (.cons (.nm 18) (.nil))))) (.tup (.cons (.io 15 12 (.cons (.cst (.int 4)) (.nil))) (.cons (.lst (.nil)) (.cons (.cst .none) (.nil)))))) (.seq (.for_ (.nm 14) (.itSeq (.ixS 1 (.var 13))) (.seq (.set 19 (.and (.cmpS .ne 14 (.cst (.str "x"))) (.cmp .lt (.io 15 12 (.cons (.cst (.int 4)) (.nil))) (.var 16)))) (.seq (.app 17 (.ife (.var 19) (.io 155 12 (.cons (.var 14) (.nil))) (.ixS 3 (.var 14)))) (.ife (.and (.var 19) (.cmp .is (.var 18) (.cst .none))) (.set 18 (.ixS 2 (.var 14))) (.skip))))) (.for_ (.nm 15) (.itRng1 (.cst (.int 9))) (.seq (.set 20 (.ltry (.call 154 (.cons (.var 13) (.cons (.var 15) (.cons (.var 17) (.nil))))))) (.ife (.or (.and (.cmp .is (.var 18) (.cst .none)) (.cmp .ne (.ixS 20 (.cst (.int 0))) (.cst (.str "told")))) (.and (.cmp .isnot (.var 18) (.cst .none)) (.cmpS .ne 20 (.var 18)))) (.ret (.cst (.bool false))) (.skip))))))))) (.seq (.ife (.cmp .ne (.ltry (.call 66 (.cons (.var 5) (.cons (.var 8) (.cons (.cst (.int 9)) (.cons (.cst (.int 9)) (.nil))))))) (.cst (.str "moment +"))) (.ret (.cst (.bool false))) (.skip)) (.seq (.ife (.cmp .ne (.ltry (.call 13 (.cons (.var 5) (.cons (.cst (.int 9)) (.cons (.cst (.int 500)) (.nil)))))) (.cst (.str "gate +"))) (.ret (.cst (.bool false))) (.skip)) (.seq (.ife (.cmp .ne (.ltry (.call 110 (.cons (.var 5) (.cons (.var 11) (.cons (.tup (.cons (.cst (.int 0)) (.cons (.cst (.int 0)) (.cons (.cst (.int 0)) (.nil))))) (.nil)))))) (.cst (.str "look +"))) (.ret (.cst (.bool false))) (.skip)) (.seq (.ife (.cmp .ne (.ltry (.call 110 (.cons (.var 5) (.cons (.var 11) (.cons (.tup (.cons (.cst (.int 1)) (.cons (.cst (.int 0)) (.cons (.cst (.int 0)) (.nil))))) (.nil)))))) (.cst (.str "none +"))) (.ret (.cst (.bool false))) (.skip)) (.ret (.call 156 (.nil)))))))))))))) }
/-- 158 -/
def f_law_good_k15 : Fn :=
  { name := "_law_good", io := false, np := 4, ns := ["room_so", "ins", "outs", "start_so", "house_so", "book_so", "lows", "highs", "least_so", "most", "low", "high", "found", "count_so", "misses", "doubles"], body := .seq (.set 4 (.tup (.cons (.tup (.cons (.var 0) (.nil))) (.cons (.tup (.cons (.tup (.cons (.neg (.cst (.int 1))) (.cons (.cst (.int 0)) (.cons (.ixS 1 (.cst (.int 1))) (.cons (.ixS 1 (.cst (.int 2))) (.nil)))))) (.cons (.tup (.cons (.cst (.int 0)) (.cons (.neg (.cst (.int 1))) (.cons (.ixS 2 (.cst (.int 1))) (.cons (.ixS 2 (.cst (.int 2))) (.nil)))))) (.nil)))) (.nil))))) (.seq (.set 5 (.tup (.cons (.tup (.cons (.tup (.cons (.ixS 1 (.cst (.int 0))) (.cons (.ixS 2 (.cst (.int 0))) (.nil)))) (.nil))) (.cons (.tup (.cons (.tup (.cons (.cst (.int 0)) (.cons (.cst (.int 0)) (.cons (.var 3) (.nil))))) (.nil))) (.nil))))) (.seq (.ife (.or (.not (.call 11 (.cons (.var 4) (.nil)))) (.not (.call 12 (.cons (.var 4) (.cons (.var 5) (.nil)))))) (.ret (.cst (.bool false))) (.skip)) (.seq (.set 6 (.comp (.bin .sub (.var 13) (.bi .min2 (.cons (.var 15) (.cons (.bin .fdiv (.var 13) (.cst (.int 2))) (.nil))))) (.tup (.cons (.nm 13) (.cons (.nm 14) (.cons (.nm 15) (.nil))))) (.itSeq (.tup (.cons (.var 1) (.cons (.var 2) (.nil))))) (.cst (.bool true)) [13, 14, 15])) (.seq (.set 7 (.lst (.cons (.bin .add (.ixS 1 (.cst (.int 0))) (.ixS 1 (.cst (.int 1)))) (.cons (.bin .add (.ixS 2 (.cst (.int 0))) (.ixS 2 (.cst (.int 1)))) (.nil))))) (.seq (.par 10 11 (.bin .sub (.bin .add (.var 3) (.ixS 6 (.cst (.int 0)))) (.ixS 7 (.cst (.int 1)))) (.bin .sub (.bin .add (.var 3) (.ixS 7 (.cst (.int 0)))) (.ixS 6 (.cst (.int 1))))) (.seq (.ife (.or (.cmp .lt (.var 11) (.cst (.int 0))) (.cmp .gt (.var 10) (.var 0))) (.seq (.set 12 (.call 81 (.cons (.var 4) (.cons (.var 5) (.nil))))) (.ret (.and (.not (.call 46 (.cons (.var 4) (.cons (.var 5) (.nil))))) (.call 82 (.cons (.var 4) (.cons (.var 5) (.cons (.var 12) (.nil)))))))) (.skip)) (.seq (.ife (.not (.call 46 (.cons (.var 4) (.cons (.var 5) (.nil))))) (.ret (.cst (.bool false))) (.skip)) (.seq (.ife (.not (.call 19 (.cons (.call 65 (.cons (.var 4) (.cons (.var 5) (.cons (.cst (.int 1)) (.cons (.cst (.int 0)) (.nil)))))) (.cons (.tup (.cons (.bi .max2 (.cons (.cst (.int 0)) (.cons (.var 10) (.nil)))) (.cons (.bi .min2 (.cons (.var 0) (.cons (.var 11) (.nil)))) (.nil)))) (.nil))))) (.ret (.cst (.bool false))) (.skip)) (.seq (.set 8 (.bi .max2 (.cons (.ixS 6 (.cst (.int 0))) (.cons (.bin .add (.bin .sub (.cst (.int 0)) (.var 3)) (.ixS 6 (.cst (.int 1)))) (.nil))))) (.seq (.set 9 (.bi .min2 (.cons (.ixS 7 (.cst (.int 0))) (.cons (.bin .add (.bin .sub (.var 0) (.var 3)) (.ixS 7 (.cst (.int 1)))) (.nil))))) (.ret (.call 19 (.cons (.call 66 (.cons (.var 4) (.cons (.var 5) (.cons (.cst (.int 0)) (.cons (.cst (.int 0)) (.nil)))))) (.cons (.tup (.cons (.var 8) (.cons (.var 9) (.nil)))) (.nil))))))))))))))) }
/-- 159 -/
def f_law_row_good : Fn :=
  { name := "_law_row_good", io := true, np := 1, ns := ["deck", "many", "house_so", "counts_so", "book_so", "ends_so", "told", "turn", "floor_so", "end"], body := .seq (.set 1 (.comp (.io 15 0 (.cons (.cst (.int 21)) (.nil))) (.nm 7) (.itRng1 (.cst (.int 4))) (.cst (.bool true)) [7])) (.seq (.set 2 (.tup (.cons (.tup (.cons (.cst (.int 40)) (.cons (.cst (.int 40)) (.cons (.cst (.int 40)) (.nil))))) (.cons (.tup (.cons (.tup (.cons (.neg (.cst (.int 1))) (.cons (.cst (.int 0)) (.cons (.cst (.int 0)) (.cons (.cst (.int 0)) (.nil)))))) (.cons (.tup (.cons (.cst (.int 0)) (.cons (.cst (.int 1)) (.cons (.cst (.int 0)) (.cons (.cst (.int 0)) (.nil)))))) (.cons (.tup (.cons (.cst (.int 1)) (.cons (.cst (.int 2)) (.cons (.cst (.int 0)) (.cons (.cst (.int 0)) (.nil)))))) (.cons (.tup (.cons (.cst (.int 2)) (.cons (.neg (.cst (.int 1))) (.cons (.cst (.int 0)) (.cons (.cst (.int 0)) (.nil)))))) (.cons (.tup (.cons (.cst (.int 0)) (.cons (.neg (.cst (.int 1))) (.cons (.cst (.int 0)) (.cons (.cst (.int 0)) (.nil)))))) (.nil))))))) (.nil))))) (.seq (.set 3 (.tup (.cons (.bin .add (.bin .add (.ixS 1 (.cst (.int 0))) (.ixS 1 (.cst (.int 1)))) (.ixS 1 (.cst (.int 2)))) (.cons (.bin .add (.ixS 1 (.cst (.int 1))) (.ixS 1 (.cst (.int 2)))) (.cons (.ixS 1 (.cst (.int 2))) (.cons (.cst (.int 0)) (.cons (.ixS 1 (.cst (.int 3))) (.nil)))))))) (.seq (.set 4 (.tup (.cons (.bin .mul (.tup (.cons (.var 3) (.nil))) (.cst (.int 1))) (.cons (.tup (.cons (.tup (.cons (.cst (.int 0)) (.cons (.cst (.int 0)) (.cons (.cst (.int 20)) (.nil))))) (.cons (.tup (.cons (.cst (.int 0)) (.cons (.cst (.int 1)) (.cons (.cst (.int 0)) (.nil))))) (.cons (.tup (.cons (.cst (.int 0)) (.cons (.cst (.int 2)) (.cons (.cst (.int 0)) (.nil))))) (.nil))))) (.nil))))) (.seq (.set 5 (.lst (.cons (.bin .sub (.bin .add (.cst (.int 20)) (.ixS 1 (.cst (.int 0)))) (.ixS 1 (.cst (.int 3)))) (.cons (.ixS 1 (.cst (.int 1))) (.cons (.ixS 1 (.cst (.int 2))) (.nil)))))) (.seq (.ife (.or (.not (.call 12 (.cons (.var 2) (.cons (.var 4) (.nil))))) (.cmp .ne (.call 46 (.cons (.var 2) (.cons (.var 4) (.nil)))) (.chain .le .le (.cst (.int 0)) (.ixS 5 (.cst (.int 0))) (.cst (.int 40))))) (.ret (.cst (.bool false))) (.skip)) (.seq (.ife (.not (.chain .le .le (.cst (.int 0)) (.ixS 5 (.cst (.int 0))) (.cst (.int 40)))) (.ret (.and (.not (.call 46 (.cons (.var 2) (.cons (.var 4) (.nil))))) (.call 82 (.cons (.var 2) (.cons (.var 4) (.cons (.call 81 (.cons (.var 2) (.cons (.var 4) (.nil)))) (.nil))))))) (.skip)) (.seq (.set 6 (.comp (.call 65 (.cons (.var 2) (.cons (.var 4) (.cons (.cst (.int 1)) (.cons (.var 8) (.nil)))))) (.nm 8) (.itRng1 (.cst (.int 3))) (.cst (.bool true)) [8])) (.ret (.and (.cmpS .eq 6 (.comp (.tup (.cons (.var 9) (.cons (.var 9) (.nil)))) (.nm 9) (.itSeq (.var 5)) (.cst (.bool true)) [9])) (.cmp .eq (.call 100 (.cons (.var 2) (.cons (.var 4) (.nil)))) (.tup (.cons (.cst (.int 0)) (.cons (.lst (.cons (.tup (.nil)) (.nil))) (.nil)))))))))))))) }
/-- 160 -/
def f_law_k15 : Fn :=
  { name := "law", io := false, np := 1, ns := ["script", "cell", "some", "house_so", "deck", "turn", "ins", "outs", "start_so", "near", "other"], body := .seq (.for_ (.nm 1) (.itSeq (.slH (.bin .add (.lst (.cons (.cst (.int 0)) (.nil))) (.var 0)) (.cst (.int 10)))) (.seq (.set 4 (.call 14 (.cons (.var 1) (.cons (.cst (.int 15)) (.nil))))) (.for_ (.nm 5) (.itRng1 (.cst (.int 4))) (.seq (.set 6 (.tup (.cons (.io 15 4 (.cons (.cst (.int 100)) (.nil))) (.cons (.io 15 4 (.cons (.cst (.int 6)) (.nil))) (.cons (.io 15 4 (.cons (.cst (.int 6)) (.nil))) (.nil)))))) (.seq (.set 7 (.tup (.cons (.io 15 4 (.cons (.cst (.int 100)) (.nil))) (.cons (.io 15 4 (.cons (.cst (.int 6)) (.nil))) (.cons (.io 15 4 (.cons (.cst (.int 6)) (.nil))) (.nil)))))) (.seq (.set 9 (.tup (.cons (.bi .max2 (.cons (.cst (.int 0)) (.cons (.bi .min2 (.cons (.cst (.int 99)) (.cons (.bin .sub (.bin .add (.ixS 6 (.cst (.int 0))) (.io 15 4 (.cons (.cst (.int 61)) (.nil)))) (.cst (.int 30))) (.nil)))) (.nil)))) (.cons (.ixS 7 (.cst (.int 1))) (.cons (.ixS 7 (.cst (.int 2))) (.nil)))))) (.seq (.for_ (.nm 10) (.itSeq (.tup (.cons (.var 7) (.cons (.var 9) (.nil))))) (.ife (.not (.call 158 (.cons (.cst (.int 40)) (.cons (.var 6) (.cons (.var 10) (.cons (.io 15 4 (.cons (.cst (.int 41)) (.nil))) (.nil))))))) (.ret (.cst (.bool false))) (.skip))) (.ife (.not (.io 159 4 (.nil))) (.ret (.cst (.bool false))) (.skip))))))))) (.seq (.set 2 (.lst (.cons (.tup (.cons (.tup (.cons (.cst (.int 99)) (.cons (.cst (.int 5)) (.cons (.cst (.int 5)) (.nil))))) (.cons (.tup (.cons (.cst (.int 99)) (.cons (.cst (.int 5)) (.cons (.cst (.int 5)) (.nil))))) (.cons (.cst (.int 20)) (.nil))))) (.cons (.tup (.cons (.tup (.cons (.cst (.int 99)) (.cons (.cst (.int 0)) (.cons (.cst (.int 0)) (.nil))))) (.cons (.tup (.cons (.cst (.int 59)) (.cons (.cst (.int 0)) (.cons (.cst (.int 0)) (.nil))))) (.cons (.cst (.int 0)) (.nil))))) (.cons (.tup (.cons (.tup (.cons (.cst (.int 99)) (.cons (.cst (.int 0)) (.cons (.cst (.int 0)) (.nil))))) (.cons (.tup (.cons (.cst (.int 58)) (.cons (.cst (.int 0)) (.cons (.cst (.int 0)) (.nil))))) (.cons (.cst (.int 0)) (.nil))))) (.nil)))))) (.seq (.for_ (.tup (.cons (.nm 6) (.cons (.nm 7) (.cons (.nm 8) (.nil))))) (.itSeq (.var 2)) (.ife (.not (.call 158 (.cons (.cst (.int 40)) (.cons (.var 6) (.cons (.var 7) (.cons (.var 8) (.nil))))))) (.ret (.cst (.bool false))) (.skip))) (.seq (.set 3 (.tup (.cons (.tup (.cons (.cst (.int 40)) (.nil))) (.cons (.tup (.cons (.tup (.cons (.neg (.cst (.int 1))) (.cons (.cst (.int 0)) (.cons (.cst (.int 5)) (.cons (.cst (.int 5)) (.nil)))))) (.cons (.tup (.cons (.cst (.int 0)) (.cons (.neg (.cst (.int 1))) (.cons (.cst (.int 5)) (.cons (.cst (.int 5)) (.nil)))))) (.nil)))) (.nil))))) (.seq (.ife (.not (.call 46 (.cons (.var 3) (.cons (.tup (.cons (.bin .mul (.tup (.cons (.tup (.cons (.cst (.int 99)) (.cons (.cst (.int 99)) (.nil)))) (.nil))) (.cst (.int 4))) (.cons (.tup (.cons (.tup (.cons (.cst (.int 0)) (.cons (.cst (.int 0)) (.cons (.cst (.int 20)) (.nil))))) (.nil))) (.nil)))) (.nil))))) (.ret (.cst (.bool false))) (.skip)) (.ret (.cmp .eq (.call 65 (.cons (.var 3) (.cons (.tup (.cons (.bin .mul (.tup (.cons (.tup (.cons (.cst (.int 99)) (.cons (.cst (.int 99)) (.nil)))) (.nil))) (.cst (.int 4))) (.cons (.tup (.cons (.tup (.cons (.cst (.int 0)) (.cons (.cst (.int 0)) (.cons (.cst (.int 20)) (.nil))))) (.nil))) (.nil)))) (.cons (.cst (.int 4)) (.cons (.cst (.int 0)) (.nil)))))) (.tup (.cons (.cst (.int 0)) (.cons (.cst (.int 40)) (.nil)))))))))) }
/-- 161 -/
def f_parted_at : Fn :=
  { name := "parted_at", io := false, np := 3, ns := ["house", "book", "moment", "found", "floors", "index", "one", "other", "low", "high", "later", "side"], body := .seq (.par 3 4 (.lst (.nil)) (.bin .mul (.bin .add (.bi .len (.cons (.ixS 1 (.cst (.int 0))) (.nil))) (.cst (.int 1))) (.bi .len (.cons (.ixS 0 (.cst (.int 0))) (.nil))))) (.seq (.for_ (.tup (.cons (.nm 5) (.cons (.tup (.cons (.nm 6) (.cons (.nm 7) (.cons (.nm 8) (.cons (.nm 9) (.nil)))))) (.nil)))) (.itEnum (.call 35 (.cons (.var 0) (.cons (.var 1) (.nil))))) (.ife (.cmp .lt (.var 5) (.var 4)) (.seq (.set 10 (.ife (.cmpS .eq 7 (.neg (.cst (.int 1)))) (.neg (.cst (.int 2))) (.var 7))) (.app 3 (.tup (.cons (.var 6) (.cons (.var 10) (.cons (.var 8) (.cons (.var 9) (.nil)))))))) (.seq (.set 11 (.ife (.cmp .lt (.bin .fdiv (.bin .sub (.var 5) (.var 4)) (.bi .len (.cons (.ixS 0 (.cst (.int 1))) (.nil)))) (.var 2)) (.neg (.cst (.int 1))) (.neg (.cst (.int 2))))) (.app 3 (.tup (.cons (.ife (.cmpS .eq 6 (.neg (.cst (.int 1)))) (.var 11) (.var 6)) (.cons (.ife (.cmpS .eq 7 (.neg (.cst (.int 1)))) (.var 11) (.var 7)) (.cons (.var 8) (.cons (.var 9) (.nil)))))))))) (.ret (.bin .add (.var 3) (.lst (.cons (.tup (.cons (.neg (.cst (.int 2))) (.cons (.neg (.cst (.int 1))) (.cons (.cst (.int 0)) (.cons (.glob "MOST_CARS" 120) (.nil)))))) (.nil)))))) }
/-- 162 -/
def f_total_at : Fn :=
  { name := "total_at", io := false, np := 3, ns := ["house", "book", "moment", "parts", "flow"], body := .seq (.set 3 (.call 161 (.cons (.var 0) (.cons (.var 1) (.cons (.var 2) (.nil)))))) (.seq (.set 4 (.ix (.call 40 (.cons (.var 3) (.nil))) (.cst (.int 0)))) (.seq (.ife (.cmp .is (.var 4) (.cst .none)) (.raise ⟨10, none⟩) (.skip)) (.ret (.call 62 (.cons (.var 3) (.cons (.var 4) (.cons (.bin .sub (.lenS 3) (.cst (.int 1))) (.nil)))))))) }
/-- 163 -/
def f_word_for : Fn :=
  { name := "word_for", io := false, np := 2, ns := ["span", "number"], body := .seq (.ife (.and (.cmp .eq (.ixS 0 (.cst (.int 0))) (.var 1)) (.cmp .eq (.ixS 0 (.cst (.int 1))) (.var 1))) (.ret (.cst (.str "sure"))) (.skip)) (.ret (.ife (.inS false (.var 1) 0) (.cst (.str "open")) (.cst (.str "never")))) }
/-- 164 -/
def f_total : Fn :=
  { name := "total", io := false, np := 3, ns := ["house", "book", "moment"], body := .seq (.expr (.call 7 (.cons (.var 0) (.nil)))) (.seq (.expr (.call 33 (.cons (.var 0) (.cons (.var 1) (.nil))))) (.seq (.expr (.call 56 (.cons (.var 2) (.cons (.bi .len (.cons (.ixS 1 (.cst (.int 0))) (.nil))) (.nil))))) (.ret (.call 162 (.cons (.var 0) (.cons (.var 1) (.cons (.var 2) (.nil)))))))) }
/-- 165 -/
def f_whole_full : Fn :=
  { name := "whole_full", io := false, np := 3, ns := ["house", "book", "moment"], body := .seq (.expr (.call 7 (.cons (.var 0) (.nil)))) (.seq (.expr (.call 33 (.cons (.var 0) (.cons (.var 1) (.nil))))) (.seq (.expr (.call 56 (.cons (.var 2) (.cons (.bi .len (.cons (.ixS 1 (.cst (.int 0))) (.nil))) (.nil))))) (.ret (.call 163 (.cons (.call 162 (.cons (.var 0) (.cons (.var 1) (.cons (.var 2) (.nil))))) (.cons (.bi .sum (.cons (.ixS 0 (.cst (.int 0))) (.nil))) (.nil))))))) }
/-- 166 -/
def f_whole_empty : Fn :=
  { name := "whole_empty", io := false, np := 3, ns := ["house", "book", "moment"], body := .seq (.expr (.call 7 (.cons (.var 0) (.nil)))) (.seq (.expr (.call 33 (.cons (.var 0) (.cons (.var 1) (.nil))))) (.seq (.expr (.call 56 (.cons (.var 2) (.cons (.bi .len (.cons (.ixS 1 (.cst (.int 0))) (.nil))) (.nil))))) (.ret (.call 163 (.cons (.call 162 (.cons (.var 0) (.cons (.var 1) (.cons (.var 2) (.nil))))) (.cons (.cst (.int 0)) (.nil))))))) }
/-- 167 -/
def f_law_word : Fn :=
  { name := "_law_word", io := false, np := 2, ns := ["some", "number"], body := .seq (.ife (.cmp .eq (.bi .sortedSet (.cons (.var 0) (.nil))) (.lst (.cons (.var 1) (.nil)))) (.ret (.cst (.str "sure"))) (.skip)) (.ret (.ife (.inS false (.var 1) 0) (.cst (.str "open")) (.cst (.str "never")))) }
/-- 168 -/
def f_law_good_k16 : Fn :=
  { name := "_law_good", io := false, np := 2, ns := ["house_so", "book_so", "rows_so", "at", "told", "due", "some", "row"], body := .seq (.set 2 (.call 51 (.cons (.var 0) (.cons (.var 1) (.nil))))) (.seq (.for_ (.nm 3) (.itRng1 (.bin .add (.bi .len (.cons (.ixS 1 (.cst (.int 0))) (.nil))) (.cst (.int 1)))) (.seq (.set 4 (.lst (.cons (.ltry (.call 164 (.cons (.var 0) (.cons (.var 1) (.cons (.var 3) (.nil)))))) (.nil)))) (.seq (.app 4 (.ltry (.call 165 (.cons (.var 0) (.cons (.var 1) (.cons (.var 3) (.nil))))))) (.seq (.app 4 (.ltry (.call 166 (.cons (.var 0) (.cons (.var 1) (.cons (.var 3) (.nil))))))) (.seq (.set 5 (.bin .mul (.lst (.cons (.cst (.str "none +")) (.nil))) (.cst (.int 3)))) (.seq (.ife (.cmp .ne (.ixS 2 (.var 3)) (.lst (.nil))) (.seq (.set 6 (.comp (.bi .sum (.cons (.var 7) (.nil))) (.nm 7) (.itSeq (.ixS 2 (.var 3))) (.cst (.bool true)) [7])) (.seq (.ife (.cmp .ne (.bi .sortedSet (.cons (.var 6) (.nil))) (.bi .list (.cons (.itRng (.bi .min1 (.cons (.var 6) (.nil))) (.bin .add (.bi .max1 (.cons (.var 6) (.nil))) (.cst (.int 1)))) .nil))) (.ret (.cst (.bool false))) (.skip)) (.seq (.set 5 (.lst (.cons (.tup (.cons (.cst (.str "told")) (.cons (.tup (.cons (.bi .min1 (.cons (.var 6) (.nil))) (.cons (.bi .max1 (.cons (.var 6) (.nil))) (.nil)))) (.nil)))) (.cons (.tup (.cons (.cst (.str "told")) (.cons (.call 167 (.cons (.var 6) (.cons (.bi .sum (.cons (.ixS 0 (.cst (.int 0))) (.nil))) (.nil)))) (.nil)))) (.nil))))) (.app 5 (.tup (.cons (.cst (.str "told")) (.cons (.call 167 (.cons (.var 6) (.cons (.cst (.int 0)) (.nil)))) (.nil)))))))) (.skip)) (.ife (.cmpS .ne 4 (.var 5)) (.ret (.cst (.bool false))) (.skip)))))))) (.ret (.cst (.bool true)))) }
/-- 169 -/
def f_law_written_k16 : Fn :=
  { name := "_law_written", io := false, np := 0, ns := ["pair_so", "one_in", "some", "late", "one", "two", "a", "b", "c", "d", "e", "at"], body := .seq (.setT (.tup (.cons (.nm 4) (.cons (.nm 5) (.nil)))) (.call 20 (.nil))) (.seq (.setT (.tup (.cons (.nm 6) (.cons (.nm 7) (.cons (.nm 8) (.cons (.nm 9) (.cons (.nm 10) (.nil))))))) (.call 21 (.nil))) (.seq (.set 0 (.tup (.cons (.tup (.cons (.cst (.int 2)) (.cons (.cst (.int 2)) (.nil)))) (.cons (.tup (.cons (.tup (.cons (.cst (.int 0)) (.cons (.cst (.int 1)) (.cons (.cst (.int 1)) (.cons (.cst (.int 0)) (.nil)))))) (.nil))) (.nil))))) (.seq (.set 1 (.tup (.cons (.tup (.cons (.tup (.cons (.cst (.int 1)) (.nil))) (.nil))) (.cons (.tup (.cons (.tup (.cons (.cst (.int 0)) (.cons (.cst (.int 1)) (.cons (.cst (.int 0)) (.nil))))) (.nil))) (.nil))))) (.seq (.ife (.cmp .ne (.lst (.cons (.call 164 (.cons (.var 5) (.cons (.var 8) (.cons (.cst (.int 1)) (.nil))))) (.cons (.call 164 (.cons (.var 5) (.cons (.var 8) (.cons (.cst (.int 0)) (.nil))))) (.cons (.call 164 (.cons (.var 4) (.cons (.var 7) (.cons (.cst (.int 1)) (.nil))))) (.nil))))) (.lst (.cons (.tup (.cons (.cst (.int 3)) (.cons (.cst (.int 5)) (.nil)))) (.cons (.tup (.cons (.cst (.int 0)) (.cons (.cst (.int 2)) (.nil)))) (.cons (.tup (.cons (.cst (.int 3)) (.cons (.cst (.int 4)) (.nil)))) (.nil)))))) (.ret (.cst (.bool false))) (.skip)) (.seq (.ife (.or (.cmp .ne (.call 164 (.cons (.var 0) (.cons (.var 1) (.cons (.cst (.int 1)) (.nil))))) (.tup (.cons (.cst (.int 1)) (.cons (.cst (.int 2)) (.nil))))) (.cmp .ne (.call 164 (.cons (.var 5) (.cons (.tup (.cons (.tup (.nil)) (.cons (.tup (.nil)) (.nil)))) (.cons (.cst (.int 0)) (.nil))))) (.tup (.cons (.cst (.int 0)) (.cons (.cst (.int 5)) (.nil)))))) (.ret (.cst (.bool false))) (.skip)) (.seq (.ife (.cmp .ne (.call 165 (.cons (.var 5) (.cons (.var 8) (.cons (.cst (.int 1)) (.nil))))) (.cst (.str "open"))) (.ret (.cst (.bool false))) (.skip)) (.seq (.ife (.cmp .ne (.call 165 (.cons (.var 4) (.cons (.var 6) (.cons (.cst (.int 1)) (.nil))))) (.cst (.str "sure"))) (.ret (.cst (.bool false))) (.skip)) (.seq (.ife (.cmp .ne (.call 165 (.cons (.var 5) (.cons (.var 8) (.cons (.cst (.int 0)) (.nil))))) (.cst (.str "never"))) (.ret (.cst (.bool false))) (.skip)) (.seq (.set 2 (.lst (.cons (.call 166 (.cons (.var 5) (.cons (.var 8) (.cons (.cst (.int 0)) (.nil))))) (.cons (.call 166 (.cons (.var 4) (.cons (.var 6) (.cons (.cst (.int 1)) (.nil))))) (.cons (.call 166 (.cons (.var 0) (.cons (.var 1) (.cons (.cst (.int 1)) (.nil))))) (.nil)))))) (.seq (.app 2 (.call 166 (.cons (.var 4) (.cons (.tup (.cons (.tup (.cons (.tup (.cons (.cst (.int 0)) (.cons (.cst (.int 2)) (.nil)))) (.nil))) (.cons (.tup (.cons (.tup (.cons (.cst (.int 0)) (.cons (.cst (.int 0)) (.cons (.cst (.int 2)) (.nil))))) (.nil))) (.nil)))) (.cons (.cst (.int 1)) (.nil)))))) (.seq (.app 2 (.call 166 (.cons (.var 4) (.cons (.tup (.cons (.tup (.cons (.tup (.cons (.cst (.int 0)) (.cons (.cst (.int 1)) (.nil)))) (.nil))) (.cons (.tup (.cons (.tup (.cons (.cst (.int 0)) (.cons (.cst (.int 0)) (.cons (.cst (.int 1)) (.nil))))) (.nil))) (.nil)))) (.cons (.cst (.int 1)) (.nil)))))) (.seq (.ife (.cmpS .ne 2 (.lst (.cons (.cst (.str "open")) (.cons (.cst (.str "never")) (.cons (.cst (.str "never")) (.cons (.cst (.str "open")) (.cons (.cst (.str "sure")) (.nil)))))))) (.ret (.cst (.bool false))) (.skip)) (.seq (.set 3 (.tup (.cons (.tup (.cons (.tup (.cons (.cst (.int 0)) (.cons (.cst (.int 2)) (.nil)))) (.cons (.tup (.cons (.cst (.int 3)) (.cons (.cst (.int 0)) (.nil)))) (.nil)))) (.cons (.tup (.cons (.tup (.cons (.cst (.int 0)) (.cons (.cst (.int 0)) (.cons (.cst (.int 2)) (.nil))))) (.nil))) (.nil))))) (.ret (.cmp .eq (.comp (.call 164 (.cons (.var 4) (.cons (.var 3) (.cons (.var 11) (.nil))))) (.nm 11) (.itRng1 (.cst (.int 3))) (.cst (.bool true)) [11]) (.lst (.cons (.tup (.cons (.cst (.int 2)) (.cons (.cst (.int 2)) (.nil)))) (.cons (.tup (.cons (.cst (.int 0)) (.cons (.cst (.int 1)) (.nil)))) (.cons (.tup (.cons (.cst (.int 3)) (.cons (.cst (.int 4)) (.nil)))) (.nil)))))))))))))))))))) }
/-- 170 -/
def f_law_k16 : Fn :=
  { name := "law", io := false, np := 1, ns := ["script", "cell", "deck", "turn", "house_so", "call_so", "one", "two", "a", "b", "c", "d", "e", "odd"], body := .seq (.for_ (.nm 1) (.itSeq (.slH (.bin .add (.lst (.cons (.cst (.int 0)) (.nil))) (.var 0)) (.cst (.int 8)))) (.seq (.set 2 (.call 14 (.cons (.var 1) (.cons (.cst (.int 16)) (.nil))))) (.seq (.for_ (.nm 3) (.itRng1 (.cst (.int 3))) (.seq (.set 4 (.io 25 2 (.cons (.cst (.int 3)) (.cons (.cst (.int 3)) (.nil))))) (.ife (.not (.call 168 (.cons (.var 4) (.cons (.io 26 2 (.cons (.var 4) (.cons (.cst (.int 2)) (.nil)))) (.nil))))) (.ret (.cst (.bool false))) (.skip)))) (.seq (.set 4 (.io 25 2 (.cons (.cst (.int 2)) (.cons (.cst (.int 4)) (.nil))))) (.seq (.ife (.not (.call 168 (.cons (.var 4) (.cons (.io 26 2 (.cons (.var 4) (.cons (.cst (.int 3)) (.nil)))) (.nil))))) (.ret (.cst (.bool false))) (.skip)) (.seq (.setT (.tup (.cons (.nm 6) (.cons (.nm 7) (.nil)))) (.call 20 (.nil))) (.seq (.setT (.tup (.cons (.nm 8) (.cons (.nm 9) (.cons (.nm 10) (.cons (.nm 11) (.cons (.nm 12) (.nil))))))) (.call 21 (.nil))) (.forFn 5 [164, 165, 166] (.seq (.ife (.cmp .ne (.ltry (.callV 5 [164, 165, 166] (.cons (.tup (.nil)) (.cons (.cst .none) (.cons (.cst .none) (.nil)))))) (.cst (.str "house +"))) (.ret (.cst (.bool false))) (.skip)) (.seq (.ife (.cmp .ne (.ltry (.callV 5 [164, 165, 166] (.cons (.var 6) (.cons (.var 10) (.cons (.cst .none) (.nil)))))) (.cst (.str "book +"))) (.ret (.cst (.bool false))) (.skip)) (.seq (.for_ (.nm 13) (.itSeq (.lst (.cons (.cst .none) (.cons (.neg (.cst (.int 1))) (.cons (.cst (.int 2)) (.cons (.cst (.bool true)) (.cons (.cst (.str "0")) (.nil)))))))) (.ife (.cmp .ne (.ltry (.callV 5 [164, 165, 166] (.cons (.var 6) (.cons (.var 12) (.cons (.var 13) (.nil)))))) (.cst (.str "moment +"))) (.ret (.cst (.bool false))) (.skip))) (.ife (.cmp .ne (.ltry (.callV 5 [164, 165, 166] (.cons (.var 6) (.cons (.var 12) (.cons (.cst (.int 1)) (.nil)))))) (.cst (.str "none +"))) (.ret (.cst (.bool false))) (.skip))))))))))))) (.ret (.call 169 (.nil))) }
/-- 171 -/
def f_with_slips : Fn :=
  { name := "with_slips", io := false, np := 2, ns := ["house", "bound", "one", "other", "misses", "doubles"], body := .ret (.tup (.cons (.ixS 0 (.cst (.int 0))) (.cons (.bi .tuple (.cons (.comp (.tup (.cons (.var 2) (.cons (.var 3) (.cons (.var 1) (.cons (.var 1) (.nil)))))) (.tup (.cons (.nm 2) (.cons (.nm 3) (.cons (.nm 4) (.cons (.nm 5) (.nil)))))) (.itSeq (.ixS 0 (.cst (.int 1)))) (.cst (.bool true)) [2, 3, 4, 5]) (.nil))) (.nil)))) }
/-- 172 -/
def f_is_open_enough : Fn :=
  { name := "is_open_enough", io := false, np := 3, ns := ["house", "book", "gate", "parts", "stretch"], body := .seq (.set 3 (.call 35 (.cons (.var 0) (.cons (.var 1) (.nil))))) (.seq (.for_ (.nm 4) (.itRng1 (.bi .len (.cons (.ixS 1 (.cst (.int 0))) (.nil)))) (.set 3 (.call 72 (.cons (.var 3) (.cons (.call 59 (.cons (.var 0) (.cons (.var 1) (.cons (.var 4) (.cons (.var 2) (.nil)))))) (.cons (.cst (.int 0)) (.cons (.glob "MOST_PASSES" 199) (.nil)))))))) (.ret (.cmp .isnot (.ix (.call 40 (.cons (.var 3) (.nil))) (.cst (.int 0))) (.cst .none)))) }
/-- 173 -/
def f_least_bound : Fn :=
  { name := "least_bound", io := false, np := 2, ns := ["house", "book", "bound"], body := .seq (.expr (.call 7 (.cons (.var 0) (.nil)))) (.seq (.expr (.call 33 (.cons (.var 0) (.cons (.var 1) (.nil))))) (.seq (.for_ (.nm 2) (.itRng1 (.bin .add (.glob "MOST_SLIPS" 5) (.cst (.int 1)))) (.ife (.cmp .isnot (.ix (.call 40 (.cons (.call 35 (.cons (.call 171 (.cons (.var 0) (.cons (.var 2) (.nil)))) (.cons (.var 1) (.nil)))) (.nil))) (.cst (.int 0))) (.cst .none)) (.ret (.take 2)) (.skip))) (.ret (.cst .none)))) }
/-- 174 -/
def f_left_open : Fn :=
  { name := "left_open", io := false, np := 2, ns := ["house", "book", "gate"], body := .seq (.expr (.call 7 (.cons (.var 0) (.nil)))) (.seq (.expr (.call 33 (.cons (.var 0) (.cons (.var 1) (.nil))))) (.ret (.comp (.var 2) (.nm 2) (.itRng1 (.bi .len (.cons (.ixS 0 (.cst (.int 1))) (.nil)))) (.call 172 (.cons (.var 0) (.cons (.var 1) (.cons (.var 2) (.nil))))) [2]))) }
/-- 175 -/
def f_law_slipping : Fn :=
  { name := "_law_slipping", io := false, np := 2, ns := ["house_so", "bound", "gate_so"], body := .ret (.tup (.cons (.ixS 0 (.cst (.int 0))) (.cons (.bi .tuple (.cons (.comp (.bin .add (.slH (.var 2) (.cst (.int 2))) (.tup (.cons (.var 1) (.cons (.var 1) (.nil))))) (.nm 2) (.itSeq (.ixS 0 (.cst (.int 1)))) (.cst (.bool true)) [2]) (.nil))) (.nil)))) }
/-- 176 -/
def f_law_open_rows : Fn :=
  { name := "_law_open_rows", io := false, np := 3, ns := ["house_so", "counts_so", "gate", "rows_so", "at", "longer", "row", "low", "high", "number"], body := .seq (.set 3 (.lst (.cons (.tup (.nil)) (.nil)))) (.seq (.for_ (.nm 4) (.itRng1 (.lenS 1)) (.seq (.setT (.tup (.cons (.nm 7) (.cons (.nm 8) (.nil)))) (.call 22 (.cons (.ix (.ixS 0 (.cst (.int 1))) (.var 4)) (.cons (.ixS 1 (.var 4)) (.nil))))) (.seq (.ife (.cmpS .eq 4 (.var 2)) (.setT (.tup (.cons (.nm 7) (.cons (.nm 8) (.nil)))) (.tup (.cons (.cst (.int 0)) (.cons (.cst (.int 30)) (.nil))))) (.skip)) (.seq (.set 5 (.lst (.nil))) (.seq (.for_ (.nm 6) (.itSeq (.var 3)) (.set 5 (.bin .add (.var 5) (.comp (.bin .add (.var 6) (.tup (.cons (.var 9) (.nil)))) (.nm 9) (.itRng (.var 7) (.bin .add (.var 8) (.cst (.int 1)))) (.cst (.bool true)) [9])))) (.set 3 (.var 5))))))) (.ret (.take 3))) }
/-- 177 -/
def f_law_open_good : Fn :=
  { name := "_law_open_good", io := false, np := 3, ns := ["house_so", "book_so", "gate", "firsts", "here", "at", "there", "passes_so", "row", "later"], body := .seq (.set 3 (.comp (.var 8) (.nm 8) (.itSeq (.call 49 (.cons (.var 0) (.nil)))) (.call 24 (.cons (.var 0) (.cons (.ixS 1 (.cst (.int 1))) (.cons (.cst (.int 0)) (.cons (.var 8) (.nil)))))) [8])) (.seq (.set 4 (.dictK (.comp (.tup (.cons (.var 8) (.cons (.cst (.bool true)) (.nil)))) (.nm 8) (.itSeq (.var 3)) (.cst (.bool true)) [8]))) (.seq (.for_ (.nm 5) (.itRng1 (.bi .len (.cons (.ixS 1 (.cst (.int 0))) (.nil)))) (.seq (.set 6 (.dnk)) (.seq (.for_ (.nm 7) (.itSeq (.call 176 (.cons (.var 0) (.cons (.ix (.ixS 1 (.cst (.int 0))) (.var 5)) (.cons (.var 2) (.nil)))))) (.for_ (.nm 8) (.itKeys 4) (.seq (.set 9 (.call 23 (.cons (.var 0) (.cons (.var 8) (.cons (.var 7) (.nil)))))) (.ife (.call 24 (.cons (.var 0) (.cons (.ixS 1 (.cst (.int 1))) (.cons (.bin .add (.var 5) (.cst (.int 1))) (.cons (.var 9) (.nil)))))) (.setIx 6 (.var 9) (.cst (.bool true))) (.skip))))) (.set 4 (.var 6))))) (.ret (.cmpS .ne 4 (.dnk))))) }
/-- 178 -/
def f_law_good_k17 : Fn :=
  { name := "_law_good", io := false, np := 2, ns := ["house_so", "book_so", "some", "every", "due", "bound", "gate"], body := .seq (.set 2 (.comp (.var 5) (.nm 5) (.itRng1 (.cst (.int 6))) (.cmp .ne (.ix (.call 51 (.cons (.call 175 (.cons (.var 0) (.cons (.var 5) (.nil)))) (.cons (.var 1) (.nil)))) (.cst (.int 0))) (.lst (.nil))) [5])) (.seq (.ife (.not (.call 19 (.cons (.call 173 (.cons (.var 0) (.cons (.var 1) (.nil)))) (.cons (.ife (.cmpS .ne 2 (.lst (.nil))) (.ixS 2 (.cst (.int 0))) (.cst .none)) (.nil))))) (.ret (.cst (.bool false))) (.skip)) (.seq (.set 3 (.bi .list (.cons (.itRng1 (.bi .len (.cons (.ixS 0 (.cst (.int 1))) (.nil)))) .nil))) (.seq (.set 4 (.comp (.var 6) (.nm 6) (.itSeq (.var 3)) (.call 177 (.cons (.var 0) (.cons (.var 1) (.cons (.var 6) (.nil))))) [6])) (.ret (.call 19 (.cons (.call 174 (.cons (.var 0) (.cons (.var 1) (.nil)))) (.cons (.var 4) (.nil)))))))) }
/-- 179 -/
def f_law_written_k17 : Fn :=
  { name := "_law_written", io := false, np := 0, ns := ["far", "late", "one", "two", "a", "b", "c", "d", "e"], body := .seq (.setT (.tup (.cons (.nm 2) (.cons (.nm 3) (.nil)))) (.call 20 (.nil))) (.seq (.setT (.tup (.cons (.nm 4) (.cons (.nm 5) (.cons (.nm 6) (.cons (.nm 7) (.cons (.nm 8) (.nil))))))) (.call 21 (.nil))) (.seq (.ife (.cmp .ne (.lst (.cons (.call 173 (.cons (.var 2) (.cons (.var 4) (.nil)))) (.cons (.call 173 (.cons (.var 2) (.cons (.var 8) (.nil)))) (.cons (.call 173 (.cons (.var 2) (.cons (.tup (.cons (.tup (.cons (.tup (.cons (.cst (.int 99)) (.cons (.cst (.int 0)) (.nil)))) (.nil))) (.cons (.tup (.nil)) (.nil)))) (.nil)))) (.nil))))) (.lst (.cons (.cst (.int 0)) (.cons (.cst (.int 2)) (.cons (.cst .none) (.nil)))))) (.ret (.cst (.bool false))) (.skip)) (.seq (.ife (.or (.cmp .ne (.call 174 (.cons (.var 2) (.cons (.var 8) (.nil)))) (.lst (.cons (.cst (.int 0)) (.cons (.cst (.int 1)) (.nil))))) (.cmp .ne (.call 174 (.cons (.var 2) (.cons (.var 4) (.nil)))) (.lst (.cons (.cst (.int 0)) (.cons (.cst (.int 1)) (.nil)))))) (.ret (.cst (.bool false))) (.skip)) (.seq (.ife (.cmp .ne (.call 174 (.cons (.var 3) (.cons (.tup (.cons (.tup (.cons (.tup (.cons (.cst (.int 0)) (.cons (.cst (.int 0)) (.cons (.cst (.int 0)) (.nil))))) (.nil))) (.cons (.tup (.cons (.tup (.cons (.cst (.int 0)) (.cons (.cst (.int 1)) (.cons (.cst (.int 0)) (.nil))))) (.cons (.tup (.cons (.cst (.int 1)) (.cons (.cst (.int 1)) (.cons (.cst (.int 2)) (.nil))))) (.nil)))) (.nil)))) (.nil)))) (.lst (.cons (.cst (.int 1)) (.nil)))) (.ret (.cst (.bool false))) (.skip)) (.seq (.set 0 (.tup (.cons (.tup (.cons (.tup (.cons (.cst (.int 9)) (.cons (.cst (.int 0)) (.nil)))) (.cons (.tup (.cons (.cst (.int 0)) (.cons (.cst (.int 9)) (.nil)))) (.nil)))) (.cons (.tup (.cons (.tup (.cons (.cst (.int 0)) (.cons (.cst (.int 0)) (.cons (.cst (.int 0)) (.nil))))) (.cons (.tup (.cons (.cst (.int 1)) (.cons (.cst (.int 0)) (.cons (.cst (.int 4)) (.nil))))) (.cons (.tup (.cons (.cst (.int 2)) (.cons (.cst (.int 0)) (.cons (.cst (.int 0)) (.nil))))) (.nil))))) (.nil))))) (.seq (.ife (.or (.cmp .ne (.call 173 (.cons (.var 2) (.cons (.var 0) (.nil)))) (.cst (.int 3))) (.cmp .ne (.call 174 (.cons (.var 2) (.cons (.var 0) (.nil)))) (.lst (.cons (.cst (.int 0)) (.cons (.cst (.int 1)) (.nil)))))) (.ret (.cst (.bool false))) (.skip)) (.seq (.ife (.cmp .ne (.call 173 (.cons (.var 2) (.cons (.tup (.cons (.tup (.cons (.tup (.cons (.cst (.int 14)) (.cons (.cst (.int 0)) (.nil)))) (.nil))) (.cons (.tup (.cons (.tup (.cons (.cst (.int 0)) (.cons (.cst (.int 0)) (.cons (.cst (.int 0)) (.nil))))) (.cons (.tup (.cons (.cst (.int 1)) (.cons (.cst (.int 0)) (.cons (.cst (.int 4)) (.nil))))) (.nil)))) (.nil)))) (.nil)))) (.cst (.int 5))) (.ret (.cst (.bool false))) (.skip)) (.seq (.set 1 (.tup (.cons (.tup (.cons (.tup (.cons (.cst (.int 4)) (.cons (.cst (.int 0)) (.nil)))) (.cons (.tup (.cons (.cst (.int 0)) (.cons (.cst (.int 0)) (.nil)))) (.nil)))) (.cons (.tup (.cons (.tup (.cons (.cst (.int 0)) (.cons (.cst (.int 0)) (.cons (.cst (.int 0)) (.nil))))) (.cons (.tup (.cons (.cst (.int 1)) (.cons (.cst (.int 0)) (.cons (.cst (.int 4)) (.nil))))) (.cons (.tup (.cons (.cst (.int 2)) (.cons (.cst (.int 0)) (.cons (.cst (.int 0)) (.nil))))) (.nil))))) (.nil))))) (.seq (.ife (.or (.cmp .ne (.call 174 (.cons (.var 2) (.cons (.var 1) (.nil)))) (.lst (.cons (.cst (.int 1)) (.nil)))) (.cmp .ne (.call 173 (.cons (.var 2) (.cons (.var 1) (.nil)))) (.cst (.int 4)))) (.ret (.cst (.bool false))) (.skip)) (.ret (.cmp .eq (.call 174 (.cons (.var 2) (.cons (.tup (.cons (.tup (.cons (.tup (.cons (.cst (.int 0)) (.cons (.cst (.int 0)) (.nil)))) (.nil))) (.cons (.tup (.cons (.tup (.cons (.cst (.int 0)) (.cons (.cst (.int 0)) (.cons (.cst (.int 0)) (.nil))))) (.cons (.tup (.cons (.cst (.int 1)) (.cons (.cst (.int 0)) (.cons (.cst (.int 4)) (.nil))))) (.nil)))) (.nil)))) (.nil)))) (.lst (.cons (.cst (.int 0)) (.nil)))))))))))))) }
/-- 180 -/
def f_law_k17 : Fn :=
  { name := "law", io := false, np := 1, ns := ["script", "cell", "deck", "house_so", "book_so", "looks_so", "at", "harder", "call_so", "look", "key"], body := .seq (.for_ (.nm 1) (.itSeq (.slH (.bin .add (.lst (.cons (.cst (.int 0)) (.nil))) (.var 0)) (.cst (.int 5)))) (.seq (.set 2 (.call 14 (.cons (.var 1) (.cons (.cst (.int 17)) (.nil))))) (.seq (.set 3 (.io 25 2 (.cons (.cst (.int 2)) (.cons (.cst (.int 3)) (.nil))))) (.seq (.set 4 (.io 26 2 (.cons (.var 3) (.cons (.cst (.int 2)) (.nil))))) (.seq (.set 5 (.dictK (.comp (.tup (.cons (.slH (.var 9) (.cst (.int 2))) (.cons (.var 9) (.nil)))) (.nm 9) (.itSeq (.ixS 4 (.cst (.int 1)))) (.cst (.bool true)) [9]))) (.seq (.set 6 (.io 15 2 (.cons (.bin .add (.bi .len (.cons (.ixS 4 (.cst (.int 0))) (.nil))) (.cst (.int 1))) (.nil)))) (.seq (.setIx 5 (.tup (.cons (.var 6) (.cons (.cst (.int 0)) (.nil)))) (.tup (.cons (.var 6) (.cons (.cst (.int 0)) (.cons (.io 15 2 (.cons (.bin .add (.ix (.ixS 3 (.cst (.int 0))) (.cst (.int 0))) (.cst (.int 1))) (.nil))) (.nil)))))) (.seq (.set 7 (.tup (.cons (.ixS 4 (.cst (.int 0))) (.cons (.bi .tuple (.cons (.comp (.ixS 5 (.var 10)) (.nm 10) (.itSeq (.sortedKeys 5)) (.cst (.bool true)) [10]) (.nil))) (.nil))))) (.seq (.ife (.or (.not (.call 178 (.cons (.var 3) (.cons (.var 4) (.nil))))) (.not (.call 178 (.cons (.var 3) (.cons (.var 7) (.nil)))))) (.ret (.cst (.bool false))) (.skip)) (.forFn 8 [173, 174] (.seq (.ife (.cmp .ne (.ltry (.callV 8 [173, 174] (.cons (.cst .none) (.cons (.cst .none) (.nil))))) (.cst (.str "house +"))) (.ret (.cst (.bool false))) (.skip)) (.ife (.cmp .ne (.ltry (.callV 8 [173, 174] (.cons (.var 3) (.cons (.tup (.nil)) (.nil))))) (.cst (.str "book +"))) (.ret (.cst (.bool false))) (.skip))))))))))))) (.ret (.call 179 (.nil))) }
end Fns

set_option Elab.async false
set_option linter.all false
set_option maxRecDepth 100000
set_option maxHeartbeats 4000000
/-! What the small defs compute. -/
namespace Ir
open PySem L2 Fns
section ops
variable {i j : Int} {x y : List D}
@[simp] theorem bop_add_int : bopV .add (.int i) (.int j) = some (.d (.int (i + j))) := Eq.trans rfl rfl
@[simp] theorem bop_sub_int : bopV .sub (.int i) (.int j) = some (.d (.int (i - j))) := Eq.trans rfl rfl
theorem bop_mul_int (h : small64 i = true ∨ small64 j = true) : bopV .mul (.int i) (.int j) = some (.d (.int (i * j))) := by
  have : (small64 i || small64 j) = true := by rcases h with h | h <;> simp [h]
  simp [bopV, bop, this]
theorem bop_fdiv_int (h : 0 < j ∧ j < 1073741824) : bopV .fdiv (.int i) (.int j) = some (.d (.int (i / j))) := by simp [bopV, bop, h]
theorem bop_mod_int (h : 0 < j) : bopV .mod (.int i) (.int j) = some (.d (.int (i % j))) := by simp [bopV, bop, h]
theorem bop_pow_int (h : 0 ≤ j ∧ j ≤ 1000000 ∧ i.natAbs < 2 ^ 64) : bopV .pow (.int i) (.int j) = some (.d (.int (i ^ j.toNat))) := by simp only [bopV, bop, h, and_self, if_true]
theorem bop_add_l (h : x.length + y.length ≤ lineMax) : bopV .add (.list x) (.list y) = some (.own (x ++ y)) := by simp [bopV, bop, h]
theorem bop_add_t (h : x.length + y.length ≤ lineMax) : bopV .add (.tuple x) (.tuple y) = some (.d (.tuple (x ++ y))) := by simp [bopV, bop, h]
@[simp] theorem cop_lt : cop .lt (.int i) (.int j) = some (decide (i < j)) := Eq.trans rfl rfl
@[simp] theorem cop_le : cop .le (.int i) (.int j) = some (decide (i ≤ j)) := Eq.trans rfl rfl
@[simp] theorem cop_gt : cop .gt (.int i) (.int j) = some (decide (j < i)) := Eq.trans rfl rfl
@[simp] theorem cop_ge : cop .ge (.int i) (.int j) = some (decide (j ≤ i)) := Eq.trans rfl rfl
@[simp] theorem bf_len_l : Ir.bfn .len [.list x] = some (.d (.int x.length)) := Eq.trans rfl rfl
@[simp] theorem bf_len_t : Ir.bfn .len [.tuple x] = some (.d (.int x.length)) := Eq.trans rfl rfl
@[simp] theorem bf_min2 : Ir.bfn .min2 [.int i, .int j] = some (.d (.int (if j < i then j else i))) := Eq.trans rfl rfl
@[simp] theorem bf_max2 : Ir.bfn .max2 [.int i, .int j] = some (.d (.int (if j > i then j else i))) := Eq.trans rfl rfl
@[simp] theorem bf_int : Ir.bfn .int [.int i] = some (.d (.int i)) := Eq.trans rfl rfl
@[simp] theorem bf_list_t : Ir.bfn .list [.tuple x] = some (.own x) := Eq.trans rfl rfl
@[simp] theorem bf_list_l : Ir.bfn .list [.list x] = some (.own x) := Eq.trans rfl rfl
@[simp] theorem bf_tuple_l : Ir.bfn .tuple [.list x] = some (.d (.tuple x)) := Eq.trans rfl rfl
@[simp] theorem bf_tuple_t : Ir.bfn .tuple [.tuple x] = some (.d (.tuple x)) := Eq.trans rfl rfl
@[simp] theorem blsOf_map {α : Type} (f : α → Bool) : ∀ l : List α, blsOf (l.map fun a => (.bool (f a) : D)) = some (l.map f)
  | [] => rfl
  | a :: r => by
    show (blsOf (r.map _)).map (f a :: ·) = _
    rw [blsOf_map f r]
    rfl
@[simp] theorem intsOf_map {α : Type} (f : α → Int) : ∀ l : List α, intsOf (l.map fun a => (.int (f a) : D)) = some (l.map f)
  | [] => rfl
  | a :: r => by
    show (intsOf (r.map _)).map (f a :: ·) = _
    rw [intsOf_map f r]
    rfl
@[simp] theorem intsOf_ofInts (l : List Int) : intsOf (ofInts l) = some l := by
  have := intsOf_map id l
  simpa [ofInts] using this
@[simp] theorem blsOf_nil : blsOf [] = some [] := Eq.trans rfl rfl
@[simp] theorem blsOf_cons {b : Bool} {r : List D} : blsOf (.bool b :: r) = (blsOf r).map (b :: ·) := Eq.trans rfl rfl
@[simp] theorem bf_all {x : List D} : Ir.bfn .all [.list x] = (blsOf x).map fun b => Val.d (.bool (b.all id)) := Eq.trans rfl rfl
@[simp] theorem bf_any {x : List D} : Ir.bfn .any [.list x] = (blsOf x).map fun b => Val.d (.bool (b.any id)) := Eq.trans rfl rfl
@[simp] theorem ixD_t {k : Int} : ixD (.tuple x) (.int k) = atI x k := Eq.trans rfl rfl
@[simp] theorem ixD_l {k : Int} : ixD (.list x) (.int k) = atI x k := Eq.trans rfl rfl
theorem atI_nat {α : Type} (xs : List α) (n : Nat) : atI xs (n : Int) = xs[n]? := by
  unfold atI ixN
  rw [if_pos (by omega)]
  by_cases h : n < xs.length
  · rw [if_pos (by omega)]; simp
  · rw [if_neg (by omega)]
    rw [List.getElem?_eq_none (by omega)]; rfl
theorem atI_of {α : Type} {xs : List α} {i : Int} (h0 : 0 ≤ i) : atI xs i = xs[i.toNat]? := by
  have := atI_nat xs i.toNat
  rw [Int.toNat_of_nonneg h0] at this
  exact this
@[simp] theorem atI_0 {α : Type} {xs : List α} : atI xs 0 = xs[0]? := atI_nat xs 0
@[simp] theorem atI_1 {α : Type} {xs : List α} : atI xs 1 = xs[1]? := atI_nat xs 1
@[simp] theorem atI_2 {α : Type} {xs : List α} : atI xs 2 = xs[2]? := atI_nat xs 2
@[simp] theorem atI_3 {α : Type} {xs : List α} : atI xs 3 = xs[3]? := atI_nat xs 3
theorem atI_last {α : Type} (xs : List α) : atI xs (-1) = xs.getLast? := by
  unfold atI ixN
  rw [if_neg (by decide)]
  cases xs with
  | nil => rfl
  | cons a r =>
    rw [if_pos (by simp only [List.length_cons]; omega), List.getLast?_eq_getElem?]
    show (a :: r)[((-1 : Int) + ((a :: r).length : Int)).toNat]? = _
    congr 1
    simp only [List.length_cons]
    omega
theorem cutL_hi {xs : List D} {n : Nat} : cutL xs none (some (n : Int)) = xs.take n := by
  unfold cutL
  rw [HT.sIx_nat]
  show (xs.drop 0).take (min n xs.length - 0) = _
  rw [List.drop_zero, Nat.sub_zero]
  rcases Nat.le_total n xs.length with h | h
  · rw [Nat.min_eq_left h]
  · rw [Nat.min_eq_right h, List.take_length, List.take_of_length_le h]
theorem cutL_lo {xs : List D} {n : Nat} : cutL xs (some (n : Int)) none = xs.drop n := by
  unfold cutL
  rw [HT.sIx_nat]
  show (xs.drop (min n xs.length)).take (xs.length - min n xs.length) = _
  rcases Nat.le_total n xs.length with h | h
  · rw [Nat.min_eq_left h, List.take_of_length_le (by simp)]
  · rw [Nat.min_eq_right h, List.drop_length, List.drop_eq_nil_of_le h]; simp
@[simp] theorem cut_h1 {xs : List D} : cutL xs none (some 1) = xs.take 1 := cutL_hi (n := 1)
@[simp] theorem cut_h2 {xs : List D} : cutL xs none (some 2) = xs.take 2 := cutL_hi (n := 2)
@[simp] theorem cut_h10 {xs : List D} : cutL xs none (some 10) = xs.take 10 := cutL_hi (n := 10)
@[simp] theorem cut_h8 {xs : List D} : cutL xs none (some 8) = xs.take 8 := cutL_hi (n := 8)
@[simp] theorem cut_l1 {xs : List D} : cutL xs (some 1) none = xs.drop 1 := cutL_lo (n := 1)
@[simp] theorem cut_l2 {xs : List D} : cutL xs (some 2) none = xs.drop 2 := cutL_lo (n := 2)
@[simp] theorem slD_t {lo hi} : slD (.tuple x) lo hi = some (.d (.tuple (cutL x lo hi))) := Eq.trans rfl rfl
@[simp] theorem slD_l {lo hi} : slD (.list x) lo hi = some (.own (cutL x lo hi)) := Eq.trans rfl rfl
@[simp] theorem seqOf_t : seqOf (.tuple x) = some x := Eq.trans rfl rfl
@[simp] theorem seqOf_l : seqOf (.list x) = some x := Eq.trans rfl rfl
@[simp] theorem isTy_int_i : isTy .int (.int i) = true := Eq.trans rfl rfl
@[simp] theorem isTy_bool_i : isTy .bool (.int i) = false := Eq.trans rfl rfl
@[simp] theorem isTy_tuple_t : isTy .tuple (.tuple x) = true := Eq.trans rfl rfl
@[simp] theorem lineMax_le : lineMax = 16777216 := Eq.trans rfl rfl
end ops
theorem sem_eq {T : Nat → Option Fn} {kin : Exn → D} {f : Nat} {fn : Fn} (h : T f = some fn) {n : Nat} (hn : 0 < n) : sem T kin n f = callF (sem T kin (n - 1)) kin fn := by
  obtain ⟨m, rfl⟩ : ∃ m, n = m + 1 := ⟨n - 1, by omega⟩
  funext io as
  show (match T f with
    | some fn => callF (sem T kin m) kin fn io as
    | none => .bad) = _
  rw [h]
  rfl
/-- that a call gives this value, the borrowed list empty -/
abbrev Gives (Φ : Fs) (f : Nat) (as : List D) (v : D) : Prop := Φ f [] as = .ok (.d v) []
end Ir

set_option Elab.async false
set_option linter.all false
set_option maxRecDepth 100000
set_option maxHeartbeats 4000000
/-! houses.py, as it computes. -/
namespace Ir
open PySem L2 Fns
def isWithin (v : D) (lo hi : Int) : Bool := match v with
  | .int i => decide (lo ≤ i) && decide (i ≤ hi)
  | _ => false
def hasItems (v : D) (lo hi : Int) : Bool := match v with
  | .tuple xs => decide (lo ≤ (xs.length : Int)) && decide ((xs.length : Int) ≤ hi)
  | _ => false
/-- the items of a tuple -/
def tupL : D → List D
  | .tuple xs => xs
  | _ => []
def itemAt (v : D) (i : Nat) : D := (tupL v).getD i .none
def isGate (v : D) (fl : Int) : Bool := hasItems v 4 4 && isWithin (itemAt v 0) (-1) (fl - 1) && isWithin (itemAt v 1) (-1) (fl - 1) && !(PyData.eqv (itemAt v 0) (itemAt v 1)) && isWithin (itemAt v 2) 0 5 && isWithin (itemAt v 3) 0 5
def isHouse (v : D) : Bool := hasItems v 2 2 && hasItems (itemAt v 0) 1 3 && hasItems (itemAt v 1) 1 5 && (tupL (itemAt v 0)).all (fun r => isWithin r 1 40) && (tupL (itemAt v 1)).all fun g => isGate g ((tupL (itemAt v 0)).length : Int)
theorem within_int {v : D} {lo hi : Int} (h : isWithin v lo hi = true) : ∃ i, v = .int i ∧ lo ≤ i ∧ i ≤ hi := by
  cases v <;> simp [isWithin] at h
  exact ⟨_, rfl, h⟩
theorem items_tup {v : D} {lo hi : Int} (h : hasItems v lo hi = true) : ∃ xs, v = .tuple xs ∧ lo ≤ xs.length ∧ (xs.length : Int) ≤ hi := by
  cases v <;> simp [hasItems] at h
  exact ⟨_, rfl, h⟩
theorem len4 {xs : List D} (h : xs.length = 4) : ∃ a b c d, xs = [a, b, c, d] := by
  match xs, h with
  | [a, b, c, d], _ => exact ⟨a, b, c, d, rfl⟩
theorem len3 {xs : List D} (h : xs.length = 3) : ∃ a b c, xs = [a, b, c] := by
  match xs, h with
  | [a, b, c], _ => exact ⟨a, b, c, rfl⟩
theorem len2 {xs : List D} (h : xs.length = 2) : ∃ a b, xs = [a, b] := by
  match xs, h with
  | [a, b], _ => exact ⟨a, b, rfl⟩
section
variable {Φ : Fs} {kin : Exn → D}
theorem is_within_ok (v : D) (lo hi : Int) : callF Φ kin f_is_within [] [v, .int lo, .int hi] = .ok (.d (.bool (isWithin v lo hi))) [] := by
  refine FRes.sat.eq (call_sat ⟨rfl, by decide⟩ ?_)
  cases v <;> simp [f_is_within, startS, isTy, isWithin]
  grind
theorem has_items_ok (v : D) (lo hi : Int) : callF Φ kin f_has_items [] [v, .int lo, .int hi] = .ok (.d (.bool (hasItems v lo hi))) [] := by
  refine FRes.sat.eq (call_sat ⟨rfl, by decide⟩ ?_)
  cases v <;> simp [f_has_items, startS, isTy, hasItems]
  grind
abbrev Within (Φ : Fs) : Prop := ∀ v lo hi, Φ 0 [] [v, .int lo, .int hi] = .ok (.d (.bool (isWithin v lo hi))) []
abbrev Items (Φ : Fs) : Prop := ∀ v lo hi, Φ 1 [] [v, .int lo, .int hi] = .ok (.d (.bool (hasItems v lo hi))) []
/-- a comprehension over typed items -/
theorem comp_enc {α : Type} {e it c : Ex} {t : Tg} {own : List Nat} {s : Sl} {Q : Val → Sl → Prop} {E : Exn → Sl → Prop} (enc : α → D) (p : α → Bool) (g : α → D)
    (h : (ev Φ kin it s).sat (itmQ fun items s1 => plainSlots s1 own = true ∧ ∃ l : List α, items = l.map enc ∧ l.length ≤ lineMax ∧
      (∀ a ∈ l, optQ (fun s2 => (ev Φ kin c s2).sat (blQ fun b s3 => b = p a ∧ if p a then (ev Φ kin e s3).sat (datQ fun y s4 => y = g a ∧ wipeS s4 own = wipeS s1 own) (fun _ _ => False) else wipeS s3 own = wipeS s1 own) (fun _ _ => False)) (tgSet t [enc a] (wipeS s1 own))) ∧
      Q (.own ((l.filter p).map g)) (backS s1 (wipeS s1 own) own)) E) : (ev Φ kin (.comp e t it c own) s).sat Q E := by
  refine comp_rule (h.mono (fun v s1 q => ?_) fun _ _ z => z)
  cases v with
  | d x =>
    cases x with
    | list items =>
      obtain ⟨h1, l, rfl, hl, h2, h3⟩ := q
      refine ⟨h1, fun r acc w => ∃ pre post, l = pre ++ post ∧ r = post.map enc ∧ acc = (pre.filter p).map g ∧ w = wipeS s1 own, ⟨[], l, rfl, rfl, rfl, rfl⟩, ?_, ?_⟩
      · rintro x r acc w ⟨pre, post, e1, e2, rfl, rfl⟩
        cases post with
        | nil => cases e2
        | cons a post =>
          rw [List.map_cons] at e2
          injection e2 with e2 e3
          subst e2 e3
          have hx := h2 a (by rw [e1]; exact List.mem_append_right _ List.mem_cons_self)
          have hacc : ((pre.filter p).map g).length < lineMax := by
            have a1 := List.length_filter_le p pre
            rw [e1] at hl
            simp only [List.length_append, List.length_cons] at hl
            rw [List.length_map]
            omega
          cases q : tgSet t [enc a] (wipeS s1 own) with
          | none => rw [q] at hx; exact hx
          | some s2 =>
            rw [q] at hx
            refine Res.sat.mono (show (ev Φ kin c s2).sat _ _ from hx) (fun v s3 z => ?_) fun _ _ z => z
            cases v with
            | d y =>
              cases y with
              | bool b =>
                obtain ⟨rfl, z⟩ := z
                show if p a = true then _ else _
                cases hp : p a with
                | true =>
                  rw [hp] at z
                  rw [if_pos rfl] at z ⊢
                  refine z.mono (fun v s4 z => ?_) fun _ _ z => z
                  unfold datQ at z ⊢
                  cases ey : v.toD with
                  | none => rw [ey] at z; exact z
                  | some y =>
                    rw [ey] at z
                    obtain ⟨rfl, z⟩ := z
                    exact ⟨hacc, pre ++ [a], post, by rw [e1, List.append_assoc]; rfl, rfl, by simp [hp], z⟩
                | false =>
                  rw [hp] at z
                  rw [if_neg Bool.false_ne_true] at z ⊢
                  exact ⟨pre ++ [a], post, by rw [e1, List.append_assoc]; rfl, rfl, by simp [hp], z⟩
              | _ => exact z.elim
            | _ => exact z.elim
      · rintro acc w ⟨pre, post, e1, e2, rfl, rfl⟩
        have : post = [] := by
          cases post with
          | nil => rfl
          | cons _ _ => cases e2
        subst this
        rw [List.append_nil] at e1
        rw [← e1]
        exact h3
    | _ => exact q.elim
  | _ => exact q.elim
theorem zipD_map {α β : Type} (f : α → D) (g : β → D) : ∀ (l : List α) (m : List β), zipD (l.map f) (m.map g) = (l.zip m).map fun p => .tuple [f p.1, g p.2]
  | [], _ => rfl
  | _ :: _, [] => rfl
  | a :: l, b :: m => by
    show _ :: zipD (l.map f) (m.map g) = _
    rw [zipD_map f g l m]
    rfl
theorem enumD_map {α : Type} (f : α → D) : ∀ (l : List α) (k : Nat), enumD k (l.map f) = (l.zipIdx k).map fun p => .tuple [.int p.2, f p.1]
  | [], _ => rfl
  | a :: l, k => by
    show _ :: enumD (k + 1) (l.map f) = _
    rw [enumD_map f l (k + 1)]
    rfl
/-- [e for x in xs] with one name -/
theorem comp_nm {e it : Ex} {i : Nat} {s : Sl} {Q : Val → Sl → Prop} {E : Exn → Sl → Prop} (g : D → D) (h : (ev Φ kin it s).sat (itmQ fun items s1 => plainSlots s1 [i] = true ∧ i < s1.length ∧ items.length ≤ lineMax ∧
      (∀ x ∈ items, (ev Φ kin e (s1.set i (some (.d x)))).sat (datQ fun y s2 => y = g x ∧ s2.set i none = s1.set i none) fun _ _ => False) ∧ Q (.own (items.map g)) (backS s1 (wipeS s1 [i]) [i])) E) :
    (ev Φ kin (.comp e (.nm i) it (.cst (.bool true)) [i]) s).sat Q E := by
  refine comp_map (fun _ => true) g (h.mono (fun v s1 q => ?_) fun _ _ z => z)
  cases v with
  | d x =>
    cases x with
    | list items =>
      obtain ⟨h1, h2, h3, h4, h5⟩ := q
      refine ⟨h1, h3, fun x hx => ?_, ?_⟩
      · rw [tg_nm, wipe_cons, wipe_nil, List.length_set, if_pos h2, List.set_set, optQ_some, w_cst, blQ_b]
        exact ⟨rfl, h4 x hx⟩
      · have e1 : items.filter (fun _ => true) = items := List.filter_eq_self.mpr fun _ _ => rfl
        rw [e1]
        exact h5
    | _ => exact q.elim
  | _ => exact q.elim
@[simp] theorem shp_int {i : Int} : shp (.int i) = true := Eq.trans rfl rfl
@[simp] theorem shp_bool {i : Bool} : shp (.bool i) = true := Eq.trans rfl rfl
@[simp] theorem shp_none : shp .none = true := Eq.trans rfl rfl
theorem cop_eq {x y : D} (hx : shp x = true) (hy : shp y = true) : cop .eq x y = some (PyData.eqv x y) := by simp [cop, hx, hy]
theorem cop_ne {x y : D} (hx : shp x = true) (hy : shp y = true) : cop .ne x y = some (!PyData.eqv x y) := by simp [cop, hx, hy]
@[simp] theorem eqv_int {i j : Int} : PyData.eqv (.int i) (.int j) = decide (i = j) := by rw [PyData.eqv]; exact (Bool.beq_eq_decide_eq i j)
@[simp] theorem cop_eq_int {i j : Int} : cop .eq (.int i) (.int j) = some (decide (i = j)) := by rw [cop_eq rfl rfl, eqv_int]
@[simp] theorem cop_ne_int {i j : Int} : cop .ne (.int i) (.int j) = some (!decide (i = j)) := by rw [cop_ne rfl rfl, eqv_int]
theorem is_gate_ok (hw : Within Φ) (hi : Items Φ) (v : D) (fl : Int) : callF Φ kin f_is_gate [] [v, .int fl] = .ok (.d (.bool (isGate v fl))) [] := by
  refine FRes.sat.eq (call_sat ⟨rfl, by decide⟩ ?_)
  simp [f_is_gate, startS, hi]
  by_cases h : hasItems v 4 4 = true
  · rw [if_pos h]
    obtain ⟨xs, rfl, l1, l2⟩ := items_tup h
    obtain ⟨a, b, c, d, rfl⟩ := len4 (xs := xs) (by omega)
    refine comp_nm (fun x => .bool (isWithin x (-1) (fl - 1))) ?_
    simp [plainSlots, hw]
    by_cases h2 : isWithin a (-1) (fl - 1) = true ∧ isWithin b (-1) (fl - 1) = true
    · obtain ⟨i, rfl, _, _⟩ := within_int h2.1
      obtain ⟨j, rfl, _, _⟩ := within_int h2.2
      simp [h2]
      by_cases h3 : i = j
      · simp_all [isGate, itemAt, tupL]
      · simp [h3]
        refine comp_nm (fun x => .bool (isWithin x 0 5)) ?_
        simp [plainSlots, hw, isGate, itemAt, tupL, h, h2, h3]
    · rw [if_pos (by grind)]
      simp only [isGate, itemAt, tupL]
      simp_all
  · rw [if_neg h]
    have h' : hasItems v 4 4 = false := by simpa using h
    simp [isGate, h']
abbrev Gate (Φ : Fs) : Prop := ∀ v fl, Φ 2 [] [v, .int fl] = .ok (.d (.bool (isGate v fl))) []
theorem is_house_value_ok (hw : Within Φ) (hi : Items Φ) (hg : Gate Φ) (v : D) : callF Φ kin f_is_house_value [] [v] = .ok (.d (.bool (isHouse v))) [] := by
  refine FRes.sat.eq (call_sat ⟨rfl, by decide⟩ ?_)
  simp [f_is_house_value, startS, hi]
  by_cases h : hasItems v 2 2 = true
  · rw [if_pos h]
    obtain ⟨xs, rfl, l1, l2⟩ := items_tup h
    obtain ⟨a, b, rfl⟩ := len2 (xs := xs) (by omega)
    simp [hi]
    by_cases h2 : hasItems a 1 3 = true
    · by_cases h3 : hasItems b 1 5 = true
      · obtain ⟨rs, rfl, l3, l4⟩ := items_tup h2
        obtain ⟨gs, rfl, l5, l6⟩ := items_tup h3
        simp [h2, h3]
        refine comp_nm (fun x => .bool (isWithin x 1 40)) ?_
        simp [plainSlots, hw]
        refine ⟨by omega, ?_⟩
        by_cases h4 : ∃ x, x ∈ rs ∧ isWithin x 1 40 = false
        · rw [if_pos h4]
          simp only [isHouse, itemAt, tupL]
          simp_all
          grind
        · rw [if_neg h4]
          refine comp_nm (fun x => .bool (isGate x rs.length)) ?_
          simp [plainSlots, hg]
          refine ⟨by omega, ?_⟩
          simp only [isHouse, itemAt, tupL]
          simp_all
      · simp_all [isHouse, itemAt, tupL]
    · simp_all [isHouse, itemAt, tupL]
  · rw [if_neg h]
    have h' : hasItems v 2 2 = false := by simpa using h
    simp [isHouse, h']
/-! with a house's rooms and the number of its gates -/
def houseD (rs : List Int) (gs : List D) : D := .tuple [.tuple (ofInts rs), .tuple gs]
def isStretch (ng : Nat) (v : D) : Bool := hasItems v ng ng && (tupL v).all fun c => isWithin c 0 99
def intAt (v : D) (i : Nat) : Int := match itemAt v i with
  | .int n => n
  | _ => 0
def isLook (rs : List Int) (moments : Int) (v : D) : Bool := hasItems v 3 3 && isWithin (itemAt v 0) 0 moments && isWithin (itemAt v 1) 0 (rs.length - 1) && isWithin (itemAt v 2) 0 (rs.getD (intAt v 1).toNat 0)
def spot (v : D) : List Int := [intAt v 0, intAt v 1]
def ascB : List (List Int) → Bool
  | a :: b :: r => lexLt a b && ascB (b :: r)
  | _ => true
def isBook (rs : List Int) (ng : Nat) (v : D) : Bool := hasItems v 2 2 && hasItems (itemAt v 0) 0 4 && hasItems (itemAt v 1) 0 8 && (tupL (itemAt v 0)).all (isStretch ng) && (tupL (itemAt v 1)).all (isLook rs (tupL (itemAt v 0)).length) && ascB ((tupL (itemAt v 1)).map spot)
theorem is_stretch_ok (hw : Within Φ) (hi : Items Φ) (rs : List Int) (gs : List D) (hg : gs.length ≤ 100) (v : D) : callF Φ kin f_is_stretch [] [houseD rs gs, v] = .ok (.d (.bool (isStretch gs.length v))) [] := by
  refine FRes.sat.eq (call_sat ⟨rfl, by decide⟩ ?_)
  simp [f_is_stretch, startS, hi, houseD]
  by_cases h : hasItems v gs.length gs.length = true
  · rw [if_pos h]
    obtain ⟨xs, rfl, l1, l2⟩ := items_tup h
    have hl : xs.length ≤ 16777216 := by omega
    refine comp_nm (fun x => .bool (isWithin x 0 99)) ?_
    simp [plainSlots, hw, hl, isStretch, h, tupL]
  · rw [if_neg h]
    have h' : hasItems v gs.length gs.length = false := by simpa using h
    simp [isStretch, h']
theorem is_look_ok (hw : Within Φ) (hi : Items Φ) (rs : List Int) (gs : List D) (m : Int) (v : D) : callF Φ kin f_is_look [] [houseD rs gs, .int m, v] = .ok (.d (.bool (isLook rs m v))) [] := by
  refine FRes.sat.eq (call_sat ⟨rfl, by decide⟩ ?_)
  simp [f_is_look, startS, hi, houseD]
  by_cases h : hasItems v 3 3 = true
  · obtain ⟨xs, rfl, l1, l2⟩ := items_tup h
    obtain ⟨a, b, c, rfl⟩ := len3 (xs := xs) (by omega)
    simp [hw, ofInts, h]
    by_cases h1 : isWithin a 0 m = true
    · by_cases h2 : isWithin b 0 (rs.length - 1) = true
      · obtain ⟨j, rfl, h3, h4⟩ := within_int h2
        have hj : j.toNat < rs.length := by omega
        simp [h1, h2, atI_of h3, List.getElem?_eq_getElem hj, hw]
        simp [isLook, itemAt, tupL, intAt, h, h1, h2, List.getElem?_eq_getElem hj]
      · simp_all [isLook, itemAt, tupL, intAt]
    · simp_all [isLook, itemAt, tupL, intAt]
  · have h' : hasItems v 3 3 = false := by simpa using h
    simp [isLook, h']
abbrev Stretch (Φ : Fs) : Prop := ∀ rs gs v, gs.length ≤ 100 → Φ 4 [] [houseD rs gs, v] = .ok (.d (.bool (isStretch gs.length v))) []
abbrev Look (Φ : Fs) : Prop := ∀ rs gs m v, Φ 5 [] [houseD rs gs, .int m, v] = .ok (.d (.bool (isLook rs m v))) []
theorem look_spot {rs : List Int} {m : Int} {v : D} (h : isLook rs m v = true) : ∃ a b c, v = .tuple [.int a, .int b, .int c] ∧ 0 ≤ a ∧ a ≤ m ∧ 0 ≤ b ∧ b < rs.length ∧ 0 ≤ c ∧ c ≤ rs.getD b.toNat 0 := by
  unfold isLook at h
  simp only [Bool.and_eq_true] at h
  obtain ⟨⟨⟨h1, h2⟩, h3⟩, h4⟩ := h
  obtain ⟨xs, rfl, l1, l2⟩ := items_tup h1
  obtain ⟨a, b, c, rfl⟩ := len3 (xs := xs) (by omega)
  obtain ⟨i, e, _, _⟩ := within_int h2
  obtain ⟨j, e2, _, _⟩ := within_int h3
  obtain ⟨k, e3, _, _⟩ := within_int h4
  simp [itemAt, tupL] at e e2 e3
  subst e e2 e3
  simp [intAt, itemAt, tupL] at *
  exact ⟨i, j, k, ⟨rfl, rfl, rfl⟩, by omega, by omega, by omega, by omega, by omega, by omega⟩
theorem ascB_zip : ∀ l : List (List Int), ascB l = (l.zip (l.drop 1)).all fun p => lexLt p.1 p.2
  | [] => rfl
  | [_] => rfl
  | a :: b :: r => by
    show (lexLt a b && ascB (b :: r)) = _
    rw [ascB_zip (b :: r)]
    rfl
theorem is_book_value_ok (hi : Items Φ) (hs : Stretch Φ) (hl : Look Φ) (rs : List Int) (gs : List D) (hg : gs.length ≤ 100) (v : D) : callF Φ kin f_is_book_value [] [houseD rs gs, v] = .ok (.d (.bool (isBook rs gs.length v))) [] := by
  refine FRes.sat.eq (call_sat ⟨rfl, by decide⟩ ?_)
  simp [f_is_book_value, startS, hi]
  by_cases h : hasItems v 2 2 = true
  · obtain ⟨xs, rfl, l1, l2⟩ := items_tup h
    obtain ⟨a, b, rfl⟩ := len2 (xs := xs) (by omega)
    simp [hi, h]
    by_cases h2 : hasItems a 0 4 = true
    · by_cases h3 : hasItems b 0 8 = true
      · obtain ⟨cs, rfl, l3, l4⟩ := items_tup h2
        obtain ⟨ls, rfl, l5, l6⟩ := items_tup h3
        simp [h2, h3]
        refine comp_nm (fun x => .bool (isStretch gs.length x)) ?_
        simp [plainSlots, hs _ _ _ hg]
        refine ⟨by omega, ?_⟩
        by_cases h4 : ∃ x, x ∈ cs ∧ isStretch gs.length x = false
        · rw [if_pos h4]
          simp only [isBook, itemAt, tupL]
          simp_all
          grind
        · rw [if_neg h4]
          refine comp_nm (fun x => .bool (isLook rs cs.length x)) ?_
          simp [plainSlots, hl]
          refine ⟨by omega, ?_⟩
          by_cases h5 : ∃ x, x ∈ ls ∧ isLook rs cs.length x = false
          · rw [if_pos h5]
            simp only [isBook, itemAt, tupL]
            simp_all
            grind
          · rw [if_neg h5]
            have hls : ∀ x ∈ ls, isLook rs cs.length x = true := fun x hx => by
              cases e : isLook rs cs.length x with
              | true => rfl
              | false => exact (h5 ⟨x, hx, e⟩).elim
            refine comp_nm (fun x => .tuple (ofInts (spot x))) ?_
            simp [plainSlots]
            refine ⟨by omega, fun x hx => ?_, ?_⟩
            · obtain ⟨i, j, k, rfl, _⟩ := look_spot (hls x hx)
              simp [spot, intAt, itemAt, tupL, ofInts]
            · refine comp_enc (fun p : D × D => .tuple [.tuple (ofInts (spot p.1)), .tuple (ofInts (spot p.2))]) (fun _ => true) (fun p => .bool (lexLt (spot p.1) (spot p.2))) ?_
              simp [plainSlots]
              refine ⟨ls.zip ls.tail, by rw [← List.map_tail, zipD_map], by simp; omega, fun x y hx => ?_, ?_⟩
              · simp [cop]
              · simp only [isBook, itemAt, tupL]
                simp [ascB_zip, ← List.map_tail, List.zip_map', List.zip_map, h, h2, h3]
                have e1 : cs.all (isStretch gs.length) = true := by
                  rw [List.all_eq_true]
                  intro x hx
                  cases e : isStretch gs.length x with
                  | true => rfl
                  | false => exact (h4 ⟨x, hx, e⟩).elim
                have e2 : ls.all (isLook rs cs.length) = true := List.all_eq_true.mpr hls
                rw [e1, e2]
                rfl
      · simp_all [isBook, itemAt, tupL]
    · simp_all [isBook, itemAt, tupL]
  · have h' : hasItems v 2 2 = false := by simpa using h
    simp [isBook, h']
abbrev HouseV (Φ : Fs) : Prop := ∀ v, Φ 3 [] [v] = .ok (.d (.bool (isHouse v))) []
abbrev BookV (Φ : Fs) : Prop := ∀ rs gs v, gs.length ≤ 100 → Φ 6 [] [houseD rs gs, v] = .ok (.d (.bool (isBook rs gs.length v))) []
/-- a check that raises the exception number c -/
def needR (b : Bool) (c : Nat) : FRes := if b then .ok (.d .none) [] else .exc ⟨c, none⟩ []
theorem FRes.sat.exc {r : FRes} {x : Exn} {io : List D} (h : r.sat (fun _ _ => False) fun y s => y = x ∧ s = io) : r = .exc x io := by
  cases r with
  | ok a s => exact h.elim
  | exc a s => obtain ⟨rfl, rfl⟩ := h; rfl
  | bad => exact h.elim
theorem need_house_ok (h : HouseV Φ) (v : D) : callF Φ kin f_need_house [] [v] = needR (isHouse v) 0 := by
  unfold needR
  cases e : isHouse v with
  | true =>
    refine FRes.sat.eq (call_sat ⟨rfl, by decide⟩ ?_)
    simp [f_need_house, startS, h, e]
  | false =>
    refine FRes.sat.exc (call_sat ⟨rfl, by decide⟩ ?_)
    simp [f_need_house, startS, h, e]
theorem need_book_ok (h : BookV Φ) (rs : List Int) (gs : List D) (hg : gs.length ≤ 100) (v : D) : callF Φ kin f_need_book [] [houseD rs gs, v] = needR (isBook rs gs.length v) 1 := by
  unfold needR
  cases e : isBook rs gs.length v with
  | true =>
    refine FRes.sat.eq (call_sat ⟨rfl, by decide⟩ ?_)
    simp [f_need_book, startS, h _ _ _ hg, e]
  | false =>
    refine FRes.sat.exc (call_sat ⟨rfl, by decide⟩ ?_)
    simp [f_need_book, startS, h _ _ _ hg, e]
theorem need_gate_ok (h : Within Φ) (rs : List Int) (gs : List D) (v : D) : callF Φ kin f_need_gate [] [houseD rs gs, v] = needR (isWithin v 0 (gs.length - 1)) 4 := by
  unfold needR
  cases e : isWithin v 0 (gs.length - 1) with
  | true =>
    refine FRes.sat.eq (call_sat ⟨rfl, by decide⟩ ?_)
    simp [f_need_gate, startS, houseD, h, e]
  | false =>
    refine FRes.sat.exc (call_sat ⟨rfl, by decide⟩ ?_)
    simp [f_need_gate, startS, houseD, h, e]
theorem need_floor_ok (h : Within Φ) (rs : List Int) (gs : List D) (v : D) : callF Φ kin f_need_floor [] [houseD rs gs, v] = needR (isWithin v 0 (rs.length - 1)) 3 := by
  unfold needR
  cases e : isWithin v 0 (rs.length - 1) with
  | true =>
    refine FRes.sat.eq (call_sat ⟨rfl, by decide⟩ ?_)
    simp [f_need_floor, startS, houseD, h, e, ofInts]
  | false =>
    refine FRes.sat.exc (call_sat ⟨rfl, by decide⟩ ?_)
    simp [f_need_floor, startS, houseD, h, e, ofInts]
theorem need_moment_ok (h : Within Φ) (v : D) (m : Int) : callF Φ kin f_need_moment [] [v, .int m] = needR (isWithin v 0 m) 2 := by
  unfold needR
  cases e : isWithin v 0 m with
  | true =>
    refine FRes.sat.eq (call_sat ⟨rfl, by decide⟩ ?_)
    simp [f_need_moment, startS, h, e]
  | false =>
    refine FRes.sat.exc (call_sat ⟨rfl, by decide⟩ ?_)
    simp [f_need_moment, startS, h, e]
theorem need_number_ok (h : Within Φ) (v : D) (m : Int) : callF Φ kin f_need_number [] [v, .int m] = needR (isWithin v 0 m) 5 := by
  unfold needR
  cases e : isWithin v 0 m with
  | true =>
    refine FRes.sat.eq (call_sat ⟨rfl, by decide⟩ ?_)
    simp [f_need_number, startS, h, e]
  | false =>
    refine FRes.sat.exc (call_sat ⟨rfl, by decide⟩ ?_)
    simp [f_need_number, startS, h, e]
/-- what can have gone through: the least, the greatest -/
def passLo (d c : Int) : Int := c - (if c / 2 < d then c / 2 else d)
def gateD (a b m d : Int) : D := .tuple [.int a, .int b, .int m, .int d]
theorem pass_bounds_ok (a b m d c : Int) : callF Φ kin f_pass_bounds [] [gateD a b m d, .int c] = .ok (.d (.tuple [.int (passLo d c), .int (c + m)])) [] := by
  refine FRes.sat.eq (call_sat ⟨rfl, by decide⟩ ?_)
  simp [f_pass_bounds, startS, gateD, passLo, bop_fdiv_int]
theorem is_house_ok (h : HouseV Φ) (v : D) : callF Φ kin f_is_house [] [v] = .ok (.d (.bool (isHouse v))) [] := by
  refine FRes.sat.eq (call_sat ⟨rfl, by decide⟩ ?_)
  simp [f_is_house, startS, h]
abbrev NeedHouse (Φ : Fs) : Prop := ∀ v, Φ 7 [] [v] = needR (isHouse v) 0
abbrev NeedGate (Φ : Fs) : Prop := ∀ rs gs v, Φ 8 [] [houseD rs gs, v] = needR (isWithin v 0 (gs.length - 1)) 4
abbrev NeedNumber (Φ : Fs) : Prop := ∀ v m, Φ 9 [] [v, .int m] = needR (isWithin v 0 m) 5
abbrev PassBounds (Φ : Fs) : Prop := ∀ a b m d c, Φ 10 [] [gateD a b m d, .int c] = .ok (.d (.tuple [.int (passLo d c), .int (c + m)])) []
theorem is_book_ok (hn : NeedHouse Φ) (hb : BookV Φ) (rs : List Int) (gs : List D) (hg : gs.length ≤ 100) (hh : isHouse (houseD rs gs) = true) (v : D) : callF Φ kin f_is_book [] [houseD rs gs, v] = .ok (.d (.bool (isBook rs gs.length v))) [] := by
  refine FRes.sat.eq (call_sat ⟨rfl, by decide⟩ ?_)
  simp [f_is_book, startS, hn, hb _ _ _ hg, hh, needR]
theorem is_book_exc (hn : NeedHouse Φ) (h v : D) (hh : isHouse h = false) : callF Φ kin f_is_book [] [h, v] = .exc ⟨0, none⟩ [] := by
  refine FRes.sat.exc (call_sat ⟨rfl, by decide⟩ ?_)
  simp [f_is_book, startS, hn, hh, needR]
end
end Ir

set_option Elab.async false
set_option linter.all false
set_option maxRecDepth 100000
set_option maxHeartbeats 4000000
/-! The draws. -/
namespace Ir
open PySem L2 Fns
/-- a deck from which at most m were drawn by mixing -/
def Deck (m : Int) (io : List D) : Prop := ∃ a b c : Int, io = [.int a, .int b, .int c] ∧ 0 ≤ b ∧ b < 2147483579 ∧ 0 ≤ c ∧ c ≤ m
theorem Deck.mono {m n : Int} {io : List D} (h : Deck m io) (l : m ≤ n) : Deck n io := by
  obtain ⟨a, b, c, e, h1, h2, h3, h4⟩ := h
  exact ⟨a, b, c, e, h1, h2, h3, by omega⟩
abbrev noE : Exn → List D → Prop := fun _ _ => False
section
variable {Φ : Fs} {kin : Exn → D}
theorem law_deck_ok (cell t : Int) (ht : 0 ≤ t) : ∃ io, callF Φ kin f_law_deck [] [.int cell, .int t] = .ok (.own io) [] ∧ Deck t io := by
  have hp : bopV .pow (.int 10) (.int 18) = some (.d (.int (10 ^ 18))) := bop_pow_int (by decide)
  by_cases h : 10 ^ 18 ≤ cell
  · refine ⟨[.int (cell - 10 ^ 18), .int (cell % 2147483579), .int t], FRes.sat.eq (call_sat ⟨rfl, by decide⟩ ?_), _, _, _, rfl, by omega, by omega, ht, by omega⟩
    have h' : (1000000000000000000 : Int) ≤ cell := h
    simp [f_law_deck, startS, hp, bop_mod_int, h']
  · refine ⟨[.int 0, .int (cell % 2147483579), .int t], FRes.sat.eq (call_sat ⟨rfl, by decide⟩ ?_), _, _, _, rfl, by omega, by omega, ht, by omega⟩
    have h' : ¬ (1000000000000000000 : Int) ≤ cell := h
    simp [f_law_deck, startS, hp, bop_mod_int, h']
theorem law_pick_ok (io : List D) (size m : Int) (hd : Deck m io) (h0 : 0 < size) (h1 : size < 1073741824) (hm : m < 274877906944) :
    (callF Φ kin f_law_pick io [.int size]).sat (fun v io' => ∃ k : Int, v = .d (.int k) ∧ 0 ≤ k ∧ k < size ∧ Deck (m + 1) io') noE := by
  obtain ⟨a, b, c, rfl, b0, b1, c0, c1⟩ := hd
  refine call_sat ⟨rfl, by decide⟩ ?_
  simp [f_law_pick, startS]
  by_cases ha : 1 < a
  · simp [ha, bop_mod_int h0, bop_fdiv_int ⟨h0, h1⟩, putL, ixN]
    exact ⟨Int.emod_nonneg _ (by omega), Int.emod_lt_of_pos _ h0, _, _, _, rfl, b0, b1, c0, by omega⟩
  · simp [ha, putL, ixN]
    have e1 : bopV .mul (.int 15485867) (.int (c + 1)) = some (.d (.int (15485867 * (c + 1)))) := bop_mul_int (.inl (by decide))
    have e2 : bopV .mul (.int 7919) (.int (c + 1)) = some (.d (.int (7919 * (c + 1)))) := bop_mul_int (.inl (by decide))
    have e3 : bopV .pow (.int (b + 15485867 * (c + 1))) (.int 5) = some (.d (.int ((b + 15485867 * (c + 1)) ^ 5))) := bop_pow_int ⟨by decide, by decide, by omega⟩
    obtain ⟨u, hu⟩ : ∃ u, (b + 15485867 * (c + 1)) ^ 5 = u := ⟨_, rfl⟩
    rw [hu] at e3
    obtain ⟨n, hn⟩ : ∃ n, u % 2147483647 = n := ⟨_, rfl⟩
    have n0 : 0 ≤ n := by rw [← hn]; exact Int.emod_nonneg _ (by decide)
    have n1 : n < 2147483647 := by rw [← hn]; exact Int.emod_lt_of_pos _ (by decide)
    have e5 : bopV .mod (.int u) (.int 2147483647) = some (.d (.int n)) := by rw [← hn]; exact bop_mod_int (by decide)
    have e4 : bopV .pow (.int (n + 7919 * (c + 1))) (.int 3) = some (.d (.int ((n + 7919 * (c + 1)) ^ 3))) := bop_pow_int ⟨by decide, by decide, by omega⟩
    obtain ⟨w, hw⟩ : ∃ w, (n + 7919 * (c + 1)) ^ 3 = w := ⟨_, rfl⟩
    rw [hw] at e4
    obtain ⟨y, hy⟩ : ∃ y, w % 2147483629 = y := ⟨_, rfl⟩
    have e6 : bopV .mod (.int w) (.int 2147483629) = some (.d (.int y)) := by rw [← hy]; exact bop_mod_int (by decide)
    have e7 : bopV .fdiv (.int y) (.int 32) = some (.d (.int (y / 32))) := bop_fdiv_int (by decide)
    have e8 : bopV .mod (.int (y / 32)) (.int size) = some (.d (.int (y / 32 % size))) := bop_mod_int h0
    simp [e1, e2, e3, e4, e5, e6, e7, e8]
    exact ⟨Int.emod_nonneg _ (by omega), Int.emod_lt_of_pos _ h0, _, _, _, rfl, b0, b1, by omega, by omega⟩
abbrev Pick (Φ : Fs) : Prop := ∀ io size m, Deck m io → 0 < size → size < 1073741824 → m < 274877906944 → (Φ 15 io [.int size]).sat (fun v io' => ∃ k : Int, v = .d (.int k) ∧ 0 ≤ k ∧ k < size ∧ Deck (m + 1) io') noE
theorem law_one_ok (hp : Pick Φ) (io : List D) (xs : List D) (m : Int) (hd : Deck m io) (h0 : xs ≠ []) (h1 : xs.length < 1073741824) (hm : m < 274877906944) :
    (callF Φ kin f_law_one io [.list xs]).sat (fun v io' => ∃ x ∈ xs, v = .d x ∧ Deck (m + 1) io') noE := by
  refine call_sat ⟨rfl, by decide⟩ ?_
  simp [f_law_one, startS]
  have hl : 0 < xs.length := List.length_pos_iff.mpr h0
  refine (hp io xs.length m hd (by omega) (by omega) hm).mono (fun v io' ⟨k, e, k0, k1, hd'⟩ => ?_) fun _ _ z => z.elim
  subst e
  have hk : k.toNat < xs.length := by omega
  simp [atI_of k0, List.getElem?_eq_getElem hk]
  exact ⟨_, List.getElem_mem hk, rfl, hd'⟩
abbrev One (Φ : Fs) : Prop := ∀ io xs m, Deck m io → xs ≠ [] → xs.length < 1073741824 → m < 274877906944 → (Φ 17 io [.list xs]).sat (fun v io' => ∃ x ∈ xs, v = .d x ∧ Deck (m + 1) io') noE
/-! kinds, sameness -/
def sortOf : D → Int
  | .bool _ => 1
  | .int _ => 2
  | .str _ => 3
  | .list _ => 4
  | .tuple _ => 5
  | _ => 6
theorem law_sort_ok (v : D) : callF Φ kin f_law_sort [] [v] = .ok (.d (.int (sortOf v))) [] := by
  refine FRes.sat.eq (call_sat ⟨rfl, by decide⟩ ?_)
  cases v <;> simp [f_law_sort, startS, isTy, sortOf]
theorem law_whole_ok (v : D) : callF Φ kin f_law_whole [] [v] = .ok (.d (.bool (sortOf v == 2))) [] := by
  refine FRes.sat.eq (call_sat ⟨rfl, by decide⟩ ?_)
  cases v <;> simp [f_law_whole, startS, isTy, sortOf]
abbrev Sort_ (Φ : Fs) : Prop := ∀ v, Φ 18 [] [v] = .ok (.d (.int (sortOf v))) []
abbrev Whole (Φ : Fs) : Prop := ∀ v, Φ 16 [] [v] = .ok (.d (.bool (sortOf v == 2))) []
theorem law_ends_ok (a b m d c : Int) : callF Φ kin f_law_ends [] [gateD a b m d, .int c] = .ok (.d (.tuple [.int (passLo d c), .int (c + m)])) [] := by
  refine FRes.sat.eq (call_sat ⟨rfl, by decide⟩ ?_)
  simp [f_law_ends, startS, gateD, passLo, bop_fdiv_int]
/-- a for over typed items: I of those done, those left, and the slots -/
theorem for_enc {α : Type} {P : Post} {b : Sl → Flo} {t : Tg} {l : List α} {s : Sl} (enc : α → D) (I : List α → List α → Sl → Prop) (h0 : I [] l s)
    (st : ∀ pre a post s, l = pre ++ a :: post → I pre (a :: post) s → optQ (fun s1 => (b s1).sat ⟨fun s => I (pre ++ [a]) post s, P.rt, P.nx, fun s => I (pre ++ [a]) post s, P.ex⟩) (tgSet t [enc a] s)) (he : ∀ s, I l [] s → P.nx s) :
    (forL b t (l.map enc) s).sat P := by
  refine for_rule (fun items s => ∃ pre post, l = pre ++ post ∧ items = post.map enc ∧ I pre post s) _ _ ⟨[], l, rfl, rfl, h0⟩ ?_ ?_
  · rintro x r s ⟨pre, post, e1, e2, h⟩
    cases post with
    | nil => cases e2
    | cons a post =>
      injection e2 with e2 e3
      subst e2 e3
      have := st pre a post s e1 h
      cases q : tgSet t [enc a] s with
      | none => rw [q] at this; exact this
      | some s1 =>
        rw [q] at this
        have this : (b s1).sat _ := this
        refine Flo.sat.mono this (fun s h => ?_) (fun _ _ h => h) (fun _ h => h) (fun s h => ?_) fun _ _ h => h
        · exact ⟨pre ++ [a], post, by rw [e1]; simp, rfl, h⟩
        · exact ⟨pre ++ [a], post, by rw [e1]; simp, rfl, h⟩
  · rintro s ⟨pre, post, e1, e2, h⟩
    have : post = [] := by
      cases post with
      | nil => rfl
      | cons _ _ => cases e2
    subst this
    rw [List.append_nil] at e1
    subst e1
    exact he s h
/-! rows of cars -/
structure G where
  a : Int
  b : Int
  m : Int
  d : Int
  deriving DecidableEq
def G.enc (g : G) : D := gateD g.a g.b g.m g.d
def addAt (row : List Int) (p : Int) (n : Int) : List Int := if p = -1 then row else row.set p.toNat (row.getD p.toNat 0 + n)
def laterStep (row : List Int) (g : G) (n : Int) : List Int := addAt (addAt row g.a (-n)) g.b n
def later (gs : List G) (row ps : List Int) : List Int := (gs.zip ps).foldl (fun r p => laterStep r p.1 p.2) row
theorem addAt_len (row : List Int) (p n : Int) : (addAt row p n).length = row.length := by
  unfold addAt
  split <;> simp
theorem laterStep_len (row : List Int) (g : G) (n : Int) : (laterStep row g n).length = row.length := by
  unfold laterStep
  rw [addAt_len, addAt_len]
def G.In (g : G) (n : Nat) : Prop := -1 ≤ g.a ∧ g.a < n ∧ -1 ≤ g.b ∧ g.b < n
theorem set_ofInts (row : List Int) (i : Nat) (n : Int) : (ofInts row).set i (.int n) = ofInts (row.set i n) := by
  unfold ofInts
  rw [List.map_set]
theorem getD_ofInts {row : List Int} {i : Nat} (h : i < row.length) : (ofInts row)[i]? = some (.int (row.getD i 0)) := by
  unfold ofInts
  rw [List.getElem?_map, List.getElem?_eq_getElem h]
  simp [List.getElem?_eq_getElem h]
@[simp] theorem len_ofInts (row : List Int) : (ofInts row).length = row.length := by simp [ofInts]
theorem putL_own {s : Sl} {i : Nat} {row : List Int} {p n : Int} (h : slGet s i = some (.own (ofInts row))) (h0 : 0 ≤ p) (h1 : p < row.length) : putL i (.int p) (.int n) s = some (s.set i (some (.own (ofInts (row.set p.toNat n))))) := by
  unfold putL
  rw [h]
  dsimp only
  unfold ixN
  rw [len_ofInts, if_pos h0, if_pos h1]
  dsimp only
  rw [set_ofInts]
theorem law_later_ok (rs : List Int) (gs : List G) (row ps : List Int) (hg : ∀ g ∈ gs, g.In row.length) : callF Φ kin f_law_later [] [houseD rs (gs.map G.enc), .tuple (ofInts row), .tuple (ofInts ps)] = .ok (.d (.tuple (ofInts (later gs row ps)))) [] := by
  refine FRes.sat.eq (call_sat ⟨rfl, by decide⟩ ?_)
  simp [f_law_later, startS]
  rw [w_for]
  simp [houseD]
  have ez : zipD (gs.map G.enc) (ofInts ps) = (gs.zip ps).map fun p => .tuple [p.1.enc, .int p.2] := zipD_map G.enc PyData.int gs ps
  rw [ez]
  obtain ⟨I, hI⟩ : ∃ I : List (G × Int) → List (G × Int) → Sl → Prop, ∀ pre post s, I pre post s ↔ ∃ row2 x4 x5, row2 = pre.foldl (fun r p => laterStep r p.1 p.2) row ∧ row2.length = row.length ∧
    s = [some (.d (.tuple [.tuple (ofInts rs), .tuple (gs.map G.enc)])), some (.d (.tuple (ofInts row))), some (.d (.tuple (ofInts ps))), some (.own (ofInts row2)), x4, x5] := ⟨_, fun _ _ _ => Iff.rfl⟩
  refine for_enc _ I ((hI _ _ _).mpr ⟨row, _, _, rfl, rfl, rfl⟩) ?_ ?_
  · rintro pre ⟨⟨ga, gb, gm, gd⟩, n⟩ post s e1 h
    obtain ⟨row2, x4, x5, e3, e4, rfl⟩ := (hI _ _ _).mp h
    have hgm : (⟨ga, gb, gm, gd⟩ : G) ∈ gs := by
      have : ((⟨ga, gb, gm, gd⟩ : G), n) ∈ gs.zip ps := by rw [e1]; simp
      exact (List.of_mem_zip this).1
    obtain ⟨a1, a2, b1, b2⟩ := hg _ hgm
    simp only at a1 a2 b1 b2
    have fin : ∀ row3 x4 x5, row3 = laterStep row2 ⟨ga, gb, gm, gd⟩ n → I (pre ++ [(⟨ga, gb, gm, gd⟩, n)]) post [some (.d (.tuple [.tuple (ofInts rs), .tuple (gs.map G.enc)])), some (.d (.tuple (ofInts row))), some (.d (.tuple (ofInts ps))), some (.own (ofInts row3)), x4, x5] := by
      intro row3 x4 x5 e5
      refine (hI _ _ _).mpr ⟨row3, _, _, ?_, ?_, rfl⟩
      · rw [List.foldl_append, ← e3, e5]; rfl
      · rw [e5, laterStep_len, e4]
    have gA : ga ≠ -1 → (ofInts row2)[ga.toNat]? = some (.int (row2.getD ga.toNat 0)) := fun h => getD_ofInts (by omega)
    simp [G.enc, gateD]
    by_cases hA : ga = -1
    · by_cases hB : gb = -1
      · simp [hA, hB]
        subst hA hB
        exact fin _ _ _ rfl
      · have gB : (ofInts row2)[gb.toNat]? = some (.int (row2.getD gb.toNat 0)) := getD_ofInts (by omega)
        simp [hA, hB, atI_of (show 0 ≤ gb by omega), gB]
        rw [putL_own (row := row2) (by simp) (by omega) (by omega)]
        simp
        subst hA
        refine fin _ _ _ ?_
        simp [laterStep, addAt, hB]
    · simp [hA, atI_of (show 0 ≤ ga by omega), gA hA]
      rw [putL_own (row := row2) (by simp) (by omega) (by omega)]
      obtain ⟨row4, h4⟩ : ∃ row4, row4 = row2.set ga.toNat (row2.getD ga.toNat 0 - n) := ⟨_, rfl⟩
      have l4 : row4.length = row.length := by rw [h4, List.length_set, e4]
      have e5 : addAt row2 ga (-n) = row4 := by
        rw [h4]
        unfold addAt
        rw [if_neg hA]
        rfl
      by_cases hB : gb = -1
      · simp [hB]
        subst hB
        refine fin _ _ _ ?_
        simp [laterStep, e5]
        simp [addAt, h4]
      · have gB : (ofInts row4)[gb.toNat]? = some (.int (row4.getD gb.toNat 0)) := getD_ofInts (by omega)
        have e6 : ofInts (row2.set ga.toNat (row2[ga.toNat]?.getD 0 - n)) = ofInts row4 := by rw [h4]; simp
        simp [hB, atI_of (show 0 ≤ gb by omega), e6, gB]
        rw [putL_own (row := row4) (by simp) (by omega) (by omega)]
        simp
        refine fin _ _ _ ?_
        simp [laterStep, e5]
        simp [addAt, hB]
  · rintro s h
    obtain ⟨row2, x4, x5, e3, e4, rfl⟩ := (hI _ _ _).mp h
    simp [later, e3]
end
end Ir

set_option Elab.async false
set_option linter.all false
set_option maxRecDepth 100000
set_option maxHeartbeats 4000000
/-! Rows that fit; drawn houses and books. -/
namespace Ir
open PySem L2 Fns
section
variable {Φ : Fs} {kin : Exn → D}
structure Lk where
  at_ : Int
  fl : Int
  n : Int
  deriving DecidableEq
def Lk.enc (k : Lk) : D := .tuple [.int k.at_, .int k.fl, .int k.n]
def okRoom (n r : Int) : Bool := !(decide (n < 0) || decide (r < n))
def okLook (m : Int) (row : List Int) (k : Lk) : Bool := !(decide (k.at_ = m) && !decide (row.getD k.fl.toNat 0 = k.n))
def fits (rs : List Int) (ks : List Lk) (m : Int) (row : List Int) : Bool := ((row.zip rs).all fun p => okRoom p.1 p.2) && ks.all (okLook m row)
theorem all_false {α : Type} {l pre post : List α} {a : α} {p : α → Bool} (e : l = pre ++ a :: post) (h : p a = false) : l.all p = false := by
  rw [e]
  simp [h]
theorem law_fits_ok (rs : List Int) (gs : List D) (ks : List Lk) (m : Int) (row : List Int) (hk : ∀ k ∈ ks, 0 ≤ k.fl ∧ k.fl < row.length) :
    callF Φ kin f_law_fits [] [houseD rs gs, .tuple (ks.map Lk.enc), .int m, .tuple (ofInts row)] = .ok (.d (.bool (fits rs ks m row))) [] := by
  refine FRes.sat.eq (call_sat ⟨rfl, by decide⟩ ?_)
  obtain ⟨R, hR⟩ : ∃ R : Bool, R = fits rs ks m row := ⟨_, rfl⟩
  rw [← hR]
  simp [f_law_fits, startS]
  rw [w_for]
  simp [houseD]
  have ez : zipD (ofInts row) (ofInts rs) = (row.zip rs).map fun p => .tuple [.int p.1, .int p.2] := zipD_map PyData.int PyData.int row rs
  rw [ez]
  obtain ⟨I, hI⟩ : ∃ I : List (Int × Int) → List (Int × Int) → Sl → Prop, ∀ pre post s, I pre post s ↔ (pre.all (fun p => okRoom p.1 p.2) = true) ∧ ∃ x4 x5,
    s = [some (.d (.tuple [.tuple (ofInts rs), .tuple gs])), some (.d (.tuple (ks.map Lk.enc))), some (.d (.int m)), some (.d (.tuple (ofInts row))), x4, x5, none, none] := ⟨_, fun _ _ _ => Iff.rfl⟩
  refine for_enc _ I ((hI _ _ _).mpr ⟨rfl, _, _, rfl⟩) ?_ ?_
  · rintro pre ⟨n, r⟩ post s e1 h
    obtain ⟨hp, x4, x5, rfl⟩ := (hI _ _ _).mp h
    by_cases c1 : n < 0
    · simp [c1]
      rw [hR]
      unfold fits
      rw [all_false e1 (by simp [okRoom, c1])]
      rfl
    · by_cases c2 : r < n
      · simp [c1, c2]
        rw [hR]
        unfold fits
        rw [all_false e1 (by simp [okRoom, c2])]
        rfl
      · simp [c1, c2]
        refine (hI _ _ _).mpr ⟨?_, _, _, rfl⟩
        rw [List.all_append, hp]
        simp [okRoom, c1, c2]
  · rintro s h
    obtain ⟨hp, x4, x5, rfl⟩ := (hI _ _ _).mp h
    simp
    rw [w_for]
    simp
    obtain ⟨J, hJ⟩ : ∃ J : List Lk → List Lk → Sl → Prop, ∀ pre post s, J pre post s ↔ (pre.all (okLook m row) = true) ∧ ∃ x4 x5 x6 x7,
      s = [some (.d (.tuple [.tuple (ofInts rs), .tuple gs])), some (.d (.tuple (ks.map Lk.enc))), some (.d (.int m)), some (.d (.tuple (ofInts row))), x4, x5, x6, x7] := ⟨_, fun _ _ _ => Iff.rfl⟩
    refine for_enc _ J ((hJ _ _ _).mpr ⟨rfl, _, _, _, _, rfl⟩) ?_ ?_
    · rintro pre ⟨a, f, n⟩ post s e1 h
      obtain ⟨hp2, y4, y5, y6, y7, rfl⟩ := (hJ _ _ _).mp h
      obtain ⟨f0, f1⟩ := hk ⟨a, f, n⟩ (by rw [e1]; simp)
      simp only at f0 f1
      have gF : (ofInts row)[f.toNat]? = some (.int (row.getD f.toNat 0)) := getD_ofInts (by omega)
      obtain ⟨v, hv⟩ : ∃ v, v = row.getD f.toNat 0 := ⟨_, rfl⟩
      rw [← hv] at gF
      by_cases c1 : a = m
      · by_cases c2 : v = n
        · simp [Lk.enc, c1, atI_of f0, gF, c2]
          refine (hJ _ _ _).mpr ⟨?_, _, _, _, _, rfl⟩
          rw [List.all_append, hp2]
          simp only [List.all_cons, List.all_nil, okLook, ← hv, c2]
          simp
        · simp [Lk.enc, c1, atI_of f0, gF, c2]
          rw [hR]
          unfold fits
          rw [all_false (p := okLook m row) e1 (by simp only [okLook, ← hv]; simp [c1, c2]), Bool.and_false]
      · simp [Lk.enc, c1]
        refine (hJ _ _ _).mpr ⟨?_, _, _, _, _, rfl⟩
        rw [List.all_append, hp2]
        simp [okLook, c1]
    · rintro s h
      obtain ⟨hp2, y4, y5, y6, y7, rfl⟩ := (hJ _ _ _).mp h
      simp
      rw [hR]
      unfold fits
      rw [hp, hp2]
      rfl
abbrev Later (Φ : Fs) : Prop := ∀ rs gs row ps, (∀ g ∈ gs, G.In g row.length) → Φ 23 [] [houseD rs (gs.map G.enc), .tuple (ofInts row), .tuple (ofInts ps)] = .ok (.d (.tuple (ofInts (later gs row ps)))) []
abbrev Fits (Φ : Fs) : Prop := ∀ rs gs (ks : List Lk) m row, (∀ k ∈ ks, 0 ≤ k.fl ∧ k.fl < row.length) → Φ 24 [] [houseD rs gs, .tuple (ks.map Lk.enc), .int m, .tuple (ofInts row)] = .ok (.d (.bool (fits rs ks m row))) []
/-- a comprehension that draws: I of those done, those left, what there is, the slots (its own ones empty) -/
theorem comp_encS {α : Type} {e it c : Ex} {t : Tg} {own : List Nat} {s : Sl} {Q : Val → Sl → Prop} {E : Exn → Sl → Prop} (enc : α → D)
    (h : (ev Φ kin it s).sat (itmQ fun items s1 => plainSlots s1 own = true ∧ ∃ l : List α, items = l.map enc ∧ ∃ I : List α → List α → List D → Sl → Prop, I [] l [] (wipeS s1 own) ∧
      (∀ pre a post acc w, l = pre ++ a :: post → I pre (a :: post) acc w → optQ (fun s1 => (ev Φ kin c s1).sat (blQ fun b s2 => if b then (ev Φ kin e s2).sat (datQ fun y s3 => acc.length < lineMax ∧ I (pre ++ [a]) post (acc ++ [y]) (wipeS s3 own)) (fun _ _ => False) else I (pre ++ [a]) post acc (wipeS s2 own)) (fun _ _ => False)) (tgSet t [enc a] w)) ∧
      (∀ acc w, I l [] acc w → Q (.own acc) (backS s1 w own))) E) : (ev Φ kin (.comp e t it c own) s).sat Q E := by
  refine comp_rule (h.mono (fun v s1 q => ?_) fun _ _ z => z)
  cases v with
  | d x =>
    cases x with
    | list items =>
      obtain ⟨h1, l, rfl, I, h2, h3, h4⟩ := q
      refine ⟨h1, fun r acc w => ∃ pre post, l = pre ++ post ∧ r = post.map enc ∧ I pre post acc w, ⟨[], l, rfl, rfl, h2⟩, ?_, ?_⟩
      · rintro x r acc w ⟨pre, post, e1, e2, h5⟩
        cases post with
        | nil => cases e2
        | cons a post =>
          rw [List.map_cons] at e2
          injection e2 with e2 e3
          subst e2 e3
          have hx := h3 pre a post acc w e1 h5
          cases q : tgSet t [enc a] w with
          | none => rw [q] at hx; exact hx
          | some s2 =>
            rw [q] at hx
            refine Res.sat.mono (show (ev Φ kin c s2).sat _ _ from hx) (fun v s3 z => ?_) fun _ _ z => z
            cases v with
            | d y =>
              cases y with
              | bool b =>
                cases b with
                | true =>
                  have z : (ev Φ kin e s3).sat _ _ := z
                  show (ev Φ kin e s3).sat _ _
                  refine z.mono (fun v s4 z => ?_) fun _ _ z => z
                  unfold datQ at z ⊢
                  cases ey : v.toD with
                  | none => rw [ey] at z; exact z
                  | some y =>
                    rw [ey] at z
                    exact ⟨z.1, pre ++ [a], post, by rw [e1, List.append_assoc]; rfl, rfl, z.2⟩
                | false => exact ⟨pre ++ [a], post, by rw [e1, List.append_assoc]; rfl, rfl, z⟩
              | _ => exact z.elim
            | _ => exact z.elim
      · rintro acc w ⟨pre, post, e1, e2, h5⟩
        have : post = [] := by
          cases post with
          | nil => rfl
          | cons _ _ => cases e2
        subst this
        rw [List.append_nil] at e1
        subst e1
        exact h4 acc w h5
    | _ => exact q.elim
  | _ => exact q.elim
/-! drawn houses -/
structure HouseOk (rs : List Int) (gs : List G) (fl ga : Nat) : Prop where
  r1 : 1 ≤ rs.length
  r2 : rs.length ≤ fl
  r3 : ∀ r ∈ rs, 1 ≤ r ∧ r ≤ 4
  g1 : 1 ≤ gs.length
  g2 : gs.length ≤ ga
  g3 : ∀ g ∈ gs, g.In rs.length ∧ g.a ≠ g.b ∧ 0 ≤ g.m ∧ g.m ≤ 2 ∧ 0 ≤ g.d ∧ g.d ≤ 2
theorem pick_use (hp : Pick Φ) {io : List D} {size m : Int} {Q : Val → List D → Prop} {E : Exn → List D → Prop} (hd : Deck m io) (h0 : 0 < size) (h1 : size < 1073741824) (hm : m < 274877906944) (q : ∀ k io', 0 ≤ k → k < size → Deck (m + 1) io' → Q (.d (.int k)) io') : (Φ 15 io [.int size]).sat Q E :=
  (hp io size m hd h0 h1 hm).mono (fun v io' ⟨k, e, h2, h3, h4⟩ => by rw [e]; exact q k io' h2 h3 h4) fun _ _ z => z.elim
theorem one_use (hp : One Φ) {io xs : List D} {m : Int} {Q : Val → List D → Prop} {E : Exn → List D → Prop} (hd : Deck m io) (h0 : xs ≠ []) (h1 : xs.length < 1073741824) (hm : m < 274877906944) (q : ∀ x io', x ∈ xs → Deck (m + 1) io' → Q (.d x) io') : (Φ 17 io [.list xs]).sat Q E :=
  (hp io xs m hd h0 h1 hm).mono (fun v io' ⟨x, hx, e, h4⟩ => by rw [e]; exact q x io' hx h4) fun _ _ z => z.elim
theorem law_a_house_ok (hp : Pick Φ) (ho : One Φ) (io : List D) (fl ga : Nat) (m : Int) (hd : Deck m io) (f1 : 1 ≤ fl ∧ fl ≤ 10) (g1 : 1 ≤ ga ∧ ga ≤ 10) (hm : m < 200000000000) :
    (callF Φ kin f_law_a_house io [.int fl, .int ga]).sat (fun v io' => ∃ rs gs, v = .d (houseD rs (gs.map G.enc)) ∧ HouseOk rs gs fl ga ∧ Deck (m + 100) io') noE := by
  refine call_sat ⟨rfl, by decide⟩ ?_
  simp [f_law_a_house, startS]
  refine pick_use hp hd (by omega) (by omega) (by omega) fun k io1 k0 k1 d1 => ?_
  simp
  rw [w_for]
  simp
  refine pick_use hp d1 (by omega) (by omega) (by omega) fun j io2 j0 j1 d2 => ?_
  simp
  refine ⟨by simp [small62]; omega, ?_⟩
  obtain ⟨n, hn⟩ : ∃ n : Nat, n = (1 + j).toNat := ⟨_, rfl⟩
  obtain ⟨q, hq⟩ : ∃ q : Int, q = 1 + k := ⟨_, rfl⟩
  rw [← hn, ← hq]
  obtain ⟨I, hI⟩ : ∃ I : List Nat → List Nat → Sl → Prop, ∀ pre post s, I pre post s ↔ ∃ (gs : List G) (io3 : List D) (x5 x6 x7 : Option Val), gs.length = pre.length ∧ (∀ g ∈ gs, G.In g q.toNat ∧ g.a ≠ g.b ∧ 0 ≤ g.m ∧ g.m ≤ 2 ∧ 0 ≤ g.d ∧ g.d ≤ 2) ∧ Deck (m + 2 + 4 * pre.length) io3 ∧ (x5 = none ∨ ∃ v, x5 = some (.d v)) ∧
    s = [some (.own io3), some (.d (.int fl)), some (.d (.int ga)), some (.d (.int q)), some (.own (gs.map G.enc)), x5, x6, x7, none] := ⟨_, fun _ _ _ => Iff.rfl⟩
  refine for_enc (l := List.range n) (fun k : Nat => .int (0 + k)) I ((hI _ _ _).mpr ⟨[], io2, _, _, _, rfl, (fun _ h => nomatch h), d2.mono (by simp; omega), .inl rfl, rfl⟩) ?_ ?_
  · rintro pre i post s e1 h
    obtain ⟨gs, io3, x5, x6, x7, hl, hg, d3, p5, rfl⟩ := (hI _ _ _).mp h
    have hpn : pre.length < n := by
      have := congrArg List.length e1
      simp at this
      omega
    simp
    refine pick_use hp d3 (by omega) (by omega) (by omega) fun p io4 p0 p1 d4 => ?_
    simp
    obtain ⟨one, hone⟩ : ∃ one : Int, one = p - 1 := ⟨_, rfl⟩
    rw [← hone]
    refine comp_enc (fun k : Nat => .int (-1 + k)) (fun k => !decide (-1 + (k : Int) = one)) (fun k => .int (-1 + (k : Int))) ?_
    simp
    refine ⟨by simp [small62]; omega, by simp [plainSlots], List.range (q - -1).toNat, rfl, by simp; omega, ?_⟩
    · refine one_use ho d4 ?_ ?_ (by omega) fun x io5 hx d5 => ?_
      · intro e
        have key : ∀ c : Nat, c < (q - -1).toNat → -1 + (c : Int) ≠ one → False := fun c hc hne => by
          have : (.int (-1 + (c : Int)) : D) ∈ ([] : List D) := by
            rw [← e]
            refine List.mem_map.mpr ⟨c, List.mem_filter.mpr ⟨List.mem_range.mpr hc, by simp [hne]⟩, rfl⟩
          exact nomatch this
        by_cases z : one = -1
        · exact key 1 (by omega) (by omega)
        · exact key 0 (by omega) (by omega)
      · rw [List.length_map]
        have a1 := List.length_filter_le (fun k : Nat => !decide (-1 + (k : Int) = one)) (List.range (q - -1).toNat)
        rw [List.length_range] at a1
        omega
      · obtain ⟨c, hc, rfl⟩ := List.mem_map.mp hx
        have hc2 := List.mem_filter.mp hc
        have hc3 := List.mem_range.mp hc2.1
        have hc4 : -1 + (c : Int) ≠ one := by simpa using hc2.2
        simp
        refine one_use ho d5 (by simp) (by simp) (by omega) fun y io6 hy d6 => ?_
        simp
        refine one_use ho d6 (by simp) (by simp) (by omega) fun z io7 hz d7 => ?_
        simp
        refine ⟨by omega, ?_⟩
        have ey : ∃ y', y = .int y' ∧ 0 ≤ y' ∧ y' ≤ 2 := by
          simp at hy
          rcases hy with rfl | rfl | rfl <;> exact ⟨_, rfl, by decide, by decide⟩
        have ez : ∃ y', z = .int y' ∧ 0 ≤ y' ∧ y' ≤ 2 := by
          simp at hz
          rcases hz with rfl | rfl | rfl <;> exact ⟨_, rfl, by decide, by decide⟩
        obtain ⟨y', rfl, y0, y1⟩ := ey
        obtain ⟨z', rfl, z0, z1⟩ := ez
        refine (hI _ _ _).mpr ⟨gs ++ [⟨one, -1 + c, y', z'⟩], io7, _, _, _, by simp [hl], fun g hgm => ?_, d7.mono (by simp; omega), .inr ⟨_, rfl⟩, by simp [G.enc, gateD]; exact ⟨rfl, rfl, rfl⟩⟩
        rcases List.mem_append.mp hgm with h1 | h1
        · exact hg g h1
        · rw [List.mem_singleton] at h1
          subst h1
          refine ⟨⟨?_, ?_, ?_, ?_⟩, ?_, y0, y1, z0, z1⟩ <;> simp only <;> omega
  · rintro s h
    obtain ⟨gs, io3, x5, x6, x7, hl, hg, d3, p5, rfl⟩ := (hI _ _ _).mp h
    rw [List.length_range] at hl d3
    simp
    obtain ⟨J, hJ⟩ : ∃ J : List Nat → List Nat → List D → Sl → Prop, ∀ pre post acc w, J pre post acc w ↔ ∃ (rs : List Int) (io4 : List D), acc = ofInts rs ∧ rs.length = pre.length ∧ (∀ r ∈ rs, 1 ≤ r ∧ r ≤ 4) ∧ Deck (m + 2 + 4 * n + pre.length) io4 ∧
      w = [some (.own io4), some (.d (.int fl)), some (.d (.int ga)), some (.d (.int q)), some (.own (gs.map G.enc)), none, x6, x7, none] := ⟨_, fun _ _ _ _ => Iff.rfl⟩
    have hx5 : plainSlots [some (Val.own io3), some (Val.d (.int fl)), some (Val.d (.int ga)), some (Val.d (.int q)), some (Val.own (gs.map G.enc)), x5, x6, x7, none] [5] = true := by
      rcases p5 with rfl | ⟨v, rfl⟩ <;> rfl
    refine comp_encS (fun k : Nat => .int (0 + k)) ?_
    simp [hx5]
    refine ⟨by simp [small62]; omega, List.range q.toNat, by simp [rngL], J, (hJ _ _ _ _).mpr ⟨[], io3, rfl, rfl, (fun _ h => nomatch h), d3.mono (by simp), rfl⟩, ?_, ?_⟩
    · rintro pre i post acc w e1 h
      obtain ⟨rs, io4, rfl, hrl, hr, d4, rfl⟩ := (hJ _ _ _ _).mp h
      have hpn : pre.length < q.toNat := by
        have := congrArg List.length e1
        simp at this
        omega
      simp
      refine pick_use hp d4 (by omega) (by omega) (by omega) fun p io5 p0 p1 d5 => ?_
      simp
      refine ⟨by omega, (hJ _ _ _ _).mpr ⟨rs ++ [1 + p], io5, by simp [ofInts], by simp [hrl], fun r hr2 => ?_, d5.mono (by simp; omega), rfl⟩⟩
      rcases List.mem_append.mp hr2 with h1 | h1
      · exact hr r h1
      · rw [List.mem_singleton] at h1
        omega
    · intro acc w h
      obtain ⟨rs, io4, rfl, hrl, hr, d4, rfl⟩ := (hJ _ _ _ _).mp h
      rw [List.length_range] at hrl d4
      simp
      refine ⟨rs, gs, rfl, ⟨by omega, by omega, hr, by omega, by omega, fun g hgm => ?_⟩, d4.mono (by omega)⟩
      rw [hrl]
      exact hg g hgm
end
end Ir

set_option Elab.async false
set_option linter.all false
set_option maxRecDepth 100000
set_option maxHeartbeats 8000000
/-! Drawn books. -/
namespace Ir
open PySem L2 Fns
section
variable {Φ : Fs} {kin : Exn → D}
def rowD (r : List Int) : D := .tuple (ofInts r)
def bookD (cs : List (List Int)) (ks : List Lk) : D := .tuple [.tuple (cs.map rowD), .tuple (ks.map Lk.enc)]
structure BookOk (rs : List Int) (ng : Nat) (cs : List (List Int)) (ks : List Lk) (most : Nat) : Prop where
  c1 : cs.length ≤ most
  c2 : ∀ c ∈ cs, c.length = ng ∧ ∀ x ∈ c, 0 ≤ x ∧ x ≤ 4
  k1 : ks.length ≤ 2
  k2 : ∀ k ∈ ks, 0 ≤ k.at_ ∧ k.at_ ≤ cs.length ∧ 0 ≤ k.fl ∧ k.fl < rs.length ∧ 0 ≤ k.n ∧ k.n ≤ rs.getD k.fl.toNat 0
  k3 : ks.Pairwise fun a b => lexLt [a.at_, a.fl] [b.at_, b.fl] = true
def plainO (o : Option Val) : Prop := o = none ∨ ∃ v, o = some (.d v)
theorem plain1 {s : Sl} {i : Nat} {o : Option Val} (h : s[i]? = some o) (p : plainO o) : plainSlots s [i] = true := by
  unfold plainSlots
  rw [List.all_cons, List.all_nil, Bool.and_true, h]
  rcases p with rfl | ⟨v, rfl⟩ <;> rfl
/-- as many draws below K as there are gates -/
theorem draw_row (hp : Pick Φ) (K : Int) (hK : 0 < K ∧ K < 1000) (rs : List Int) (gs : List G) (hgs : gs.length ≤ 100) (io : List D) (m : Int) (hd : Deck m io) (hm : m < 200000000000) (x2 x3 x4 x5 x6 x7 x8 x9 x10 x11 x12 x13 x14 x15 x16 x17 : Option Val) (h12 : plainO x12)
    {Q : Val → Sl → Prop} {E : Exn → Sl → Prop} (q : ∀ ps io', ps.length = gs.length → (∀ p ∈ ps, 0 ≤ p ∧ p < K) → Deck (m + gs.length) io' → Q (.own (ofInts ps)) [some (.own io'), some (.d (houseD rs (gs.map G.enc))), x2, x3, x4, x5, x6, x7, x8, x9, x10, x11, x12, x13, x14, x15, x16, x17]) :
    (ev Φ kin (.comp (.io 15 0 (.cons (.cst (.int K)) (.nil))) (.nm 12) (.itSeq (.ixS 1 (.cst (.int 1)))) (.cst (.bool true)) [12])
      [some (.own io), some (.d (houseD rs (gs.map G.enc))), x2, x3, x4, x5, x6, x7, x8, x9, x10, x11, x12, x13, x14, x15, x16, x17]).sat Q E := by
  have hpl : plainSlots [some (.own io), some (.d (houseD rs (gs.map G.enc))), x2, x3, x4, x5, x6, x7, x8, x9, x10, x11, x12, x13, x14, x15, x16, x17] [12] = true := plain1 rfl h12
  obtain ⟨J, hJ⟩ : ∃ J : List G → List G → List D → Sl → Prop, ∀ pre post acc w, J pre post acc w ↔ ∃ (ps : List Int) (io4 : List D), acc = ofInts ps ∧ ps.length = pre.length ∧ (∀ p ∈ ps, 0 ≤ p ∧ p < K) ∧ Deck (m + pre.length) io4 ∧
    w = [some (.own io4), some (.d (houseD rs (gs.map G.enc))), x2, x3, x4, x5, x6, x7, x8, x9, x10, x11, none, x13, x14, x15, x16, x17] := ⟨_, fun _ _ _ _ => Iff.rfl⟩
  refine comp_encS G.enc ?_
  simp [hpl]
  simp only [houseD, ixD_t, atI_1]
  simp
  refine ⟨by simpa [houseD] using hpl, gs, rfl, J, (hJ _ _ _ _).mpr ⟨[], io, rfl, rfl, (fun _ h => nomatch h), hd.mono (by simp), by simp [houseD]⟩, ?_, ?_⟩
  · rintro pre g post acc w e1 h
    obtain ⟨ps, io4, rfl, hl, hps, d4, rfl⟩ := (hJ _ _ _ _).mp h
    have hpn : pre.length < gs.length := by
      have := congrArg List.length e1
      simp at this
      omega
    simp
    refine pick_use hp d4 (by omega) (by omega) (by omega) fun p io5 p0 p1 d5 => ?_
    simp
    refine ⟨by omega, (hJ _ _ _ _).mpr ⟨ps ++ [p], io5, by simp [ofInts], by simp [hl], fun r hr2 => ?_, d5.mono (by simp; omega), rfl⟩⟩
    rcases List.mem_append.mp hr2 with h1 | h1
    · exact hps r h1
    · rw [List.mem_singleton] at h1
      omega
  · intro acc w h
    obtain ⟨ps, io4, rfl, hl, hps, d4, rfl⟩ := (hJ _ _ _ _).mp h
    simp
    exact q ps io4 hl hps d4
/-- looks by their keys -/
def lkv (k : Lk) : List Key × D := ([.inl k.at_, .inl k.fl], k.enc)
def sameK (j k : Lk) : Bool := decide (j.at_ = k.at_ ∧ j.fl = k.fl)
def putLk (ks : List Lk) (k : Lk) : List Lk := if ks.any (fun j => sameK j k) then ks.map (fun j => if sameK j k then k else j) else ks ++ [k]
theorem lkey_eq (j k : Lk) : decide ((lkv j).1 = [Sum.inl k.at_, Sum.inl k.fl]) = sameK j k := by
  unfold sameK lkv
  simp
theorem dput_looks (ks : List Lk) (k : Lk) : dput (ks.map lkv) [Sum.inl k.at_, Sum.inl k.fl] k.enc = (putLk ks k).map lkv := by
  unfold dput putLk
  have e : (ks.map lkv).any (fun kv => decide (kv.1 = [Sum.inl k.at_, Sum.inl k.fl])) = ks.any (fun j => sameK j k) := by
    rw [List.any_map]
    congr 1
    funext j
    exact lkey_eq j k
  rw [e]
  split
  · rw [List.map_map, List.map_map]
    apply List.map_congr_left
    intro j _
    have := lkey_eq j k
    show (if (lkv j).1 = [Sum.inl k.at_, Sum.inl k.fl] then ((lkv j).1, k.enc) else lkv j) = lkv (if sameK j k then k else j)
    by_cases h : sameK j k = true
    · rw [h] at this
      have h2 := of_decide_eq_true this
      rw [if_pos h2, if_pos h, h2]
      rfl
    · rw [Bool.eq_false_iff.mpr h] at this
      have h2 := of_decide_eq_false this
      rw [if_neg h2, if_neg h]
  · rw [List.map_append]
    rfl
theorem putLk_len (ks : List Lk) (k : Lk) : (putLk ks k).length ≤ ks.length + 1 := by
  unfold putLk
  split <;> simp
theorem putLk_mem {ks : List Lk} {k j : Lk} (h : j ∈ putLk ks k) : j ∈ ks ∨ j = k := by
  unfold putLk at h
  split at h
  · obtain ⟨i, hi, e⟩ := List.mem_map.mp h
    split at e
    · exact .inr e.symm
    · exact .inl (by rw [← e]; exact hi)
  · rcases List.mem_append.mp h with z | z
    · exact .inl z
    · exact .inr (List.mem_singleton.mp z)
theorem putLk_pair {ks : List Lk} {k : Lk} (h : ks.Pairwise fun a b => ¬ (a.at_ = b.at_ ∧ a.fl = b.fl)) : (putLk ks k).Pairwise fun a b => ¬ (a.at_ = b.at_ ∧ a.fl = b.fl) := by
  unfold putLk
  split
  · rw [List.pairwise_map]
    refine h.imp fun {a b} hab => ?_
    have key : ∀ j, (if sameK j k then k else j).at_ = j.at_ ∧ (if sameK j k then k else j).fl = j.fl := by
      intro j
      by_cases hj : sameK j k = true
      · rw [if_pos hj]
        have := of_decide_eq_true hj
        exact ⟨this.1.symm, this.2.symm⟩
      · rw [if_neg hj]
        exact ⟨rfl, rfl⟩
    rw [(key a).1, (key a).2, (key b).1, (key b).2]
    exact hab
  · rename_i hn
    rw [List.pairwise_append]
    refine ⟨h, List.pairwise_singleton _ _, fun a ha b hb => ?_⟩
    rw [List.mem_singleton] at hb
    subst hb
    intro z
    refine hn (List.any_eq_true.mpr ⟨a, ha, decide_eq_true z⟩)
theorem looks_find : ∀ (ks : List Lk), (ks.Pairwise fun a b => ¬ (a.at_ = b.at_ ∧ a.fl = b.fl)) → ∀ k ∈ ks, dlook (.dt (ks.map lkv)) (.tuple [.int k.at_, .int k.fl]) = some (some k.enc) := by
  intro ks h k hk
  show some (dget (ks.map lkv) [Sum.inl k.at_, Sum.inl k.fl]) = _
  congr 1
  induction ks with
  | nil => cases hk
  | cons j ks ih =>
    unfold dget
    rw [List.map_cons, List.find?_cons]
    have e := lkey_eq j k
    rw [List.pairwise_cons] at h
    by_cases hs : sameK j k = true
    · rw [hs] at e
      rw [e]
      have hj := of_decide_eq_true hs
      rcases List.mem_cons.mp hk with z | z
      · subst z
        rfl
      · exact (h.1 k z hj).elim
    · rw [Bool.eq_false_iff.mpr hs] at e
      rw [e]
      rcases List.mem_cons.mp hk with z | z
      · subst z
        exact (hs (decide_eq_true ⟨rfl, rfl⟩)).elim
      · exact ih h.2 z
theorem lexLt2 (a b c d : Int) : lexLt [a, b] [c, d] = if a = c then decide (b < d) else decide (a < c) := by
  unfold lexLt
  split
  · unfold lexLt
    split
    · rename_i h
      subst h
      simp [lexLt]
    · rfl
  · rfl
theorem looks_sorted (ks : List Lk) (hl : ks.length ≤ 2) (h : ks.Pairwise fun a b => ¬ (a.at_ = b.at_ ∧ a.fl = b.fl)) :
    ∃ ks' : List Lk, sortD ((ks.map lkv).map fun p => .tuple (p.1.map unkey)) = some (ks'.map fun k => .tuple [.int k.at_, .int k.fl]) ∧ ks'.Perm ks ∧ ks'.Pairwise fun a b => lexLt [a.at_, a.fl] [b.at_, b.fl] = true := by
  match ks, hl with
  | [], _ => exact ⟨[], rfl, .nil, .nil⟩
  | [k], _ => exact ⟨[k], by simp [lkv, unkey, sortD, intsOf, tupsOf, sortT, insT, ofTups, ofInts], .refl _, List.pairwise_singleton _ _⟩
  | [j, k], _ =>
    have hne : ¬ (j.at_ = k.at_ ∧ j.fl = k.fl) := by
      have := (List.pairwise_cons.mp h).1 k (by simp)
      exact this
    by_cases hs : lexLt [j.at_, j.fl] [k.at_, k.fl] = true
    · refine ⟨[j, k], ?_, .refl _, by simp [hs]⟩
      have hs2 : lexLe [j.at_, j.fl] [k.at_, k.fl] = true := by
        unfold lexLe
        rw [lexLt2] at hs ⊢
        rw [Bool.not_eq_true']
        by_cases c : j.at_ = k.at_
        · rw [if_pos c] at hs
          rw [if_pos c.symm]
          have := of_decide_eq_true hs
          exact decide_eq_false (by omega)
        · rw [if_neg c] at hs
          rw [if_neg fun z => c z.symm]
          have := of_decide_eq_true hs
          exact decide_eq_false (by omega)
      simp [lkv, unkey, sortD, intsOf, tupsOf, sortT, insT, ofTups, ofInts, hs2]
    · have hs3 : lexLt [k.at_, k.fl] [j.at_, j.fl] = true := by
        rw [lexLt2] at hs ⊢
        by_cases c : j.at_ = k.at_
        · rw [if_pos c] at hs
          rw [if_pos c.symm]
          have := of_decide_eq_false (Bool.eq_false_iff.mpr hs)
          exact decide_eq_true (by
            have : j.fl ≠ k.fl := fun z => hne ⟨c, z⟩
            omega)
        · rw [if_neg c] at hs
          rw [if_neg fun z => c z.symm]
          have := of_decide_eq_false (Bool.eq_false_iff.mpr hs)
          exact decide_eq_true (by omega)
      refine ⟨[k, j], ?_, List.Perm.swap _ _ _, by simp [hs3]⟩
      have hs2 : lexLe [j.at_, j.fl] [k.at_, k.fl] = false := by
        unfold lexLe
        rw [hs3]
        rfl
      simp [lkv, unkey, sortD, intsOf, tupsOf, sortT, insT, ofTups, ofInts, hs2]
theorem later_len (gs : List G) (row ps : List Int) : (later gs row ps).length = row.length := by
  unfold later
  generalize gs.zip ps = l
  induction l generalizing row with
  | nil => rfl
  | cons p l ih =>
    rw [List.foldl_cons, ih, laterStep_len]
theorem law_a_book_ok (hp : Pick Φ) (ho : One Φ) (hL : Later Φ) (hF : Fits Φ) (io : List D) (rs : List Int) (gs : List G) (most : Nat) (m : Int) (hd : Deck m io) (hm : m < 100000000000) (h1 : 1 ≤ rs.length ∧ rs.length ≤ 10) (h2 : 1 ≤ gs.length ∧ gs.length ≤ 10) (h3 : most ≤ 10)
    (hr : ∀ r ∈ rs, 1 ≤ r ∧ r ≤ 100) (hg : ∀ g ∈ gs, G.In g rs.length ∧ 0 ≤ g.m ∧ 0 ≤ g.d) :
    (callF Φ kin f_law_a_book io [houseD rs (gs.map G.enc), .int most]).sat (fun v io' => ∃ cs ks, v = .d (bookD cs ks) ∧ BookOk rs gs.length cs ks most ∧ Deck (m + 10000) io') noE := by
  refine call_sat ⟨rfl, by decide⟩ ?_
  simp [f_law_a_book, startS]
  -- the first row
  obtain ⟨J, hJ⟩ : ∃ J : List Int → List Int → List D → Sl → Prop, ∀ pre post acc w, J pre post acc w ↔ ∃ (ps : List Int) (io4 : List D), acc = ofInts ps ∧ ps.length = pre.length ∧ Deck (m + pre.length) io4 ∧
    w = [some (.own io4), some (.d (houseD rs (gs.map G.enc))), some (.d (.int most)), none, none, none, none, none, none, none, none, none, none, none, none, none, none, none] := ⟨_, fun _ _ _ _ => Iff.rfl⟩
  refine comp_encS (fun r : Int => .int r) ?_
  simp
  simp only [houseD, ixD_t, atI_0]
  simp
  refine ⟨rfl, rs, rfl, J, (hJ _ _ _ _).mpr ⟨[], io, rfl, rfl, hd.mono (by simp), by simp [houseD]⟩, ?_, ?_⟩
  · rintro pre r post acc w e1 h
    obtain ⟨ps, io4, rfl, hl, d4, rfl⟩ := (hJ _ _ _ _).mp h
    have hpn : pre.length < rs.length := by
      have := congrArg List.length e1
      simp at this
      omega
    have hr1 := hr r (by rw [e1]; simp)
    simp
    refine pick_use hp d4 (by omega) (by omega) (by omega) fun p io5 p0 p1 d5 => ?_
    simp
    exact ⟨by omega, (hJ _ _ _ _).mpr ⟨ps ++ [p], io5, by simp [ofInts], by simp [hl], d5.mono (by simp; omega), rfl⟩⟩
  intro acc w h
  obtain ⟨row0, io1, rfl, hl0, d1, rfl⟩ := (hJ _ _ _ _).mp h
  clear h
  simp
  rw [w_for]
  simp
  refine pick_use hp d1 (by omega) (by omega) (by omega) fun n io2 n0 n1 d2 => ?_
  simp
  refine ⟨by simp [small62]; omega, ?_⟩
  -- the stretches
  obtain ⟨I, hI⟩ : ∃ I : List Nat → List Nat → Sl → Prop, ∀ pre post s, I pre post s ↔ ∃ (cs rows : List (List Int)) (io3 : List D) (x4 x8 x9 x10 x11 x12 x13 : Option Val), cs.length = pre.length ∧ (∀ c ∈ cs, c.length = gs.length ∧ ∀ x ∈ c, 0 ≤ x ∧ x ≤ 4) ∧
    rows.length = pre.length + 1 ∧ (∀ r ∈ rows, r.length = rs.length) ∧ Deck (m + 20 + 200 * pre.length) io3 ∧ plainO x12 ∧
    s = [some (.own io3), some (.d (houseD rs (gs.map G.enc))), some (.d (.int most)), some (.d (rowD row0)), x4, none, some (.d (.tuple (cs.map rowD))), some (.own (rows.map rowD)), x8, x9, x10, x11, x12, x13, none, none, none, none] := ⟨_, fun _ _ _ => Iff.rfl⟩
  refine for_enc (l := List.range n.toNat) (fun k : Nat => .int (0 + k)) I ((hI _ _ _).mpr ⟨[], [row0], io2, _, _, _, _, _, _, _, rfl, (fun _ h => nomatch h), rfl, ?_, d2.mono (by simp; omega), .inl rfl, by simp [rowD, houseD]; exact ⟨rfl, rfl, rfl, rfl, rfl, rfl⟩⟩) ?_ ?_
  · intro r hr
    rw [List.mem_singleton] at hr
    rw [hr, hl0]
  · rintro pre i post s e1 h
    obtain ⟨cs, rows, io3, x4, x8, x9, x10, x11, x12, x13, hc1, hc2, hr1, hr2, d3, p12, rfl⟩ := (hI _ _ _).mp h
    have hpn : pre.length < n.toNat := by
      have := congrArg List.length e1
      simp at this
      omega
    have hlast : ∃ lastr, rows.getLast? = some lastr ∧ lastr.length = rs.length := by
      cases e : rows.getLast? with
      | none => rw [List.getLast?_eq_none_iff] at e; rw [e] at hr1; simp at hr1
      | some r => exact ⟨r, rfl, hr2 r (List.mem_of_getLast? e)⟩
    obtain ⟨lastr, hl1, hl2⟩ := hlast
    have hgl : ∀ g ∈ gs, G.In g lastr.length := fun g hg' => by rw [hl2]; exact (hg g hg').1
    simp
    refine draw_row hp 4 (by omega) rs gs (by omega) io3 _ d3 (by omega) _ _ _ _ _ _ _ _ _ _ _ _ _ _ _ _ p12 fun ps io4 hps1 hps2 d4 => ?_
    simp
    rw [w_for]
    simp
    refine ⟨by decide, ?_⟩
    -- four tries
    obtain ⟨I2, hI2⟩ : ∃ I2 : List Nat → List Nat → Sl → Prop, ∀ pre2 post2 s, I2 pre2 post2 s ↔ ∃ (ps : List Int) (io5 : List D) (x9 : Option Val), ps.length = gs.length ∧ (∀ p ∈ ps, 0 ≤ p ∧ p < 4) ∧ Deck (m + 20 + 200 * pre.length + 10 + 10 * pre2.length) io5 ∧
      s = [some (.own io5), some (.d (houseD rs (gs.map G.enc))), some (.d (.int most)), some (.d (rowD row0)), some (.d (.int i)), none, some (.d (.tuple (cs.map rowD))), some (.own (rows.map rowD)), some (.d (.tuple (ofInts ps))), x9, x10, x11, x12, x13, none, none, none, none] := ⟨_, fun _ _ _ => Iff.rfl⟩
    refine for_enc (l := List.range 4) (fun k : Nat => .int (0 + k)) I2 ((hI2 _ _ _).mpr ⟨ps, io4, _, hps1, hps2, d4.mono (by simp; omega), rfl⟩) ?_ ?_
    · rintro pre2 j post2 s e2 h'
      obtain ⟨ps, io5, x9, hps1, hps2, d5, rfl⟩ := (hI2 _ _ _).mp h'
      have hpn2 : pre2.length < 4 := by
        have := congrArg List.length e2
        simp at this
        omega
      have eL : Φ 23 [] [houseD rs (gs.map G.enc), rowD lastr, .tuple (ofInts ps)] = .ok (.d (rowD (later gs lastr ps))) [] := hL rs gs lastr ps hgl
      have eF : Φ 24 [] [houseD rs (gs.map G.enc), .tuple [], .int 0, rowD (later gs lastr ps)] = .ok (.d (.bool (fits rs [] 0 (later gs lastr ps)))) [] := hF rs (gs.map G.enc) [] 0 _ (fun _ h => nomatch h)
      simp [atI_last, hl1, eL, eF]
      split
      · exact (hI2 _ _ _).mpr ⟨ps, io5, _, hps1, hps2, d5.mono (by simp; omega), rfl⟩
      · refine draw_row hp 3 (by omega) rs gs (by omega) io5 _ d5 (by omega) _ _ _ _ _ _ _ _ _ _ _ _ _ _ _ _ p12 fun ps2 io6 hps3 hps4 d6 => ?_
        simp
        exact (hI2 _ _ _).mpr ⟨ps2, io6, _, hps3, (fun p hp => ⟨(hps4 p hp).1, by have := (hps4 p hp).2; omega⟩), d6.mono (by simp; omega), rfl⟩
    · intro s h'
      obtain ⟨ps, io5, x9, hps1, hps2, d5, rfl⟩ := (hI2 _ _ _).mp h'
      clear h'
      have eL : Φ 23 [] [houseD rs (gs.map G.enc), rowD lastr, .tuple (ofInts ps)] = .ok (.d (rowD (later gs lastr ps))) [] := hL rs gs lastr ps hgl
      simp [atI_last, hl1, eL]
      refine ⟨by omega, ?_⟩
      rw [w_for]
      simp
      simp only [houseD, ixD_t, atI_1]
      simp
      have ez : zipD (gs.map G.enc) (ofInts ps) = (gs.zip ps).map fun p => .tuple [p.1.enc, .int p.2] := zipD_map G.enc PyData.int gs ps
      rw [ez]
      obtain ⟨b1, hb1⟩ : ∃ b1 : Int, b1 = m + 20 + 200 * pre.length + 10 + 10 * (List.range 4).length := ⟨_, rfl⟩
      rw [← hb1] at d5
      have hb2 : b1 ≤ m + 20 + 200 * pre.length + 50 := by rw [hb1]; simp; omega
      -- the counts
      obtain ⟨I3, hI3⟩ : ∃ I3 : List (G × Int) → List (G × Int) → Sl → Prop, ∀ pre3 post3 s, I3 pre3 post3 s ↔ ∃ (told : List Int) (io6 : List D) (x11 x12 x13 : Option Val), told.length = pre3.length ∧ (∀ x ∈ told, 0 ≤ x ∧ x ≤ 4) ∧ Deck (b1 + pre3.length) io6 ∧ plainO x12 ∧
        s = [some (.own io6), some (.d (houseD rs (gs.map G.enc))), some (.d (.int most)), some (.d (rowD row0)), some (.d (.int i)), none, some (.d (.tuple (cs.map rowD))), some (.own (rows.map rowD ++ [rowD (later gs lastr ps)])), some (.d (.tuple (ofInts ps))), x9, some (.own (ofInts told)), x11, x12, x13, none, none, none, none] := ⟨_, fun _ _ _ => Iff.rfl⟩
      refine for_enc _ I3 ((hI3 _ _ _).mpr ⟨[], io5, _, _, _, rfl, (fun _ h => nomatch h), d5.mono (by simp), p12, by simp [houseD, ofInts]; exact ⟨rfl, rfl⟩⟩) ?_ ?_
      · rintro pre3 ⟨⟨ga, gb, gm, gd⟩, c⟩ post3 s e3 h'
        obtain ⟨told, io6, x11, x12', x13, ht1, ht2, d6, p12', rfl⟩ := (hI3 _ _ _).mp h'
        have hpn3 : pre3.length < gs.length := by
          have := congrArg List.length e3
          simp at this
          omega
        have hgm : (⟨ga, gb, gm, gd⟩ : G) ∈ gs ∧ c ∈ ps := by
          have : ((⟨ga, gb, gm, gd⟩ : G), c) ∈ gs.zip ps := by rw [e3]; simp
          exact ⟨(List.of_mem_zip this).1, (List.of_mem_zip this).2⟩
        have hg0 := hg _ hgm.1
        have hc0 := hps2 _ hgm.2
        simp only at hg0
        simp [G.enc, gateD, bop_fdiv_int]
        refine one_use ho d6 (by simp) (by simp) (by omega) fun y io7 hy d7 => ?_
        simp
        refine ⟨by omega, ?_⟩
        have ey : ∃ y', y = .int y' ∧ 0 ≤ y' ∧ y' ≤ 4 := by
          simp at hy
          rcases hy with rfl | rfl | rfl
          · exact ⟨_, rfl, by omega, by omega⟩
          · refine ⟨_, rfl, ?_, ?_⟩ <;> split <;> omega
          · refine ⟨_, rfl, ?_, ?_⟩ <;> split <;> omega
        obtain ⟨y', rfl, y0, y1⟩ := ey
        refine (hI3 _ _ _).mpr ⟨told ++ [y'], io7, _, _, _, by simp [ht1], fun x hx => ?_, d7.mono (by simp; omega), .inr ⟨_, rfl⟩, by simp [ofInts]; exact ⟨rfl, rfl, rfl⟩⟩
        rcases List.mem_append.mp hx with h1 | h1
        · exact ht2 x h1
        · rw [List.mem_singleton] at h1
          omega
      · intro s h'
        obtain ⟨told, io6, x11, x12', x13, ht1, ht2, d6, p12', rfl⟩ := (hI3 _ _ _).mp h'
        clear h'
        have hzl : (gs.zip ps).length = gs.length := by simp [hps1]
        rw [hzl] at ht1 d6
        simp
        rw [bop_add_t (by simp; omega)]
        simp
        refine (hI _ _ _).mpr ⟨cs ++ [told], rows ++ [later gs lastr ps], io6, _, _, _, _, _, _, _, by simp [hc1], fun c hc => ?_, by simp [hr1], fun r hr => ?_, d6.mono (by simp; omega), p12', by simp [rowD]; exact ⟨rfl, rfl, rfl, rfl, rfl, rfl⟩⟩
        · rcases List.mem_append.mp hc with h1 | h1
          · exact hc2 c h1
          · rw [List.mem_singleton] at h1
            subst h1
            exact ⟨ht1, ht2⟩
        · rcases List.mem_append.mp hr with h1 | h1
          · exact hr2 r h1
          · rw [List.mem_singleton] at h1
            rw [h1, later_len, hl2]
  · intro s h
    obtain ⟨cs, rows, io3, x4, x8, x9, x10, x11, x12, x13, hc1, hc2, hr1, hr2, d3, p12, rfl⟩ := (hI _ _ _).mp h
    clear h
    rw [List.length_range] at hc1 hr1 d3
    simp
    rw [w_for]
    simp
    refine pick_use hp d3 (by omega) (by omega) (by omega) fun u io4 u0 u1 d4 => ?_
    simp
    refine ⟨by simp [small62]; omega, ?_⟩
    -- the looks
    obtain ⟨I4, hI4⟩ : ∃ I4 : List Nat → List Nat → Sl → Prop, ∀ pre post s, I4 pre post s ↔ ∃ (ks : List Lk) (io5 : List D) (x4 x11 x14 x15 : Option Val), ks.length ≤ pre.length ∧ (∀ k ∈ ks, 0 ≤ k.at_ ∧ k.at_ ≤ cs.length ∧ 0 ≤ k.fl ∧ k.fl < rs.length ∧ 0 ≤ k.n ∧ k.n ≤ rs.getD k.fl.toNat 0) ∧
      (ks.Pairwise fun a b => ¬ (a.at_ = b.at_ ∧ a.fl = b.fl)) ∧ Deck (m + 20 + 200 * n.toNat + 1 + 10 * pre.length) io5 ∧
      s = [some (.own io5), some (.d (houseD rs (gs.map G.enc))), some (.d (.int most)), some (.d (rowD row0)), x4, some (.dt (ks.map lkv)), some (.d (.tuple (cs.map rowD))), some (.own (rows.map rowD)), x8, x9, x10, x11, x12, x13, x14, x15, none, none] := ⟨_, fun _ _ _ => Iff.rfl⟩
    refine for_enc (l := List.range u.toNat) (fun k : Nat => .int (0 + k)) I4 ((hI4 _ _ _).mpr ⟨[], io4, _, _, _, _, by simp, (fun _ h => nomatch h), .nil, d4.mono (by simp), by simp; exact ⟨rfl, rfl, rfl, rfl⟩⟩) ?_ ?_
    · rintro pre i post s e1 h
      obtain ⟨ks, io5, x4, x11, x14, x15, hk1, hk2, hk3, d5, rfl⟩ := (hI4 _ _ _).mp h
      have hpn : pre.length < u.toNat := by
        have := congrArg List.length e1
        simp at this
        omega
      simp
      refine pick_use hp d5 (by omega) (by omega) (by omega) fun a io6 a0 a1 d6 => ?_
      simp
      simp only [houseD, ixD_t, atI_0]
      simp
      refine pick_use hp d6 (by omega) (by omega) (by omega) fun f io7 f0 f1 d7 => ?_
      simp
      have ha : a.toNat < rows.length := by omega
      obtain ⟨row, hrow⟩ : ∃ row, row = rows[a.toNat] := ⟨_, rfl⟩
      have hrl : row.length = rs.length := by rw [hrow]; exact hr2 _ (List.getElem_mem _)
      have gA : (rows.map rowD)[a.toNat]? = some (rowD row) := by rw [List.getElem?_map, List.getElem?_eq_getElem ha, hrow]; rfl
      have gF : (ofInts row)[f.toNat]? = some (.int (row.getD f.toNat 0)) := getD_ofInts (by omega)
      have gR : (ofInts rs)[f.toNat]? = some (.int (rs.getD f.toNat 0)) := getD_ofInts (by omega)
      obtain ⟨rf, hrf⟩ : ∃ rf, rf = row.getD f.toNat 0 := ⟨_, rfl⟩
      obtain ⟨room, hroom⟩ : ∃ room, room = rs.getD f.toNat 0 := ⟨_, rfl⟩
      rw [← hrf] at gF
      rw [← hroom] at gR
      have hroom1 : 1 ≤ room := by
        rw [hroom, List.getD_eq_getElem?_getD, List.getElem?_eq_getElem (show f.toNat < rs.length by omega)]
        exact (hr _ (List.getElem_mem _)).1
      have gA' : atI (rows.map rowD) a = some (rowD row) := by rw [atI_of a0]; exact gA
      have gF' : ixD (rowD row) (.int f) = some (.int rf) := by show atI (ofInts row) f = _; rw [atI_of f0]; exact gF
      have gR' : atI (ofInts rs) f = some (.int room) := by rw [atI_of f0]; exact gR
      simp [gA', gF']
      refine pick_use hp d7 (by omega) (by omega) (by omega) fun b io8 b0 b1 d8 => ?_
      simp
      refine one_use ho d8 (by simp) (by simp) (by omega) fun y io9 hy d9 => ?_
      simp
      have ey : ∃ y', y = .int y' := by
        simp at hy
        rcases hy with rfl | rfl <;> exact ⟨_, rfl⟩
      obtain ⟨y, rfl⟩ := ey
      simp [gR', putD, tkeyD, keysD, keyD]
      obtain ⟨v, hv⟩ : ∃ v, v = (if 0 < (if y < room then y else room) then (if y < room then y else room) else 0) := ⟨_, rfl⟩
      have hv0 : 0 ≤ v ∧ v ≤ room := by rw [hv]; split <;> split <;> omega
      rw [if_pos (by omega), ← hv]
      have e5 : dput (ks.map lkv) [Sum.inl a, Sum.inl f] (.tuple [.int a, .int f, .int v]) = (putLk ks ⟨a, f, v⟩).map lkv := dput_looks ks ⟨a, f, v⟩
      rw [e5]
      simp
      refine (hI4 _ _ _).mpr ⟨putLk ks ⟨a, f, v⟩, io9, _, _, _, _, ?_, fun j hj => ?_, putLk_pair hk3, d9.mono (by simp; omega), rfl⟩
      · have := putLk_len ks ⟨a, f, v⟩
        simp
        omega
      · rcases putLk_mem hj with h1 | h1
        · exact hk2 j h1
        · subst h1
          simp only
          exact ⟨a0, by omega, f0, by omega, hv0.1, by rw [← hroom]; exact hv0.2⟩
    · intro s h
      obtain ⟨ks, io5, x4, x11, x14, x15, hk1, hk2, hk3, d5, rfl⟩ := (hI4 _ _ _).mp h
      rw [List.length_range] at hk1 d5
      obtain ⟨ks', hp1, hp2, hp3⟩ : ∃ ks' : List Lk, sortD ((ks.map lkv).map fun p => .tuple (p.1.map unkey)) = some (ks'.map fun k => .tuple [.int k.at_, .int k.fl]) ∧ ks'.Perm ks ∧ ks'.Pairwise fun a b => lexLt [a.at_, a.fl] [b.at_, b.fl] = true := looks_sorted ks (by omega) hk3
      rw [List.map_map] at hp1
      simp
      have hfind : ∀ k ∈ ks, dlook (.dt (ks.map lkv)) (.tuple [.int k.at_, .int k.fl]) = some (some k.enc) := looks_find ks hk3
      refine comp_enc (fun k : Lk => .tuple [.int k.at_, .int k.fl]) (fun _ => true) (fun k => k.enc) ?_
      simp [hp1]
      refine ⟨by rfl, ks', rfl, by have := hp2.length_eq; omega, fun k hk => ?_, ?_⟩
      · rw [hfind k (hp2.mem_iff.mp hk)]
        simp
      · refine ⟨cs, ks', by unfold bookD; rw [List.filter_eq_self.mpr (fun _ _ => rfl)], ⟨by omega, hc2, by have := hp2.length_eq; omega, fun k hk => hk2 k (hp2.mem_iff.mp hk), hp3⟩, d5.mono (by omega)⟩
end
end Ir

set_option Elab.async false
set_option linter.all false
set_option maxRecDepth 100000
set_option maxHeartbeats 8000000
/-! Looking by the law: houses and books; sameness. -/
namespace Ir
open PySem L2 Fns
theorem lay_all : ∀ {xs : List D}, (∀ x ∈ xs, x.canLay0 = true) → PyData.canLayAll0 xs = true
  | [], _ => by simp [PyData.canLayAll0]
  | x :: r, h => by
    simp only [PyData.canLayAll0, Bool.and_eq_true]
    exact ⟨h x List.mem_cons_self, lay_all fun y hy => h y (List.mem_cons_of_mem _ hy)⟩
theorem depth_all {k : Nat} : ∀ {xs : List D}, (∀ x ∈ xs, x.depth ≤ k) → PyData.depthAll xs ≤ k
  | [], _ => by simp [PyData.depthAll]
  | x :: r, h => by
    simp only [PyData.depthAll]
    have h1 := h x List.mem_cons_self
    have h2 := depth_all fun y hy => h y (List.mem_cons_of_mem _ hy)
    omega
/-- plain data, at most k deep -/
def Pl (k : Nat) (v : D) : Prop := v.canLay0 = true ∧ v.depth ≤ k
theorem Pl.shp {k : Nat} {v : D} (h : Pl k v) (hk : k ≤ 64) : shp v = true := by
  show (v.canLay0 && decide (v.depth ≤ 64)) = true
  rw [h.1, Bool.true_and]
  exact decide_eq_true (Nat.le_trans h.2 hk)
theorem Pl.mono {j k : Nat} {v : D} (h : Pl j v) (hk : j ≤ k) : Pl k v := ⟨h.1, Nat.le_trans h.2 hk⟩
theorem pl_int {i : Int} : Pl 0 (.int i) := ⟨by simp [PyData.canLay0], by simp [PyData.depth]⟩
theorem pl_bool {i : Bool} : Pl 0 (.bool i) := ⟨by simp [PyData.canLay0], by simp [PyData.depth]⟩
theorem pl_none : Pl 0 .none := ⟨by simp [PyData.canLay0], by simp [PyData.depth]⟩
theorem pl_list {k : Nat} {xs : List D} (h : ∀ x ∈ xs, Pl k x) : Pl (k + 1) (.list xs) :=
  ⟨by simp only [PyData.canLay0]; exact lay_all fun x hx => (h x hx).1, by simp only [PyData.depth]; have := depth_all (k := k) fun x hx => (h x hx).2; omega⟩
theorem pl_tuple {k : Nat} {xs : List D} (h : ∀ x ∈ xs, Pl k x) : Pl (k + 1) (.tuple xs) :=
  ⟨by simp only [PyData.canLay0]; exact lay_all fun x hx => (h x hx).1, by simp only [PyData.depth]; have := depth_all (k := k) fun x hx => (h x hx).2; omega⟩
theorem pl_rowD (r : List Int) : Pl 1 (rowD r) := pl_tuple fun x hx => by
  obtain ⟨i, _, rfl⟩ := List.mem_map.mp hx
  exact pl_int
@[simp] theorem eqvAll_nil : PyData.eqvAll [] [] = true := by rw [PyData.eqvAll]
@[simp] theorem eqvAll_cons {x y : D} {r q : List D} : PyData.eqvAll (x :: r) (y :: q) = (PyData.eqv x y && PyData.eqvAll r q) := by rw [PyData.eqvAll]
@[simp] theorem eqvAll_nc {y : D} {q : List D} : PyData.eqvAll [] (y :: q) = false := by rw [PyData.eqvAll]
@[simp] theorem eqvAll_cn {y : D} {q : List D} : PyData.eqvAll (y :: q) [] = false := by rw [PyData.eqvAll]
@[simp] theorem eqv_list {x y : List D} : PyData.eqv (.list x) (.list y) = PyData.eqvAll x y := by rw [PyData.eqv]
@[simp] theorem eqv_tuple {x y : List D} : PyData.eqv (.tuple x) (.tuple y) = PyData.eqvAll x y := by rw [PyData.eqv]
@[simp] theorem eqv_bool {x y : Bool} : PyData.eqv (.bool x) (.bool y) = (x == y) := by rw [PyData.eqv]
@[simp] theorem eqv_str {x y : Str} : PyData.eqv (.str x) (.str y) = (x == y) := by rw [PyData.eqv]
@[simp] theorem eqv_none : PyData.eqv .none .none = true := by rw [PyData.eqv]
mutual
theorem eqv_refl : ∀ v : D, v.canLay0 = true → PyData.eqv v v = true
  | .none, _ => eqv_none
  | .bool b, _ => by simp
  | .int b, _ => by simp
  | .str b, _ => by simp
  | .list xs, h => by
    rw [eqv_list]
    exact eqvAll_refl xs (by simpa [PyData.canLay0] using h)
  | .tuple xs, h => by
    rw [eqv_tuple]
    exact eqvAll_refl xs (by simpa [PyData.canLay0] using h)
  | .dict _, h => by simp [PyData.canLay0] at h
theorem eqvAll_refl : ∀ vs : List D, PyData.canLayAll0 vs = true → PyData.eqvAll vs vs = true
  | [], _ => eqvAll_nil
  | x :: r, h => by
    have h' : x.canLay0 = true ∧ PyData.canLayAll0 r = true := by simpa [PyData.canLayAll0] using h
    rw [eqvAll_cons, eqv_refl x h'.1, eqvAll_refl r h'.2]
    rfl
end
@[simp] theorem shp_str1 : shp (.str "1") = true := by decide +kernel
/-- a list of ones is compared with [] -/
theorem ones_ne {α : Type} (l : List α) : cop .ne (.list (l.map fun _ => .int 1)) (.list []) = some (!l.isEmpty) := by
  have h1 : shp (.list (l.map fun _ => .int 1)) = true := (pl_list (k := 0) fun x hx => by obtain ⟨_, _, rfl⟩ := List.mem_map.mp hx; exact pl_int).shp (by decide)
  have h2 : shp (.list []) = true := by rfl
  rw [Ir.cop_ne h1 h2]
  cases l <;> simp
section
variable {Φ : Fs} {kin : Exn → D}
@[simp] theorem w_forL_nil {b : Sl → Flo} {t : Tg} {s : Sl} {P : Post} {h : Hold P} : (forL b t [] s).sat P h = P.nx s := by rw [forL]; rfl
@[simp] theorem w_forL_cons {b : Sl → Flo} {t : Tg} {x : D} {r : List D} {s : Sl} {P : Post} {h : Hold P} : (forL b t (x :: r) s).sat P h = optQ (fun s1 => (b s1).sat ⟨fun s2 => (forL b t r s2).sat P, P.rt, P.nx, fun s2 => (forL b t r s2).sat P, P.ex⟩) (tgSet t [x] s) := by
  rw [forL]
  cases tgSet t [x] s with
  | none => rfl
  | some s1 =>
    show Flo.sat (match b s1 with
      | .next s2 => forL b t r s2
      | .cont s2 => forL b t r s2
      | .brk s2 => .next s2
      | f => f) P = (b s1).sat _
    cases b s1 <;> rfl
theorem law_number_so_ok (hw : Whole Φ) (v : D) (lo hi : Int) : callF Φ kin f_law_number_so [] [v, .int lo, .int hi] = .ok (.d (.bool (isWithin v lo hi))) [] := by
  refine FRes.sat.eq (call_sat ⟨rfl, by decide⟩ ?_)
  cases v <;> simp [f_law_number_so, startS, hw, sortOf, isWithin]
  grind
abbrev NumberSo (Φ : Fs) : Prop := ∀ v lo hi, Φ 27 [] [v, .int lo, .int hi] = .ok (.d (.bool (isWithin v lo hi))) []
theorem for_raw {P : Post} {b : Sl → Flo} {t : Tg} {l : List D} {s : Sl} (I : List D → List D → Sl → Prop) (h0 : I [] l s)
    (st : ∀ pre a post s, l = pre ++ a :: post → I pre (a :: post) s → optQ (fun s1 => (b s1).sat ⟨fun s => I (pre ++ [a]) post s, P.rt, P.nx, fun s => I (pre ++ [a]) post s, P.ex⟩) (tgSet t [a] s)) (he : ∀ s, I l [] s → P.nx s) :
    (forL b t l s).sat P := by
  have := for_enc (P := P) (b := b) (t := t) (l := l) (s := s) (fun x : D => x) I h0 st he
  rwa [List.map_id'] at this
/-- [1 for x in xs if not within] -/
theorem comp_ones {e it : Ex} {i : Nat} {s : Sl} {Q : Val → Sl → Prop} {E : Exn → Sl → Prop} (g : D → Bool) (h : (ev Φ kin it s).sat (itmQ fun items s1 => plainSlots s1 [i] = true ∧ i < s1.length ∧ items.length ≤ lineMax ∧
      (∀ x ∈ items, (ev Φ kin e (s1.set i (some (.d x)))).sat (blQ fun y s2 => y = !g x ∧ s2.set i none = s1.set i none) fun _ _ => False) ∧ Q (.own ((items.filter fun x => !g x).map fun _ => .int 1)) (backS s1 (wipeS s1 [i]) [i])) E) :
    (ev Φ kin (.comp (.cst (.int 1)) (.nm i) it e [i]) s).sat Q E := by
  refine comp_map (fun x => !g x) (fun _ => .int 1) (h.mono (fun v s1 q => ?_) fun _ _ z => z)
  cases v with
  | d x =>
    cases x with
    | list items =>
      obtain ⟨h1, h2, h3, h4, h5⟩ := q
      refine ⟨h1, h3, fun x hx => ?_, h5⟩
      rw [tg_nm, wipe_cons, wipe_nil, List.length_set, if_pos h2, List.set_set, optQ_some]
      refine (h4 x hx).mono (fun v s2 z => ?_) fun _ _ z => z
      cases v with
      | d y =>
        cases y with
        | bool b =>
          obtain ⟨rfl, z⟩ := z
          refine ⟨rfl, ?_⟩
          split
          · rw [w_cst, datQ_d]
            exact ⟨rfl, z⟩
          · exact z
        | _ => exact z.elim
      | _ => exact z.elim
    | _ => exact q.elim
  | _ => exact q.elim
theorem filter_empty {α : Type} (l : List α) (g : α → Bool) : (l.filter fun x => !g x).isEmpty = l.all g := by
  induction l with
  | nil => rfl
  | cons a r ih =>
    rw [List.filter_cons, List.all_cons]
    cases g a with
    | true => simpa using ih
    | false => simp
theorem ones_all {l : List D} {g : D → Bool} : cop .ne (.list ((l.filter fun x => !g x).map fun _ => .int 1)) (.list []) = some (!l.all g) := by
  rw [ones_ne, filter_empty]
theorem not_items {v : D} {lo hi : Int} (h : ¬ hasItems v lo hi = true) : isTy .tuple v = false ∨ ∃ xs, v = .tuple xs ∧ ¬ (lo ≤ (xs.length : Int) ∧ (xs.length : Int) ≤ hi) := by
  cases v <;> simp [isTy]
  simpa [hasItems] using h
theorem isHouse_eq (rs gs : List D) (h1 : hasItems (.tuple rs) 1 3 = true) (h2 : hasItems (.tuple gs) 1 5 = true) : isHouse (.tuple [.tuple rs, .tuple gs]) = ((rs.all fun r => isWithin r 1 40) && gs.all fun g => isGate g rs.length) := by
  simp [isHouse, itemAt, tupL, h1, h2]
  simp [hasItems]
theorem law_is_a_house_ok (hn : NumberSo Φ) (v : D) : callF Φ kin f_law_is_a_house [] [v] = .ok (.d (.bool (isHouse v))) [] := by
  refine FRes.sat.eq (call_sat ⟨rfl, by decide⟩ ?_)
  obtain ⟨R, hR⟩ : ∃ R : Bool, R = isHouse v := ⟨_, rfl⟩
  rw [← hR]
  by_cases h : hasItems v 2 2 = true
  · obtain ⟨xs, rfl, l1, l2⟩ := items_tup h
    obtain ⟨a, b, rfl⟩ := len2 (xs := xs) (by omega)
    simp [f_law_is_a_house, startS, w_for]
    by_cases ha : hasItems a 1 3 = true
    · by_cases hb : hasItems b 1 5 = true
      · obtain ⟨rs, rfl, l3, l4⟩ := items_tup ha
        obtain ⟨gs, rfl, l5, l6⟩ := items_tup hb
        rw [isHouse_eq rs gs ha hb] at hR
        have l3' : (1 : Int) ≤ rs.length := l3
        have l5' : (1 : Int) ≤ gs.length := l5
        have l3'' : 1 ≤ rs.length := by omega
        have l5'' : 1 ≤ gs.length := by omega
        simp [l3', l4, l5', l6]
        refine comp_ones (fun r => isWithin r 1 40) ?_
        simp [plainSlots, hn]
        refine ⟨by omega, ?_⟩
        rw [ones_all]
        cases hrs : rs.all (fun r => isWithin r 1 40) with
        | false =>
          simp
          rw [hR, hrs]
          rfl
        | true =>
          simp
          rw [w_for]
          simp
          obtain ⟨I, hI⟩ : ∃ I : List D → List D → Sl → Prop, ∀ pre post s, I pre post s ↔ (pre.all (fun g => isGate g rs.length) = true) ∧ ∃ x1 x4,
            s = [some (.d (.tuple [.tuple rs, .tuple gs])), x1, some (.d (.tuple gs)), some (.d (.int 5)), x4, none, none] := ⟨_, fun _ _ _ => Iff.rfl⟩
          refine for_raw I ((hI _ _ _).mpr ⟨rfl, _, _, rfl⟩) ?_ ?_
          · rintro pre g post s e1 h'
            obtain ⟨hp, x1, x4, rfl⟩ := (hI _ _ _).mp h'
            have bad : isGate g rs.length = false → R = false := fun hb => by
              rw [hR, all_false (p := fun g => isGate g rs.length) e1 hb, Bool.and_false]
            have good : isGate g rs.length = true → ∀ x1 x4, I (pre ++ [g]) post [some (.d (.tuple [.tuple rs, .tuple gs])), x1, some (.d (.tuple gs)), some (.d (.int 5)), x4, none, none] := fun hb x1 x4 =>
              (hI _ _ _).mpr ⟨by rw [List.all_append, hp]; simp [hb], _, _, rfl⟩
            by_cases h4 : hasItems g 4 4 = true
            · obtain ⟨ys, rfl, m1, m2⟩ := items_tup h4
              obtain ⟨p, q, u, w, rfl⟩ := len4 (xs := ys) (by omega)
              simp
              refine comp_ones (fun r => isWithin r (-1) (rs.length - 1)) ?_
              simp [plainSlots, hn]
              have eg : isGate (.tuple [p, q, u, w]) rs.length = (isWithin p (-1) (rs.length - 1) && isWithin q (-1) (rs.length - 1) && !(PyData.eqv p q) && isWithin u 0 5 && isWithin w 0 5) := by
                simp [isGate, itemAt, tupL, h4]
              have o1 := ones_all (l := [p, q]) (g := fun r => isWithin r (-1) (rs.length - 1))
              have o2 := ones_all (l := [u, w]) (g := fun r => isWithin r 0 5)
              rw [o1]
              cases hpq : [p, q].all (fun r => isWithin r (-1) (rs.length - 1)) with
              | false =>
                simp at hpq
                simp
                exact bad (by rw [eg]; simp_all)
              | true =>
                simp at hpq
                obtain ⟨i, rfl, _, _⟩ := within_int hpq.1
                obtain ⟨j, rfl, _, _⟩ := within_int hpq.2
                simp
                refine comp_ones (fun r => isWithin r 0 5) ?_
                simp [plainSlots, hn]
                by_cases hij : i = j
                · simp [hij]
                  exact bad (by rw [eg]; simp [hij])
                · simp [hij]
                  rw [o2]
                  cases huw : [u, w].all (fun r => isWithin r 0 5) with
                  | false =>
                    simp at huw
                    simp
                    exact bad (by rw [eg]; simp_all)
                  | true =>
                    simp at huw
                    simp
                    exact good (by rw [eg]; simp_all) _ _
            · have hb : isGate g rs.length = false := by simp [isGate, Bool.eq_false_iff.mpr h4]
              have hRf := bad hb
              rcases not_items h4 with hv | ⟨xs, rfl, hl⟩
              · simp [hv]
                exact hRf
              · have : ¬ (xs.length : Int) = 4 := fun z => hl ⟨by omega, by omega⟩
                simp [this]
                exact hRf
          · intro s h'
            obtain ⟨hp, x1, x4, rfl⟩ := (hI _ _ _).mp h'
            simp
            rw [hR, hrs, hp]
            rfl
      · have hf : R = false := by
          rw [hR]
          simp [isHouse, itemAt, tupL, Bool.eq_false_iff.mpr hb]
        subst hf
        obtain ⟨rs, rfl, l3, l4⟩ := items_tup ha
        rcases not_items hb with hv | ⟨xs, rfl, hl⟩
        · simp [hv, l3, l4]
        · simp [l3, l4]
          intro h1 h2
          exact (hl ⟨h1, h2⟩).elim
    · have hf : R = false := by
        rw [hR]
        simp [isHouse, itemAt, tupL, Bool.eq_false_iff.mpr ha]
      subst hf
      rcases not_items ha with hv | ⟨xs, rfl, hl⟩
      · simp [hv]
      · simp
        intro h1 h2
        exact (hl ⟨h1, h2⟩).elim
  · have hv : (isTy .tuple v = false) ∨ ∃ xs, v = .tuple xs ∧ ¬ (xs.length : Int) = 2 := by
      cases v <;> simp [isTy]
      simp [hasItems] at h
      omega
    have hf : R = false := by
      rw [hR]
      simp [isHouse, Bool.eq_false_iff.mpr h]
    subst hf
    rcases hv with hv | ⟨xs, rfl, hl⟩
    · simp [f_law_is_a_house, startS, hv]
    · simp [f_law_is_a_house, startS, hl]
end
end Ir

set_option Elab.async false
set_option linter.all false
set_option maxRecDepth 100000
set_option maxHeartbeats 8000000
/-! Looking by the law: books. -/
namespace Ir
open PySem L2 Fns
theorem asc_pair : ∀ {l : List (List Int)}, ascB l = true → l.Pairwise (· < ·)
  | [], _ => .nil
  | [a], _ => List.pairwise_singleton _ _
  | a :: b :: r, h => by
    have h : (lexLt a b && ascB (b :: r)) = true := h
    rw [Bool.and_eq_true] at h
    have ih := asc_pair h.2
    have hab : a < b := by
      have := h.1
      rw [lexLt_dec] at this
      exact of_decide_eq_true this
    refine List.pairwise_cons.mpr ⟨fun c hc => ?_, ih⟩
    rcases List.mem_cons.mp hc with z | z
    · rw [z]; exact hab
    · exact List.lt_trans hab ((List.pairwise_cons.mp ih).1 c z)
theorem pair_asc : ∀ {l : List (List Int)}, l.Pairwise (· < ·) → ascB l = true
  | [], _ => rfl
  | [a], _ => rfl
  | a :: b :: r, h => by
    show (lexLt a b && ascB (b :: r)) = true
    rw [pair_asc (List.pairwise_cons.mp h).2, lexLt_dec, decide_eq_true ((List.pairwise_cons.mp h).1 b List.mem_cons_self)]
    rfl
theorem dedup_of_nodup : ∀ {l : List (List Int)}, l.Nodup → dedupT l = l
  | [], _ => rfl
  | a :: r, h => by
    unfold dedupT
    rw [List.nodup_cons] at h
    rw [if_neg fun z => h.1 (List.elem_iff.mp z), dedup_of_nodup h.2]
theorem asc_iff (l : List (List Int)) : (l = sortT (dedupT l)) ↔ ascB l = true := by
  constructor
  · intro h
    refine pair_asc ?_
    have h1 : (sortT (dedupT l)).Pairwise (· ≤ ·) := sortT_sorted _
    have h2 : (sortT (dedupT l)).Nodup := (sortT_perm _).nodup_iff.mpr nodup_dedupT
    rw [← h] at h1 h2
    have h3 := List.Pairwise.and h1 h2
    exact h3.imp fun {a b} z => by
      rcases List.le_iff_lt_or_eq.mp z.1 with q | q
      · exact q
      · exact absurd q z.2
  · intro h
    have h1 := asc_pair h
    have hn : l.Nodup := h1.imp fun {a b} z e => by
      rw [e] at z
      exact List.lt_irrefl _ z
    rw [dedup_of_nodup hn]
    exact sorted_oneT (sortT_perm l).symm (h1.imp fun z => List.le_of_lt z) (sortT_sorted _)
theorem eqv_ofTups (a b : List (List Int)) : PyData.eqvAll (ofTups a) (ofTups b) = decide (a = b) := by
  have row : ∀ x y : List Int, PyData.eqvAll (ofInts x) (ofInts y) = decide (x = y) := by
    intro x
    induction x with
    | nil => intro y; cases y <;> simp [ofInts]
    | cons i x ih =>
      intro y
      cases y with
      | nil => simp [ofInts]
      | cons j y =>
        have : PyData.eqvAll (ofInts (i :: x)) (ofInts (j :: y)) = (decide (i = j) && PyData.eqvAll (ofInts x) (ofInts y)) := by simp [ofInts]
        rw [this, ih y]
        simp
  induction a generalizing b with
  | nil => cases b <;> simp [ofTups]
  | cons i x ih =>
    cases b with
    | nil => simp [ofTups]
    | cons j y =>
      have : PyData.eqvAll (ofTups (i :: x)) (ofTups (j :: y)) = (PyData.eqvAll (ofInts i) (ofInts j) && PyData.eqvAll (ofTups x) (ofTups y)) := by simp [ofTups]
      rw [this, ih y, row]
      simp
theorem pl_ofTups (a : List (List Int)) : Pl 2 (.list (ofTups a)) := pl_list fun x hx => by
  obtain ⟨r, _, rfl⟩ := List.mem_map.mp hx
  exact pl_rowD r
section
variable {Φ : Fs} {kin : Exn → D}
theorem tupsOf_ofTups : ∀ l : List (List Int), tupsOf (ofTups l) = some l
  | [] => rfl
  | r :: l => by
    show (match intsOf (ofInts r), tupsOf (ofTups l) with
      | some a, some b => some (a :: b)
      | _, _ => none) = _
    rw [intsOf_ofInts, tupsOf_ofTups l]
theorem isBook_eq (rs : List Int) (ng : Nat) (cs ls : List D) (h1 : hasItems (.tuple cs) 0 4 = true) (h2 : hasItems (.tuple ls) 0 8 = true) : isBook rs ng (.tuple [.tuple cs, .tuple ls]) = (cs.all (isStretch ng) && ls.all (isLook rs cs.length) && ascB (ls.map spot)) := by
  simp [isBook, itemAt, tupL, h1, h2]
  simp [hasItems]
theorem law_is_a_book_ok (hn : NumberSo Φ) (rs : List Int) (gs : List D) (hgs : gs.length ≤ 100) (hrs : rs.length ≤ 60) (v : D) : callF Φ kin f_law_is_a_book [] [houseD rs gs, v] = .ok (.d (.bool (isBook rs gs.length v))) [] := by
  refine FRes.sat.eq (call_sat ⟨rfl, by decide⟩ ?_)
  obtain ⟨R, hR⟩ : ∃ R : Bool, R = isBook rs gs.length v := ⟨_, rfl⟩
  rw [← hR]
  by_cases h : hasItems v 2 2 = true
  · obtain ⟨xs, rfl, l1, l2⟩ := items_tup h
    obtain ⟨a, b, rfl⟩ := len2 (xs := xs) (by omega)
    simp [f_law_is_a_book, startS, w_for]
    by_cases ha : hasItems a 0 4 = true
    · obtain ⟨cs, rfl, l3, l4⟩ := items_tup ha
      have l4' : ¬ (4 : Int) < cs.length := by omega
      by_cases hb : hasItems b 0 8 = true
      · obtain ⟨ls, rfl, l5, l6⟩ := items_tup hb
        have l6' : ¬ (8 : Int) < ls.length := by omega
        rw [isBook_eq rs gs.length cs ls ha hb] at hR
        simp [l4', l6']
        rw [w_for]
        simp
        obtain ⟨T, hT⟩ : ∃ T : D, T = .tuple [.tuple cs, .tuple ls] := ⟨_, rfl⟩
        obtain ⟨I, hI⟩ : ∃ I : List D → List D → Sl → Prop, ∀ pre post s, I pre post s ↔ (pre.all (isStretch gs.length) = true) ∧ ∃ x2,
          s = [some (.d (houseD rs gs)), some (.d (.tuple [.tuple cs, .tuple ls])), x2, none, none, some (.d (.tuple ls)), some (.d (.int 8)), none] := ⟨_, fun _ _ _ => Iff.rfl⟩
        refine for_raw I ((hI _ _ _).mpr ⟨rfl, _, rfl⟩) ?_ ?_
        · rintro pre r post s e1 h'
          obtain ⟨hp, x2, rfl⟩ := (hI _ _ _).mp h'
          have bad : isStretch gs.length r = false → R = false := fun hb => by
            rw [hR, all_false (p := isStretch gs.length) e1 hb]
            rfl
          have good : isStretch gs.length r = true → ∀ x2, I (pre ++ [r]) post [some (.d (houseD rs gs)), some (.d (.tuple [.tuple cs, .tuple ls])), x2, none, none, some (.d (.tuple ls)), some (.d (.int 8)), none] := fun hb x2 =>
            (hI _ _ _).mpr ⟨by rw [List.all_append, hp]; simp [hb], _, rfl⟩
          by_cases hr : hasItems r gs.length gs.length = true
          · obtain ⟨ys, rfl, m1, m2⟩ := items_tup hr
            have hys : (ys.length : Int) = gs.length := by omega
            have hys2 : ys.length = gs.length := by omega
            have er : isStretch gs.length (.tuple ys) = ys.all fun c => isWithin c 0 99 := by simp [isStretch, hr, tupL]
            simp [houseD, hys2]
            refine comp_ones (fun r => isWithin r 0 99) ?_
            simp [plainSlots, hn]
            refine ⟨by omega, ?_⟩
            rw [ones_all]
            cases hall : ys.all (fun c => isWithin c 0 99) with
            | false =>
              simp
              exact bad (by rw [er, hall])
            | true =>
              simp
              exact good (by rw [er, hall]) _
          · have hb : isStretch gs.length r = false := by simp [isStretch, Bool.eq_false_iff.mpr hr]
            have hRf := bad hb
            rcases not_items hr with hv | ⟨xs, rfl, hl⟩
            · simp [hv]
              exact hRf
            · have : ¬ (xs.length : Int) = gs.length := fun z => hl ⟨by omega, by omega⟩
              simp [houseD, this]
              exact hRf
        · intro s h'
          obtain ⟨hp, x2, rfl⟩ := (hI _ _ _).mp h'
          clear h'
          simp
          rw [w_for]
          simp
          obtain ⟨J, hJ⟩ : ∃ J : List D → List D → Sl → Prop, ∀ pre post s, J pre post s ↔ (pre.all (isLook rs cs.length) = true) ∧ ∃ x3, plainO x3 ∧
            s = [some (.d (houseD rs gs)), some (.d (.tuple [.tuple cs, .tuple ls])), x2, x3, none, some (.d (.tuple ls)), some (.d (.int 8)), none] := ⟨_, fun _ _ _ => Iff.rfl⟩
          refine for_raw J ((hJ _ _ _).mpr ⟨rfl, _, .inl rfl, rfl⟩) ?_ ?_
          · rintro pre k post s e1 h'
            obtain ⟨hp2, x3, p3, rfl⟩ := (hJ _ _ _).mp h'
            have bad : isLook rs cs.length k = false → R = false := fun hb => by
              rw [hR, all_false (p := isLook rs cs.length) e1 hb]
              simp
            have good : isLook rs cs.length k = true → J (pre ++ [k]) post [some (.d (houseD rs gs)), some (.d (.tuple [.tuple cs, .tuple ls])), x2, some (.d k), none, some (.d (.tuple ls)), some (.d (.int 8)), none] := fun hb =>
              (hJ _ _ _).mpr ⟨by rw [List.all_append, hp2]; simp [hb], _, .inr ⟨_, rfl⟩, rfl⟩
            by_cases hk : hasItems k 3 3 = true
            · obtain ⟨ys, rfl, m1, m2⟩ := items_tup hk
              obtain ⟨p, q, u, rfl⟩ := len3 (xs := ys) (by omega)
              simp [hn]
              by_cases h1 : isWithin p 0 cs.length = true
              · simp [h1]
                simp [houseD, hn]
                by_cases h2 : isWithin q 0 (rs.length - 1) = true
                · obtain ⟨j, rfl, h3, h4⟩ := within_int h2
                  have hj : j.toNat < rs.length := by omega
                  have gR : (ofInts rs)[j.toNat]? = some (.int (rs.getD j.toNat 0)) := getD_ofInts hj
                  have gR' : atI (ofInts rs) j = some (.int (rs.getD j.toNat 0)) := by rw [atI_of h3]; exact gR
                  obtain ⟨room, hroom⟩ : ∃ room, room = rs.getD j.toNat 0 := ⟨_, rfl⟩
                  rw [← hroom] at gR'
                  have ek : isLook rs cs.length (.tuple [p, .int j, u]) = isWithin u 0 room := by
                    rw [hroom]
                    simp [isLook, itemAt, tupL, intAt, hk, h1, h2]
                  simp [h2, gR', hn]
                  cases hu : isWithin u 0 room with
                  | false =>
                    simp
                    exact bad (by rw [ek, hu])
                  | true =>
                    simp
                    exact good (by rw [ek, hu])
                · simp [h2]
                  exact bad (by simp [isLook, itemAt, tupL, hk, h1, Bool.eq_false_iff.mpr h2])
              · simp [h1]
                exact bad (by simp [isLook, itemAt, tupL, hk, Bool.eq_false_iff.mpr h1])
            · have hb : isLook rs cs.length k = false := by simp [isLook, Bool.eq_false_iff.mpr hk]
              have hRf := bad hb
              rcases not_items hk with hv | ⟨xs, rfl, hl⟩
              · simp [hv]
                exact hRf
              · have : ¬ (xs.length : Int) = 3 := fun z => hl ⟨by omega, by omega⟩
                simp [this]
                exact hRf
          · intro s h'
            obtain ⟨hp2, x3, p3, rfl⟩ := (hJ _ _ _).mp h'
            clear h'
            simp
            have hls : ∀ x ∈ ls, isLook rs cs.length x = true := List.all_eq_true.mp hp2
            refine comp_nm (fun x => .tuple (ofInts (spot x))) ?_
            simp
            refine ⟨plain1 rfl p3, by omega, fun x hx => ?_, ?_⟩
            · obtain ⟨i, j, k, rfl, _⟩ := look_spot (hls x hx)
              simp [spot, intAt, itemAt, tupL, ofInts]
            · have e1 : (ls.map fun x => (.tuple (ofInts (spot x)) : D)) = ofTups (ls.map spot) := by
                unfold ofTups
                rw [List.map_map]
                rfl
              have hss : Ir.bfn .sortedSet [.list (ofTups (ls.map spot))] = some (.own (ofTups (sortT (dedupT (ls.map spot))))) := by
                show (match tupsOf (ofTups (ls.map spot)) with
                  | some a => if a.length < 64 ∧ a.all (fun t => t.length == 2 && t.all fun z => decide (0 ≤ z) && decide (z < 64)) = true then some (Val.own (ofTups (sortT (dedupT a)))) else none
                  | none => none) = _
                rw [tupsOf_ofTups]
                dsimp only
                rw [if_pos]
                refine ⟨by rw [List.length_map]; omega, ?_⟩
                rw [List.all_eq_true]
                intro t ht
                obtain ⟨x, hx, rfl⟩ := List.mem_map.mp ht
                obtain ⟨i, j, k, rfl, q1, q2, q3, q4, _⟩ := look_spot (hls x hx)
                simp [spot, intAt, itemAt, tupL]
                omega
              rw [e1]
              simp [hss]
              have c1 := (pl_ofTups (ls.map spot)).shp (by decide)
              have c2 := (pl_ofTups (sortT (dedupT (ls.map spot)))).shp (by decide)
              rw [Ir.cop_eq c1 c2, eqv_list, eqv_ofTups]
              simp
              rw [hR, hp, hp2]
              simp only [Bool.true_and]
              by_cases ha : ascB (ls.map spot) = true
              · rw [ha]
                exact decide_eq_true ((asc_iff _).mpr ha)
              · rw [Bool.eq_false_iff.mpr ha]
                exact decide_eq_false fun z => ha ((asc_iff _).mp z)
      · have hf : R = false := by
          rw [hR]
          simp [isBook, itemAt, tupL, Bool.eq_false_iff.mpr hb]
        subst hf
        rcases not_items hb with hv | ⟨xs, rfl, hl⟩
        · simp [hv, l4']
        · simp [l4']
          intro h1
          exact (hl ⟨by omega, h1⟩).elim
    · have hf : R = false := by
        rw [hR]
        simp [isBook, itemAt, tupL, Bool.eq_false_iff.mpr ha]
      subst hf
      rcases not_items ha with hv | ⟨xs, rfl, hl⟩
      · simp [hv]
      · simp
        intro h1
        exact (hl ⟨by omega, h1⟩).elim
  · have hf : R = false := by
      rw [hR]
      simp [isBook, Bool.eq_false_iff.mpr h]
    subst hf
    rcases not_items h with hv | ⟨xs, rfl, hl⟩
    · simp [f_law_is_a_book, startS, hv]
    · have : ¬ (xs.length : Int) = 2 := fun z => hl ⟨by omega, by omega⟩
      simp [f_law_is_a_book, startS, this]
end
end Ir

set_option Elab.async false
set_option linter.all false
set_option maxRecDepth 100000
set_option maxHeartbeats 8000000
/-! Sameness; spoilt values. -/
namespace Ir
open PySem L2 Fns
section
variable {Φ : Fs} {kin : Exn → D}
theorem law_same_scalar (hs : Sort_ Φ) (v : D) (hv : v.canLay0 = true) (h0 : v.depth ≤ 64) (hk : sortOf v ≤ 3 ∨ sortOf v = 6) : callF Φ kin f_law_same [] [v, v] = .ok (.d (.bool true)) [] := by
  refine FRes.sat.eq (call_sat ⟨rfl, by decide⟩ ?_)
  simp [f_law_same, startS, hs]
  have hc : ¬ (3 < sortOf v ∧ sortOf v < 6) := by omega
  have hsh : shp v = true := (show Pl 64 v from ⟨hv, h0⟩).shp (by decide)
  by_cases h3 : 3 < sortOf v
  · have h6 : ¬ sortOf v < 6 := by omega
    simp [h3, h6, hs, Ir.cop_eq hsh hsh, eqv_refl v hv]
  · simp [h3, hs, Ir.cop_eq hsh hsh, eqv_refl v hv]
theorem same_comp (hr : ∀ x ∈ (xs : List D), Φ 19 [] [x, x] = .ok (.d (.bool true)) []) {a b c d : Option Val} {Q : Val → Sl → Prop} {E : Exn → Sl → Prop} {v : D} (hv : v = .list xs ∨ v = .tuple xs) (hl : xs.length ≤ 16777216) (q : Q (.own []) [some (.d v), some (.d v), none, none]) :
    (ev Φ kin (.comp (.var 2) (.tup (.cons (.nm 2) (.cons (.nm 3) (.nil)))) (.itEnum (.var 0)) (.not (.call 19 (.cons (.var 3) (.cons (.ixS 1 (.var 2)) (.nil))))) [2, 3]) [some (.d v), some (.d v), none, none]).sat Q E := by
  have hsq : seqOf v = some xs := by rcases hv with rfl | rfl <;> rfl
  have hix : ∀ k : Int, ixD v (.int k) = atI xs k := fun k => by rcases hv with rfl | rfl <;> rfl
  refine comp_enc (fun p : D × Nat => .tuple [.int p.2, p.1]) (fun _ => false) (fun p => .int p.2) ?_
  simp [hsq]
  have e1 : enumD 0 xs = (xs.zipIdx 0).map fun p => .tuple [.int p.2, p.1] := by
    have := enumD_map (fun x : D => x) xs 0
    rwa [List.map_id'] at this
  refine ⟨rfl, xs.zipIdx, e1, by simpa using hl, fun a b hab => ?_, ?_⟩
  · have hget := List.mem_zipIdx_iff_getElem?.mp hab
    simp only at hget
    simp [hix, atI_nat, hget, hr a (List.mem_of_getElem? hget)]
  · have : (xs.zipIdx.filter fun _ => false) = [] := by rw [List.filter_eq_nil_iff]; intro _ _ h; cases h
    rw [this]
    exact q
theorem law_same_seq (hs : Sort_ Φ) (xs : List D) (v : D) (hv : v = .list xs ∨ v = .tuple xs) (hl : xs.length ≤ 16777216) (hr : ∀ x ∈ xs, Φ 19 [] [x, x] = .ok (.d (.bool true)) []) : callF Φ kin f_law_same [] [v, v] = .ok (.d (.bool true)) [] := by
  refine FRes.sat.eq (call_sat ⟨rfl, by decide⟩ ?_)
  have h1 : 3 < sortOf v := by rcases hv with rfl | rfl <;> simp [sortOf]
  have h2 : sortOf v < 6 := by rcases hv with rfl | rfl <;> simp [sortOf]
  have hlen : Ir.bfn .len [v] = some (.d (.int xs.length)) := by rcases hv with rfl | rfl <;> rfl
  simp [f_law_same, startS, hs, h1, h2, hlen]
  refine same_comp (xs := xs) hr (a := none) (b := none) (c := none) (d := none) hv hl ?_
  simp
  rw [Ir.cop_eq (by rfl) (by rfl)]
  simp
/-! spoilt values -/
/-- plain or not, lists and tuples of at most n items, at most k deep -/
inductive Lim (n : Nat) : Nat → D → Prop
  | at_ {k : Nat} {v : D} (h : isTy .tuplist v = false) : Lim n k v
  | lst {k : Nat} {xs : List D} (h : xs.length ≤ n) (r : ∀ x ∈ xs, Lim n k x) : Lim n (k + 1) (.list xs)
  | tup {k : Nat} {xs : List D} (h : xs.length ≤ n) (r : ∀ x ∈ xs, Lim n k x) : Lim n (k + 1) (.tuple xs)
theorem Lim.mono {n n' : Nat} (hn : n ≤ n') : ∀ {k k' : Nat} {v : D}, Lim n k v → k ≤ k' → Lim n' k' v
  | _, _, _, .at_ h, _ => .at_ h
  | _, k', _, .lst h r, hk => by
    obtain ⟨j, rfl⟩ : ∃ j, k' = j + 1 := ⟨k' - 1, by omega⟩
    exact .lst (by omega) fun x hx => Lim.mono hn (r x hx) (by omega)
  | _, k', _, .tup h r, hk => by
    obtain ⟨j, rfl⟩ : ∃ j, k' = j + 1 := ⟨k' - 1, by omega⟩
    exact .tup (by omega) fun x hx => Lim.mono hn (r x hx) (by omega)
theorem Lim.seq {n k : Nat} {v : D} {xs : List D} (h : Lim n k v) (hv : v = .list xs ∨ v = .tuple xs) : ∃ j, k = j + 1 ∧ xs.length ≤ n ∧ ∀ x ∈ xs, Lim n j x := by
  cases h with
  | at_ h => rcases hv with rfl | rfl <;> simp [isTy] at h
  | lst h r =>
    rcases hv with e | e
    · cases e
      exact ⟨_, rfl, h, r⟩
    · cases e
  | tup h r =>
    rcases hv with e | e
    · cases e
    · cases e
      exact ⟨_, rfl, h, r⟩
/-- what a spoiling gives -/
abbrev SpoilR (n k : Nat) (m : Int) (v : Val) (io' : List D) : Prop := ∃ x, v = .d x ∧ Lim (n + 1) (k + 1) x ∧ Deck (m + 2 * k + 2) io'
abbrev Spoilt (Φ : Fs) (k : Nat) : Prop := ∀ io v n m, Lim n k v → 1 ≤ n → n ≤ 1000 → k ≤ 20 → Deck m io → m + 2 * k < 200000000000 → (Φ 30 io [v]).sat (SpoilR n k m) noE
theorem law_spoilt_ok (hp : Pick Φ) (ho : One Φ) (hw : Whole Φ) (k : Nat) (hrec : ∀ j, j < k → Spoilt Φ j) (io : List D) (v : D) (n : Nat) (m : Int) (hl : Lim n k v) (hn1 : 1 ≤ n) (hn : n ≤ 1000) (hk : k ≤ 20) (hd : Deck m io) (hm : m + 2 * k < 200000000000) :
    (callF Φ kin f_law_spoilt io [v]).sat (SpoilR n k m) noE := by
  refine call_sat ⟨rfl, by decide⟩ ?_
  by_cases ht : isTy .tuplist v = true
  · obtain ⟨xs, hv⟩ : ∃ xs, v = .list xs ∨ v = .tuple xs := by
      cases v <;> simp [isTy] at ht
      · exact ⟨_, .inl rfl⟩
      · exact ⟨_, .inr rfl⟩
    obtain ⟨j, rfl, hxl, hx⟩ := hl.seq hv
    have hlen : Ir.bfn .len [v] = some (.d (.int xs.length)) := by rcases hv with rfl | rfl <;> rfl
    have hlst : Ir.bfn .list [v] = some (.own xs) := by rcases hv with rfl | rfl <;> rfl
    have mem1 : ∀ z ∈ xs ++ xs.take 1, Lim (n + 1) (j + 1) z := fun z hz => by
      rcases List.mem_append.mp hz with q | q
      · exact (hx z q).mono (by omega) (by omega)
      · exact (hx z (List.mem_of_mem_take q)).mono (by omega) (by omega)
    have len1 : (xs ++ xs.take 1).length ≤ n + 1 := by simp; omega
    have mem2 : ∀ z ∈ xs.drop 1, Lim (n + 1) (j + 1) z := fun z hz => (hx z (List.mem_of_mem_drop hz)).mono (by omega) (by omega)
    have len2 : (xs.drop 1).length ≤ n + 1 := by simp; omega
    have mem3 : ∀ z ∈ xs.reverse, Lim (n + 1) (j + 1) z := fun z hz => (hx z (List.mem_reverse.mp hz)).mono (by omega) (by omega)
    have mem0 : ∀ z ∈ xs, Lim (n + 1) (j + 1) z := fun z hz => (hx z hz).mono (by omega) (by omega)
    have l01 : Lim (n + 1) (j + 1 + 1) (.tuple [.int 0, .int 1]) := .tup (by simp; omega) fun z hz => by
      simp at hz
      rcases hz with rfl | rfl <;> exact .at_ rfl
    unfold f_law_spoilt
    simp [startS, ht, hlen]
    by_cases h0 : xs = []
    · simp [h0, ht]
      have d1 : Deck (m + 1) io := hd.mono (by omega)
      revert d1
      generalize io = io1
      intro d1
      have hxs : xs = [] := h0
      rcases hv with rfl | rfl
      · simp [isTy, revD]
        rw [bop_add_l (by simp; omega)]
        simp [revD]
        refine one_use ho d1 ?_ ?_ (by omega) fun x io2 hx2 d2 => ?_
        · simp
        · simp
        simp
        simp at hx2
        refine ⟨x, rfl, ?_, d2.mono (by omega)⟩
        rcases hx2 with rfl | rfl | rfl | rfl | rfl | rfl
        · exact .tup (by omega) mem0
        · exact .lst len1 mem1
        · exact .lst (by simpa using len2) (by simpa using mem2)
        · exact .lst (by simp; omega) mem3
        · exact l01
        · exact .at_ rfl
      · simp [revD]
        rw [bop_add_t (by simp; omega)]
        simp [revD]
        refine one_use ho d1 ?_ ?_ (by omega) fun x io2 hx2 d2 => ?_
        · simp
        · simp
        simp
        simp at hx2
        refine ⟨x, rfl, ?_, d2.mono (by omega)⟩
        rcases hx2 with rfl | rfl | rfl | rfl | rfl | rfl
        · exact .lst (by omega) mem0
        · exact .tup len1 mem1
        · exact .tup (by simpa using len2) (by simpa using mem2)
        · exact .tup (by simp; omega) mem3
        · exact l01
        · exact .at_ rfl
    · have hpos : 0 < xs.length := List.length_pos_iff.mpr h0
      simp [hpos]
      refine pick_use hp hd (by omega) (by omega) (by omega) fun a io1 a0 a1 d1 => ?_
      by_cases ha : 0 < a
      · simp [ha, hlst]
        clear ha a0 a1 a
        refine pick_use hp d1 (by omega) (by omega) (by omega) fun a io2 a0 a1 d2 => ?_
        simp
        have ha : a.toNat < xs.length := by omega
        have gA : atI xs a = some xs[a.toNat] := by rw [atI_of a0, List.getElem?_eq_getElem ha]
        simp [gA]
        refine FRes.sat.mono (hrec j (by omega) io2 xs[a.toNat] n _ (hx _ (List.getElem_mem _)) hn1 hn (by omega) d2 (by omega)) (fun w io3 ⟨y, e, hy, d3⟩ => ?_) fun _ _ z => z.elim
        subst e
        have hput : ∀ s : Sl, slGet s 2 = some (.own xs) → putL 2 (.int a) y s = some (s.set 2 (some (.own (xs.set a.toNat y)))) := fun s hs => by
          unfold putL
          rw [hs]
          dsimp only
          unfold ixN
          rw [if_pos a0, if_pos (by omega)]
        simp
        rw [hput _ (by simp)]
        simp
        have hres : ∀ z ∈ xs.set a.toNat y, Lim (n + 1) (j + 1) z := fun z hz => by
          rcases List.mem_or_eq_of_mem_set hz with q | q
          · exact (hx z q).mono (by omega) (by omega)
          · rw [q]; exact hy
        rcases hv with rfl | rfl
        · simp [isTy]
          exact ⟨_, rfl, .lst (by simp; omega) hres, d3.mono (by omega)⟩
        · simp
          exact ⟨_, rfl, .tup (by simp; omega) hres, d3.mono (by omega)⟩
      · simp [ha, ht]
        clear ha a0 a1 a
        rcases hv with rfl | rfl
        · simp [isTy, revD]
          rw [bop_add_l (by simp; omega)]
          simp [revD]
          refine one_use ho d1 ?_ ?_ (by omega) fun x io2 hx2 d2 => ?_
          · simp
          · simp
          simp
          simp at hx2
          refine ⟨x, rfl, ?_, d2.mono (by omega)⟩
          rcases hx2 with rfl | rfl | rfl | rfl | rfl | rfl
          · exact .tup (by omega) mem0
          · exact .lst len1 mem1
          · exact .lst (by simpa using len2) (by simpa using mem2)
          · exact .lst (by simp; omega) mem3
          · exact l01
          · exact .at_ rfl
        · simp [revD]
          rw [bop_add_t (by simp; omega)]
          simp [revD]
          refine one_use ho d1 ?_ ?_ (by omega) fun x io2 hx2 d2 => ?_
          · simp
          · simp
          simp
          simp at hx2
          refine ⟨x, rfl, ?_, d2.mono (by omega)⟩
          rcases hx2 with rfl | rfl | rfl | rfl | rfl | rfl
          · exact .lst (by omega) mem0
          · exact .tup len1 mem1
          · exact .tup (by simpa using len2) (by simpa using mem2)
          · exact .tup (by simp; omega) mem3
          · exact l01
          · exact .at_ rfl
  · have ht' : isTy .tuplist v = false := Bool.eq_false_iff.mpr ht
    unfold f_law_spoilt
    simp [startS, ht', hw]
    by_cases h2 : sortOf v = 2
    · obtain ⟨i, rfl⟩ : ∃ i, v = .int i := by
        cases v <;> simp [sortOf] at h2
        exact ⟨_, rfl⟩
      simp [h2]
      refine one_use ho hd ?_ ?_ (by omega) fun x io2 hx2 d2 => ?_
      · simp
      · simp
      simp
      simp at hx2
      refine ⟨x, rfl, ?_, d2.mono (by omega)⟩
      rcases hx2 with rfl | rfl | rfl | rfl | rfl | rfl | rfl | rfl | rfl | rfl | rfl <;> exact .at_ rfl
    · simp [h2]
      refine one_use ho hd ?_ ?_ (by omega) fun x io2 hx2 d2 => ?_
      · simp
      · simp
      simp
      simp at hx2
      refine ⟨x, rfl, ?_, d2.mono (by omega)⟩
      rcases hx2 with rfl | rfl | rfl | rfl | rfl | rfl
      · exact .at_ rfl
      · exact .at_ rfl
      · exact .at_ rfl
      · exact .at_ rfl
      · exact .tup (by simp) fun _ h => nomatch h
      · exact .lst (by simp) fun _ h => nomatch h
end
end Ir

set_option Elab.async false
set_option linter.all false
set_option maxRecDepth 100000
set_option maxHeartbeats 8000000
/-! Calls of can_pass; what a try tells; drawn houses are houses. -/
namespace Ir
open PySem L2 Fns
section
variable {Φ : Fs} {kin : Exn → D}
theorem houseOk_is {rs : List Int} {gs : List G} {fl ga : Nat} (h : HouseOk rs gs fl ga) (h1 : fl ≤ 3) (h2 : ga ≤ 5) : isHouse (houseD rs (gs.map G.enc)) = true := by
  have a1 : hasItems (.tuple (ofInts rs)) 1 3 = true := by
    have := h.r1
    have := h.r2
    simp [hasItems]
    omega
  have a2 : hasItems (.tuple (gs.map G.enc)) 1 5 = true := by
    have := h.g1
    have := h.g2
    simp [hasItems]
    omega
  unfold houseD
  rw [isHouse_eq _ _ a1 a2, Bool.and_eq_true, List.all_eq_true, List.all_eq_true]
  refine ⟨fun x hx => ?_, fun x hx => ?_⟩
  · obtain ⟨r, hr, rfl⟩ := List.mem_map.mp hx
    have := h.r3 r hr
    simp [isWithin]
    omega
  · obtain ⟨g, hg, rfl⟩ := List.mem_map.mp hx
    obtain ⟨⟨b1, b2, b3, b4⟩, b5, b6, b7, b8, b9⟩ := h.g3 g hg
    simp [isGate, G.enc, gateD, itemAt, tupL, hasItems, isWithin]
    omega
theorem can_pass_ok (hn : NeedHouse Φ) (hg : NeedGate Φ) (hm : NeedNumber Φ) (hb : PassBounds Φ) (rs : List Int) (gs : List G) (hh : isHouse (houseD rs (gs.map G.enc)) = true) (g : Nat) (hgl : g < gs.length) (c : Int) (hc : 0 ≤ c ∧ c ≤ 99) :
    callF Φ kin f_can_pass [] [houseD rs (gs.map G.enc), .int g, .int c] = .ok (.d (.tuple [.int (passLo gs[g].d c), .int (c + gs[g].m)])) [] := by
  refine FRes.sat.eq (call_sat ⟨rfl, by decide⟩ ?_)
  have e1 : isWithin (.int (g : Int)) 0 (((gs.map G.enc).length : Int) - 1) = true := by simp [isWithin]; omega
  have e2 : isWithin (.int c) 0 99 = true := by simp [isWithin]; omega
  have e3 : ixD (houseD rs (gs.map G.enc)) (.int 1) = some (.tuple (gs.map G.enc)) := by simp [houseD]
  have e4 : atI (gs.map G.enc) (g : Int) = some gs[g].enc := by rw [atI_nat, List.getElem?_map, List.getElem?_eq_getElem hgl]; rfl
  have e5 : Φ 10 [] [gs[g].enc, .int c] = .ok (.d (.tuple [.int (passLo gs[g].d c), .int (c + gs[g].m)])) [] := hb _ _ _ _ _
  simp [f_can_pass, startS, hn, hh, needR, hg, hm, e2, e3, e4, e5]
  have e1' : isWithin (.int (g : Int)) 0 ((gs.length : Int) - 1) = true := by simpa using e1
  simp [e1', hm, needR, e2, e3, e4, e5]
theorem can_pass_exc0 (hn : NeedHouse Φ) (h g c : D) (hh : isHouse h = false) : callF Φ kin f_can_pass [] [h, g, c] = .exc ⟨0, none⟩ [] := by
  refine FRes.sat.exc (call_sat ⟨rfl, by decide⟩ ?_)
  simp [f_can_pass, startS, hn, hh, needR]
theorem can_pass_exc4 (hn : NeedHouse Φ) (hg : NeedGate Φ) (rs : List Int) (gs : List G) (hh : isHouse (houseD rs (gs.map G.enc)) = true) (g c : D) (hgl : isWithin g 0 ((gs.length : Int) - 1) = false) : callF Φ kin f_can_pass [] [houseD rs (gs.map G.enc), g, c] = .exc ⟨4, none⟩ [] := by
  refine FRes.sat.exc (call_sat ⟨rfl, by decide⟩ ?_)
  simp [f_can_pass, startS, hn, hh, needR, hg, hgl]
theorem can_pass_exc5 (hn : NeedHouse Φ) (hg : NeedGate Φ) (hm : NeedNumber Φ) (rs : List Int) (gs : List G) (hh : isHouse (houseD rs (gs.map G.enc)) = true) (h1 : 1 ≤ gs.length) (c : D) (hc : isWithin c 0 99 = false) : callF Φ kin f_can_pass [] [houseD rs (gs.map G.enc), .int 0, c] = .exc ⟨5, none⟩ [] := by
  refine FRes.sat.exc (call_sat ⟨rfl, by decide⟩ ?_)
  have e1 : isWithin (.int 0) 0 ((gs.length : Int) - 1) = true := by simp [isWithin]; omega
  simp [f_can_pass, startS, hn, hh, needR, hg, e1, hm, hc]
end
/-! the words of errors -/
theorem kinD_eq (c : Nat) : kinD ⟨c, none⟩ = .str (kinW c) := rfl
/-- a text that may be compared -/
theorem str_ne {x y : Str} (hx : shp (.str x) = true) (hy : shp (.str y) = true) : cop .ne (.str x) (.str y) = some (!decide (x = y)) := by
  rw [Ir.cop_ne hx hy, eqv_str]
  by_cases h : x = y
  · subst h; simp
  · simp [h]
theorem str_eq {x y : Str} (hx : shp (.str x) = true) (hy : shp (.str y) = true) : cop .eq (.str x) (.str y) = some (decide (x = y)) := by
  rw [Ir.cop_eq hx hy, eqv_str]
  by_cases h : x = y
  · subst h; simp
  · simp [h]
theorem k0 : kinD ⟨0, none⟩ = .str "house +" := congrArg PyData.str (show kinW 0 = "house +" by decide)
theorem k1 : kinD ⟨1, none⟩ = .str "book +" := congrArg PyData.str (show kinW 1 = "book +" by decide)
theorem k2 : kinD ⟨2, none⟩ = .str "moment +" := congrArg PyData.str (show kinW 2 = "moment +" by decide)
theorem k3 : kinD ⟨3, none⟩ = .str "floor +" := congrArg PyData.str (show kinW 3 = "floor +" by decide)
theorem k4 : kinD ⟨4, none⟩ = .str "gate +" := congrArg PyData.str (show kinW 4 = "gate +" by decide)
theorem k5 : kinD ⟨5, none⟩ = .str "number +" := congrArg PyData.str (show kinW 5 = "number +" by decide)
theorem sh0 : cop .ne (.str "house +") (.str "house +") = some false := by decide +kernel
theorem sh4 : cop .ne (.str "gate +") (.str "gate +") = some false := by decide +kernel
theorem sh5 : cop .ne (.str "number +") (.str "number +") = some false := by decide +kernel
theorem sh1 : cop .ne (.str "book +") (.str "book +") = some false := by decide +kernel
theorem cop_ne_bool {b : Bool} : cop .ne (.bool b) (.bool b) = some false := by
  rw [Ir.cop_ne shp_bool shp_bool]
  simp
end Ir

set_option linter.all false
set_option maxRecDepth 100000
/-! The table of k01 (printed by gen.py). -/
namespace Ir.k01
open PySem Ir Fns
def TL : List (Nat × Fn) := [(0, f_is_within), (1, f_has_items), (2, f_is_gate), (3, f_is_house_value), (4, f_is_stretch), (5, f_is_look), (6, f_is_book_value), (7, f_need_house), (8, f_need_gate), (9, f_need_number), (10, f_pass_bounds), (11, f_is_house), (12, f_is_book), (13, f_can_pass), (14, f_law_deck), (15, f_law_pick), (16, f_law_whole), (17, f_law_one), (18, f_law_sort), (19, f_law_same), (20, f_law_known), (21, f_law_books), (22, f_law_ends), (23, f_law_later), (24, f_law_fits), (25, f_law_a_house), (26, f_law_a_book), (27, f_law_number_so), (28, f_law_is_a_house), (29, f_law_is_a_book), (30, f_law_spoilt), (31, f_law_written_k01), (32, f_law_k01)]
def SX : List (Nat × Nat) := [(0, 19), (1, 20), (2, 21), (3, 22), (4, 23), (5, 24), (6, 25), (7, 26), (8, 27), (9, 28), (10, 29), (11, 30), (12, 31), (13, 32), (14, 34), (15, 35), (16, 36), (17, 37), (18, 38), (19, 39), (20, 42), (21, 43), (22, 44), (23, 45), (24, 46), (25, 47), (26, 48), (27, 49), (28, 50), (29, 51), (30, 52), (31, 53), (32, 54)]
def LTS : List Nat := [32]
def CONS : List (Str × Int) := [("MOST_STRETCHES", 4), ("MOST_LOOKS", 8)]
abbrev iTry : Nat := 41
abbrev iKin : Nat := 40
abbrev lawG : Nat := 32
abbrev fLaw : Fn := f_law_k01
end Ir.k01

set_option Elab.async false
set_option linter.all false
set_option maxRecDepth 100000
set_option maxHeartbeats 8000000
/-! Law k01, as the mirror has it. -/
namespace Ir.k01
open PySem L2 Fns Ir
abbrev TK : Nat → Option Fn := fun g => TL.lookup g
def isYes_ : FRes → Bool
  | .ok (.d (.bool true)) [] => true
  | _ => false
theorem isYes_of {r : FRes} (h : isYes_ r = true) : r = .ok (.d (.bool true)) [] := by
  unfold isYes_ at h
  split at h
  · rfl
  · cases h
theorem written : isYes_ (sem TK kinD 39 31 [] []) = true := by decide +kernel
section
variable {n : Nat}
abbrev S (n : Nat) : Fs := sem TK kinD n
theorem s_within (h : 1 ≤ n) : Within (S n) := fun v lo hi => by show sem TK kinD n 0 _ _ = _; rw [sem_eq (fn := f_is_within) rfl h]; exact is_within_ok v lo hi
theorem s_items (h : 1 ≤ n) : Items (S n) := fun v lo hi => by show sem TK kinD n 1 _ _ = _; rw [sem_eq (fn := f_has_items) rfl h]; exact has_items_ok v lo hi
theorem s_passb (h : 1 ≤ n) : PassBounds (S n) := fun a b m d c => by show sem TK kinD n 10 _ _ = _; rw [sem_eq (fn := f_pass_bounds) rfl h]; exact pass_bounds_ok a b m d c
theorem s_pick (h : 1 ≤ n) : Pick (S n) := fun io size m a b c d => by show (sem TK kinD n 15 _ _).sat _ _; rw [sem_eq (fn := f_law_pick) rfl h]; exact law_pick_ok io size m a b c d
theorem s_whole (h : 1 ≤ n) : Whole (S n) := fun v => by show sem TK kinD n 16 _ _ = _; rw [sem_eq (fn := f_law_whole) rfl h]; exact law_whole_ok v
theorem s_sort (h : 1 ≤ n) : Sort_ (S n) := fun v => by show sem TK kinD n 18 _ _ = _; rw [sem_eq (fn := f_law_sort) rfl h]; exact law_sort_ok v
theorem s_later (h : 1 ≤ n) : Later (S n) := fun rs gs row ps a => by show sem TK kinD n 23 _ _ = _; rw [sem_eq (fn := f_law_later) rfl h]; exact law_later_ok rs gs row ps a
theorem s_fits (h : 1 ≤ n) : Fits (S n) := fun rs gs ks m row a => by show sem TK kinD n 24 _ _ = _; rw [sem_eq (fn := f_law_fits) rfl h]; exact law_fits_ok rs gs ks m row a
theorem s_gate (h : 2 ≤ n) : Gate (S n) := fun v fl => by show sem TK kinD n 2 _ _ = _; rw [sem_eq (fn := f_is_gate) rfl (by omega)]; exact is_gate_ok (s_within (by omega)) (s_items (by omega)) v fl
theorem s_stretch (h : 2 ≤ n) : Stretch (S n) := fun rs gs v hg => by show sem TK kinD n 4 _ _ = _; rw [sem_eq (fn := f_is_stretch) rfl (by omega)]; exact is_stretch_ok (s_within (by omega)) (s_items (by omega)) rs gs hg v
theorem s_look (h : 2 ≤ n) : Look (S n) := fun rs gs m v => by show sem TK kinD n 5 _ _ = _; rw [sem_eq (fn := f_is_look) rfl (by omega)]; exact is_look_ok (s_within (by omega)) (s_items (by omega)) rs gs m v
theorem s_needgate (h : 2 ≤ n) : NeedGate (S n) := fun rs gs v => by show sem TK kinD n 8 _ _ = _; rw [sem_eq (fn := f_need_gate) rfl (by omega)]; exact need_gate_ok (s_within (by omega)) rs gs v
theorem s_neednumber (h : 2 ≤ n) : NeedNumber (S n) := fun v m => by show sem TK kinD n 9 _ _ = _; rw [sem_eq (fn := f_need_number) rfl (by omega)]; exact need_number_ok (s_within (by omega)) v m
theorem s_one (h : 2 ≤ n) : One (S n) := fun io xs m a b c d => by show (sem TK kinD n 17 _ _).sat _ _; rw [sem_eq (fn := f_law_one) rfl (by omega)]; exact law_one_ok (s_pick (by omega)) io xs m a b c d
theorem s_numberso (h : 2 ≤ n) : NumberSo (S n) := fun v lo hi => by show sem TK kinD n 27 _ _ = _; rw [sem_eq (fn := f_law_number_so) rfl (by omega)]; exact law_number_so_ok (s_whole (by omega)) v lo hi
theorem s_housev (h : 3 ≤ n) : HouseV (S n) := fun v => by show sem TK kinD n 3 _ _ = _; rw [sem_eq (fn := f_is_house_value) rfl (by omega)]; exact is_house_value_ok (s_within (by omega)) (s_items (by omega)) (s_gate (by omega)) v
theorem s_bookv (h : 3 ≤ n) : BookV (S n) := fun rs gs v hg => by show sem TK kinD n 6 _ _ = _; rw [sem_eq (fn := f_is_book_value) rfl (by omega)]; exact is_book_value_ok (s_items (by omega)) (s_stretch (by omega)) (s_look (by omega)) rs gs hg v
theorem s_needhouse (h : 4 ≤ n) : NeedHouse (S n) := fun v => by show sem TK kinD n 7 _ _ = _; rw [sem_eq (fn := f_need_house) rfl (by omega)]; exact need_house_ok (s_housev (by omega)) v
theorem s_same0 (h : 2 ≤ n) (v : D) (hv : v.canLay0 = true) (h0 : v.depth ≤ 64) (hk : sortOf v ≤ 3 ∨ sortOf v = 6) : S n 19 [] [v, v] = .ok (.d (.bool true)) [] := by
  show sem TK kinD n 19 _ _ = _
  rw [sem_eq (fn := f_law_same) rfl (by omega)]
  exact law_same_scalar (s_sort (by omega)) v hv h0 hk
theorem s_same_bool (h : 2 ≤ n) (b : Bool) : S n 19 [] [.bool b, .bool b] = .ok (.d (.bool true)) [] := s_same0 h _ pl_bool.1 (Nat.le_trans pl_bool.2 (by decide)) (.inl (by simp [sortOf]))
theorem s_same_int (h : 2 ≤ n) (b : Int) : S n 19 [] [.int b, .int b] = .ok (.d (.bool true)) [] := s_same0 h _ pl_int.1 (Nat.le_trans pl_int.2 (by decide)) (.inl (by simp [sortOf]))
theorem s_same_pair (h : 3 ≤ n) (a b : Int) : S n 19 [] [.tuple [.int a, .int b], .tuple [.int a, .int b]] = .ok (.d (.bool true)) [] := by
  show sem TK kinD n 19 _ _ = _
  rw [sem_eq (fn := f_law_same) rfl (by omega)]
  refine law_same_seq (s_sort (by omega)) [.int a, .int b] _ (.inr rfl) (by simp) fun x hx => ?_
  simp at hx
  rcases hx with rfl | rfl <;> exact s_same_int (by omega) _
theorem s_spoilt : ∀ (k n : Nat), k + 3 ≤ n → Spoilt (S n) k
  | k, n, h => fun io v nn m a b c d e f => by
    show (sem TK kinD n 30 _ _).sat _ _
    rw [sem_eq (fn := f_law_spoilt) rfl (by omega)]
    exact law_spoilt_ok (s_pick (by omega)) (s_one (by omega)) (s_whole (by omega)) k (fun j hj => s_spoilt j (n - 1) (by omega)) io v nn m a b c d e f
end
theorem houseLim {rs : List Int} {gs : List G} {fl ga : Nat} (h : HouseOk rs gs fl ga) (h1 : fl ≤ 3) (h2 : ga ≤ 5) : Lim 10 3 (houseD rs (gs.map G.enc)) := by
  have := h.r2
  have := h.g2
  refine .tup (by simp) fun x hx => ?_
  simp at hx
  rcases hx with rfl | rfl
  · refine .tup (by simp; omega) fun y hy => ?_
    obtain ⟨i, _, rfl⟩ := List.mem_map.mp hy
    exact .at_ rfl
  · refine .tup (by simp; omega) fun y hy => ?_
    obtain ⟨g, _, rfl⟩ := List.mem_map.mp hy
    refine .tup (by simp) fun z hz => ?_
    simp at hz
    rcases hz with rfl | rfl | rfl | rfl <;> exact .at_ rfl
theorem bookLim {rs : List Int} {ng : Nat} {cs : List (List Int)} {ks : List Lk} {most : Nat} (h : BookOk rs ng cs ks most) (h1 : most ≤ 4) (h2 : ng ≤ 5) : Lim 10 3 (bookD cs ks) := by
  have := h.c1
  have := h.k1
  refine .tup (by simp) fun x hx => ?_
  simp at hx
  rcases hx with rfl | rfl
  · refine .tup (by simp; omega) fun y hy => ?_
    obtain ⟨c, hc, rfl⟩ := List.mem_map.mp hy
    refine .tup (by rw [len_ofInts, (h.c2 c hc).1]; omega) fun z hz => ?_
    obtain ⟨i, _, rfl⟩ := List.mem_map.mp hz
    exact .at_ rfl
  · refine .tup (by simp; omega) fun y hy => ?_
    obtain ⟨g, _, rfl⟩ := List.mem_map.mp hy
    refine .tup (by simp) fun z hz => ?_
    simp at hz
    rcases hz with rfl | rfl | rfl <;> exact .at_ rfl
theorem s_deck {n : Nat} (h : 1 ≤ n) (cell t : Int) (ht : 0 ≤ t) : ∃ io, S n 14 [] [.int cell, .int t] = .ok (.own io) [] ∧ Deck t io := by
  obtain ⟨io, e, d⟩ := law_deck_ok (Φ := S (n - 1)) (kin := kinD) cell t ht
  exact ⟨io, (by show sem TK kinD n 14 _ _ = _; rw [sem_eq (fn := f_law_deck) rfl h]; exact e), d⟩
theorem s_ahouse {n : Nat} (h : 3 ≤ n) (io : List D) (fl ga : Nat) (m : Int) (hd : Deck m io) (f1 : 1 ≤ fl ∧ fl ≤ 10) (g1 : 1 ≤ ga ∧ ga ≤ 10) (hm : m < 200000000000) :
    (S n 25 io [.int fl, .int ga]).sat (fun v io' => ∃ rs gs, v = .d (houseD rs (gs.map G.enc)) ∧ HouseOk rs gs fl ga ∧ Deck (m + 100) io') noE := by
  show (sem TK kinD n 25 _ _).sat _ _
  rw [sem_eq (fn := f_law_a_house) rfl (by omega)]
  exact law_a_house_ok (s_pick (by omega)) (s_one (by omega)) io fl ga m hd f1 g1 hm
theorem s_abook {n : Nat} (h : 3 ≤ n) (io : List D) (rs : List Int) (gs : List G) (most : Nat) (m : Int) (hd : Deck m io) (hm : m < 100000000000) (h1 : 1 ≤ rs.length ∧ rs.length ≤ 10) (h2 : 1 ≤ gs.length ∧ gs.length ≤ 10) (h3 : most ≤ 10)
    (hr : ∀ r ∈ rs, 1 ≤ r ∧ r ≤ 100) (hg : ∀ g ∈ gs, G.In g rs.length ∧ 0 ≤ g.m ∧ 0 ≤ g.d) :
    (S n 26 io [houseD rs (gs.map G.enc), .int most]).sat (fun v io' => ∃ cs ks, v = .d (bookD cs ks) ∧ BookOk rs gs.length cs ks most ∧ Deck (m + 10000) io') noE := by
  show (sem TK kinD n 26 _ _).sat _ _
  rw [sem_eq (fn := f_law_a_book) rfl (by omega)]
  exact law_a_book_ok (s_pick (by omega)) (s_one (by omega)) (s_later (by omega)) (s_fits (by omega)) io rs gs most m hd hm h1 h2 h3 hr hg
theorem law_body (N : Nat) (hN : 20 ≤ N) (hw : S N 31 [] [] = .ok (.d (.bool true)) []) (ns : List Int) (hns : ns.length ≤ 63) : callF (S N) kinD f_law_k01 [] [.list (ofInts ns)] = .ok (.d (.bool true)) [] := by
  refine FRes.sat.eq (call_sat ⟨rfl, by decide⟩ ?_)
  simp [f_law_k01, startS]
  rw [w_for]
  simp
  rw [bop_add_l (by simp; omega)]
  simp [-w_forL_cons]
  have el : (PyData.int 0 :: List.take 9 (ofInts ns)) = ((0 : Int) :: ns.take 9).map PyData.int := by simp [ofInts, List.map_take]
  rw [el]
  obtain ⟨I, hI⟩ : ∃ I : List Int → List Int → Sl → Prop, ∀ pre post s, I pre post s ↔ ∃ x1 x2 x3 x4 x5 x6 x7 x8 x9 x10 x11 x12, s = [some (.d (.list (ofInts ns))), x1, x2, x3, x4, x5, x6, x7, x8, x9, x10, x11, x12] := ⟨_, fun _ _ _ => Iff.rfl⟩
  refine for_enc PyData.int I ((hI _ _ _).mpr ⟨_, _, _, _, _, _, _, _, _, _, _, _, rfl⟩) ?_ ?_
  · rintro pre cell post s e1 h
    obtain ⟨x1, x2, x3, x4, x5, x6, x7, x8, x9, x10, x11, x12, rfl⟩ := (hI _ _ _).mp h
    obtain ⟨io, hdk, d0⟩ := s_deck (show 1 ≤ N by omega) cell 1 (by decide)
    simp [hdk]
    refine (s_ahouse (show 3 ≤ N by omega) io 3 5 1 d0 (by decide) (by decide) (by decide)).mono (fun v io1 ⟨rs, gs, ev, hOk, d1⟩ => ?_) fun _ _ z => z.elim
    subst ev
    simp
    have hgi : ∀ g ∈ gs, G.In g rs.length ∧ 0 ≤ g.m ∧ 0 ≤ g.d := fun g hg => ⟨(hOk.g3 g hg).1, (hOk.g3 g hg).2.2.1, (hOk.g3 g hg).2.2.2.2.1⟩
    have hr1 := hOk.r1
    have hr2 := hOk.r2
    have hg1 := hOk.g1
    have hg2 := hOk.g2
    refine (s_abook (show 3 ≤ N by omega) io1 rs gs 4 _ d1 (by decide) ⟨by omega, by omega⟩ ⟨by omega, by omega⟩ (by decide) (fun r hr => ⟨(hOk.r3 r hr).1, by have := (hOk.r3 r hr).2; omega⟩) hgi).mono (fun v io2 ⟨cs, ks, ev, hBk, d2⟩ => ?_) fun _ _ z => z.elim
    subst ev
    have hH : isHouse (houseD rs (gs.map G.enc)) = true := houseOk_is hOk (by decide) (by decide)
    have hgl : (gs.map G.enc).length ≤ 100 := by simp; omega
    have fB : ∀ v, S N 12 [] [houseD rs (gs.map G.enc), v] = .ok (.d (.bool (isBook rs (gs.map G.enc).length v))) [] := fun v => by
      show sem TK kinD N 12 _ _ = _
      rw [sem_eq (fn := f_is_book) rfl (by omega)]
      exact is_book_ok (s_needhouse (by omega)) (s_bookv (by omega)) rs _ hgl hH v
    have fLB : ∀ v, S N 29 [] [houseD rs (gs.map G.enc), v] = .ok (.d (.bool (isBook rs (gs.map G.enc).length v))) [] := fun v => by
      show sem TK kinD N 29 _ _ = _
      rw [sem_eq (fn := f_law_is_a_book) rfl (by omega)]
      exact law_is_a_book_ok (s_numberso (by omega)) rs _ hgl (by omega) v
    have fH : ∀ v, S N 11 [] [v] = .ok (.d (.bool (isHouse v))) [] := fun v => by
      show sem TK kinD N 11 _ _ = _
      rw [sem_eq (fn := f_is_house) rfl (by omega)]
      exact is_house_ok (s_housev (by omega)) v
    have fLH : ∀ v, S N 28 [] [v] = .ok (.d (.bool (isHouse v))) [] := fun v => by
      show sem TK kinD N 28 _ _ = _
      rw [sem_eq (fn := f_law_is_a_house) rfl (by omega)]
      exact law_is_a_house_ok (s_numberso (by omega)) v
    have fS : ∀ b : Bool, S N 19 [] [.bool b, .bool b] = .ok (.d (.bool true)) [] := fun b => s_same_bool (by omega) b
    have fC : ∀ (g : Nat) (hg : g < gs.length) (c : Int), 0 ≤ c ∧ c ≤ 99 → S N 13 [] [houseD rs (gs.map G.enc), .int g, .int c] = .ok (.d (.tuple [.int (passLo gs[g].d c), .int (c + gs[g].m)])) [] := fun g hg c hc => by
      show sem TK kinD N 13 _ _ = _
      rw [sem_eq (fn := f_can_pass) rfl (by omega)]
      exact can_pass_ok (s_needhouse (by omega)) (s_needgate (by omega)) (s_neednumber (by omega)) (s_passb (by omega)) rs gs hH g hg c hc
    have fC0 : ∀ h g c, isHouse h = false → S N 13 [] [h, g, c] = .exc ⟨0, none⟩ [] := fun h g c hh => by
      show sem TK kinD N 13 _ _ = _
      rw [sem_eq (fn := f_can_pass) rfl (by omega)]
      exact can_pass_exc0 (s_needhouse (by omega)) h g c hh
    have fB0 : ∀ h v, isHouse h = false → S N 12 [] [h, v] = .exc ⟨0, none⟩ [] := fun h v hh => by
      show sem TK kinD N 12 _ _ = _
      rw [sem_eq (fn := f_is_book) rfl (by omega)]
      exact is_book_exc (s_needhouse (by omega)) h v hh
    have fC4 : ∀ g c, isWithin g 0 ((gs.length : Int) - 1) = false → S N 13 [] [houseD rs (gs.map G.enc), g, c] = .exc ⟨4, none⟩ [] := fun g c hh => by
      show sem TK kinD N 13 _ _ = _
      rw [sem_eq (fn := f_can_pass) rfl (by omega)]
      exact can_pass_exc4 (s_needhouse (by omega)) (s_needgate (by omega)) rs gs hH g c hh
    have fC5 : ∀ c, isWithin c 0 99 = false → S N 13 [] [houseD rs (gs.map G.enc), .int 0, c] = .exc ⟨5, none⟩ [] := fun c hh => by
      show sem TK kinD N 13 _ _ = _
      rw [sem_eq (fn := f_can_pass) rfl (by omega)]
      exact can_pass_exc5 (s_needhouse (by omega)) (s_needgate (by omega)) (s_neednumber (by omega)) rs gs hH hg1 c hh
    have fE : ∀ (g : Nat) (hg : g < gs.length) (c : Int), S N 22 [] [gs[g].enc, .int c] = .ok (.d (.tuple [.int (passLo gs[g].d c), .int (c + gs[g].m)])) [] := fun g hg c => by
      show sem TK kinD N 22 _ _ = _
      rw [sem_eq (fn := f_law_ends) rfl (by omega)]
      exact law_ends_ok _ _ _ _ _
    have fP : ∀ a b : Int, S N 19 [] [.tuple [.int a, .int b], .tuple [.int a, .int b]] = .ok (.d (.bool true)) [] := fun a b => s_same_pair (by omega) a b
    have hHD1 : ixD (houseD rs (gs.map G.enc)) (.int 1) = some (.tuple (gs.map G.enc)) := by simp [houseD]
    generalize hHD : houseD rs (gs.map G.enc) = HD at *
    generalize hBD : bookD cs ks = BD at *
    simp [fB, fLB, cop_ne_bool]
    rw [w_for]
    simp
    refine ⟨by decide, ?_⟩
    have LH : Lim 10 3 HD := by rw [← hHD]; exact houseLim hOk (by decide) (by decide)
    have LB : Lim 10 3 BD := by rw [← hBD]; exact bookLim hBk (by decide) (by omega)
    -- forty rounds
    obtain ⟨I2, hI2⟩ : ∃ I2 : List Nat → List Nat → Sl → Prop, ∀ pre2 post2 s, I2 pre2 post2 s ↔ ∃ (io3 : List D) (x5 x6 x7 x8 x9 x10 x11 x12 : Option Val), Deck (20000 + 100 * pre2.length) io3 ∧ s = [some (.d (.list (ofInts ns))), some (.d (.int cell)), some (.own io3), some (.d HD), some (.d BD), x5, x6, x7, x8, x9, x10, x11, x12] := ⟨_, fun _ _ _ => Iff.rfl⟩
    refine for_enc (l := List.range 40) (fun k : Nat => .int (0 + k)) I2 ((hI2 _ _ _).mpr ⟨io2, _, _, _, _, _, _, _, _, d2.mono (by decide), rfl⟩) ?_ ?_
    · rintro pre2 i post2 s e2 h'
      obtain ⟨io3, x5, x6, x7, x8, x9, x10, x11, x12, d3, rfl⟩ := (hI2 _ _ _).mp h'
      have hpn : pre2.length < 40 := by
        have := congrArg List.length e2
        simp at this
        omega
      simp
      refine (s_spoilt 3 N (by omega) io3 HD 10 _ LH (by decide) (by decide) (by decide) d3 (by omega)).mono (fun v io4 ⟨a, ev, La, d4⟩ => ?_) fun _ _ z => z.elim
      subst ev
      simp
      refine (s_spoilt 3 N (by omega) io4 BD 10 _ LB (by decide) (by decide) (by decide) d4 (by omega)).mono (fun v io5 ⟨b, ev, Lb, d5⟩ => ?_) fun _ _ z => z.elim
      subst ev
      simp
      rw [w_for]
      simp
      refine (s_spoilt 4 N (by omega) io5 a 11 _ La (by decide) (by decide) (by decide) d5 (by omega)).mono (fun v io6 ⟨a2, ev, La2, d6⟩ => ?_) fun _ _ z => z.elim
      subst ev
      simp [fH, fLH, fS]
      rw [w_for]
      simp
      refine (s_spoilt 4 N (by omega) io6 b 11 _ Lb (by decide) (by decide) (by decide) d6 (by omega)).mono (fun v io7 ⟨b2, ev, Lb2, d7⟩ => ?_) fun _ _ z => z.elim
      subst ev
      simp [fB, fLB, fS]
      exact (hI2 _ _ _).mpr ⟨io7, _, _, _, _, _, _, _, _, d7.mono (by simp; omega), rfl⟩
    · intro s h'
      obtain ⟨io3, x5, x6, x7, x8, x9, x10, x11, x12, d3, rfl⟩ := (hI2 _ _ _).mp h'
      clear h'
      rw [List.length_range] at d3
      simp
      rw [w_for]
      simp [hHD1]
      refine ⟨by simp [small62]; omega, ?_⟩
      obtain ⟨I3, hI3⟩ : ∃ I3 : List Nat → List Nat → Sl → Prop, ∀ pre2 post2 s, I3 pre2 post2 s ↔ ∃ (io3 : List D) (x5 x6 x7 x8 x9 x10 x11 x12 : Option Val), Deck (24000 + pre2.length) io3 ∧ s = [some (.d (.list (ofInts ns))), some (.d (.int cell)), some (.own io3), some (.d HD), some (.d BD), x5, x6, x7, x8, x9, x10, x11, x12] := ⟨_, fun _ _ _ => Iff.rfl⟩
      refine for_enc (l := List.range gs.length) (fun k : Nat => .int (0 + k)) I3 ((hI3 _ _ _).mpr ⟨io3, _, _, _, _, _, _, _, _, d3.mono (by decide), rfl⟩) ?_ ?_
      · rintro pre2 i post2 s e2 h'
        obtain ⟨io3, x5, x6, x7, x8, x9, x10, x11, x12, d3, rfl⟩ := (hI3 _ _ _).mp h'
        have hpn : pre2.length < gs.length := by
          have := congrArg List.length e2
          simp at this
          omega
        have hi : i < gs.length := by
          have : i ∈ List.range gs.length := by rw [e2]; simp
          exact List.mem_range.mp this
        have hgi' : atI (gs.map G.enc) (i : Int) = some gs[i].enc := by rw [atI_nat, List.getElem?_map, List.getElem?_eq_getElem hi]; rfl
        simp
        rw [w_for]
        simp
        refine pick_use (s_pick (by omega)) d3 (by omega) (by omega) (by omega) fun p io4 p0 p1 d4 => ?_
        have q0 := fC i hi 0 (by decide)
        have q1 := fC i hi 1 (by decide)
        have q2 := fC i hi 2 (by decide)
        have q3 := fC i hi 3 (by decide)
        have q4 := fC i hi p (by omega)
        have q5 := fC i hi 99 (by decide)
        simp [hHD1, hgi', fE i hi, q0, q1, q2, q3, q4, q5, fP]
        exact (hI3 _ _ _).mpr ⟨io4, _, _, _, _, _, _, _, _, d4.mono (by simp; omega), rfl⟩
      · intro s h'
        obtain ⟨io3, x5, x6, x7, x8, x9, x10, x11, x12, d3, rfl⟩ := (hI3 _ _ _).mp h'
        clear h'
        have n0 : isHouse (.tuple []) = false := by decide +kernel
        simp [w_ltry, fB0 _ _ n0, k0, sh0]
        simp [fC0 _ _ _ n0, k0, sh0]
        have g1 := fC4 .none .none rfl
        have g2 := fC4 (.int (-1)) .none (by simp [isWithin])
        have g3 := fC4 (.int gs.length) .none (by simp [isWithin]; omega)
        have g4 := fC4 (.bool true) .none rfl
        have g5 := fC4 (.str "0") .none rfl
        rw [w_for]
        simp [hHD1, w_ltry, g1, g2, g3, g4, g5, k4, sh4]
        have p1 := fC5 .none rfl
        have p2 := fC5 (.int (-1)) (by simp [isWithin])
        have p3 := fC5 (.int 100) (by simp [isWithin])
        have p4 := fC5 (.bool true) rfl
        have p5 := fC5 (.str "0") rfl
        rw [w_for]
        simp [w_ltry, p1, p2, p3, p4, p5, k5, sh5]
        exact (hI _ _ _).mpr ⟨_, _, _, _, _, _, _, _, _, _, _, _, rfl⟩
  · intro s h
    obtain ⟨x1, x2, x3, x4, x5, x6, x7, x8, x9, x10, x11, x12, rfl⟩ := (hI _ _ _).mp h
    simp [hw]
theorem law_ok (ns : List Int) (hns : ns.length ≤ 63) : sem TK kinD (39 + 1) 32 [] [.list (ofInts ns)] = .ok (.d (.bool true)) [] :=
  (congrFun (congrFun (sem_eq (n := 39 + 1) (fn := f_law_k01) rfl (by decide)) []) [.list (ofInts ns)]).trans (law_body 39 (by decide) (isYes_of written) ns hns)
end Ir.k01

set_option Elab.async false
set_option linter.all false
set_option maxRecDepth 100000
set_option maxHeartbeats 8000000
namespace Ir.k01
open PySem Ir L2
def top (i : Nat) : Stmt := PySem.Challenge.pw_fullsigns_k01_houses_and_books_recognize.main.body.getD i (.Pass ⟨0, 0, 0, 0⟩)
def st (g : Nat) : Stmt := top ((SX.lookup g).getD 0)
abbrev sTry : Stmt := top iTry
abbrev sKin : Stmt := top iKin
def kscopeOf : List Stmt → Scope
  | [_, _, _, _, _, _, .Return (some (.Call _ [.ListComp _ _ scope _] _ _)) _] => scope
  | _ => { kind := .function, names := [], isGenerator := false, isCoroutine := false, more := [] }
theorem lawM : LawM TL st sTry sKin (kscopeOf (defBody sKin)) CONS LTS where
  ck := by decide +kernel
  ky := by decide +kernel
  ln := by decide +kernel
  tsc := by decide +kernel
  tar := by decide +kernel
  tgl := by decide +kernel
  tbd := .mk
  ksc := by decide +kernel
  kar := by decide +kernel
  kgl := by decide +kernel
  kbd := fun ca X tb W Φ kin c p G => kin_ps G rfl rfl
end Ir.k01

open PySem PySem.W PyProof.Rows in
set_option maxHeartbeats 0 in
theorem PySem.Challenge.cw_fullsigns_k01_houses_and_books_recognize_holds : PySem.Challenge.rw_fullsigns_k01_houses_and_books_recognize.Holds := by
  w_on; o_law; k_head; (case hw => w_witness2)
  k_fill
  refine LamX.walk_ofTs (l := PySem.Challenge.rw_fullsigns_k01_houses_and_books_recognize) (n := 63) (k := 3 * 39 + 3) (x := "script") (CX := fun w => L2N.CX (PySem.Challenge.rw_fullsigns_k01_houses_and_books_recognize).prog w) rfl (by decide) rfl ⟨rfl, by decide, by decide⟩ (fun w h Y => km_in_of Y) ?F ?X
  case F =>
    intro w mg fa h Y KX G hmg
    exact Ir.law_at (N := 39) (lawG := Ir.k01.lawG) (fl := Ir.k01.fLaw) Ir.k01.lawM KX G (km_tabs_of Y) (by kernel_rfl) (by kernel_rfl) (by kernel_rfl) (by kernel_rfl) (by rfl) (by rfl) (by rfl) hmg Ir.k01.law_ok
  case X =>
    rintro w H s e s' ⟨a, B, H', cls, d, _, _, _, _, _, _, _, z⟩
    exact z

