import PyProof.Rows.All
import Wide.All
import OpenK.AllK
import Wide.FinOn
import HandS.ForMost
import HandS.TupAny
import HandS.TupMul
import HandS.Wide
import HandS.Deep
import HandS.IsInst
import HandS.Style
import HandS.Conv
import HandS.TupLen
import HandS.JoinGen
import HandS.Exc
import HandS.WordsExc
import KE.DataCmp
import KE.SortData
import HandS.More
import HandS.Text
import HandS.Iter
import HandS.Zip
import KE.GoesMore
import HandS.Small
import HandS.WideMore
import HandS.SortInts
import HandS.SetFor
import HandS.Strs
import PyProof.SumAny
import HandS.ExcValue
import HandS.DictComp
import HandS.ForExc
import PySem.Challenge.RW_railrooms_k03_whole_however_often
set_option Elab.async false
set_option linter.all false
set_option maxRecDepth 100000
set_option maxHeartbeats 4000000
/-! Core: data by value, a small language, and what its programs compute. Core Lean alone. -/
namespace RR

/-- a text: its code points -/
abbrev S := List Nat

/-- data -/
inductive D where
  | non | bl (b : Bool) | int (i : Int) | str (s : S)
  | tup (xs : List D) | lst (xs : List D) | dct (kind : Nat) (kvs : List (D × D))
  | clo (k : Nat) (caps : List D)

/-- the largest size of a list, a text that is made -/
def LINE : Nat := 16777216

def b2i (b : Bool) : Int := if b then 1 else 0

mutual
/-- == of data -/
def eqD : D → D → Bool
  | .non, .non => true
  | .bl a, .bl b => a == b
  | .bl a, .int i => b2i a == i
  | .int i, .bl a => i == b2i a
  | .int i, .int j => i == j
  | .str a, .str b => a == b
  | .tup xs, .tup ys => eqDs xs ys
  | .lst xs, .lst ys => eqDs xs ys
  | _, _ => false
def eqDs : List D → List D → Bool
  | [], [] => true
  | x :: xs, y :: ys => eqD x y && eqDs xs ys
  | _, _ => false
end

mutual
/-- of None, truths, ints, texts, tuples, lists alone, n deep at most -/
def plainD : Nat → D → Bool
  | _, .non => true
  | _, .bl _ => true
  | _, .int _ => true
  | _, .str _ => true
  | 0, .tup _ => false
  | n + 1, .tup xs => plainDs n xs
  | 0, .lst _ => false
  | n + 1, .lst xs => plainDs n xs
  | _, .dct _ _ => false
  | _, .clo _ _ => false
def plainDs : Nat → List D → Bool
  | _, [] => true
  | n, x :: xs => plainD n x && plainDs n xs
end

mutual
/-- no list, no dict in it -/
def noref : D → Bool
  | .non => true
  | .bl _ => true
  | .int _ => true
  | .str _ => true
  | .tup xs => norefs xs
  | .lst _ => false
  | .dct _ _ => false
  | .clo _ _ => false
def norefs : List D → Bool
  | [] => true
  | x :: xs => noref x && norefs xs
end

/-- the order of texts -/
def ltS : S → S → Bool
  | [], [] => false
  | [], _ :: _ => true
  | _ :: _, [] => false
  | x :: xs, y :: ys => if x < y then true else if y < x then false else ltS xs ys

mutual
/-- the two can be compared, place by place -/
def alikeD : D → D → Bool
  | .non, .non => true
  | .bl _, .bl _ => true
  | .int _, .int _ => true
  | .str _, .str _ => true
  | .lst xs, .lst ys => alikeDs xs ys
  | .tup xs, .tup ys => alikeDs xs ys
  | _, _ => false
def alikeDs : List D → List D → Bool
  | x :: xs, y :: ys => alikeD x y && alikeDs xs ys
  | [], _ => true
  | _ :: _, [] => true
end
mutual
/-- < of alike data -/
def ltD : D → D → Bool
  | .int i, .int j => decide (i < j)
  | .bl a, .bl b => decide (b2i a < b2i b)
  | .str a, .str b => ltS a b
  | .tup xs, .tup ys => ltDs xs ys
  | .lst xs, .lst ys => ltDs xs ys
  | _, _ => false
def ltDs : List D → List D → Bool
  | [], [] => false
  | [], _ :: _ => true
  | _ :: _, [] => false
  | x :: xs, y :: ys => if eqD x y then ltDs xs ys else ltD x y
end
def isNon : D → Bool
  | .non => true
  | _ => false
/-- each two are alike; all are tuples that hold something, or none is a tuple or None -/
def sortOk (xs : List D) : Bool := xs.all (fun x => xs.all fun y => alikeD x y) &&
  (xs.all (fun x => match x with | .tup (_ :: _) => true | _ => false) || xs.all fun x => match x with | .tup _ => false | .non => false | _ => true)
def leD (x y : D) : Bool := !ltD y x
def sortD (xs : List D) : Option (List D) := if sortOk xs then some (xs.mergeSort leD) else none

/-- each thing once, the first one kept -/
def dedup (acc : List D) : List D → List D
  | [] => acc
  | x :: xs => if acc.any (fun y => eqD y x) then dedup acc xs else dedup (acc ++ [x]) xs

def minOf (m : D) : List D → D
  | [] => m
  | x :: xs => if ltD x m then minOf x xs else minOf m xs

mutual
/-- what may be a key, of a dict or a set: an int, a text, a tuple of such -/
def keyD : D → Bool
  | .int _ => true
  | .str _ => true
  | .tup xs => keyDs xs
  | _ => false
def keyDs : List D → Bool
  | [] => true
  | x :: xs => keyD x && keyDs xs
end

def key0 : D → Bool
  | .int _ => true
  | .str _ => true
  | _ => false
/-- a key by the dict's kind: an int or a text; a tuple of such; a tuple of keys -/
def keyK : Nat → D → Bool
  | 0, d => key0 d
  | 1, .tup xs => xs.all key0
  | _, .tup xs => keyDs xs
  | _, _ => false

def dget (kvs : List (D × D)) (k : D) : Option D := (kvs.find? fun kv => eqD kv.1 k).map (·.2)
def dhas (kvs : List (D × D)) (k : D) : Bool := kvs.any fun kv => eqD kv.1 k
def dput (kvs : List (D × D)) (k v : D) : List (D × D) :=
  if dhas kvs k then kvs.map (fun kv => if eqD kv.1 k then (kv.1, v) else kv) else kvs ++ [(k, v)]

/-- an index, from the front or the back -/
def ix (n : Nat) (i : Int) : Option Nat :=
  if 0 ≤ i then (if i < n then some i.toNat else none) else if -(n : Int) ≤ i then some (i + n).toNat else none
def clip (n d : Nat) : Option Int → Nat
  | none => d
  | some i => if i < 0 then (max (i + n) 0).toNat else min i.toNat n
def cut {α : Type} (xs : List α) (lo hi : Option Int) : List α :=
  (xs.drop (clip xs.length 0 lo)).take (clip xs.length xs.length hi - clip xs.length 0 lo)

/-- the signs of a whole number written out -/
def digits (n : Nat) : S := (Nat.toDigits 10 n).map (·.toNat)
def strI (i : Int) : S := if i < 0 then 45 :: digits i.natAbs else digits i.natAbs

/-! ### the language -/
inductive B2 where | add | sub | mul | fdiv | mod | pow
inductive C2 where | eq | ne | lt | le | gt | ge | isin | notin | is | isnot
/-- what is walked: a thing; a range; enumerate; zip; items of a dict -/
inductive SK where | it | range | enum | zip | items
inductive Bi where
  | len | list | tuple | listrange | tuplerange | sorted | sortedset | lenset | min1 | min2 | max2 | all | any | sum2 | int1 | str1
  | isint | isbool | isstr | istuple | islist | istl | dict1 | dictzip | dictenum | oppo | join | count | index | get1 | get2

inductive E where
  | non | bl (b : Bool) | int (i : Int) | str (s : S)
  | var (i : Nat)
  | tup (es : List E) | lst (es : List E) | dict (kind : Nat) (es : List E)
  | bin (op : B2) (a b : E) | neg (a : E)
  | not (a : E) | and (a b : E) | or (a b : E) | ifx (c a b : E)
  | cmp (op : C2) (a b : E) | chain (o1 o2 : C2) (a b c : E)
  | sub (a i : E) | slice (a : E) (lo hi : List E) | rev (a : E)
  | bi (f : Bi) (es : List E)
  | call (lend : Bool) (f : Nat) (es : List E)
  | append (i : Nat) (e : E) | pop (i : Nat) | popAt (i : Nat) (e : E) | remove (i : Nat) (e : E) | insert (i : Nat) (a b : E) | reverse (i : Nat)
  | comp (hide : Bool) (elt : E) (tg : List Nat) (sk : SK) (src : List E) (cond : List E)
  | comp2 (elt : E) (tg : List Nat) (sk : SK) (src : List E) (tg2 : List Nat) (sk2 : SK) (src2 : List E)
  | dcomp (kind : Nat) (k v : E) (tg : List Nat) (sk : SK) (src : List E)

inductive St where
  | ret (e : E)
  | asg (i : Nat) (e : E)
  | unp (is : List Nat) (e : E)
  | par (is : List Nat) (es : List E)
  | setit (i : Nat) (k v : E)
  | set2 (i : Nat) (k1 v1 k2 v2 : E)
  | aug (op : B2) (i : Nat) (e : E)
  | ite (c : E) (a b : List St)
  | for (hide : Bool) (tg : List Nat) (sk : SK) (src : List E) (body : List St)
  | while (c : E) (body : List St)
  | expr (e : E)
  | raise (cls : Nat) (es : List E)

/-- a slot: empty; a thing that never changes more; a list or dict that this frame alone holds -/
inductive Sl where | non | val (d : D) | own (d : D)
abbrev Env := List Sl
def getS : Env → Nat → Sl
  | [], _ => .non
  | s :: _, 0 => s
  | _ :: ρ, n + 1 => getS ρ n
def setS : Env → Nat → Sl → Env
  | [], _, _ => []
  | _ :: ρ, 0, v => v :: ρ
  | s :: ρ, n + 1, v => s :: setS ρ n v

/-- an exception: its class, its field -/
structure X where
  cls : Nat
  arg : D
/-- what an expression has come to: a thing; a new list or dict that nobody else holds; the one that slot i holds -/
inductive Opd where | val (d : D) | own (d : D) | pl (i : Nat)

inductive Res (α : Type) where
  | bad : Res α
  | exc (x : X) (ρ : Env) : Res α
  | ok (a : α) (ρ : Env) : Res α
def Res.bind {α β : Type} (r : Res α) (f : α → Env → Res β) : Res β :=
  match r with
  | .bad => .bad
  | .exc x ρ => .exc x ρ
  | .ok a ρ => f a ρ

/-- an exception within a comprehension isn't served -/
def noX {α : Type} : Res α → Res α
  | .exc _ _ => .bad
  | r => r

def look (o : Opd) (ρ : Env) : D :=
  match o with
  | .val d => d
  | .own d => d
  | .pl i => match getS ρ i with | .val d => d | .own d => d | .non => .non
def looks (os : List Opd) (ρ : Env) : List D := os.map fun o => look o ρ
/-- handed on: from now on it never changes -/
def fz (o : Opd) (ρ : Env) : Env :=
  match o with
  | .pl i => match getS ρ i with | .own d => setS ρ i (.val d) | _ => ρ
  | _ => ρ
def fzs : List Opd → Env → Env
  | [], ρ => ρ
  | o :: os, ρ => fzs os (fz o ρ)

/-- out of sight while they are walked; or handed on -/
def hides : List Opd → Env → Env
  | [], ρ => ρ
  | .pl i :: os, ρ => hides os (setS ρ i .non)
  | _ :: os, ρ => hides os ρ
def away (hide : Bool) (os : List Opd) (ρ : Env) : Env := if hide then hides os ρ else fzs os ρ
/-- in sight again, as in ρ0 -/
def shows (ρ0 : Env) : List Opd → Env → Env
  | [], ρ => ρ
  | .pl i :: os, ρ => shows ρ0 os (setS ρ i (getS ρ0 i))
  | _ :: os, ρ => shows ρ0 os ρ
def again (hide : Bool) (os : List Opd) (ρ0 ρ : Env) : Env := if hide then shows ρ0 os ρ else ρ

def okO {α : Type} (o : Option α) (ρ : Env) : Res α :=
  match o with
  | some a => .ok a ρ
  | none => .bad

/-- products, quotients: sizes that are served -/
def BIG : Nat := 2 ^ 2000
def fits (i : Int) : Bool := decide (i.natAbs < BIG)

def bin2 : B2 → D → D → Option Opd
  | .add, .int i, .int j => some (.val (.int (i + j)))
  | .add, .str a, .str b => if a.length + b.length ≤ LINE then some (.val (.str (a ++ b))) else none
  | .add, .lst a, .lst b => if a.length + b.length ≤ LINE then some (.own (.lst (a ++ b))) else none
  | .add, .tup a, .tup b => if a.length + b.length ≤ LINE then some (.val (.tup (a ++ b))) else none
  | .sub, .int i, .int j => some (.val (.int (i - j)))
  | .mul, .int i, .int j => if fits i && fits j then some (.val (.int (i * j))) else none
  | .mul, .lst a, .int k => if a.length ≤ 1000 ∧ 2 ≤ k ∧ k ≤ 1000 then some (.own (.lst (List.replicate k.toNat a).flatten)) else none
  | .mul, .tup a, .int k => if a.isEmpty = false ∧ a.length ≤ 1000 ∧ 2 ≤ k ∧ k ≤ 1000 then some (.val (.tup (List.replicate k.toNat a).flatten)) else none
  | .fdiv, .int i, .int j => if 0 < j ∧ fits j then some (.val (.int (i / j))) else none
  | .mod, .int i, .int j => if 0 < j then some (.val (.int (i % j))) else none
  | .pow, .int i, .int j => if 0 ≤ j ∧ j ≤ 100 ∧ i.natAbs < 2 ^ 64 then some (.val (.int (i ^ j.toNat))) else none
  | _, _, _ => none

def deep : Nat := 30
def plain2 (a b : D) : Bool := plainD deep a && plainD deep b
def memD (x : D) (xs : List D) : Bool := xs.any fun y => eqD y x
def isin (x y : D) : Option Bool :=
  match y with
  | .lst ys => if plainD deep x && plainDs deep ys then some (memD x ys) else none
  | .tup ys => if plainD deep x && plainDs deep ys then some (memD x ys) else none
  | .str t => match x with | .str [c] => some (t.contains c) | _ => none
  | .dct k kvs => if keyK k x then some (dhas kvs x) else none
  | _ => none
/-- is: None, True, False on the right -/
def isD : D → D → Option Bool
  | x, .non => some (match x with | .non => true | _ => false)
  | .bl a, .bl b => some (a == b)
  | _, _ => none
def cmp2 (op : C2) (a b : D) : Option Bool :=
  match op with
  | .eq => if plain2 a b then some (eqD a b) else none
  | .ne => if plain2 a b then some (!eqD a b) else none
  | .lt => if plain2 a b && alikeD a b && !isNon a then some (ltD a b) else none
  | .gt => if plain2 a b && alikeD a b && !isNon a then some (ltD b a) else none
  | .le => match a, b with | .int i, .int j => some (decide (i ≤ j)) | _, _ => none
  | .ge => match a, b with | .int i, .int j => some (decide (j ≤ i)) | _, _ => none
  | .isin => isin a b
  | .notin => (isin a b).map (!·)
  | .is => isD a b
  | .isnot => (isD a b).map (!·)

def sub2 (a i : D) : Option D :=
  match a, i with
  | .tup xs, .int i => (ix xs.length i).bind fun j => xs[j]?
  | .lst xs, .int i => (ix xs.length i).bind fun j => xs[j]?
  | .str xs, .int i => (ix xs.length i).bind fun j => (xs[j]?).map fun c => .str [c]
  | .dct kd kvs, k => if keyK kd k then dget kvs k else none
  | _, _ => none
def sliceD (a : D) (lo hi : Option Int) : Option Opd :=
  match a with
  | .tup xs => some (.val (.tup (cut xs lo hi)))
  | .lst xs => some (.own (.lst (cut xs lo hi)))
  | .str xs => some (.val (.str (cut xs lo hi)))
  | _ => none
def revD : D → Option Opd
  | .lst xs => some (.own (.lst xs.reverse))
  | _ => none

def rangeL (lo hi : Int) : List D := (List.range (hi - lo).toNat).map fun (i : Nat) => .int (lo + i)
def stepL (lo hi st : Int) : List D :=
  if 0 < st then (List.range (((hi - lo) + st - 1) / st).toNat).map fun (i : Nat) => .int (lo + i * st)
  else (List.range (((lo - hi) + (-st) - 1) / (-st)).toNat).map fun (i : Nat) => .int (lo + i * st)
def near (i : Int) : Bool := decide (i.natAbs < 8000000)
def enumL (n : Nat) : List D → List D
  | [] => []
  | x :: xs => .tup [.int n, x] :: enumL (n + 1) xs
def zipL : List D → List D → List D
  | x :: xs, y :: ys => .tup [x, y] :: zipL xs ys
  | _, _ => []
/-- what is walked, item by item -/
def itemsOf : SK → List D → Option (List D)
  | .it, [.lst xs] => some xs
  | .it, [.tup xs] => some xs
  | .it, [.str s] => some (s.map fun c => .str [c])
  | .range, [.int n] => if near n then some (rangeL 0 n) else none
  | .range, [.int a, .int b] => if near a && near b then some (rangeL a b) else none
  | .range, [.int a, .int b, .int c] => if near a && near b && near c && c != 0 then some (stepL a b c) else none
  | .enum, [.lst xs] => some (enumL 0 xs)
  | .enum, [.tup xs] => some (enumL 0 xs)
  | .zip, [.lst xs, .lst ys] => some (zipL xs ys)
  | .zip, [.tup xs, .tup ys] => some (zipL xs ys)
  | .items, [.dct _ kvs] => some (kvs.map fun kv => .tup [kv.1, kv.2])
  | _, _ => none

def boolsOf : List D → Option (List Bool)
  | [] => some []
  | .bl b :: xs => (boolsOf xs).map (b :: ·)
  | _ :: _ => none
def strsOf : List D → Option (List S)
  | [] => some []
  | .str s :: xs => (strsOf xs).map (s :: ·)
  | _ :: _ => none
def joinS (sep : S) : List S → S
  | [] => []
  | [x] => x
  | x :: y :: r => x ++ sep ++ joinS sep (y :: r)
def listsOf : List D → Option (List (List D))
  | [] => some []
  | .lst s :: xs => (listsOf xs).map (s :: ·)
  | _ :: _ => none
def countD (x : D) (xs : List D) : Int := ((xs.filter fun y => eqD y x).length : Nat)
def indexD (x : D) : List D → Option Nat
  | [] => none
  | y :: ys => if eqD y x then some 0 else (indexD x ys).map (· + 1)
def dputs (kvs : List (D × D)) : List (D × D) → List (D × D)
  | [] => kvs
  | p :: ps => dputs (dput kvs p.1 p.2) ps
/-- two and two -/
def pairsOf : List D → Option (List (D × D))
  | [] => some []
  | k :: v :: r => (pairsOf r).map ((k, v) :: ·)
  | [_] => none
def own (d : D) : Opd := .own d
def vl (d : D) : Opd := .val d
def intv (n : Nat) : Opd := .val (.int n)
def blv (b : Bool) : Opd := .val (.bl b)

/-- which kind of thing -/
def kindD : D → Option Nat
  | .non => some 0 | .bl _ => some 1 | .int _ => some 2 | .str _ => some 3 | .tup _ => some 4 | .lst _ => some 5 | _ => none
def seqOf : D → Option (List D)
  | .lst xs => some xs
  | .tup xs => some xs
  | _ => none
def sPlain (xs : List D) : Bool := plainDs deep xs

def intsOf : List D → Option (List Int)
  | [] => some []
  | .int i :: xs => (intsOf xs).map (i :: ·)
  | _ :: _ => none
/-- each once -/
def nubI : List Int → List Int
  | [] => []
  | x :: xs => if xs.contains x then nubI xs else x :: nubI xs
def sortI (l : List Int) : List Int := l.mergeSort fun a b => decide (a ≤ b)

def bi1 (f : Bi) (a : D) : Option Opd :=
  match f with
  | .len => match a with
    | .lst xs => some (intv xs.length) | .tup xs => some (intv xs.length) | .str s => some (intv s.length) | .dct _ kvs => some (intv kvs.length) | _ => none
  | .list => match a with
    | .lst xs => some (.own (.lst xs)) | .tup xs => some (.own (.lst xs)) | _ => none
  | .tuple => (seqOf a).map fun xs => .val (.tup xs)
  | .listrange => match a with | .int n => if near n then some (.own (.lst (rangeL 0 n))) else none | _ => none
  | .tuplerange => match a with | .int n => if near n then some (.val (.tup (rangeL 0 n))) else none | _ => none
  | .sorted => match a with
    | .lst xs => if sPlain xs then (sortD xs).map fun ys => .own (.lst ys) else none
    | .tup xs => if sPlain xs then (sortD xs).map fun ys => .own (.lst ys) else none
    | _ => none
  | .sortedset => match a with
    | .lst xs => (intsOf xs).bind fun ns => if ns.length ≤ 4000 ∧ (nubI ns).length < 64 then some (.own (.lst ((sortI (nubI ns)).map .int))) else none
    | _ => none
  | .lenset => match a with
    | .lst xs => (intsOf xs).bind fun ns => if ns.length ≤ 4000 then some (intv (nubI ns).length) else none
    | _ => none
  | .min1 => (seqOf a).bind fun xs => match xs with
    | [] => none
    | x :: r => if sortOk xs && sPlain xs then some (.val (minOf x r)) else none
  | .all => match a with | .lst xs => (boolsOf xs).map fun bs => blv (bs.all id) | _ => none
  | .any => match a with | .lst xs => (boolsOf xs).map fun bs => blv (bs.any id) | _ => none
  | .int1 => match a with | .int i => some (.val (.int i)) | .bl b => some (.val (.int (b2i b))) | _ => none
  | .str1 => match a with
    | .int i => if i.natAbs < 10 ^ 100 then some (.val (.str (strI i))) else none
    | .bl b => some (.val (.str (if b then [84, 114, 117, 101] else [70, 97, 108, 115, 101])))
    | _ => none
  | .isint => (kindD a).map fun k => blv (k == 1 || k == 2)
  | .isbool => (kindD a).map fun k => blv (k == 1)
  | .isstr => (kindD a).map fun k => blv (k == 3)
  | .istuple => (kindD a).map fun k => blv (k == 4)
  | .islist => (kindD a).map fun k => blv (k == 5)
  | .istl => (kindD a).map fun k => blv (k == 4 || k == 5)
  | .dict1 => match a with | .dct k kvs => some (.own (.dct k kvs)) | _ => none
  | .dictenum => (seqOf a).map fun xs => .own (.dct 0 (dputs [] ((List.range xs.length).zipWith (fun (i : Nat) x => (D.int i, x)) xs)))
  | .oppo => match a with
    | .str [110] => some (.val (.str [115])) | .str [101] => some (.val (.str [119]))
    | .str [115] => some (.val (.str [110])) | .str [119] => some (.val (.str [101])) | _ => none
  | _ => none
def bi2 (f : Bi) (a b : D) : Option Opd :=
  match f with
  | .min2 => match a, b with | .int i, .int j => some (.val (.int (if j < i then j else i))) | _, _ => none
  | .max2 => match a, b with | .int i, .int j => some (.val (.int (if i < j then j else i))) | _, _ => none
  | .sum2 => match a, b with
    | .lst xs, .lst s => (listsOf xs).bind fun ls => if (ls.map List.length).sum + s.length ≤ LINE then some (.own (.lst (s ++ ls.flatten))) else none
    | _, _ => none
  | .dictzip => match a, b with
    | .lst xs, .lst ys => if xs.all key0 then some (.own (.dct 0 (dputs [] (xs.zip ys)))) else none
    | _, _ => none
  | .join => match a, b with
    | .str s, .lst xs => (strsOf xs).bind fun ss => if (joinS s ss).length ≤ 8000000 ∧ s.length ≤ 8000000 then some (.val (.str (joinS s ss))) else none
    | _, _ => none
  | .count => match a with | .lst xs => if plainD deep b && sPlain xs then some (.val (.int (countD b xs))) else none | _ => none
  | .index => match a with
    | .lst xs => if plainD deep b && sPlain xs then (indexD b xs).map intv else none
    | .tup xs => if plainD deep b && sPlain xs then (indexD b xs).map intv else none
    | _ => none
  | .get1 => match a with | .dct k kvs => if keyK k b then some (.val ((dget kvs b).getD .non)) else none | _ => none
  | _ => none
def biD (f : Bi) : List D → Option Opd
  | [a] => bi1 f a
  | [a, b] => bi2 f a b
  | [a, b, c] => match f, a with | .get2, .dct k kvs => if keyK k b then some (.val ((dget kvs b).getD c)) else none | _, _ => none
  | _ => none

/-- what a call comes to: the thing, whether nobody else holds it, the first argument's list behind it -/
inductive CR where
  | bad
  | exc (x : X)
  | ok (d : D) (own : Bool) (out : D)
structure Calls where
  io : Nat → Bool
  run : Nat → List Sl → CR

def bindT : List Nat → D → Env → Option Env
  | [i], d, ρ => some (setS ρ i (.val d))
  | is, .tup ds, ρ => if is.length = ds.length then some ((is.zip ds).foldl (fun ρ p => setS ρ p.1 (.val p.2)) ρ) else none
  | _, _, _ => none
def wipeS (tg : List Nat) (ρ : Env) : Env := tg.foldl (fun ρ i => setS ρ i .non) ρ
/-- the slots of tg as in ρ0 -/
def backS (tg : List Nat) (ρ0 ρ : Env) : Env := tg.foldl (fun ρ i => setS ρ i (getS ρ0 i)) ρ

def boolR (r : Res Opd) : Res Bool := r.bind fun o ρ => match look o ρ with | .bl b => .ok b ρ | _ => .bad
def intR (r : Res Opd) : Res Int := r.bind fun o ρ => match look o ρ with | .int i => .ok i ρ | _ => .bad

/-- a comprehension's turns -/
def compF (bind : D → Env → Option Env) (test : Env → Res Bool) (elt : Env → Res Opd) : List D → List D → Env → Res (List D)
  | [], acc, ρ => .ok acc ρ
  | x :: xs, acc, ρ => match bind x ρ with
    | none => .bad
    | some ρ1 => (test ρ1).bind fun b ρ2 => if b then (elt ρ2).bind fun o ρ3 => compF bind test elt xs (acc ++ [look o ρ3]) (fz o ρ3) else compF bind test elt xs acc ρ2
/-- of two clauses -/
def compF2 (bind : D → Env → Option Env) (inner : Env → List D → Res (List D)) : List D → List D → Env → Res (List D)
  | [], acc, ρ => .ok acc ρ
  | x :: xs, acc, ρ => match bind x ρ with
    | none => .bad
    | some ρ1 => (inner ρ1 acc).bind fun acc' ρ2 => compF2 bind inner xs acc' ρ2
def dcompF (kind : Nat) (bind : D → Env → Option Env) (kv : Env → Res (D × D)) : List D → List (D × D) → Env → Res (List (D × D))
  | [], acc, ρ => .ok acc ρ
  | x :: xs, acc, ρ => match bind x ρ with
    | none => .bad
    | some ρ1 => (kv ρ1).bind fun p ρ2 => if keyK kind p.1 ∧ acc.length < LINE then dcompF kind bind kv xs (dput acc p.1 p.2) ρ2 else .bad

def callE (Φ : Calls) (lend : Bool) (f : Nat) (os : List Opd) (ρ : Env) : Res Opd :=
  if Φ.io f then
    match os with
    | .pl i :: r => match getS ρ i with
      | .own d0 => match getS (fzs r ρ) i with
        | .own _ => match Φ.run f (.own d0 :: (looks r ρ).map .val) with
          | .ok d o out => .ok (if o then .own d else .val d) (setS (fzs r ρ) i (.own out))
          | _ => .bad
        | _ => .bad
      | _ => .bad
    | .own d0 :: r => match Φ.run f (.own d0 :: (looks r ρ).map .val) with
      | .ok d o out => .ok (if o then .own d else .val d) (fzs r ρ)
      | _ => .bad
    | _ => .bad
  else match Φ.run f ((looks os ρ).map .val) with
    | .ok d o _ => if lend then (if noref d then .ok (.val d) ρ else .bad) else .ok (if o then .own d else .val d) (fzs os ρ)
    | .exc x => .exc x (fzs os ρ)
    | .bad => .bad

/-- an own list's change -/
def ownL (ρ : Env) (i : Nat) (f : List D → Option (D × List D)) : Res Opd :=
  match getS ρ i with
  | .own (.lst xs) => match f xs with
    | some (d, ys) => .ok (.val d) (setS ρ i (.own (.lst ys)))
    | none => .bad
  | _ => .bad
/-- a list of one's own stands there -/
def lstAt (ρ : Env) (i : Nat) : Bool := match getS ρ i with | .own (.lst _) => true | _ => false
def optI : List Int → Option Int
  | [] => none
  | i :: _ => some i

mutual
def evE (Φ : Calls) : E → Env → Res Opd
  | .non, ρ => .ok (.val .non) ρ
  | .bl b, ρ => .ok (.val (.bl b)) ρ
  | .int i, ρ => .ok (.val (.int i)) ρ
  | .str s, ρ => .ok (.val (.str s)) ρ
  | .var i, ρ => match getS ρ i with
    | .val d => .ok (.val d) ρ
    | .own _ => .ok (.pl i) ρ
    | .non => .bad
  | .tup es, ρ => (evL Φ es ρ).bind fun os ρ1 => .ok (.val (.tup (looks os ρ1))) (fzs os ρ1)
  | .lst es, ρ => (evL Φ es ρ).bind fun os ρ1 => .ok (.own (.lst (looks os ρ1))) (fzs os ρ1)
  | .dict kind es, ρ => (evL Φ es ρ).bind fun os ρ1 => match pairsOf (looks os ρ1) with
    | none => .bad
    | some ps => if ps.all (fun p => keyK kind p.1) ∧ ps.length ≤ 15 then .ok (.own (.dct kind (dputs [] ps))) (fzs os ρ1) else .bad
  | .bin op a b, ρ => (evE Φ a ρ).bind fun x ρ1 => (evE Φ b ρ1).bind fun y ρ2 => okO (bin2 op (look x ρ2) (look y ρ2)) ρ2
  | .neg a, ρ => (intR (evE Φ a ρ)).bind fun i ρ1 => .ok (.val (.int (-i))) ρ1
  | .not a, ρ => (boolR (evE Φ a ρ)).bind fun b ρ1 => .ok (.val (.bl (!b))) ρ1
  | .and a b, ρ => (boolR (evE Φ a ρ)).bind fun c ρ1 => if c then (boolR (evE Φ b ρ1)).bind fun k ρ2 => .ok (.val (.bl k)) ρ2 else .ok (.val (.bl false)) ρ1
  | .or a b, ρ => (boolR (evE Φ a ρ)).bind fun c ρ1 => if c then .ok (.val (.bl true)) ρ1 else (boolR (evE Φ b ρ1)).bind fun k ρ2 => .ok (.val (.bl k)) ρ2
  | .ifx c a b, ρ => (boolR (evE Φ c ρ)).bind fun k ρ1 => if k then evE Φ a ρ1 else evE Φ b ρ1
  | .cmp op a b, ρ => (evE Φ a ρ).bind fun x ρ1 => (evE Φ b ρ1).bind fun y ρ2 => okO ((cmp2 op (look x ρ2) (look y ρ2)).map blv) ρ2
  | .chain o1 o2 a b c, ρ => (evE Φ a ρ).bind fun x ρ1 => (evE Φ b ρ1).bind fun y ρ2 => match cmp2 o1 (look x ρ2) (look y ρ2) with
    | some true => (evE Φ c ρ2).bind fun z ρ3 => okO ((cmp2 o2 (look y ρ3) (look z ρ3)).map blv) ρ3
    | some false => .ok (.val (.bl false)) ρ2
    | none => .bad
  | .sub a i, ρ => (evE Φ a ρ).bind fun x ρ1 => (evE Φ i ρ1).bind fun y ρ2 => okO ((sub2 (look x ρ2) (look y ρ2)).map .val) ρ2
  | .slice a lo hi, ρ => (evE Φ a ρ).bind fun x ρ1 => (evI Φ lo ρ1).bind fun l ρ2 => (evI Φ hi ρ2).bind fun h ρ3 => okO (sliceD (look x ρ3) (optI l) (optI h)) ρ3
  | .rev a, ρ => (evE Φ a ρ).bind fun x ρ1 => okO (revD (look x ρ1)) ρ1
  | .bi f es, ρ => (evL Φ es ρ).bind fun os ρ1 => okO (biD f (looks os ρ1)) ρ1
  | .call lend f es, ρ => (evL Φ es ρ).bind fun os ρ1 => callE Φ lend f os ρ1
  | .append i e, ρ => if lstAt ρ i then (evE Φ e ρ).bind fun o ρ1 => ownL (fz o ρ1) i fun xs => if xs.length < LINE then some (.non, xs ++ [look o ρ1]) else none else .bad
  | .pop i, ρ => ownL ρ i fun xs => xs.getLast?.map fun d => (d, xs.dropLast)
  | .popAt i e, ρ => if lstAt ρ i then (intR (evE Φ e ρ)).bind fun k ρ1 => ownL ρ1 i fun xs => (ix xs.length k).bind fun j => (xs[j]?).map fun d => (d, xs.eraseIdx j) else .bad
  | .remove i e, ρ => if lstAt ρ i then (evE Φ e ρ).bind fun o ρ1 => ownL ρ1 i fun xs => if plainD deep (look o ρ1) && sPlain xs then (indexD (look o ρ1) xs).map fun j => (.non, xs.eraseIdx j) else none else .bad
  | .insert i a b, ρ => if lstAt ρ i then (intR (evE Φ a ρ)).bind fun k ρ1 => (evE Φ b ρ1).bind fun o ρ2 => ownL (fz o ρ2) i fun xs => if k = 0 ∧ xs.length < LINE then some (.non, look o ρ2 :: xs) else none else .bad
  | .reverse i, ρ => ownL ρ i fun xs => some (.non, xs.reverse)
  | .comp hide elt tg sk src cond, ρ => (evL Φ src ρ).bind fun os ρ1 => match itemsOf sk (looks os ρ1) with
    | none => .bad
    | some items =>
      (noX (compF (fun d ρ => bindT tg d (wipeS tg ρ)) (fun ρ => evC Φ cond ρ) (fun ρ => evE Φ elt ρ) items [] (away hide os ρ1))).bind fun ds ρ2 =>
        .ok (.own (.lst ds)) (again hide os ρ1 (backS tg (away hide os ρ1) ρ2))
  | .comp2 elt tg sk src tg2 sk2 src2, ρ => (evL Φ src ρ).bind fun os ρ1 => match itemsOf sk (looks os ρ1) with
    | none => .bad
    | some items =>
      (noX (compF2 (bindT tg) (fun ρ acc => (evL Φ src2 ρ).bind fun os2 ρ2 => match itemsOf sk2 (looks os2 ρ2) with
          | none => .bad
          | some items2 => compF (bindT tg2) (fun ρ => .ok true ρ) (fun ρ => evE Φ elt ρ) items2 acc (fzs os2 ρ2)) items [] (wipeS (tg ++ tg2) (fzs os ρ1)))).bind fun ds ρ2 =>
        .ok (.own (.lst ds)) (backS (tg ++ tg2) (fzs os ρ1) ρ2)
  | .dcomp kind k v tg sk src, ρ => (evL Φ src ρ).bind fun os ρ1 => match itemsOf sk (looks os ρ1) with
    | none => .bad
    | some items =>
      (noX (dcompF kind (fun d ρ => bindT tg d (wipeS tg ρ)) (fun ρ => (evE Φ k ρ).bind fun x ρ2 => (evE Φ v ρ2).bind fun y ρ3 => .ok (look x ρ3, look y ρ3) (fz y ρ3)) items [] (fzs os ρ1))).bind fun ds ρ2 =>
        .ok (.own (.dct kind ds)) (backS tg (fzs os ρ1) ρ2)
def evL (Φ : Calls) : List E → Env → Res (List Opd)
  | [], ρ => .ok [] ρ
  | e :: es, ρ => (evE Φ e ρ).bind fun o ρ1 => (evL Φ es ρ1).bind fun os ρ2 => .ok (o :: os) ρ2
/-- a slice's part: none or an int -/
def evI (Φ : Calls) : List E → Env → Res (List Int)
  | [], ρ => .ok [] ρ
  | e :: es, ρ => (intR (evE Φ e ρ)).bind fun i ρ1 => (evI Φ es ρ1).bind fun is ρ2 => .ok (i :: is) ρ2
/-- a comprehension's test: none or one -/
def evC (Φ : Calls) : List E → Env → Res Bool
  | [], ρ => .ok true ρ
  | e :: es, ρ => (boolR (evE Φ e ρ)).bind fun b ρ1 => if b then evC Φ es ρ1 else .ok false ρ1
end

/-- how a statement ends -/
inductive Out where
  | bad
  | exc (x : X) (ρ : Env)
  | nx (ρ : Env)
  | ret (o : Opd) (ρ : Env)
def Out.bind (o : Out) (f : Env → Out) : Out :=
  match o with
  | .nx ρ => f ρ
  | .bad => .bad
  | .exc x ρ => .exc x ρ
  | .ret o ρ => .ret o ρ
def Res.out {α : Type} (r : Res α) (f : α → Env → Out) : Out :=
  match r with
  | .bad => .bad
  | .exc x ρ => .exc x ρ
  | .ok a ρ => f a ρ
/-- stored under a name -/
def putO (i : Nat) (o : Opd) (ρ : Env) : Env :=
  match o with
  | .own d => setS ρ i (.own d)
  | .val d => setS ρ i (.val d)
  | .pl j => setS (fz o ρ) i (.val (look o ρ))
/-- several, from the right; what stands at a slot is read ahead of all stores -/
def putOs : List Nat → List Opd → Env → Option Env
  | [], [], ρ => some ρ
  | i :: is, .own d :: os, ρ => (putOs is os ρ).map fun ρ1 => setS ρ1 i (.own d)
  | i :: is, .val d :: os, ρ => (putOs is os ρ).map fun ρ1 => setS ρ1 i (.val d)
  | _, _, _ => none
def isPl : Opd → Bool
  | .pl _ => true
  | _ => false
/-- all slots read -/
def unpl (ρ : Env) : Opd → Opd
  | .pl i => .val (look (.pl i) ρ)
  | o => o
def setD (d k v : D) : Option D :=
  match d, k with
  | .lst xs, .int i => (ix xs.length i).map fun j => .lst (xs.set j v)
  | .dct kd kvs, k => if keyK kd k ∧ kvs.length < LINE then some (.dct kd (dput kvs k v)) else none
  | _, _ => none
def setO (ρ : Env) (i : Nat) (k v : D) : Option Env :=
  match getS ρ i with
  | .own d => (setD d k v).map fun d' => setS ρ i (.own d')
  | _ => none
/-- something of one's own stands there -/
def ownAt (ρ : Env) (i : Nat) : Bool := match getS ρ i with | .own _ => true | _ => false
def outO (o : Option Env) : Out :=
  match o with
  | some ρ => .nx ρ
  | none => .bad
def augI : B2 → Int → Int → Option Int
  | .add, i, j => some (i + j)
  | .sub, i, j => some (i - j)
  | .mul, i, j => if i.natAbs < 2 ^ 64 ∨ j.natAbs < 2 ^ 64 then some (i * j) else none
  | .fdiv, i, j => if 0 < j ∧ fits j then some (i / j) else none
  | _, _, _ => none
def augO (op : B2) (ρ : Env) (i : Nat) (o : Opd) : Option Env :=
  match getS ρ i with
  | .val (.int k) => match look o ρ with
    | .int j => (augI op k j).map fun z => setS ρ i (.val (.int z))
    | _ => none
  | .own (.lst xs) => match op, o with
    | .add, .own (.lst ys) => if xs.length + ys.length ≤ LINE then some (setS ρ i (.own (.lst (xs ++ ys)))) else none
    | _, _ => none
  | _ => none

def forF (bind : D → Env → Option Env) (body : Env → Out) : List D → Env → Out
  | [], ρ => .nx ρ
  | x :: xs, ρ => match bind x ρ with
    | none => .bad
    | some ρ1 => (body ρ1).bind fun ρ2 => forF bind body xs ρ2
def whF (c : Env → Res Bool) (body : Env → Out) : Nat → Env → Out
  | 0, _ => .bad
  | n + 1, ρ => (c ρ).out fun b ρ1 => if b then (body ρ1).bind fun ρ2 => whF c body n ρ2 else .nx ρ1

/-- the most turns of a while -/
def TURNS : Nat := 1000000

mutual
def evS (Φ : Calls) : St → Env → Out
  | .ret e, ρ => (evE Φ e ρ).out fun o ρ1 => .ret o ρ1
  | .asg i e, ρ => (evE Φ e ρ).out fun o ρ1 => .nx (putO i o ρ1)
  | .unp is e, ρ => (evE Φ e ρ).out fun o ρ1 => outO (match look o ρ1 with | .tup ds => bindT is (.tup ds) ρ1 | _ => none)
  | .par is es, ρ => (evL Φ es ρ).out fun os ρ1 => outO (putOs is (os.map (unpl ρ1)) (fzs os ρ1))
  | .setit i k v, ρ => (evE Φ v ρ).out fun o ρ1 => if ownAt ρ1 i then (evE Φ k ρ1).out fun x ρ2 => outO (setO (fz o ρ2) i (look x ρ2) (look o ρ2)) else .bad
  | .set2 i k1 v1 k2 v2, ρ => (evL Φ [v1, v2] ρ).out fun os ρ1 => match os with
    | [o1, o2] => (evE Φ k1 (fzs os ρ1)).out fun x1 ρ2 => match setO ρ2 i (look x1 ρ2) (look o1 ρ1) with
      | none => .bad
      | some ρ3 => (evE Φ k2 ρ3).out fun x2 ρ4 => outO (setO ρ4 i (look x2 ρ4) (look o2 ρ1))
    | _ => .bad
  | .aug op i e, ρ => match getS ρ i with | .non => .bad | _ => (evE Φ e ρ).out fun o ρ1 => outO (augO op ρ1 i o)
  | .ite c a b, ρ => (boolR (evE Φ c ρ)).out fun k ρ1 => if k then evSs Φ a ρ1 else evSs Φ b ρ1
  | .for hide tg sk src body, ρ => (evL Φ src ρ).out fun os ρ1 => match itemsOf sk (looks os ρ1) with
    | none => .bad
    | some items => (forF (bindT tg) (fun ρ => evSs Φ body ρ) items (away hide os ρ1)).bind fun ρ2 => .nx (again hide os ρ1 ρ2)
  | .while c body, ρ => whF (fun ρ => boolR (evE Φ c ρ)) (fun ρ => evSs Φ body ρ) TURNS ρ
  | .expr e, ρ => (evE Φ e ρ).out fun o ρ1 => .nx ρ1
  | .raise c es, ρ => (evL Φ es ρ).out fun os ρ1 => match looks os ρ1 with
    | [.str _] => .exc ⟨c, .non⟩ ρ1
    | [.int i] => .exc ⟨c, .int i⟩ ρ1
    | _ => .bad
def evSs (Φ : Calls) : List St → Env → Out
  | [], ρ => .nx ρ
  | s :: ss, ρ => (evS Φ s ρ).bind fun ρ1 => evSs Φ ss ρ1
end

/-- a function: how many slots, how many of them parameters, whether it changes its first argument's list -/
structure Fn where
  slots : Nat
  pars : Nat
  io : Bool
  body : List St

/-- what a body's end hands back -/
def endC (io : Bool) (o : Out) : CR :=
  match o with
  | .bad => .bad
  | .exc x _ => .exc x
  | .nx ρ => if io then (match getS ρ 0 with | .own d => .ok .non false d | _ => .bad) else .ok .non false .non
  | .ret o ρ =>
    let out (k : D → CR) : CR := if io then (match getS ρ 0 with | .own d => k d | _ => .bad) else k .non
    match o with
    | .val d => out fun z => .ok d false z
    | .own d => out fun z => .ok d true z
    | .pl i => if io && i == 0 then .bad else out fun z => .ok (look o ρ) true z
def okSl (io : Bool) : Nat → List Sl → Bool
  | _, [] => true
  | 0, .own _ :: r => io && okSl io 1 r
  | n + 1, .own _ :: _ => false
  | n, .val _ :: r => okSl io (n + 1) r
  | _, .non :: _ => false
def runFn (Φ : Calls) (F : Fn) (as : List Sl) : CR :=
  if as.length = F.pars ∧ okSl F.io 0 as then endC F.io (evSs Φ F.body (as ++ List.replicate (F.slots - F.pars) .non)) else .bad
/-- calls n deep -/
def callAt (P : Nat → Option Fn) : Nat → Nat → List Sl → CR
  | 0, _, _ => .bad
  | n + 1, f, as => match P f with
    | some F => runFn ⟨fun g => match P g with | some G => G.io | none => false, callAt P n⟩ F as
    | none => .bad
/-- what calls come to, n deep -/
def callsOf (prog : Nat → Option Fn) (n : Nat) : Calls := ⟨fun g => match prog g with | some G => G.io | none => false, callAt prog n⟩
end RR

/-! A1: how data lie in the heap; states. -/
namespace RR
open PySem L2
theorem line_eq : LINE = PySem.sizeLine := by decide

def toStr (s : S) : Str := ⟨s.toArray⟩
theorem toStr_len (s : S) : (toStr s).length = s.length := by simp [toStr, Str.length]
theorem toStr_list (s : S) : (toStr s).cps.toList = s := by simp [toStr]
theorem toStr_inj {s t : S} : toStr s = toStr t ↔ s = t := by
  constructor
  · intro h
    have := congrArg (fun x => x.cps.toList) h
    simpa [toStr] using this
  · rintro rfl; rfl
theorem toStr_app (s t : S) : toStr s ++ toStr t = toStr (s ++ t) := by
  show Str.append _ _ = _
  simp [Str.append, toStr]

/-- plain signs -/
def okS (s : S) : Bool := s.all fun c => decide (c < 128)
theorem okS_app {s t : S} (h : okS s = true) (h' : okS t = true) : okS (s ++ t) = true := by
  simp only [okS, List.all_append, Bool.and_eq_true] at *
  exact ⟨h, h'⟩

/-- a key of kind 0, as the layer has it -/
def keyOf : D → Option Key
  | .int i => some (.inl i)
  | .str s => some (.inr (toStr s))
  | _ => none
def keysOf : List D → Option (List Key)
  | [] => some []
  | d :: ds => (keyOf d).bind fun k => (keysOf ds).map (k :: ·)
/-- of kind 1 -/
def keyOfT : D → Option (List Key)
  | .tup xs => keysOf xs
  | _ => none

mutual
/-- v is d, all that it leans on stands in G -/
inductive Rep (G : Hp) : V → D → Prop
  | non : Rep G .non .non
  | bl (b : Bool) : Rep G (.bl b) (.bl b)
  | int (i : Int) : Rep G (.int i) (.int i)
  | str (s : S) (h : s.length ≤ LINE) (c : okS s = true) : Rep G (.str (toStr s)) (.str s)
  | tup {a : Addr} {vs : List V} {ds : List D} (h : G a = some (.tup vs)) (r : Reps G vs ds) (z : ds.length ≤ LINE) : Rep G (.ref a) (.tup ds)
  | lst {a : Addr} {vs : List V} {ds : List D} (h : G a = some (.lst vs)) (r : Reps G vs ds) (z : ds.length ≤ LINE) : Rep G (.ref a) (.lst ds)
  | dct0 {a : Addr} {ks : List Key} {us : List V} {kvs : List (D × D)} (h : G a = some (.dK (ks.zip us))) (r : Reps G us (kvs.map (·.2))) (k : kvs.map (fun p => keyOf p.1) = ks.map some) (z : kvs.length ≤ LINE) : Rep G (.ref a) (.dct 0 kvs)
  | dct1 {a : Addr} {ks : List (List Key)} {us : List V} {kvs : List (D × D)} (h : G a = some (.dT (ks.zip us))) (r : Reps G us (kvs.map (·.2))) (k : kvs.map (fun p => keyOfT p.1) = ks.map some) (z : kvs.length ≤ LINE) : Rep G (.ref a) (.dct 1 kvs)
inductive Reps (G : Hp) : List V → List D → Prop
  | nil : Reps G [] []
  | cons {v : V} {vs : List V} {d : D} {ds : List D} (h : Rep G v d) (r : Reps G vs ds) : Reps G (v :: vs) (d :: ds)
end

/-- the frozen heap is a part of the heap -/
def Le (G H : Hp) : Prop := ∀ a o, G a = some o → Rd H a o ∧ ∀ vs, o = .tup vs → H a = some o
/-- it grows -/
def Mo (G G' : Hp) : Prop := ∀ a o, G a = some o → G' a = some o
theorem Mo.refl (G : Hp) : Mo G G := fun _ _ h => h
theorem Mo.trans {G G1 G2 : Hp} (a : Mo G G1) (b : Mo G1 G2) : Mo G G2 := fun c o h => b c o (a c o h)

mutual
theorem Rep.mono {G G' : Hp} (m : Mo G G') : ∀ {v : V} {d : D}, Rep G v d → Rep G' v d
  | _, _, .non => .non
  | _, _, .bl b => .bl b
  | _, _, .int i => .int i
  | _, _, .str s h c => .str s h c
  | _, _, .tup h r z => .tup (m _ _ h) (Reps.mono m r) z
  | _, _, .lst h r z => .lst (m _ _ h) (Reps.mono m r) z
  | _, _, .dct0 h r k z => .dct0 (m _ _ h) (Reps.mono m r) k z
  | _, _, .dct1 h r k z => .dct1 (m _ _ h) (Reps.mono m r) k z
theorem Reps.mono {G G' : Hp} (m : Mo G G') : ∀ {vs : List V} {ds : List D}, Reps G vs ds → Reps G' vs ds
  | _, _, .nil => .nil
  | _, _, .cons h r => .cons (Rep.mono m h) (Reps.mono m r)
end

section
variable {G H : Hp}
theorem Reps.length : ∀ {vs : List V} {ds : List D}, Reps G vs ds → vs.length = ds.length
  | _, _, .nil => rfl
  | _, _, .cons _ r => by simp [Reps.length r]
theorem Reps.get : ∀ {vs : List V} {ds : List D} {i : Nat} {d : D}, Reps G vs ds → ds[i]? = some d → ∃ v, vs[i]? = some v ∧ Rep G v d
  | _, _, _, _, .nil, e => by simp at e
  | _, _, 0, _, .cons h _, e => by simp at e; subst e; exact ⟨_, rfl, h⟩
  | _, _, i + 1, _, .cons _ r, e => by
    obtain ⟨v, h1, h2⟩ := Reps.get (i := i) r (by simpa using e)
    exact ⟨v, by simpa using h1, h2⟩
theorem Reps.getV : ∀ {vs : List V} {ds : List D} {i : Nat} {v : V}, Reps G vs ds → vs[i]? = some v → ∃ d, ds[i]? = some d ∧ Rep G v d
  | _, _, _, _, .nil, e => by simp at e
  | _, _, 0, _, .cons h _, e => by simp at e; subst e; exact ⟨_, rfl, h⟩
  | _, _, i + 1, _, .cons _ r, e => by
    obtain ⟨d, h1, h2⟩ := Reps.getV (i := i) r (by simpa using e)
    exact ⟨d, by simpa using h1, h2⟩
theorem Reps.append : ∀ {vs us : List V} {ds es : List D}, Reps G vs ds → Reps G us es → Reps G (vs ++ us) (ds ++ es)
  | _, _, _, _, .nil, s => s
  | _, _, _, _, .cons h r, s => .cons h (Reps.append r s)
theorem Reps.set {v : V} {d : D} (h : Rep G v d) : ∀ {vs : List V} {ds : List D} (i : Nat), Reps G vs ds → Reps G (vs.set i v) (ds.set i d)
  | _, _, _, .nil => .nil
  | _, _, 0, .cons _ r => .cons h r
  | _, _, i + 1, .cons q r => .cons q (Reps.set h i r)
theorem Reps.take : ∀ {vs : List V} {ds : List D} (n : Nat), Reps G vs ds → Reps G (vs.take n) (ds.take n)
  | _, _, 0, _ => .nil
  | _, _, _ + 1, .nil => .nil
  | _, _, n + 1, .cons h r => .cons h (Reps.take n r)
theorem Reps.drop : ∀ {vs : List V} {ds : List D} (n : Nat), Reps G vs ds → Reps G (vs.drop n) (ds.drop n)
  | _, _, 0, r => r
  | _, _, _ + 1, .nil => .nil
  | _, _, n + 1, .cons _ r => Reps.drop n r
theorem Reps.erase : ∀ {vs : List V} {ds : List D} (n : Nat), Reps G vs ds → Reps G (vs.eraseIdx n) (ds.eraseIdx n)
  | _, _, _, .nil => .nil
  | _, _, 0, .cons _ r => r
  | _, _, n + 1, .cons h r => .cons h (Reps.erase n r)
theorem Reps.rev {vs : List V} {ds : List D} (r : Reps G vs ds) : Reps G vs.reverse ds.reverse := by
  have go : ∀ {vs : List V} {ds : List D}, Reps G vs ds → Reps G vs.reverse ds.reverse := by
    intro vs
    induction vs with
    | nil => intro ds h; cases h; exact .nil
    | cons v vs ih =>
      intro ds h
      cases h with
      | cons h r => rw [List.reverse_cons, List.reverse_cons]; exact Reps.append (ih r) (.cons h .nil)
  exact go r
theorem Reps.dropLast {vs : List V} {ds : List D} (r : Reps G vs ds) : Reps G vs.dropLast ds.dropLast := by
  rw [List.dropLast_eq_take, List.dropLast_eq_take, r.length]; exact r.take _
theorem Reps.rep {vs : List V} {ds : List D} (r : Reps G vs ds) : ∀ k : Nat, Reps G (List.replicate k vs).flatten (List.replicate k ds).flatten
  | 0 => .nil
  | k + 1 => by
    rw [List.replicate_succ, List.replicate_succ, List.flatten_cons, List.flatten_cons]
    exact Reps.append r (Reps.rep r k)
theorem Reps.ints : ∀ (ns : List Int), Reps G (ns.map V.int) (ns.map D.int)
  | [] => .nil
  | n :: ns => .cons (.int n) (Reps.ints ns)
end

/-- at a, in H, stands d, of which this frame alone knows; what is in it is frozen -/
inductive Own (G H : Hp) (a : Addr) : D → Prop
  | lst {vs : List V} {ds : List D} (h : H a = some (.lst vs)) (r : Reps G vs ds) (z : ds.length ≤ LINE) : Own G H a (.lst ds)
  | dct0 {ks : List Key} {us : List V} {kvs : List (D × D)} (h : H a = some (.dK (ks.zip us))) (r : Reps G us (kvs.map (·.2))) (k : kvs.map (fun p => keyOf p.1) = ks.map some) (z : kvs.length ≤ LINE) : Own G H a (.dct 0 kvs)
  | dct1 {ks : List (List Key)} {us : List V} {kvs : List (D × D)} (h : H a = some (.dT (ks.zip us))) (r : Reps G us (kvs.map (·.2))) (k : kvs.map (fun p => keyOfT p.1) = ks.map some) (z : kvs.length ≤ LINE) : Own G H a (.dct 1 kvs)
theorem Own.at {G H : Hp} {a : Addr} {d : D} (o : Own G H a d) : ∃ u, H a = some u := by cases o <;> exact ⟨_, by assumption⟩
theorem Own.mono {G G' H H' : Hp} {a : Addr} {d : D} (o : Own G H a d) (m : Mo G G') (k : ∀ u, H a = some u → H' a = some u) : Own G' H' a d := by
  cases o with
  | lst h r z => exact .lst (k _ h) (r.mono m) z
  | dct0 h r q z => exact .dct0 (k _ h) (r.mono m) q z
  | dct1 h r q z => exact .dct1 (k _ h) (r.mono m) q z

/-- v is d for now -/
inductive Top (G H : Hp) : V → D → Prop
  | rep {v : V} {d : D} (r : Rep G v d) : Top G H v d
  | own {a : Addr} {d : D} (o : Own G H a d) : Top G H (.ref a) d
inductive Tops (G H : Hp) : List V → List D → Prop
  | nil : Tops G H [] []
  | cons {v : V} {vs : List V} {d : D} {ds : List D} (h : Top G H v d) (r : Tops G H vs ds) : Tops G H (v :: vs) (d :: ds)
theorem Rep.tops {G H : Hp} : ∀ {vs : List V} {ds : List D}, Reps G vs ds → Tops G H vs ds
  | _, _, .nil => .nil
  | _, _, .cons h r => .cons (.rep h) (Rep.tops r)

/-! what a Top is, by its data -/
section
variable {G H : Hp} {v : V}
theorem Top.int {i : Int} (t : Top G H v (.int i)) : v = .int i := by
  cases t with
  | rep r => cases r; rfl
  | own o => cases o
theorem Top.bl {b : Bool} (t : Top G H v (.bl b)) : v = .bl b := by
  cases t with
  | rep r => cases r; rfl
  | own o => cases o
theorem Top.non (t : Top G H v .non) : v = .non := by
  cases t with
  | rep r => cases r; rfl
  | own o => cases o
theorem Top.str {s : S} (t : Top G H v (.str s)) : v = .str (toStr s) ∧ s.length ≤ LINE ∧ okS s = true := by
  cases t with
  | rep r => cases r with | str _ h c => exact ⟨rfl, h, c⟩
  | own o => cases o
theorem Top.tup {ds : List D} (t : Top G H v (.tup ds)) (l : Le G H) : ∃ a vs, v = .ref a ∧ G a = some (.tup vs) ∧ Rd H a (.tup vs) ∧ Reps G vs ds ∧ ds.length ≤ LINE := by
  cases t with
  | rep r => cases r with | tup h r z => exact ⟨_, _, rfl, h, (l _ _ h).1, r, z⟩
  | own o => cases o
theorem Top.lst {ds : List D} (t : Top G H v (.lst ds)) (l : Le G H) : ∃ a vs, v = .ref a ∧ Rd H a (.lst vs) ∧ Reps G vs ds ∧ ds.length ≤ LINE := by
  cases t with
  | rep r => cases r with | lst h r z => exact ⟨_, _, rfl, (l _ _ h).1, r, z⟩
  | own o => cases o with | lst h r z => exact ⟨_, _, rfl, .inl h, r, z⟩
theorem Top.dct0 {kvs : List (D × D)} (t : Top G H v (.dct 0 kvs)) (l : Le G H) : ∃ (a : Addr) (ks : List Key) (us : List V), v = .ref a ∧ Rd H a (.dK (ks.zip us)) ∧ Reps G us (kvs.map (·.2)) ∧ kvs.map (fun p => keyOf p.1) = ks.map some ∧ kvs.length ≤ LINE := by
  cases t with
  | rep r => cases r with | dct0 h r k z => exact ⟨_, _, _, rfl, (l _ _ h).1, r, k, z⟩
  | own o => cases o with | dct0 h r k z => exact ⟨_, _, _, rfl, .inl h, r, k, z⟩
theorem Top.dct1 {kvs : List (D × D)} (t : Top G H v (.dct 1 kvs)) (l : Le G H) : ∃ (a : Addr) (ks : List (List Key)) (us : List V), v = .ref a ∧ Rd H a (.dT (ks.zip us)) ∧ Reps G us (kvs.map (·.2)) ∧ kvs.map (fun p => keyOfT p.1) = ks.map some ∧ kvs.length ≤ LINE := by
  cases t with
  | rep r => cases r with | dct1 h r k z => exact ⟨_, _, _, rfl, (l _ _ h).1, r, k, z⟩
  | own o => cases o with | dct1 h r k z => exact ⟨_, _, _, rfl, .inl h, r, k, z⟩
theorem Top.dctK {n : Nat} {kvs : List (D × D)} (t : Top G H v (.dct n kvs)) : n = 0 ∨ n = 1 := by
  cases t with
  | rep r => cases r <;> simp
  | own o => cases o <;> simp
end

/-! ### states -/
/-- the frame's slots are ρ -/
structure EnvR (G H : Hp) (σ : L2.St) (ρ : Env) : Prop where
  len : σ.length = ρ.length
  val : ∀ i d, getS ρ i = .val d → ∃ v, σ[i]? = some (some v) ∧ Rep G v d
  own : ∀ i d, getS ρ i = .own d → ∃ a, σ[i]? = some (some (.ref a)) ∧ G a = none ∧ Own G H a d
  inj : ∀ i j a d e, getS ρ i = .own d → getS ρ j = .own e → σ[i]? = some (some (.ref a)) → σ[j]? = some (some (.ref a)) → i = j
/-- a is a list or dict that one of the frame's slots alone holds -/
def Mu (σ : L2.St) (ρ : Env) (a : Addr) : Prop := ∃ i d, getS ρ i = .own d ∧ σ[i]? = some (some (.ref a))

/-- from one state to a later one; what was there and is not this frame's own stays -/
structure Stp (σ : L2.St) (ρ : Env) (G H : Hp) (σ' : L2.St) (ρ' : Env) (G' H' : Hp) : Prop where
  mono : Mo G G'
  le : Le G' H'
  keep : ∀ a o, H a = some o → ¬ Mu σ ρ a → H' a = some o
  fresh : ∀ a, G a = none → G' a ≠ none → H a = none ∨ Mu σ ρ a ∨ ∃ vs, G' a = some (.tup vs)
  there : ∀ a o, H a = some o → ∃ o', H' a = some o'
  env : EnvR G' H' σ' ρ'
  mine : ∀ a, Mu σ' ρ' a → Mu σ ρ a ∨ H a = none
theorem Stp.refl {σ : L2.St} {ρ : Env} {G H : Hp} (l : Le G H) (e : EnvR G H σ ρ) : Stp σ ρ G H σ ρ G H :=
  ⟨Mo.refl G, l, fun _ _ h _ => h, fun a h h' => absurd h h', fun a o h => ⟨o, h⟩, e, fun a h => .inl h⟩
theorem Stp.trans {σ σ1 σ2 : L2.St} {ρ ρ1 ρ2 : Env} {G G1 G2 H H1 H2 : Hp} (x : Stp σ ρ G H σ1 ρ1 G1 H1) (y : Stp σ1 ρ1 G1 H1 σ2 ρ2 G2 H2) : Stp σ ρ G H σ2 ρ2 G2 H2 where
  mono := x.mono.trans y.mono
  le := y.le
  keep := fun a o h n => y.keep a o (x.keep a o h n) fun m => by
    rcases x.mine a m with m | m
    · exact n m
    · rw [m] at h; cases h
  fresh := fun a h h2 => by
    by_cases q : G1 a = none
    · rcases y.fresh a q h2 with z | z | z
      · left
        cases e : H a with
        | none => rfl
        | some o =>
          obtain ⟨o', e'⟩ := x.there a o e
          rw [e'] at z; cases z
      · rcases x.mine a z with z | z
        · exact .inr (.inl z)
        · exact .inl z
      · exact .inr (.inr z)
    · rcases x.fresh a h q with z | z | ⟨vs, z⟩
      · exact .inl z
      · exact .inr (.inl z)
      · exact .inr (.inr ⟨vs, y.mono _ _ z⟩)
  there := fun a o h => by
    obtain ⟨o', e⟩ := x.there a o h
    exact y.there a o' e
  env := y.env
  mine := fun a m => by
    rcases y.mine a m with z | z
    · exact x.mine a z
    · right
      cases e : H a with
      | none => rfl
      | some o =>
        obtain ⟨o', e'⟩ := x.there a o e
        rw [e'] at z; cases z

/-- a slot's later kind within an expression -/
def SlLe : Sl → Sl → Prop
  | .non, s => s = .non
  | .val d, s => s = .val d
  | .own _, s => (∃ d, s = .own d) ∨ ∃ d, s = .val d
def EnvLe (ρ ρ' : Env) : Prop := ∀ i, SlLe (getS ρ i) (getS ρ' i)
theorem SlLe.refl (s : Sl) : SlLe s s := by
  cases s with
  | non => rfl
  | val d => rfl
  | own d => exact .inl ⟨d, rfl⟩
theorem EnvLe.refl (ρ : Env) : EnvLe ρ ρ := fun i => SlLe.refl _
theorem SlLe.trans {a b c : Sl} (x : SlLe a b) (y : SlLe b c) : SlLe a c := by
  cases a with
  | non => cases x; exact y
  | val d => cases x; exact y
  | own d =>
    rcases x with ⟨e, rfl⟩ | ⟨e, rfl⟩
    · exact y
    · exact .inr ⟨e, y⟩
theorem EnvLe.trans {a b c : Env} (x : EnvLe a b) (y : EnvLe b c) : EnvLe a c := fun i => (x i).trans (y i)

/-- what a value that an expression has come to is -/
def OpdR (H : Hp) (σ : L2.St) (ρ' : Env) (G' H' : Hp) (v : V) : Opd → Prop
  | .val d => Rep G' v d
  | .own d => ∃ a, v = .ref a ∧ H a = none ∧ G' a = none ∧ Own G' H' a d
  | .pl i => σ[i]? = some (some v) ∧ ∃ d, getS ρ' i = .own d

section
variable {σ : L2.St} {ρ ρ1 ρ2 : Env} {G G1 G2 H H0 H1 H2 : Hp} {v : V} {o : Opd}
theorem EnvR.top {d : D} {i : Nat} (e : EnvR G H σ ρ) (hv : σ[i]? = some (some v)) (h : getS ρ i = .val d ∨ getS ρ i = .own d) : Top G H v d := by
  rcases h with h | h
  · obtain ⟨u, hu, r⟩ := e.val i d h
    rw [hv] at hu; cases hu
    exact .rep r
  · obtain ⟨a, ha, _, r⟩ := e.own i d h
    rw [hv] at ha; cases ha
    exact .own r
theorem OpdR.top (r : OpdR H0 σ ρ1 G1 H1 v o) (e : EnvR G1 H1 σ ρ1) : Top G1 H1 v (look o ρ1) := by
  cases o with
  | val d => exact .rep r
  | own d =>
    obtain ⟨a, rfl, _, _, o⟩ := r
    exact .own o
  | pl i =>
    obtain ⟨h, d, hd⟩ := r
    show Top G1 H1 v (match getS ρ1 i with | .val d => d | .own d => d | .non => .non)
    rw [hd]
    exact e.top h (.inr hd)
/-- seen later -/
theorem OpdR.later (r : OpdR H0 σ ρ1 G1 H1 v o) (h0 : ∀ a o, H0 a = some o → ∃ o', H1 a = some o') (m0 : ∀ a, Mu σ ρ1 a → ∃ o, H0 a = some o) (s : Stp σ ρ1 G1 H1 σ ρ2 G2 H2) (l : EnvLe ρ1 ρ2) : Top G2 H2 v (look o ρ2) := by
  cases o with
  | val d => exact .rep (Rep.mono s.mono r)
  | own d =>
    obtain ⟨a, rfl, n, g, o⟩ := r
    refine .own (o.mono s.mono fun u hu => s.keep a u hu fun m => ?_)
    obtain ⟨o', e⟩ := m0 a m
    rw [n] at e; cases e
  | pl i =>
    obtain ⟨h, d, hd⟩ := r
    show Top G2 H2 v (match getS ρ2 i with | .val d => d | .own d => d | .non => .non)
    have q := l i
    rw [hd] at q
    rcases q with ⟨e, he⟩ | ⟨e, he⟩
    · rw [he]; exact s.env.top h (.inr he)
    · rw [he]; exact s.env.top h (.inl he)
theorem OpdR.keepOwn {d : D} (r : OpdR H0 σ ρ1 G1 H1 v (.own d)) (m0 : ∀ a, Mu σ ρ1 a → ∃ o, H0 a = some o) (s : Stp σ ρ1 G1 H1 σ ρ2 G2 H2) : OpdR H0 σ ρ2 G2 H2 v (.own d) := by
  obtain ⟨a, rfl, n, g, o⟩ := r
  have nm : ¬ Mu σ ρ1 a := fun m => by obtain ⟨o', e⟩ := m0 a m; rw [n] at e; cases e
  refine ⟨a, rfl, n, ?_, o.mono s.mono fun u hu => s.keep a u hu nm⟩
  cases q : G2 a with
  | none => rfl
  | some w =>
    rcases s.fresh a g (by rw [q]; simp) with z | z | ⟨vs, z⟩
    · obtain ⟨u, hu⟩ := o.at; rw [z] at hu; cases hu
    · exact absurd z nm
    · have h2 := (s.le a _ z).2 vs rfl
      cases o with
      | lst h _ _ => have q := s.keep a _ h nm; rw [h2] at q; cases q
      | dct0 h _ _ _ => have q := s.keep a _ h nm; rw [h2] at q; cases q
      | dct1 h _ _ _ => have q := s.keep a _ h nm; rw [h2] at q; cases q
end
theorem EnvR.mu {G H : Hp} {σ : L2.St} {ρ : Env} (e : EnvR G H σ ρ) {a : Addr} (m : Mu σ ρ a) : ∃ o, H a = some o := by
  obtain ⟨i, d, h, hs⟩ := m
  obtain ⟨b, hb, _, o⟩ := e.own i d h
  rw [hs] at hb; cases hb
  exact o.at
end RR

/-! A2: what operations come to, over data. -/
namespace RR
open PySem L2

/-- only new things are laid -/
structure New (G H G' H' : Hp) : Prop where
  mono : Mo G G'
  le : Le G' H'
  keep : ∀ a o, H a = some o → H' a = some o
  fresh : ∀ a, G a = none → G' a ≠ none → H a = none ∨ ∃ vs, G' a = some (.tup vs)
/-- what a value that an operation has come to is -/
def ResR (H G' H' : Hp) (v : V) : Opd → Prop
  | .val d => Rep G' v d
  | .own d => ∃ a, v = .ref a ∧ H a = none ∧ G' a = none ∧ Own G' H' a d
  | .pl _ => False
section
variable {G H G1 H1 : Hp} {p : Addr} {vs : List V} {ds : List D}
theorem New.refl (l : Le G H) : New G H G H := ⟨Mo.refl G, l, fun _ _ h => h, fun a h h' => absurd h h'⟩
theorem Le.none (l : Le G H) (h : H p = none) : G p = none := by
  cases e : G p with
  | none => rfl
  | some o =>
    rcases (l p o e).1 with q | ⟨u, q⟩
    · rw [h] at q; cases q
    · rw [h] at q; cases q
theorem mo_upd (hp : G p = none) (o : HO) : Mo G (upd G p o) := fun a u h => by
  rw [upd_ne (ne_of_none h hp)]; exact h
theorem keep_upd (hp : H p = none) (o : HO) : ∀ a u, H a = some u → upd H p o a = some u := fun a u h => by
  rw [upd_ne (ne_of_none h hp)]; exact h
theorem le_upd (l : Le G H) (hp : H p = none) (o : HO) : Le (upd G p o) (upd H p o) := fun a u h => by
  by_cases e : a = p
  · subst e
    rw [upd_same] at h; cases h
    exact ⟨.inl upd_same, fun _ _ => upd_same⟩
  · rw [upd_ne e] at h
    refine ⟨?_, fun vs z => by rw [upd_ne e]; exact (l a u h).2 vs z⟩
    rcases (l a u h).1 with q | ⟨w, q⟩
    · exact .inl (by rw [upd_ne e]; exact q)
    · exact .inr ⟨w, by rw [upd_ne e]; exact q⟩
theorem le_updH (l : Le G H) (hp : H p = none) (o : HO) : Le G (upd H p o) := fun a u h => by
  have e : a ≠ p := fun z => by subst z; rw [Le.none l hp] at h; cases h
  refine ⟨?_, fun vs z => by rw [upd_ne e]; exact (l a u h).2 vs z⟩
  rcases (l a u h).1 with q | ⟨w, q⟩
  · exact .inl (by rw [upd_ne e]; exact q)
  · exact .inr ⟨w, by rw [upd_ne e]; exact q⟩
/-- a new frozen thing -/
theorem New.frozen (l : Le G H) (hp : H p = none) (o : HO) : New G H (upd G p o) (upd H p o) where
  mono := mo_upd (Le.none l hp) o
  le := le_upd l hp o
  keep := keep_upd hp o
  fresh := fun a h h' => by
    by_cases e : a = p
    · subst e; exact .inl hp
    · rw [upd_ne e] at h'; exact absurd h h'
/-- a new thing of one's own -/
theorem New.mine (l : Le G H) (hp : H p = none) (o : HO) : New G H G (upd H p o) where
  mono := Mo.refl G
  le := le_updH l hp o
  keep := keep_upd hp o
  fresh := fun a h h' => absurd h h'
theorem new_tup (l : Le G H) (hp : H p = none) (r : Reps G vs ds) (z : ds.length ≤ LINE) : Rep (upd G p (.tup vs)) (.ref p) (.tup ds) :=
  .tup upd_same (r.mono (mo_upd (Le.none l hp) _)) z
theorem new_lst (l : Le G H) (hp : H p = none) (r : Reps G vs ds) (z : ds.length ≤ LINE) : ResR H G (upd H p (.lst vs)) (.ref p) (.own (.lst ds)) :=
  ⟨p, rfl, hp, Le.none l hp, .lst upd_same r z⟩
theorem New.trans {G2 H2 : Hp} (x : New G H G1 H1) (y : New G1 H1 G2 H2) : New G H G2 H2 where
  mono := x.mono.trans y.mono
  le := y.le
  keep := fun a o h => y.keep a o (x.keep a o h)
  fresh := fun a h h2 => by
    by_cases q : G1 a = none
    · rcases y.fresh a q h2 with z | z
      · left
        cases e : H a with
        | none => rfl
        | some o => rw [x.keep a o e] at z; cases z
      · exact .inr z
    · rcases x.fresh a h q with z | ⟨vs, z⟩
      · exact .inl z
      · exact .inr ⟨vs, y.mono _ _ z⟩
end

/-- an operation of two things -/
def rB (f : D → D → Option Opd) : R2 := fun x y H Q => ∃ G d e o, Le G H ∧ Top G H x d ∧ Top G H y e ∧ f d e = some o ∧ ∀ v G' H', New G H G' H' → ResR H G' H' v o → Q v H'
/-- a call of a known thing -/
def rC (f : List D → Option Opd) : List V → Hp → VK → Prop := fun xs H Q => ∃ G ds o, Le G H ∧ Tops G H xs ds ∧ f ds = some o ∧ ∀ v G' H', New G H G' H' → ResR H G' H' v o → Q v H'

def opOf : B2 → Operator
  | .add => .Add | .sub => .Sub | .mul => .Mult | .fdiv => .FloorDiv | .mod => .Mod | .pow => .Pow

theorem PlainL.isList' {h : Heap} {a : Addr} {its : Array Value} (p : PlainL h a its) : h.IsList a its := p.isList
/-- list + list, any that may be read -/
def rCatL (K : PySem.W.Frag) : R2 := fun x y H Q => ∃ l b xs zs, x = .ref l ∧ y = .ref b ∧ SqL K H l xs ∧ SqL K H b zs ∧ xs.length + zs.length ≤ sizeLine ∧ ∀ p, H p = none → Q (.ref p) (upd H p (.lst (xs ++ zs)))
section
variable {X : Cx}
theorem op_catL : OpR X (binaryOp .Add) (rCatL X.K) := by
  intro pins s σ H x y v u Q I rx ry h
  obtain ⟨l, b, xs, zs, rfl, rfl, hH, hB, hz, q⟩ := h
  cases rx
  cases ry
  obtain ⟨its, r, p, z⟩ := I.list hH
  obtain ⟨its2, r2, p2, z2⟩ := I.list hB
  obtain ⟨⟨cls, dd, data, sl⟩, ho, hc, n, hd⟩ := p.isList
  obtain ⟨⟨cls2, dd2, data2, sl2⟩, ho2, hc2, n2, hd2⟩ := p2.isList
  simp only at hc hd hc2 hd2
  subst hc hd hc2 hd2
  have hl := r.length
  have hl2 := r2.length
  refine PySem.concat_meets ⟨_, ho, rfl⟩ ⟨_, ho2, rfl⟩ PySem.noFill_list_add PySem.seq_list_add PySem.F.slot_list_add PySem.F.entry_list_add (PySem.F.args_list_add_2 _ _)
    (PyProof.Rows.list_addW l b its.toArray its2.toArray n n2 dd dd2 sl sl2 (by rw [List.size_toArray, List.size_toArray]; omega)) ⟨ho, ho2, ?_⟩
  have ea : its.toArray ++ its2.toArray = (its ++ its2).toArray := by simp
  rw [ea]
  exact ⟨.ref _, _, I.lnew (t' := s.toks) (r.append r2) (by rw [List.length_append]; omega), rfl, q _ I.fresh⟩

theorem big_ok {i j : Int} (h : (fits i && fits j) = true) : CMulW i j := by
  rw [Bool.and_eq_true] at h
  have h1 : i.natAbs < 2 ^ 2000 := of_decide_eq_true h.1
  have h2 : j.natAbs < 2 ^ 2000 := of_decide_eq_true h.2
  exact wide_mul h1 h2 (by decide) (by decide) (by decide)
theorem big_div {i j : Int} (h0 : 0 < j) (h : fits j = true) : CDivW i j := by
  have h2 : j.natAbs < 2 ^ 2000 := of_decide_eq_true h
  exact wide_div h0 h2 (by decide) (by decide)
end

/-- list * int, of any list that may be read -/
theorem Inv.lstR {X : Cx} {pins : List (Addr × Obj)} {σ : L2.St} {H : Hp} {s : Shared} {l : Addr} {xs : List V} (I : L2.Inv X pins σ H s) (h : Rd H l (.lst xs)) : xs.length ≤ sizeLine ∧ ∃ (its : List Value) (n : Nat), Vals xs its ∧ xs.length = its.length ∧ s.heap.get? l = some { cls := .type "list", data := .seq its.toArray n } := by
  obtain ⟨z, its, n, r, e⟩ := h.ok I.hok
  exact ⟨z, its, n, r, r.length, e⟩
def rRepL : R2 := fun x y H Q => ∃ l k xs, x = .ref l ∧ y = .int k ∧ Rd H l (.lst xs) ∧ -(2 ^ 63) ≤ k ∧ k < 2 ^ 63 ∧ xs.length * k.toNat ≤ sizeLine ∧
  ∀ p, H p = none → Q (.ref p) (upd H p (.lst (List.replicate k.toNat xs).flatten))
open PyProof.Rows PySem in
theorem op_repL {X : Cx} : OpR X (binaryOp .Mult) rRepL := by
  intro pins s σ H x y v u Q I rx ry h
  obtain ⟨l, k, xs, rfl, rfl, hH, h1, h2, hz, q⟩ := h
  cases rx
  obtain ⟨t, rfl⟩ := ry
  obtain ⟨z, its, n, r, hl, e⟩ := Inv.lstR I hH
  have hlen : its.toArray.size * k.toNat ≤ sizeLine := by rw [List.size_toArray, ← hl]; exact hz
  have hcap : ¬ its.toArray.size * k.toNat > (2 ^ 63 - 1) / 8 := by
    have : (sizeLine : Nat) ≤ (2 ^ 63 - 1) / 8 := by decide
    omega
  have hfit : ¬ (!Builtin.List.listFitsIndex k) = true := by
    rw [fitsIndex_both h1 h2]
    exact Bool.false_ne_true
  have hlong : ¬ Builtin.List.listTooLong (its.toArray.size * k.toNat) = true := by
    rw [notLongL hlen]
    exact Bool.false_ne_true
  have hnew : List.foldl (fun x1 x2 => x1 ++ x2) #[] (List.replicate (if its.toArray.isEmpty = true then 0 else k.toNat) its.toArray) = (List.replicate k.toNat its).flatten.toArray := by
    have f0 : ∀ m : Nat, List.foldl (fun x1 x2 => x1 ++ x2) #[] (List.replicate m its.toArray) = (List.replicate m its).flatten.toArray := fun m => by
      have := foldl_rep its m []
      rw [List.nil_append] at this
      exact this
    rw [f0]
    cases its with
    | nil => simp
    | cons a r' => rw [if_neg (by simp)]
  refine wpAny_binaryOp_repeat_ref (T := "list") (U := "int") (by decide) ⟨_, e, rfl⟩ (fun s' => typeIs_int s' k t) noFill_list_mul F.fills_int_mul F.slot_int_rmul repeat_list F.slot_int_index.lookup
    (call_meets F.slot_int_rmul (typeIs_int s k t) F.entry_int_rmul (F.args_int_rmul_2 _ _) (int___rmul___int_list k t l its.toArray n)
      ⟨e, rfl, ⟨_, e, rfl⟩, call_meets F.slot_list_mul ⟨_, e, rfl⟩ F.entry_list_mul (F.args_list_mul_2 _ _) (AutoListH.list___mul___list_int_3 l its.toArray n k t hfit hcap hlong) ⟨e, ?_⟩⟩)
  rw [hnew]
  exact ⟨.ref _, _, I.lnew (t' := s.toks) (r.rep k.toNat) (by rw [PyProof.Rows.lm_len_rep_flat, Nat.mul_comm]; exact hz), rfl, q _ I.fresh⟩

theorem bin2_add {d e : D} {o : Opd} (h : bin2 .add d e = some o) : (∃ i j, d = .int i ∧ e = .int j ∧ o = .val (.int (i + j))) ∨ (∃ a b, d = .str a ∧ e = .str b ∧ a.length + b.length ≤ LINE ∧ o = .val (.str (a ++ b))) ∨
    (∃ a b, d = .lst a ∧ e = .lst b ∧ a.length + b.length ≤ LINE ∧ o = .own (.lst (a ++ b))) ∨ (∃ a b, d = .tup a ∧ e = .tup b ∧ a.length + b.length ≤ LINE ∧ o = .val (.tup (a ++ b))) := by
  unfold bin2 at h
  split at h <;> simp_all
  all_goals exact h.2.symm
theorem bin2_sub {d e : D} {o : Opd} (h : bin2 .sub d e = some o) : ∃ i j, d = .int i ∧ e = .int j ∧ o = .val (.int (i - j)) := by
  unfold bin2 at h
  split at h <;> simp_all
theorem bin2_mul {d e : D} {o : Opd} (h : bin2 .mul d e = some o) : (∃ i j, d = .int i ∧ e = .int j ∧ (fits i && fits j) = true ∧ o = .val (.int (i * j))) ∨
    (∃ a k, d = .lst a ∧ e = .int k ∧ (a.length ≤ 1000 ∧ 2 ≤ k ∧ k ≤ 1000) ∧ o = .own (.lst (List.replicate k.toNat a).flatten)) ∨
    (∃ a k, d = .tup a ∧ e = .int k ∧ (a.isEmpty = false ∧ a.length ≤ 1000 ∧ 2 ≤ k ∧ k ≤ 1000) ∧ o = .val (.tup (List.replicate k.toNat a).flatten)) := by
  unfold bin2 at h
  split at h <;> simp_all
  all_goals exact h.2.symm
theorem bin2_fdiv {d e : D} {o : Opd} (h : bin2 .fdiv d e = some o) : ∃ i j, d = .int i ∧ e = .int j ∧ (0 < j ∧ fits j = true) ∧ o = .val (.int (i / j)) := by
  unfold bin2 at h
  split at h <;> simp_all
  all_goals exact h.2.symm
theorem bin2_mod {d e : D} {o : Opd} (h : bin2 .mod d e = some o) : ∃ i j, d = .int i ∧ e = .int j ∧ 0 < j ∧ o = .val (.int (i % j)) := by
  unfold bin2 at h
  split at h <;> simp_all
  all_goals exact h.2.symm
theorem bin2_pow {d e : D} {o : Opd} (h : bin2 .pow d e = some o) : ∃ i j, d = .int i ∧ e = .int j ∧ (0 ≤ j ∧ j ≤ 100 ∧ i.natAbs < 2 ^ 64) ∧ o = .val (.int (i ^ j.toNat)) := by
  unfold bin2 at h
  split at h <;> simp_all
  all_goals exact h.2.symm

section
variable {X : Cx}
theorem op_bin (op : B2) : OpR X (binaryOp (opOf op)) (rB (bin2 op)) := by
  intro pins s σ H x y v u Q I rx ry h
  obtain ⟨G, d, e, o, l, tx, ty, hf, k⟩ := h
  have fin : ∀ (i : Int), o = .val (.int i) → Q (.int i) H := fun i e => by
    subst e; exact k _ G H (New.refl l) (.int i)
  cases op with
  | add =>
    rcases bin2_add hf with ⟨i, j, rfl, rfl, rfl⟩ | ⟨a, b, rfl, rfl, z, rfl⟩ | ⟨a, b, rfl, rfl, z, rfl⟩ | ⟨a, b, rfl, rfl, z, rfl⟩
    · obtain rfl := tx.int
      obtain rfl := ty.int
      exact op_add pins s σ H _ _ v u Q I rx ry ⟨_, _, rfl, rfl, fin _ rfl⟩
    · obtain ⟨rfl, _, c1⟩ := tx.str
      obtain ⟨rfl, _, c2⟩ := ty.str
      refine op_add_str pins s σ H _ _ v u Q I rx ry ⟨_, _, rfl, rfl, ?_, ?_⟩
      · rw [toStr_len, toStr_len, ← line_eq]; exact z
      · rw [toStr_app]; exact k _ G H (New.refl l) (.str _ (by rw [List.length_append]; exact z) (okS_app c1 c2))
    · obtain ⟨p, vs, rfl, h1, r1, z1⟩ := tx.lst l
      obtain ⟨q, us, rfl, h2, r2, z2⟩ := ty.lst l
      refine op_catL pins s σ H _ _ v u Q I rx ry ⟨_, _, _, _, rfl, rfl, .inl h1, .inl h2, by rw [r1.length, r2.length, ← line_eq]; exact z, fun p hp => ?_⟩
      exact k _ _ _ (New.mine l hp _) (new_lst l hp (r1.append r2) (by rw [List.length_append]; exact z))
    · obtain ⟨p, vs, rfl, g1, h1, r1, z1⟩ := tx.tup l
      obtain ⟨q, us, rfl, g2, h2, r2, z2⟩ := ty.tup l
      refine op_catA pins s σ H _ _ v u Q I rx ry ⟨_, _, _, _, rfl, rfl, .inl h1, .inl h2, by rw [r1.length, r2.length, ← line_eq]; exact z, fun e => ?_, fun _ e => ?_, fun _ _ p hp => ?_⟩
      · subst e; cases r1
        exact k _ G H (New.refl l) (.tup g2 r2 z2)
      · subst e; cases r2
        rw [List.append_nil] at k
        exact k _ G H (New.refl l) (.tup g1 r1 z1)
      · exact k _ _ _ (New.frozen l hp _) (new_tup l hp (r1.append r2) (by rw [List.length_append]; exact z))
  | sub =>
    obtain ⟨i, j, rfl, rfl, rfl⟩ := bin2_sub hf
    obtain rfl := tx.int
    obtain rfl := ty.int
    exact op_sub pins s σ H _ _ v u Q I rx ry ⟨_, _, rfl, rfl, fin _ rfl⟩
  | mul =>
    rcases bin2_mul hf with ⟨i, j, rfl, rfl, c, rfl⟩ | ⟨a, m, rfl, rfl, ⟨c1, c2, c3⟩, rfl⟩ | ⟨a, m, rfl, rfl, ⟨c0, c1, c2, c3⟩, rfl⟩
    · obtain rfl := tx.int
      obtain rfl := ty.int
      exact op_mulW pins s σ H _ _ v u Q I rx ry ⟨_, _, rfl, rfl, big_ok c, fin _ rfl⟩
    · obtain rfl := ty.int
      obtain ⟨p, vs, rfl, h1, r1, z1⟩ := tx.lst l
      have hz : (List.replicate m.toNat a).flatten.length ≤ 1000000 := by
        rw [PyProof.Rows.lm_len_rep_flat]
        exact Nat.mul_le_mul (by omega : m.toNat ≤ 1000) c1
      refine op_repL pins s σ H _ _ v u Q I rx ry ⟨_, _, _, rfl, rfl, h1, by omega, by omega, ?_, fun p hp => ?_⟩
      · rw [PyProof.Rows.lm_len_rep_flat] at hz
        rw [r1.length, Nat.mul_comm, PySem.sizeLine_eq]; omega
      · exact k _ _ _ (New.mine l hp _) (new_lst l hp (r1.rep _) (by unfold LINE; omega))
    · obtain rfl := ty.int
      obtain ⟨p, vs, rfl, g1, h1, r1, z1⟩ := tx.tup l
      have hz : (List.replicate m.toNat a).flatten.length ≤ 1000000 := by
        rw [PyProof.Rows.lm_len_rep_flat]
        exact Nat.mul_le_mul (by omega : m.toNat ≤ 1000) c1
      refine op_repT pins s σ H _ _ v u Q I rx ry ⟨_, _, _, rfl, rfl, .inl h1, ?_, c2, c3, by rw [r1.length]; exact c1, fun p hp => ?_⟩
      · intro e; subst e; cases r1; cases c0
      · exact k _ _ _ (New.frozen l hp _) (new_tup l hp (r1.rep _) (by unfold LINE; omega))
  | fdiv =>
    obtain ⟨i, j, rfl, rfl, ⟨c1, c2⟩, rfl⟩ := bin2_fdiv hf
    obtain rfl := tx.int
    obtain rfl := ty.int
    exact op_fdivW pins s σ H _ _ v u Q I rx ry ⟨_, _, rfl, rfl, big_div c1 c2, fin _ rfl⟩
  | mod =>
    obtain ⟨i, j, rfl, rfl, c1, rfl⟩ := bin2_mod hf
    obtain rfl := tx.int
    obtain rfl := ty.int
    exact op_mod pins s σ H _ _ v u Q I rx ry ⟨_, _, rfl, rfl, c1, fin _ rfl⟩
  | pow =>
    obtain ⟨i, j, rfl, rfl, ⟨c1, c2, c3⟩, rfl⟩ := bin2_pow hf
    obtain rfl := tx.int
    obtain rfl := ty.int
    exact op_pow pins s σ H _ _ v u Q I rx ry ⟨_, _, rfl, rfl, ⟨c1, by omega, c3⟩, fin _ rfl⟩
end
end RR

/-! A3: comparisons of data. -/
namespace RR
open PySem L2

mutual
/-- as the library has it -/
def toP : D → PyData
  | .non => .none
  | .bl b => .bool b
  | .int i => .int i
  | .str s => .str (toStr s)
  | .tup xs => .tuple (toPs xs)
  | .lst xs => .list (toPs xs)
  | .dct _ _ => .none
  | .clo _ _ => .none
def toPs : List D → List PyData
  | [] => []
  | x :: xs => toP x :: toPs xs
end
theorem toPs_map : ∀ xs : List D, toPs xs = xs.map toP
  | [] => rfl
  | x :: xs => by rw [toPs, toPs_map xs]; rfl

mutual
theorem eqv_toP : ∀ (n m : Nat) (x y : D), plainD n x = true → plainD m y = true → PyData.eqv (toP x) (toP y) = eqD x y
  | n, m, .non, y, h1, h2 => by cases y <;> simp_all [toP, PyData.eqv, eqD, plainD]
  | n, m, .bl a, y, h1, h2 => by cases y <;> simp_all [toP, PyData.eqv, eqD, plainD, b2i]
  | n, m, .int i, y, h1, h2 => by cases y <;> simp_all [toP, PyData.eqv, eqD, plainD, b2i]
  | n, m, .str s, y, h1, h2 => by
    cases y with
    | str t =>
      simp only [toP, PyData.eqv, eqD]
      by_cases e : s = t
      · subst e; simp
      · have : ¬ toStr s = toStr t := fun z => e (toStr_inj.mp z)
        rw [beq_eq_false_iff_ne.mpr this, beq_eq_false_iff_ne.mpr e]
    | _ => simp_all [toP, PyData.eqv, eqD, plainD]
  | n, m, .tup xs, y, h1, h2 => by
    cases y with
    | tup ys =>
      cases n with
      | zero => simp [plainD] at h1
      | succ n =>
        cases m with
        | zero => simp [plainD] at h2
        | succ m =>
          simp only [toP, PyData.eqv, eqD]
          exact eqvs_toP n m xs ys (by simpa [plainD] using h1) (by simpa [plainD] using h2)
    | _ => simp_all [toP, PyData.eqv, eqD, plainD]
  | n, m, .lst xs, y, h1, h2 => by
    cases y with
    | lst ys =>
      cases n with
      | zero => simp [plainD] at h1
      | succ n =>
        cases m with
        | zero => simp [plainD] at h2
        | succ m =>
          simp only [toP, PyData.eqv, eqD]
          exact eqvs_toP n m xs ys (by simpa [plainD] using h1) (by simpa [plainD] using h2)
    | _ => simp_all [toP, PyData.eqv, eqD, plainD]
  | n, m, .dct _ _, y, h1, h2 => by simp [plainD] at h1
  | n, m, .clo _ _, y, h1, h2 => by simp [plainD] at h1
theorem eqvs_toP : ∀ (n m : Nat) (xs ys : List D), plainDs n xs = true → plainDs m ys = true → PyData.eqvAll (toPs xs) (toPs ys) = eqDs xs ys
  | n, m, [], [], _, _ => by simp [toPs, PyData.eqvAll, eqDs]
  | n, m, [], _ :: _, _, _ => by simp [toPs, PyData.eqvAll, eqDs]
  | n, m, _ :: _, [], _, _ => by simp [toPs, PyData.eqvAll, eqDs]
  | n, m, x :: xs, y :: ys, h1, h2 => by
    simp only [plainDs, Bool.and_eq_true] at h1 h2
    simp only [toPs, PyData.eqvAll, eqDs]
    rw [eqv_toP n m x y h1.1 h2.1, eqvs_toP n m xs ys h1.2 h2.2]
end

theorem okS_strOk {s : S} (h : okS s = true) : PyData.strOk (toStr s) = true := by
  simp only [PyData.strOk, toStr, okS, List.all_eq_true, Array.all_eq_true] at *
  intro i hi
  have := h (s[i]'(by simpa using hi)) (List.getElem_mem _)
  simp at this ⊢
  omega

mutual
/-- the text's signs in it are plain -/
theorem Rep.lay {G : Hp} : ∀ {n : Nat} {v : V} {d : D}, Rep G v d → plainD n d = true → (toP d).canLay0 = true ∧ (toP d).depth ≤ n
  | _, _, _, .non, _ => ⟨by simp [toP, PyData.canLay0], by simp [toP, PyData.depth]⟩
  | _, _, _, .bl b, _ => ⟨by simp [toP, PyData.canLay0], by simp [toP, PyData.depth]⟩
  | _, _, _, .int i, _ => ⟨by simp [toP, PyData.canLay0], by simp [toP, PyData.depth]⟩
  | _, _, _, .str s h c, _ => ⟨by simp only [toP, PyData.canLay0]; exact okS_strOk c, by simp [toP, PyData.depth]⟩
  | 0, _, _, .tup h r z, p => by simp [plainD] at p
  | n + 1, _, _, .tup h r z, p => by
    obtain ⟨h1, h2⟩ := Reps.lay (n := n) r (by simpa [plainD] using p)
    exact ⟨by simpa [toP, PyData.canLay0] using h1, by simpa [toP, PyData.depth] using h2⟩
  | 0, _, _, .lst h r z, p => by simp [plainD] at p
  | n + 1, _, _, .lst h r z, p => by
    obtain ⟨h1, h2⟩ := Reps.lay (n := n) r (by simpa [plainD] using p)
    exact ⟨by simpa [toP, PyData.canLay0] using h1, by simpa [toP, PyData.depth] using h2⟩
  | _, _, _, .dct0 h r k z, p => by simp [plainD] at p
  | _, _, _, .dct1 h r k z, p => by simp [plainD] at p
theorem Reps.lay {G : Hp} : ∀ {n : Nat} {vs : List V} {ds : List D}, Reps G vs ds → plainDs n ds = true → PyData.canLayAll0 (toPs ds) = true ∧ PyData.depthAll (toPs ds) ≤ n
  | _, _, _, .nil, _ => ⟨by simp [toPs, PyData.canLayAll0], by simp [toPs, PyData.depthAll]⟩
  | n, _, _, .cons h r, p => by
    simp only [plainDs, Bool.and_eq_true] at p
    obtain ⟨h1, h2⟩ := Rep.lay h p.1
    obtain ⟨h3, h4⟩ := Reps.lay r p.2
    exact ⟨by simp [toPs, PyData.canLayAll0, h1, h3], by simp only [toPs, PyData.depthAll]; exact Nat.max_le.mpr ⟨h2, h4⟩⟩
end

section
variable {K : PySem.W.Frag} {G H : Hp}
mutual
theorem Rep.dp (l : Le G H) : ∀ {n : Nat} {v : V} {d : D}, Rep G v d → plainD n d = true → Dp K H v (toP d)
  | _, _, _, .non, _ => by rw [toP]; exact .non
  | _, _, _, .bl b, _ => by rw [toP]; exact .bl b
  | _, _, _, .int i, _ => by rw [toP]; exact .int i
  | _, _, _, .str s h c, _ => by rw [toP]; exact .str _
  | 0, _, _, .tup h r z, p => by simp [plainD] at p
  | n + 1, _, _, .tup h r z, p => by rw [toP]; exact .tup (.inl (l _ _ h).1) (Reps.dp l r (n := n) (by simpa [plainD] using p))
  | 0, _, _, .lst h r z, p => by simp [plainD] at p
  | n + 1, _, _, .lst h r z, p => by rw [toP]; exact .lst (.inl (l _ _ h).1) (Reps.dp l r (n := n) (by simpa [plainD] using p))
  | _, _, _, .dct0 h r k z, p => by simp [plainD] at p
  | _, _, _, .dct1 h r k z, p => by simp [plainD] at p
theorem Reps.dp (l : Le G H) : ∀ {n : Nat} {vs : List V} {ds : List D}, Reps G vs ds → plainDs n ds = true → DpAll K H vs (toPs ds)
  | _, _, _, .nil, _ => by rw [toPs]; exact .nil
  | n, _, _, .cons h r, p => by
    simp only [plainDs, Bool.and_eq_true] at p
    rw [toPs]
    exact .cons (Rep.dp l h p.1) (Reps.dp l r p.2)
end
theorem Top.dp (l : Le G H) {n : Nat} {v : V} {d : D} (t : Top G H v d) (p : plainD n d = true) : Dp K H v (toP d) := by
  cases t with
  | rep r => exact r.dp l p
  | own o =>
    cases o with
    | lst h r z =>
      cases n with
      | zero => simp [plainD] at p
      | succ n => rw [toP]; exact .lst (.inl (.inl h)) (Reps.dp l r (n := n) (by simpa [plainD] using p))
    | dct0 h r k z => simp [plainD] at p
    | dct1 h r k z => simp [plainD] at p
theorem Top.shaped {n : Nat} (hn : n ≤ 64) {v : V} {d : D} (t : Top G H v d) (p : plainD n d = true) : SeqAt.shaped (toP d) = true := by
  have fin : (toP d).canLay0 = true ∧ (toP d).depth ≤ n → SeqAt.shaped (toP d) = true := fun ⟨h1, h2⟩ => by
    rw [SeqAt.shaped, h1, decide_eq_true (by omega)]; rfl
  apply fin
  cases t with
  | rep r => exact r.lay p
  | own o =>
    cases o with
    | lst h r z =>
      cases n with
      | zero => simp [plainD] at p
      | succ n =>
        obtain ⟨h1, h2⟩ := Reps.lay (n := n) r (by simpa [plainD] using p)
        exact ⟨by simpa [toP, PyData.canLay0] using h1, by simpa [toP, PyData.depth] using h2⟩
    | dct0 h r k z => simp [plainD] at p
    | dct1 h r k z => simp [plainD] at p
end

theorem plain2_iff {a b : D} : plain2 a b = true ↔ plainD deep a = true ∧ plainD deep b = true := by simp [plain2]

section
variable {X : Cx}
theorem op_eqq (hu : X.A.units + 64 < cLine) : OpR X (compareOp .Eq) (rB fun a b => (cmp2 .eq a b).map blv) := by
  intro pins s σ H x y v u Q I rx ry h
  obtain ⟨G, d, e, o, l, tx, ty, hf, k⟩ := h
  simp only [cmp2] at hf
  split at hf
  · rename_i hp
    obtain ⟨p1, p2⟩ := plain2_iff.mp hp
    cases hf
    refine op_eqD hu pins s σ H x y v u Q I rx ry ⟨_, _, tx.dp l p1, ty.dp l p2, tx.shaped (by decide) p1, ty.shaped (by decide) p2, ?_⟩
    rw [eqv_toP _ _ _ _ p1 p2]
    exact k _ G H (New.refl l) (.bl _)
  · cases hf
theorem op_nee (hu : X.A.units + 64 < cLine) : OpR X (compareOp .NotEq) (rB fun a b => (cmp2 .ne a b).map blv) := by
  intro pins s σ H x y v u Q I rx ry h
  obtain ⟨G, d, e, o, l, tx, ty, hf, k⟩ := h
  simp only [cmp2] at hf
  split at hf
  · rename_i hp
    obtain ⟨p1, p2⟩ := plain2_iff.mp hp
    cases hf
    refine op_neD hu pins s σ H x y v u Q I rx ry ⟨_, _, tx.dp l p1, ty.dp l p2, tx.shaped (by decide) p1, ty.shaped (by decide) p2, ?_⟩
    rw [eqv_toP _ _ _ _ p1 p2]
    exact k _ G H (New.refl l) (.bl _)
  · cases hf
end
end RR

/-! A4: what dicts hold. -/
namespace RR
open PySem L2

theorem key0_of {d : D} (h : key0 d = true) : ∃ k, keyOf d = some k := by
  cases d <;> simp_all [key0, keyOf]
theorem keyOf_key0 {d : D} {k : Key} (h : keyOf d = some k) : key0 d = true := by
  cases d <;> simp_all [key0, keyOf]
theorem eqD_key0 {d e : D} {k j : Key} (h1 : keyOf d = some k) (h2 : keyOf e = some j) : eqD d e = decide (k = j) := by
  cases d <;> simp [keyOf] at h1
  · cases e <;> simp [keyOf] at h2
    · subst h1 h2
      rw [key_ll]; simp [eqD]
    · subst h1 h2
      rw [key_lr]; simp [eqD]
  · cases e <;> simp [keyOf] at h2
    · subst h1 h2
      rw [key_rl]; simp [eqD]
    · subst h1 h2
      rw [key_rr]
      simp only [eqD, toStr_inj]
      rename_i s t
      by_cases e : s = t
      · subst e; simp
      · rw [decide_eq_false e]; exact beq_eq_false_iff_ne.mpr e
theorem keysOf_len : ∀ {ds : List D} {ks : List Key}, keysOf ds = some ks → ds.length = ks.length
  | [], ks, h => by simp [keysOf] at h; subst h; rfl
  | d :: ds, ks, h => by
    simp only [keysOf] at h
    cases e : keyOf d with
    | none => rw [e] at h; cases h
    | some k =>
      rw [e] at h
      cases e2 : keysOf ds with
      | none => rw [e2] at h; cases h
      | some r =>
        rw [e2] at h
        cases h
        simp [keysOf_len e2]
theorem keysOf_of : ∀ {ds : List D}, ds.all key0 = true → ∃ ks, keysOf ds = some ks
  | [], _ => ⟨[], rfl⟩
  | d :: ds, h => by
    rw [List.all_cons, Bool.and_eq_true] at h
    obtain ⟨k, hk⟩ := key0_of h.1
    obtain ⟨ks, hks⟩ := keysOf_of h.2
    exact ⟨k :: ks, by simp [keysOf, hk, hks]⟩
theorem keysOf_cons {d : D} {ds : List D} {ks : List Key} (h : keysOf (d :: ds) = some ks) : ∃ k r, keyOf d = some k ∧ keysOf ds = some r ∧ ks = k :: r := by
  simp only [keysOf] at h
  cases e : keyOf d with
  | none => rw [e] at h; cases h
  | some k =>
    rw [e] at h
    cases e2 : keysOf ds with
    | none => rw [e2] at h; cases h
    | some r =>
      rw [e2] at h
      cases h
      exact ⟨k, r, rfl, rfl, rfl⟩
theorem eqDs_keys : ∀ {ds es : List D} {ks js : List Key}, keysOf ds = some ks → keysOf es = some js → eqDs ds es = decide (ks = js)
  | [], [], ks, js, h1, h2 => by simp [keysOf] at h1 h2; subst h1 h2; simp [eqDs]
  | [], e :: es, ks, js, h1, h2 => by
    obtain ⟨k, r, _, _, rfl⟩ := keysOf_cons h2
    simp [keysOf] at h1; subst h1; simp [eqDs]
  | d :: ds, [], ks, js, h1, h2 => by
    obtain ⟨k, r, _, _, rfl⟩ := keysOf_cons h1
    simp [keysOf] at h2; subst h2; simp [eqDs]
  | d :: ds, e :: es, ks, js, h1, h2 => by
    obtain ⟨k, r, a1, a2, rfl⟩ := keysOf_cons h1
    obtain ⟨j, t, b1, b2, rfl⟩ := keysOf_cons h2
    simp only [eqDs]
    rw [eqD_key0 a1 b1, eqDs_keys a2 b2]
    by_cases e1 : k = j
    · subst e1
      by_cases e2 : r = t
      · subst e2; simp
      · simp [e2]
    · simp [e1]
theorem eqD_keyT {d e : D} {k j : List Key} (h1 : keyOfT d = some k) (h2 : keyOfT e = some j) : eqD d e = decide (k = j) := by
  cases d <;> simp [keyOfT] at h1
  cases e <;> simp [keyOfT] at h2
  rw [eqD]; exact eqDs_keys h1 h2
theorem keyK1_of {d : D} (h : keyK 1 d = true) : ∃ k, keyOfT d = some k := by
  cases d <;> simp [keyK] at h
  exact keysOf_of (by simpa using h)

/-- what is known of a value that is a key -/
theorem Rep.key {G : Hp} {v : V} {d : D} {k : Key} (r : Rep G v d) (h : keyOf d = some k) : v = kV k := by
  cases d <;> simp [keyOf] at h
  · subst h; cases r; rfl
  · subst h; cases r; rfl
theorem Reps.keys {G : Hp} : ∀ {vs : List V} {ds : List D} {ks : List Key}, Reps G vs ds → keysOf ds = some ks → vs = ks.map kV
  | _, _, ks, .nil, h => by simp [keysOf] at h; subst h; rfl
  | _, _, ks, .cons r rs, h => by
    obtain ⟨k, r', a, b, rfl⟩ := keysOf_cons h
    rw [r.key a, Reps.keys rs b]; rfl
theorem Rep.keyT {G : Hp} {v : V} {d : D} {k : List Key} (r : Rep G v d) (h : keyOfT d = some k) : ∃ b, v = .ref b ∧ G b = some (.tup (k.map kV)) := by
  cases d <;> simp [keyOfT] at h
  cases r with
  | tup g rs z =>
    rw [rs.keys h] at g
    exact ⟨_, rfl, g⟩

/-! ### tables -/
section
variable {κ : Type} [DecidableEq κ]
theorem dget_val {G : Hp} {kf : D → Option κ} (he : ∀ {d e : D} {k j : κ}, kf d = some k → kf e = some j → eqD d e = decide (k = j)) {d : D} {k : κ} (hd : kf d = some k) :
    ∀ {ks : List κ} {us : List V} {kvs : List (D × D)}, Reps G us (kvs.map (·.2)) → kvs.map (fun p => kf p.1) = ks.map some →
      (∀ e, dget kvs d = some e → ∃ u, valV (ks.zip us) k = some u ∧ Rep G u e) ∧ (dget kvs d = none → valV (ks.zip us) k = none)
  | [], us, kvs, r, h => by
    cases kvs with
    | nil => simp [dget, valV]
    | cons p q => simp at h
  | k' :: ks, us, kvs, r, h => by
    cases kvs with
    | nil => simp at h
    | cons p q =>
      cases r with
      | @cons u us' _ _ ru rs =>
        simp only [List.map_cons, List.cons.injEq] at h
        obtain ⟨ih1, ih2⟩ := dget_val he hd (ks := ks) (us := us') (kvs := q) rs h.2
        have e1 : eqD p.1 d = decide (k' = k) := he h.1 hd
        rw [List.zip_cons_cons]
        by_cases e : k' = k
        · subst e
          rw [valV_pos rfl]
          have : dget (p :: q) d = some p.2 := by simp [dget, List.find?_cons, e1]
          rw [this]
          exact ⟨fun e h => by cases h; exact ⟨u, rfl, ru⟩, fun h => by cases h⟩
        · rw [valV_neg e]
          have : dget (p :: q) d = dget q d := by simp [dget, List.find?_cons, e1, e]
          rw [this]
          exact ⟨ih1, ih2⟩
theorem dhas_dget (kvs : List (D × D)) (d : D) : dhas kvs d = (dget kvs d).isSome := by
  induction kvs with
  | nil => rfl
  | cons p q ih =>
    simp only [dhas, dget, List.any_cons, List.find?_cons] at *
    cases e : eqD p.1 d <;> simp [e, ih]
theorem putK_zip {G : Hp} {kf : D → Option κ} (he : ∀ {d e : D} {k j : κ}, kf d = some k → kf e = some j → eqD d e = decide (k = j)) {d e : D} {k : κ} {u : V} (hd : kf d = some k) (ru : Rep G u e)
    {ks : List κ} {us : List V} {kvs : List (D × D)} (r : Reps G us (kvs.map (·.2))) (h : kvs.map (fun p => kf p.1) = ks.map some) :
    ∃ (ks' : List κ) (us' : List V), putK (ks.zip us) k u = ks'.zip us' ∧ Reps G us' ((dput kvs d e).map (·.2)) ∧ (dput kvs d e).map (fun p => kf p.1) = ks'.map some := by
  have hl : us.length = ks.length := by
    have := r.length
    have h2 := congrArg List.length h
    simp at this h2; omega
  obtain ⟨g1, g2⟩ := dget_val (G := G) he hd r h
  unfold dput putK
  rw [dhas_dget, valV_any]
  cases q : dget kvs d with
  | none =>
    rw [g2 q]
    simp only [Option.isSome_none, Bool.false_eq_true, if_false]
    refine ⟨ks ++ [k], us ++ [u], ?_, ?_, ?_⟩
    · rw [List.zip_append hl.symm]; rfl
    · rw [List.map_append]; exact Reps.append r (.cons ru .nil)
    · rw [List.map_append, List.map_append, h]; simp [hd]
  | some e0 =>
    obtain ⟨u0, hu0, _⟩ := g1 e0 q
    rw [hu0]
    simp only [Option.isSome_some, if_true]
    -- replaced in its place
    have go : ∀ {ks : List κ} {us : List V} {kvs : List (D × D)}, Reps G us (kvs.map (·.2)) → kvs.map (fun p => kf p.1) = ks.map some →
        ∃ us', (ks.zip us).map (fun kv => if kv.1 = k then (kv.1, u) else kv) = ks.zip us' ∧ Reps G us' ((kvs.map fun kv => if eqD kv.1 d = true then (kv.1, e) else kv).map (·.2)) ∧ (kvs.map fun kv => if eqD kv.1 d = true then (kv.1, e) else kv).map (fun p => kf p.1) = ks.map some := by
      intro ks
      induction ks with
      | nil =>
        intro us kvs r h
        cases kvs with
        | nil => cases r; exact ⟨[], rfl, .nil, rfl⟩
        | cons p q => simp at h
      | cons k' ks ih =>
        intro us kvs r h
        cases kvs with
        | nil => simp at h
        | cons p q =>
          cases r with
          | @cons u1 us1 _ _ ru1 rs =>
            simp only [List.map_cons, List.cons.injEq] at h
            obtain ⟨us', a1, a2, a3⟩ := ih rs h.2
            have e1 : eqD p.1 d = decide (k' = k) := he h.1 hd
            by_cases ek : k' = k
            · refine ⟨u :: us', ?_, ?_, ?_⟩
              · simp only [List.zip_cons_cons, List.map_cons, if_pos ek, a1]
              · simp only [List.map_cons, e1, ek, decide_true, if_true]
                exact .cons ru a2
              · simp only [List.map_cons, e1, ek, decide_true, if_true, a3]
                rw [h.1, ek]
            · refine ⟨u1 :: us', ?_, ?_, ?_⟩
              · simp only [List.zip_cons_cons, List.map_cons, if_neg ek, a1]
              · simp only [List.map_cons, e1, decide_eq_false ek, Bool.false_eq_true, if_false]
                exact .cons ru1 a2
              · simp only [List.map_cons, e1, decide_eq_false ek, Bool.false_eq_true, if_false, a3]
                rw [h.1]
    obtain ⟨us', a1, a2, a3⟩ := go r h
    exact ⟨ks, us', a1, a2, a3⟩
end
theorem dput_len (kvs : List (D × D)) (k v : D) : (dput kvs k v).length ≤ kvs.length + 1 := by
  unfold dput; split <;> simp

/-- what a dict holds at a key -/
theorem Top.dget {G H : Hp} {x y : V} {n : Nat} {kvs : List (D × D)} {k : D} (l : Le G H) (tx : Top G H x (.dct n kvs)) (ty : Top G H y k) (hk : keyK n k = true) :
    ∃ a r, x = .ref a ∧ DGet H a y r ∧ (∀ e, RR.dget kvs k = some e → ∃ u, r = some u ∧ Rep G u e) ∧ (RR.dget kvs k = none → r = none) := by
  rcases tx.dctK with rfl | rfl
  · obtain ⟨a, ks, us, rfl, h, r, hm, z⟩ := tx.dct0 l
    obtain ⟨key, hkey⟩ := key0_of (show key0 k = true by simpa [keyK] using hk)
    have hy : y = kV key := by
      cases ty with
      | rep ry => exact ry.key hkey
      | own o => cases o <;> simp [keyOf] at hkey
    obtain ⟨g1, g2⟩ := dget_val (kf := keyOf) (G := G) eqD_key0 hkey r hm
    exact ⟨a, valV (ks.zip us) key, rfl, .inl ⟨_, key, h, hy, rfl⟩, g1, g2⟩
  · obtain ⟨a, ks, us, rfl, h, r, hm, z⟩ := tx.dct1 l
    obtain ⟨key, hkey⟩ := keyK1_of hk
    have hy : ∃ b, y = .ref b ∧ G b = some (.tup (key.map kV)) := by
      cases ty with
      | rep ry => exact ry.keyT hkey
      | own o => cases o <;> simp [keyOfT] at hkey
    obtain ⟨b, rfl, hb⟩ := hy
    have hb' : H b = some (.tup (key.map kV)) := (l b _ hb).2 _ rfl
    obtain ⟨g1, g2⟩ := dget_val (kf := keyOfT) (G := G) eqD_keyT hkey r hm
    exact ⟨a, valV (ks.zip us) key, rfl, .inr ⟨_, key, b, h, rfl, hb', rfl⟩, g1, g2⟩
end RR

/-! A5: items, slices, membership, built-in calls over data. -/
namespace RR
open PySem L2

section
variable {X : Cx}
/-! ### is -/
theorem isD_non {x : D} {b : Bool} (h : isD x .non = some b) {G H : Hp} {v : V} (t : Top G H v x) : b = decide (v = .non) := by
  simp only [isD] at h
  cases x with
  | non => cases h; rw [t.non]; rfl
  | _ =>
    cases h
    refine (decide_eq_false fun e => ?_).symm
    subst e
    cases t with
    | rep r => cases r
theorem isD_bl {x : D} {c b : Bool} (h : isD x (.bl c) = some b) : ∃ a, x = .bl a ∧ b = (a == c) := by
  cases x <;> simp [isD] at h
  exact ⟨_, rfl, h.symm⟩
end

/-! ### items -/
theorem ixN_eq (n : Nat) (i : Int) : ixN n i = ix n i := rfl
theorem Reps.at {G : Hp} {vs : List V} {ds : List D} {i : Int} {d : D} (r : Reps G vs ds) (h : ((ix ds.length i).bind fun j => ds[j]?) = some d) : ∃ v, atI vs i = some v ∧ Rep G v d := by
  obtain ⟨j, h1, h2⟩ := Option.bind_eq_some_iff.mp h
  obtain ⟨v, hv, rv⟩ := r.get h2
  exact ⟨v, by rw [atI, r.length, ixN_eq, h1]; exact hv, rv⟩
section
variable {X : Cx}
theorem ix_sub (hu : X.A.units + 1 < cLine) : IxR X (rB fun a b => (sub2 a b).map .val) := by
  intro value slice pins s σ H x y v u Q I rx ry h hs
  obtain ⟨G, d, e, o, l, tx, ty, hf, k⟩ := h
  obtain ⟨z, hz, rfl⟩ := Option.map_eq_some_iff.mp hf
  unfold sub2 at hz
  split at hz
  · obtain rfl := ty.int
    obtain ⟨a, vs, rfl, g, h1, r, z1⟩ := tx.tup l
    obtain ⟨w, hw, rw'⟩ := r.at hz
    exact ix_tup value slice pins s σ H _ _ v u Q I rx ry ⟨_, _, _, _, rfl, rfl, .inl h1, hw, k _ G H (New.refl l) rw'⟩ hs
  · obtain rfl := ty.int
    obtain ⟨a, vs, rfl, h1, r, z1⟩ := tx.lst l
    obtain ⟨w, hw, rw'⟩ := r.at hz
    exact ix_list value slice pins s σ H _ _ v u Q I rx ry ⟨_, _, _, _, rfl, rfl, .inl h1, hw, k _ G H (New.refl l) rw'⟩ hs
  · rename_i xs i
    obtain rfl := ty.int
    obtain ⟨rfl, z1, c1⟩ := tx.str
    obtain ⟨j, h1, h2⟩ := Option.bind_eq_some_iff.mp hz
    obtain ⟨c, h3, rfl⟩ := Option.map_eq_some_iff.mp h2
    refine ix_str value slice pins s σ H _ _ v u Q I rx ry ⟨_, _, c, rfl, rfl, ?_, ?_, ?_⟩ hs
    · rw [toStr_len, ← line_eq]; exact z1
    · rw [toStr_list, atI, ixN_eq, h1]; exact h3
    · refine k _ G H (New.refl l) (show Rep G (.str (toStr [c])) (.str [c]) from .str [c] (by simp [LINE]) ?_)
      have := List.all_eq_true.mp c1 c (List.mem_of_getElem? h3)
      simp [okS] at this ⊢; exact this
  · split at hz
    · rename_i hk
      obtain ⟨a, r, rfl, g, g1, g2⟩ := Top.dget l tx ty hk
      obtain ⟨w, rfl, rw'⟩ := g1 _ hz
      obtain rfl : v = Value.ref a := rx
      refine PyProof.Rows.tail_any (ops := [.ref a, u]) (dict_typeIs I g) PySem.F.slot_dict_getitem.lookup (d_getItem hu I g ry fun w' s3 I3 rw'' => ⟨w, H, I3, rw'', k _ G H (New.refl l) rw'⟩) hs
    · cases hz
  · cases hz
end
end RR

/-! A6: built-in calls over data. -/
namespace RR
open PySem L2

theorem Tops.one {G H : Hp} {xs : List V} {d : D} (t : Tops G H xs [d]) : ∃ x, xs = [x] ∧ Top G H x d := by
  cases t with
  | cons h r => cases r; exact ⟨_, rfl, h⟩
theorem Tops.two {G H : Hp} {xs : List V} {d e : D} (t : Tops G H xs [d, e]) : ∃ x y, xs = [x, y] ∧ Top G H x d ∧ Top G H y e := by
  cases t with
  | cons h r => cases r with | cons h2 r => cases r; exact ⟨_, _, rfl, h, h2⟩
theorem biD_one {f : Bi} {ds : List D} {o : Opd} (h : biD f ds = some o) (g : ∀ a b, bi2 f a b = none) (g3 : ∀ a b c, biD f [a, b, c] = none) : ∃ a, ds = [a] ∧ bi1 f a = some o := by
  match ds, h with
  | [a], h => exact ⟨a, rfl, h⟩
  | [a, b], h => rw [biD, g] at h; cases h
  | [a, b, c], h => rw [g3] at h; cases h
theorem biD_two {f : Bi} {ds : List D} {o : Opd} (h : biD f ds = some o) (g : ∀ a, bi1 f a = none) (g3 : ∀ a b c, biD f [a, b, c] = none) : ∃ a b, ds = [a, b] ∧ bi2 f a b = some o := by
  match ds, h with
  | [a], h => rw [biD, g] at h; cases h
  | [a, b], h => exact ⟨a, b, rfl, h⟩
  | [a, b, c], h => rw [g3] at h; cases h

theorem dct_len {G : Hp} {κ : Type} {ks : List κ} {us : List V} {kvs : List (D × D)} {f : D → Option κ} (r : Reps G us (kvs.map (·.2))) (h : kvs.map (fun p => f p.1) = ks.map some) : (ks.zip us).length = kvs.length := by
  have h1 := r.length
  have h2 := congrArg List.length h
  simp at h1 h2 ⊢
  omega

section
variable {X : Cx}
theorem call_len_dK {X : Cx} : CallR X (.builtin "len") (fun xs H Q => ∃ (p : Addr) (kvs : List (Key × V)), xs = [.ref p] ∧ Rd H p (.dK kvs) ∧ Q (.int ((kvs.length : Nat) : Int)) H) := by
  intro pins s σ H xs us Q I r h
  obtain ⟨p, kvs, rfl, hp, q⟩ := h
  obtain ⟨u, rfl, rx⟩ := vals1 r
  obtain rfl : u = .ref p := rx
  obtain ⟨z, hd, ys, rel, dd⟩ := dk_rd I.hok hp
  have hl : kvs.length = ys.length := Paired.length rel
  refine PySem.call_len_dict hd dd (by rw [← hl]; rw [PySem.sizeLine_eq] at z; omega) ?_
  rw [← hl]
  exact ⟨.int ((kvs.length : Nat) : Int), H, I.tok _, ⟨_, rfl⟩, q⟩
theorem call_len_dT' {X : Cx} : CallR X (.builtin "len") (fun xs H Q => ∃ (p : Addr) (kvs : List (List Key × V)), xs = [.ref p] ∧ Rd H p (.dT kvs) ∧ Q (.int ((kvs.length : Nat) : Int)) H) := by
  intro pins s σ H xs us Q I r h
  obtain ⟨p, kvs, rfl, hp, q⟩ := h
  obtain ⟨u, rfl, rx⟩ := vals1 r
  obtain rfl : u = .ref p := rx
  obtain ⟨z, hd, ys, rel, dd⟩ := dt_rd I.hok hp
  have hl : kvs.length = ys.length := Paired.length rel
  refine PySem.call_len_dictH hd dd (by rw [← hl]; rw [PySem.sizeLine_eq] at z; omega) ?_
  rw [← hl]
  exact ⟨.int ((kvs.length : Nat) : Int), H, I.tok _, ⟨_, rfl⟩, q⟩
theorem c_len : CallR X (.builtin "len") (rC (biD .len)) := by
  intro pins s σ H xs us Q I r h
  obtain ⟨G, ds, o, l, ts, hf, k⟩ := h
  obtain ⟨a, rfl, hf2⟩ := biD_one hf (by intros; rfl) (by intros; rfl)
  clear hf
  have hf := hf2
  obtain ⟨x, rfl, t⟩ := ts.one
  have fin : ∀ (n : Nat), o = intv n → Q (.int (n : Int)) H := fun n e => by subst e; exact k _ G H (New.refl l) (.int _)
  unfold bi1 at hf
  dsimp only at hf
  split at hf
  · cases hf
    obtain ⟨p, vs, rfl, h1, r1, z⟩ := t.lst l
    refine call_len pins s σ H _ us Q I r ⟨_, vs.length, rfl, .inl ⟨vs, .inl h1, rfl⟩, ?_⟩
    rw [r1.length]; exact fin _ rfl
  · cases hf
    obtain ⟨p, vs, rfl, g1, h1, r1, z⟩ := t.tup l
    refine call_len pins s σ H _ us Q I r ⟨_, vs.length, rfl, .inr ⟨vs, .inl h1, rfl⟩, ?_⟩
    rw [r1.length]; exact fin _ rfl
  · cases hf
    obtain ⟨rfl, z, c⟩ := t.str
    refine call_len pins s σ H _ us Q I r ⟨_, (toStr _).length, rfl, ⟨by rw [toStr_len, ← line_eq]; exact z, rfl⟩, ?_⟩
    rw [toStr_len]; exact fin _ rfl
  · rename_i n kvs
    cases hf
    rcases t.dctK with rfl | rfl
    · obtain ⟨p, ks, us', rfl, h1, r1, hm, z⟩ := t.dct0 l
      refine call_len_dK pins s σ H _ us Q I r ⟨_, _, rfl, h1, ?_⟩
      rw [dct_len r1 hm]; exact fin _ rfl
    · obtain ⟨p, ks, us', rfl, h1, r1, hm, z⟩ := t.dct1 l
      refine call_len_dT' pins s σ H _ us Q I r ⟨_, _, rfl, h1, ?_⟩
      rw [dct_len r1 hm]; exact fin _ rfl
  · cases hf

/-- list(d) of int and text keys: the keys -/
theorem keys_reps {G : Hp} : ∀ {ks : List Key} {kvs : List (D × D)}, kvs.map (fun p => keyOf p.1) = ks.map some → (∀ p ∈ kvs, ∀ s, p.1 = .str s → s.length ≤ LINE ∧ okS s = true) → Reps G (ks.map kV) (kvs.map (·.1))
  | [], kvs, h, _ => by cases kvs with | nil => exact .nil | cons p q => simp at h
  | k :: ks, kvs, h, hs => by
    cases kvs with
    | nil => simp at h
    | cons p q =>
      simp only [List.map_cons, List.cons.injEq] at h
      refine .cons ?_ (keys_reps h.2 fun p' hp => hs p' (List.mem_cons_of_mem _ hp))
      have h1 := h.1
      cases e : p.1 with
      | int i => rw [e] at h1; simp [keyOf] at h1; subst h1; show Rep G _ p.1; rw [e]; exact .int i
      | str s => rw [e] at h1; simp [keyOf] at h1; subst h1; obtain ⟨a, b⟩ := hs p (List.mem_cons_self ..) s e; show Rep G _ p.1; rw [e]; exact .str s a b
      | _ => rw [e] at h1; simp [keyOf] at h1

/-! ### list, tuple -/
theorem c_list (hc : X.calm = true) : CallR X (.type "list") (rC (biD .list)) := by
  intro pins s σ H xs us Q I r h
  obtain ⟨G, ds, o, l, ts, hf, k⟩ := h
  obtain ⟨a, rfl, hf2⟩ := biD_one hf (by intros; rfl) (by intros; rfl)
  clear hf
  have hf := hf2
  obtain ⟨x, rfl, t⟩ := ts.one
  unfold bi1 at hf
  dsimp only at hf
  split at hf
  · cases hf
    obtain ⟨p, vs, rfl, h1, r1, z⟩ := t.lst l
    exact call_list_of pins s σ H _ us Q I r ⟨_, _, rfl, .inl (.inl h1), fun q hq => k _ _ _ (New.mine l hq _) (new_lst l hq r1 z)⟩
  · cases hf
    obtain ⟨p, vs, rfl, g1, h1, r1, z⟩ := t.tup l
    exact call_list_of pins s σ H _ us Q I r ⟨_, _, rfl, .inr (.inl h1), fun q hq => k _ _ _ (New.mine l hq _) (new_lst l hq r1 z)⟩
  · cases hf
theorem c_tuple : CallR X (.type "tuple") (rC (biD .tuple)) := by
  intro pins s σ H xs us Q I r h
  obtain ⟨G, ds, o, l, ts, hf, k⟩ := h
  obtain ⟨a, rfl, hf2⟩ := biD_one hf (by intros; rfl) (by intros; rfl)
  clear hf
  have hf := hf2
  obtain ⟨x, rfl, t⟩ := ts.one
  unfold bi1 at hf
  dsimp only at hf
  obtain ⟨ys, hy, rfl⟩ := Option.map_eq_some_iff.mp hf
  unfold seqOf at hy
  split at hy
  · cases hy
    obtain ⟨p, vs, rfl, h1, r1, z⟩ := t.lst l
    exact call_tuple_of pins s σ H _ us Q I r ⟨_, _, rfl, .inl ⟨.inl h1, fun q hq => k _ _ _ (New.frozen l hq _) (new_tup l hq r1 z)⟩⟩
  · cases hy
    obtain ⟨p, vs, rfl, g1, h1, r1, z⟩ := t.tup l
    exact call_tuple_of pins s σ H _ us Q I r ⟨_, _, rfl, .inr ⟨.inl h1, k _ G H (New.refl l) (.tup g1 r1 z)⟩⟩
  · cases hy

/-! ### isinstance -/
def tyName : Nat → String
  | 0 => "NoneType" | 1 => "bool" | 2 => "int" | 3 => "str" | 4 => "tuple" | _ => "list"
theorem Top.ty {K : PySem.W.Frag} {G H : Hp} {v : V} {d : D} {n : Nat} (t : Top G H v d) (l : Le G H) (h : kindD d = some n) : TyX K H v (.type (tyName n)) := by
  cases d <;> simp [kindD] at h <;> subst h
  · rw [t.non]; exact .base .non
  · rw [t.bl]; exact .base (.bl _)
  · rw [t.int]; exact .base (.int _)
  · obtain ⟨rfl, _⟩ := t.str; exact .base (.str _)
  · obtain ⟨a, vs, rfl, g, h1, _⟩ := t.tup l
    rcases h1 with h1 | ⟨o, h1⟩
    · exact .base (.tup h1)
    · exact .fTuple h1
  · obtain ⟨a, vs, rfl, h1, _⟩ := t.lst l
    rcases h1 with h1 | ⟨o, h1⟩
    · exact .base (.lst h1)
    · exact .base (.frz h1)
theorem kindD_lt {d : D} {n : Nat} (h : kindD d = some n) : n < 6 := by cases d <;> simp [kindD] at h <;> omega
/-- isinstance(x, T) for a built-in type T -/
def isaOf : Bi → String
  | .isint => "int" | .isbool => "bool" | .isstr => "str" | .istuple => "tuple" | _ => "list"
def isaB : Bi → Nat → Bool
  | .isint, k => k == 1 || k == 2
  | .isbool, k => k == 1
  | .isstr, k => k == 3
  | .istuple, k => k == 4
  | _, k => k == 5
theorem kit_all (f : Bi) (n : Nat) (hn : n < 6) : kitB (tyName n) (isaOf f) = some (isaB f n) := by
  have h : ∀ n < 6, kitB (tyName n) "int" = some (n == 1 || n == 2) ∧ kitB (tyName n) "bool" = some (n == 1) ∧ kitB (tyName n) "str" = some (n == 3) ∧ kitB (tyName n) "tuple" = some (n == 4) ∧ kitB (tyName n) "list" = some (n == 5) := by decide +kernel
  obtain ⟨h1, h2, h3, h4, h5⟩ := h n hn
  cases f <;> first | exact h1 | exact h2 | exact h3 | exact h4 | exact h5
def rIsa (f : Bi) : List V → Hp → VK → Prop := fun xs H Q => ∃ G d n x, Le G H ∧ xs = [x, .ty (isaOf f)] ∧ Top G H x d ∧ kindD d = some n ∧ Q (.bl (isaB f n)) H
theorem c_isa (f : Bi) : CallR X (.builtin "isinstance") (rIsa f) := by
  intro pins s σ H xs us Q I r h
  obtain ⟨G, d, n, x, l, rfl, t, hn, q⟩ := h
  exact call_isi pins s σ H _ us Q I r ⟨x, _, _, _, _, rfl, .ty _, t.ty l hn, kit_ty (kit_all f n (kindD_lt hn)), q⟩

/-! ### all, any -/
theorem Reps.bools {G : Hp} : ∀ {vs : List V} {ds : List D} {bs : List Bool}, Reps G vs ds → boolsOf ds = some bs → vs = bs.map V.bl
  | _, _, bs, .nil, h => by simp [boolsOf] at h; subst h; rfl
  | _, _, bs, .cons (d := d) r rs, h => by
    cases d <;> simp [boolsOf] at h
    obtain ⟨b', h1, rfl⟩ := h
    cases r
    rw [Reps.bools rs h1]; rfl
theorem c_all (hc : X.calm = true) : CallR X (.builtin "all") (fun xs H Q => ∃ G ds bs x, Le G H ∧ xs = [x] ∧ Top G H x (.lst ds) ∧ boolsOf ds = some bs ∧ Q (.bl (bs.all id)) H) := by
  intro pins s σ H xs us Q I r h
  obtain ⟨G, ds, bs, x, l, rfl, t, hb, q⟩ := h
  obtain ⟨p, vs, rfl, h1, r1, z⟩ := t.lst l
  refine cr_all hc pins s σ H _ us Q I r ⟨p, bs, rfl, ?_, q⟩
  rw [← r1.bools hb]; exact .inl h1
theorem c_any (hc : X.calm = true) : CallR X (.builtin "any") (fun xs H Q => ∃ G ds bs x, Le G H ∧ xs = [x] ∧ Top G H x (.lst ds) ∧ boolsOf ds = some bs ∧ Q (.bl (bs.any id)) H) := by
  intro pins s σ H xs us Q I r h
  obtain ⟨G, ds, bs, x, l, rfl, t, hb, q⟩ := h
  obtain ⟨p, vs, rfl, h1, r1, z⟩ := t.lst l
  refine cr_any hc pins s σ H _ us Q I r ⟨p, bs, rfl, ?_, q⟩
  rw [← r1.bools hb]; exact .inl h1

/-! ### min, max of two ints; int(..) -/
theorem c_min2 (hc : X.calm = true) : CallR X (.builtin "min") (fun xs H Q => ∃ i j, xs = [.int i, .int j] ∧ Q (.int (if j < i then j else i)) H) := call_min2 hc
theorem c_max2 (hc : X.calm = true) : CallR X (.builtin "max") (fun xs H Q => ∃ i j, xs = [.int i, .int j] ∧ Q (.int (if j > i then j else i)) H) := call_max2 hc
theorem c_int1 : CallR X (.type "int") (rC (biD .int1)) := by
  intro pins s σ H xs us Q I r h
  obtain ⟨G, ds, o, l, ts, hf, k⟩ := h
  obtain ⟨a, rfl, hf2⟩ := biD_one hf (by intros; rfl) (by intros; rfl)
  clear hf
  have hf := hf2
  obtain ⟨x, rfl, t⟩ := ts.one
  unfold bi1 at hf
  dsimp only at hf
  split at hf
  · cases hf
    obtain rfl := t.int
    exact call_int1 pins s σ H _ us Q I r (.inl ⟨_, rfl, k _ G H (New.refl l) (.int _)⟩)
  · cases hf
    obtain rfl := t.bl
    exact call_int1 pins s σ H _ us Q I r (.inr ⟨_, rfl, k _ G H (New.refl l) (.int _)⟩)
  · cases hf
end
end RR

/-! A7: what an expression's run comes to, over states. -/
namespace RR
open PySem L2

/-- how the classes of exceptions stand -/
abbrev XCls := Nat → Value
/-- the exception x, of the class cls, its own dict at ed -/
def ExAt (xc : XCls) (x : X) (cls : Value) (ed : Option Addr) (H : Hp) : Prop :=
  cls = xc x.cls ∧ match x.arg with
    | .int i => ∃ d, ed = some d ∧ H d = some (.xd [("most", .int i)])
    | _ => ed = none
/-- what is wanted of exceptions -/
structure XW where
  xc : XCls
  E : XK
/-- the wish is met behind x, wherever it is raised -/
def ExcW (W : XW) (σ : L2.St) (ρ : Env) (G H : Hp) (x : X) : Prop :=
  ∀ cls ed G' H', ExAt W.xc x cls ed H' → Mo G G' → Le G' H' → (∀ a o, H a = some o → ¬ Mu σ ρ a → H' a = some o) → (∀ a o, H a = some o → ∃ o', H' a = some o') → W.E cls ed H'
theorem ExcW.later {W : XW} {σ σ1 : L2.St} {ρ ρ1 : Env} {G H G1 H1 : Hp} {x : X} (h : ExcW W σ ρ G H x) (s : Stp σ ρ G H σ1 ρ1 G1 H1) : ExcW W σ1 ρ1 G1 H1 x := fun cls ed G' H' ex m l k t =>
  h cls ed G' H' ex (s.mono.trans m) l (fun a o ha n => k a o (s.keep a o ha n) fun m => by
    rcases s.mine a m with z | z
    · exact n z
    · rw [z] at ha; cases ha) fun a o ha => by
    obtain ⟨o', e⟩ := s.there a o ha
    exact t a o' e

/-- behind the run r -/
def Post {α : Type} (W : XW) (σ : L2.St) (ρ : Env) (G H : Hp) (r : Res α) (P : α → Env → Hp → Hp → Prop) : Prop :=
  match r with
  | .bad => False
  | .exc x _ => ExcW W σ ρ G H x
  | .ok a ρ' => ∀ G' H', Stp σ ρ G H σ ρ' G' H' → EnvLe ρ ρ' → P a ρ' G' H'
section
variable {α β : Type} {W : XW} {σ : L2.St} {ρ : Env} {G H : Hp} {r : Res α} {P P' : α → Env → Hp → Hp → Prop}
theorem Post.imp (h : Post W σ ρ G H r P) (f : ∀ a ρ' G' H', Stp σ ρ G H σ ρ' G' H' → EnvLe ρ ρ' → P a ρ' G' H' → P' a ρ' G' H') : Post W σ ρ G H r P' := by
  cases r with
  | bad => exact h
  | exc x ρ' => exact h
  | ok a ρ' => exact fun G' H' s l => f a ρ' G' H' s l (h G' H' s l)
theorem Post.bind {g : α → Env → Res β} {P : β → Env → Hp → Hp → Prop} (h : Post W σ ρ G H (r.bind g) P) : Post W σ ρ G H r fun a ρ1 G1 H1 => Post W σ ρ1 G1 H1 (g a ρ1) P := by
  cases r with
  | bad => exact h
  | exc x ρ' => exact h
  | ok a ρ1 =>
    intro G1 H1 s1 l1
    have h' : Post W σ ρ G H (g a ρ1) P := h
    generalize g a ρ1 = r2 at h'
    cases r2 with
    | bad => exact h'
    | exc x ρ2 => exact ExcW.later h' s1
    | ok b ρ2 => exact fun G2 H2 s2 l2 => h' G2 H2 (s1.trans s2) (l1.trans l2)
theorem Post.ok {a : α} (h : P a ρ G H) (l : Le G H) (e : EnvR G H σ ρ) : Post W σ ρ G H (.ok a ρ) P → P a ρ G H := fun q => q G H (Stp.refl l e) (EnvLe.refl ρ)
end

/-- a slot's list or dict stays one's own -/
theorem own_kept {G H G' H' : Hp} {a : Addr} {d : D} (o : Own G H a d) (g : G a = none) (k : ∀ u, H a = some u → H' a = some u) (m : Mo G G') (l : Le G' H') (f : G' a ≠ none → H a = none ∨ ∃ vs, G' a = some (.tup vs)) : G' a = none ∧ Own G' H' a d := by
  refine ⟨?_, o.mono m k⟩
  cases q : G' a with
  | none => rfl
  | some w =>
    rcases f (by rw [q]; simp) with z | ⟨vs, z⟩
    · obtain ⟨u, hu⟩ := o.at; rw [z] at hu; cases hu
    · have h2 := (l a _ z).2 vs rfl
      cases o with
      | lst h _ _ => have q := k _ h; rw [h2] at q; cases q
      | dct0 h _ _ _ => have q := k _ h; rw [h2] at q; cases q
      | dct1 h _ _ _ => have q := k _ h; rw [h2] at q; cases q
section
variable {σ : L2.St} {ρ : Env} {G H G' H' : Hp}
theorem New.env (n : New G H G' H') (e : EnvR G H σ ρ) : EnvR G' H' σ ρ where
  len := e.len
  val := fun i d h => by
    obtain ⟨v, hv, r⟩ := e.val i d h
    exact ⟨v, hv, r.mono n.mono⟩
  own := fun i d h => by
    obtain ⟨a, ha, g, o⟩ := e.own i d h
    obtain ⟨h1, h2⟩ := own_kept o g (n.keep a) n.mono n.le (n.fresh a g)
    exact ⟨a, ha, h1, h2⟩
  inj := e.inj
theorem New.stp (n : New G H G' H') (e : EnvR G H σ ρ) : Stp σ ρ G H σ ρ G' H' where
  mono := n.mono
  le := n.le
  keep := fun a o h _ => n.keep a o h
  fresh := fun a h h' => by
    rcases n.fresh a h h' with z | z
    · exact .inl z
    · exact .inr (.inr z)
  there := fun a o h => ⟨o, n.keep a o h⟩
  env := n.env e
  mine := fun a m => .inl m
end

/-- an expression's reading -/
def rd (W : XW) (f : Env → Res Opd) : TE := fun σ H Q => ∃ G ρ, Le G H ∧ EnvR G H σ ρ ∧ Post W σ ρ G H (f ρ) fun o ρ' G' H' => ∀ v, OpdR H σ ρ' G' H' v o → Q v H'
/-- a test's -/
def rdT (W : XW) (f : Env → Res Bool) : TT := fun σ H Q => ∃ G ρ, Le G H ∧ EnvR G H σ ρ ∧ Post W σ ρ G H (f ρ) fun b ρ' G' H' => Q b H'
/-- in a list of values, at the list's end -/
def OpdF (H : Hp) (σ : L2.St) (ρ' : Env) (G' H' : Hp) (v : V) : Opd → Prop
  | .val d => Rep G' v d
  | .own d => ∃ a, v = .ref a ∧ H a = none ∧ G' a = none ∧ Own G' H' a d
  | .pl i => σ[i]? = some (some v) ∧ getS ρ' i ≠ .non
inductive OpdsF (H : Hp) (σ : L2.St) (ρ' : Env) (G' H' : Hp) : List V → List Opd → Prop
  | nil : OpdsF H σ ρ' G' H' [] []
  | cons {v : V} {vs : List V} {o : Opd} {os : List Opd} (h : OpdF H σ ρ' G' H' v o) (r : OpdsF H σ ρ' G' H' vs os)
      (ne : ∀ (a : Addr) (d : D), v = V.ref a → o = Opd.own d → ∀ (j : Nat) (e : D), os[j]? = some (Opd.own e) → vs[j]? ≠ some (V.ref a)) : OpdsF H σ ρ' G' H' (v :: vs) (o :: os)
def rdA (W : XW) (f : Env → Res (List Opd)) : TA := fun σ H Q => ∃ G ρ, Le G H ∧ EnvR G H σ ρ ∧ Post W σ ρ G H (f ρ) fun os ρ' G' H' => ∀ vs, OpdsF H σ ρ' G' H' vs os → Q vs H'

theorem _root_.L2.PE.imp {X : Cx} {e : Expr} {t t' : TE} (h : PE X e t) (f : ∀ σ H Q, t' σ H Q → t σ H Q) : PE X e t' := ⟨fun pins s σ H Q I q => h.run pins s σ H Q I (f σ H Q q)⟩
theorem _root_.L2.PT.imp {X : Cx} {e : Expr} {t t' : TT} (h : PT X e t) (f : ∀ σ H Q, t' σ H Q → t σ H Q) : PT X e t' := ⟨fun pins s σ H Q I q => h.run pins s σ H Q I (f σ H Q q)⟩
theorem _root_.L2.PW.imp {X : Cx} {e : Expr} {t t' : TT} (h : PW X e t) (f : ∀ σ H Q, t' σ H Q → t σ H Q) : PW X e t' := ⟨fun wh pins s σ H Q I q => h.run wh pins s σ H Q I (f σ H Q q)⟩
theorem _root_.L2.PA.imp {X : Cx} {es : List Expr} {t t' : TA} (h : PA X es t) (f : ∀ σ H Q, t' σ H Q → t σ H Q) : PA X es t' := ⟨fun pos pins s σ H Q I q => h.run pos pins s σ H Q I (f σ H Q q)⟩
theorem _root_.L2.PS.imp {X : Cx} {st : Stmt} {t t' : TS} (h : PS X st t) (f : ∀ D σ H, t' D σ H → t D σ H) : PS X st t' := ⟨fun pins s σ H D I q => h.run pins s σ H D I (f D σ H q)⟩
theorem _root_.L2.PSs.imp {X : Cx} {st : List Stmt} {t t' : TS} (h : PSs X st t) (f : ∀ D σ H, t' D σ H → t D σ H) : PSs X st t' := ⟨fun pins s σ H D I q => h.run pins s σ H D I (f D σ H q)⟩

section
variable {σ : L2.St} {ρ ρ1 ρ2 : Env} {G G1 G2 H H0 H1 H2 : Hp} {v : V} {o : Opd}
/-- fresh of old is fresh of older -/
theorem OpdR.older (r : OpdR H1 σ ρ2 G2 H2 v o) (t : ∀ a u, H a = some u → ∃ u', H1 a = some u') : OpdR H σ ρ2 G2 H2 v o := by
  cases o with
  | val d => exact r
  | pl i => exact r
  | own d =>
    obtain ⟨a, rfl, n, g, o⟩ := r
    refine ⟨a, rfl, ?_, g, o⟩
    cases e : H a with
    | none => rfl
    | some u => obtain ⟨u', e'⟩ := t a u e; rw [n] at e'; cases e'
theorem ResR.opd {G' H' : Hp} (r : ResR H1 G' H' v o) (t : ∀ a u, H a = some u → ∃ u', H1 a = some u') : OpdR H σ ρ2 G' H' v o := by
  cases o with
  | val d => exact r
  | pl i => exact r.elim
  | own d =>
    obtain ⟨a, rfl, n, g, o⟩ := r
    refine ⟨a, rfl, ?_, g, o⟩
    cases e : H a with
    | none => rfl
    | some u => obtain ⟨u', e'⟩ := t a u e; rw [n] at e'; cases e'
theorem EnvLe.mu (e : EnvR G H σ ρ) (l : EnvLe ρ ρ1) (a : Addr) (m : Mu σ ρ1 a) : Mu σ ρ a := by
  obtain ⟨i, d, h, hs⟩ := m
  have q := l i
  rw [h] at q
  cases e1 : getS ρ i with
  | non => rw [e1] at q; cases q
  | val d => rw [e1] at q; cases q
  | own d => exact ⟨i, d, e1, hs⟩
theorem mu_there (e : EnvR G H σ ρ) (l : EnvLe ρ ρ1) (a : Addr) (m : Mu σ ρ1 a) : ∃ u, H a = some u := e.mu (EnvLe.mu e l a m)
/-- the first operand, when the second has come -/
theorem OpdR.seen (e : EnvR G H σ ρ) (s : Stp σ ρ G H σ ρ1 G1 H1) (l : EnvLe ρ ρ1) (r : OpdR H σ ρ1 G1 H1 v o) (s2 : Stp σ ρ1 G1 H1 σ ρ2 G2 H2) (l2 : EnvLe ρ1 ρ2) : Top G2 H2 v (look o ρ2) :=
  r.later s.there (fun a m => mu_there e l a m) s2 l2
end

section
variable {X : Cx} {W : XW} {e : Expr} {f : Env → Res Opd}
/-- as a test, by its value -/
theorem rd_test (h : PE X e (rd W f)) (he : ∀ whole, isTrue e X.env whole = (do let v ← whole; standAt e.pos; holding [v] (truthy v))) : PT X e (rdT W fun ρ => boolR (f ρ)) := by
  refine (pt_val h he).imp fun σ H Q q => ?_
  obtain ⟨G, ρ, l, en, p⟩ := q
  refine ⟨G, ρ, l, en, (Post.bind p).imp fun o ρ1 G1 H1 s1 l1 p1 v r => ?_⟩
  have t := OpdR.top r s1.env
  cases q : look o ρ1 with
  | bl b =>
    rw [q] at p1 t
    exact ⟨b, t.bl, p1 G1 H1 (Stp.refl s1.le s1.env) (EnvLe.refl _)⟩
  | _ => rw [q] at p1; exact False.elim p1
end

/-! ### two operands, an operation -/
section
variable {X : Cx} {W : XW} {a b : Expr} {fa fb : Env → Res Opd} {pos : Pos}
def rd2 (fa fb : Env → Res Opd) (g : D → D → Option Opd) : Env → Res Opd := fun ρ => (fa ρ).bind fun x ρ1 => (fb ρ1).bind fun y ρ2 => okO (g (look x ρ2) (look y ρ2)) ρ2
theorem rd2_op {g : D → D → Option Opd} {σ : L2.St} {H : Hp} {Q : VK} (h : rd W (rd2 fa fb g) σ H Q) : tOp (rB g) (rd W fa) (rd W fb) σ H Q := by
  obtain ⟨G, ρ, l, en, p⟩ := h
  refine ⟨G, ρ, l, en, (Post.bind p).imp fun o1 ρ1 G1 H1 s1 l1 p1 v1 r1 => ?_⟩
  refine ⟨G1, ρ1, s1.le, s1.env, (Post.bind p1).imp fun o2 ρ2 G2 H2 s2 l2 p2 v2 r2 => ?_⟩
  cases q : g (look o1 ρ2) (look o2 ρ2) with
  | none => rw [q] at p2; exact False.elim p2
  | some o =>
    rw [q] at p2
    refine ⟨G2, _, _, o, s2.le, OpdR.seen en s1 l1 r1 s2 l2, OpdR.top r2 s2.env, q, fun v G' H' n r => ?_⟩
    exact p2 G' H' (n.stp s2.env) (EnvLe.refl _) v (r.opd (s1.trans s2).there)
theorem d_bin {op : B2} (ha : PE X a (rd W fa)) (hb : PE X b (rd W fb)) : PE X (.BinOp a (opOf op) b pos) (rd W (rd2 fa fb (bin2 op))) :=
  (pe_op (op_bin op) ha hb).imp fun _ _ _ h => rd2_op h
theorem d_sub (hu : X.A.units + 1 < cLine) (ha : PE X a (rd W fa)) (hb : PE X b (rd W fb)) (hs : PlainIx b) : PE X (.Subscript a b pos) (rd W (rd2 fa fb fun x y => (sub2 x y).map .val)) :=
  (pe_ix (ix_sub hu) ha hb hs).imp fun _ _ _ h => rd2_op h
end
end RR

/-! A8: expressions, one rule a construct. -/
namespace RR
open PySem L2

/-! ### plain forms -/
def notStar : Expr → Bool
  | .Starred _ _ => false
  | _ => true
def notSlice : Expr → Bool
  | .Slice _ _ _ _ => false
  | _ => true
def notComp : Expr → Bool
  | .ListComp _ _ _ _ => false
  | .SetComp _ _ _ _ => false
  | .DictComp _ _ _ _ _ => false
  | _ => true
def notSet : Expr → Bool
  | .Set _ _ _ => false
  | _ => true
def notCall : Expr → Bool
  | .Call _ _ _ _ => false
  | _ => true
def plainTest : Expr → Bool
  | .UnaryOp _ _ _ => false
  | .BoolOp _ _ _ => false
  | .IfExp _ _ _ _ => false
  | .Compare _ _ _ _ => false
  | _ => true
theorem star_of {e : Expr} (h : notStar e = true) (es : List Expr) (env : PySem.Env) : starEach (e :: es) env = (false, eval e env) :: starEach es env := by
  cases e <;> first | rfl | cases h
theorem ix_of {e : Expr} (h : notSlice e = true) : PlainIx e := by
  intro o i
  cases e <;> first | rfl | cases h
theorem sw_of {e : Expr} (h : notComp e = true) (t : Option Expr) (l : Nat) (env : PySem.Env) : swapsWith e t l env = pure false := by
  cases e <;> first | rfl | cases h
theorem fs_of {e : Expr} (h : notSet e = true) (env : PySem.Env) (x : Value) : foldedSetIterable e env x = pure x := by
  cases e <;> first | rfl | cases h
theorem ab_of {e : Expr} (h : notCall e = true) (m : Str) (env : PySem.Env) (w : Sem Value) : attributeBase e m env w = w := by
  cases e <;> first | rfl | cases h
theorem test_of {e : Expr} (h : plainTest e = true) (env : PySem.Env) (whole : Sem Value) : isTrue e env whole = (do let v ← whole; standAt e.pos; holding [v] (truthy v)) := by
  cases e <;> first | rfl | cases h
theorem stars_of : ∀ {es : List Expr}, es.all notStar = true → ∀ env : PySem.Env, starEach es env = es.map fun e => (false, eval e env)
  | [], _, env => rfl
  | e :: es, h, env => by
    rw [List.all_cons, Bool.and_eq_true] at h
    rw [star_of h.1, stars_of h.2]; rfl
theorem back_of {es : List Expr} (h : es.all notStar = true) (env : PySem.Env) (pos : Pos) : (backTo pos (starEach es env)).any (·.1) = false := by
  rw [stars_of h]
  simp [backTo, List.any_map]
theorem mark_of {e : Expr} (h : notSet e = true) (op : CmpOp) : behindInMarks op e = false := by
  cases e <;> first | rfl | cases h

section
variable {X : Cx} {W : XW} {a b c : Expr} {fa fb fc : Env → Res Opd} {pos : Pos}
/-! ### constants, names -/
theorem rd_const {d : D} {v : V} (r : ∀ G, Rep G v d) {σ : L2.St} {H : Hp} {Q : VK} (h : rd W (fun ρ => .ok (.val d) ρ) σ H Q) : Q v H := by
  obtain ⟨G, ρ, l, en, p⟩ := h
  exact p G H (Stp.refl l en) (EnvLe.refl _) v (r G)
theorem d_non {j pos} : PE X (.Constant .none j pos) (rd W fun ρ => .ok (.val .non) ρ) := pe_non.imp fun _ _ _ h => rd_const (v := .non) (fun _ => .non) h
theorem d_bl {k : Bool} {j pos} : PE X (.Constant (.bool k) j pos) (rd W fun ρ => .ok (.val (.bl k)) ρ) := pe_bl.imp fun _ _ _ h => rd_const (v := .bl k) (fun _ => .bl k) h
theorem d_int {i : Int} {j pos} : PE X (.Constant (.int i) j pos) (rd W fun ρ => .ok (.val (.int i)) ρ) := pe_int.imp fun _ _ _ h => rd_const (v := .int i) (fun _ => .int i) h
theorem d_str {s : S} (h1 : s.length ≤ LINE) (h2 : okS s = true) {j pos} : PE X (.Constant (.str (toStr s)) j pos) (rd W fun ρ => .ok (.val (.str s)) ρ) := pe_str.imp fun _ _ _ h => rd_const (v := .str (toStr s)) (fun _ => .str s h1 h2) h
def fVar (i : Nat) : Env → Res Opd := fun ρ => match getS ρ i with
  | .val d => .ok (.val d) ρ
  | .own _ => .ok (.pl i) ρ
  | .non => .bad
theorem d_var {i : Nat} {x : Str} (hN : X.N[i]? = some x) (hv : Vis X.env.scope x) (hd : (x == ("__debug__" : Str)) = false) (hcd : (x == ("__classdict__" : Str)) = false) : PE X (.Name x pos) (rd W (fVar i)) := by
  refine (pe_var hN hv hd hcd).imp fun σ H Q h => ?_
  obtain ⟨G, ρ, l, en, p⟩ := h
  unfold fVar at p
  split at p
  · rename_i d e
    obtain ⟨v, hv, r⟩ := en.val i d e
    exact ⟨v, hv, p G H (Stp.refl l en) (EnvLe.refl _) v r⟩
  · rename_i d e
    obtain ⟨u, hv, g, r⟩ := en.own i d e
    exact ⟨.ref u, hv, p G H (Stp.refl l en) (EnvLe.refl _) _ ⟨hv, d, e⟩⟩
  · exact False.elim p
/-- a constant of the module -/
theorem d_glob {x : Str} {v : V} {u : Value} {d : D} (hg : Gl X x) (hm : X.mg x = some u) (r : RelV v u) (rr : ∀ G, Rep G v d) (hd : (x == ("__debug__" : Str)) = false) : PE X (.Name x pos) (rd W fun ρ => .ok (.val d) ρ) :=
  (pe_glob hg hm r hd).imp fun _ _ _ h => rd_const rr h

/-! ### lists of expressions -/
def fNil : Env → Res (List Opd) := fun ρ => .ok [] ρ
def fCons (fe : Env → Res Opd) (fs : Env → Res (List Opd)) : Env → Res (List Opd) := fun ρ => (fe ρ).bind fun o ρ1 => (fs ρ1).bind fun os ρ2 => .ok (o :: os) ρ2
theorem a_nil : PA X [] (rdA W fNil) := pa_nil.imp fun _ _ _ h => by
  obtain ⟨G, ρ, l, en, p⟩ := h
  exact p G _ (Stp.refl l en) (EnvLe.refl _) [] .nil
theorem OpdF.older {H H1 : Hp} {σ : L2.St} {ρ : Env} {G' H' : Hp} {v : V} {o : Opd} (r : OpdF H1 σ ρ G' H' v o) (t : ∀ a u, H a = some u → ∃ u', H1 a = some u') : OpdF H σ ρ G' H' v o := by
  cases o with
  | val d => exact r
  | pl i => exact r
  | own d =>
    obtain ⟨a, rfl, n, g, o⟩ := r
    refine ⟨a, rfl, ?_, g, o⟩
    cases e : H a with
    | none => rfl
    | some u => obtain ⟨u', e'⟩ := t a u e; rw [n] at e'; cases e'
theorem OpdsF.older {H H1 : Hp} {σ : L2.St} {ρ : Env} {G' H' : Hp} {vs : List V} {os : List Opd} (t : ∀ a u, H a = some u → ∃ u', H1 a = some u') (r : OpdsF H1 σ ρ G' H' vs os) : OpdsF H σ ρ G' H' vs os := by
  induction r with
  | nil => exact .nil
  | cons h r ne ih => exact .cons (h.older t) ih ne
theorem OpdsF.get {H : Hp} {σ : L2.St} {ρ : Env} {G' H' : Hp} {vs : List V} {os : List Opd} (r : OpdsF H σ ρ G' H' vs os) : ∀ {j : Nat} {o : Opd}, os[j]? = some o → ∃ v, vs[j]? = some v ∧ OpdF H σ ρ G' H' v o := by
  induction r with
  | nil => intro j o h; simp at h
  | cons h r ne ih =>
    intro j o' hj
    cases j with
    | zero => simp at hj; subst hj; exact ⟨_, rfl, h⟩
    | succ j => exact ih (by simpa using hj)
theorem a_cons {es : List Expr} {fs : Env → Res (List Opd)} (ha : PE X a (rd W fa)) (hs : PA X es (rdA W fs)) (ns : notStar a = true) : PA X (a :: es) (rdA W (fCons fa fs)) := by
  refine (pa_cons ha hs (star_of ns es X.env)).imp fun σ H Q h => ?_
  obtain ⟨G, ρ, l, en, p⟩ := h
  refine ⟨G, ρ, l, en, (Post.bind p).imp fun o1 ρ1 G1 H1 s1 l1 p1 v1 r1 => ?_⟩
  refine ⟨G1, ρ1, s1.le, s1.env, (Post.bind p1).imp fun os ρ2 G2 H2 s2 l2 p2 vs rs => ?_⟩
  refine p2 G2 H2 (Stp.refl s2.le s2.env) (EnvLe.refl _) (v1 :: vs) (.cons ?_ (OpdsF.older s1.there rs) ?_)
  · cases o1 with
    | val d => exact Rep.mono s2.mono r1
    | own d => exact OpdR.keepOwn r1 (fun a m => mu_there en l1 a m) s2
    | pl i =>
      obtain ⟨h1, d, hd⟩ := r1
      refine ⟨h1, fun z => ?_⟩
      have q := l2 i
      rw [hd, z] at q
      rcases q with ⟨e, q⟩ | ⟨e, q⟩ <;> cases q
  · rintro x d rfl rfl j e hj hv
    obtain ⟨y, rfl', n, g, o⟩ := r1
    cases rfl'
    obtain ⟨u, hu⟩ := o.at
    obtain ⟨w, hw, y', e1, n2, _⟩ := rs.get hj
    rw [hv] at hw
    cases hw
    cases e1
    rw [hu] at n2; cases n2
/-- the list's values for now -/
theorem OpdF.top {H : Hp} {σ : L2.St} {ρ : Env} {G' H' : Hp} {v : V} {o : Opd} (r : OpdF H σ ρ G' H' v o) (e : EnvR G' H' σ ρ) : Top G' H' v (look o ρ) := by
  cases o with
  | val d => exact .rep r
  | own d => obtain ⟨a, rfl, _, _, o⟩ := r; exact .own o
  | pl i =>
    obtain ⟨h, hn⟩ := r
    show Top G' H' v (match getS ρ i with | .val d => d | .own d => d | .non => .non)
    cases q : getS ρ i with
    | non => exact absurd q hn
    | val d => exact e.top h (.inl q)
    | own d => exact e.top h (.inr q)
theorem OpdsF.tops {H : Hp} {σ : L2.St} {ρ : Env} {G' H' : Hp} {vs : List V} {os : List Opd} (r : OpdsF H σ ρ G' H' vs os) (e : EnvR G' H' σ ρ) : Tops G' H' vs (looks os ρ) := by
  induction r with
  | nil => exact .nil
  | cons h r ne ih => exact .cons (h.top e) ih

/-! ### calls of what is built in -/
def fBi (g : List D → Option Opd) (fs : Env → Res (List Opd)) : Env → Res Opd := fun ρ => (fs ρ).bind fun os ρ1 => okO (g (looks os ρ1)) ρ1
theorem bi_read {g : List D → Option Opd} {fs : Env → Res (List Opd)} {σ : L2.St} {H : Hp} {Q : VK} (h : rd W (fBi g fs) σ H Q) : tCB (rC g) (rdA W fs) σ H Q := by
  obtain ⟨G, ρ, l, en, p⟩ := h
  refine ⟨G, ρ, l, en, (Post.bind p).imp fun os ρ1 G1 H1 s1 l1 p1 vs rs => ?_⟩
  cases q : g (looks os ρ1) with
  | none => rw [q] at p1; exact False.elim p1
  | some o =>
    rw [q] at p1
    exact ⟨G1, _, o, s1.le, rs.tops s1.env, q, fun v G' H' n r => p1 G' H' (n.stp s1.env) (EnvLe.refl _) v (r.opd s1.there)⟩
theorem d_bif {x : Str} {id : String} {g : List D → Option Opd} {es : List Expr} {fs : Env → Res (List Opd)} {p : Pos} (hc : CallR X (.builtin id) (rC g)) (hg : Gl X x) (hm : X.mg x = none) (hv : bootBuiltins x = some (.builtin id)) (ha : PA X (a :: es) (rdA W fs))
    (ns : (a :: es).all notStar = true) (hn : x ≠ "__name__") (hdb : (x == ("__debug__" : Str)) = false) : PE X (.Call (.Name x p) (a :: es) [] pos) (rd W (fBi g fs)) := by
  rw [List.all_cons, Bool.and_eq_true] at ns
  exact (pe_callB hc hg hm hv ha hn hdb (star_of ns.1 es X.env) (back_of ns.2 X.env pos)).imp fun _ _ _ h => bi_read h
theorem d_bit {x : Str} {T : String} {g : List D → Option Opd} {es : List Expr} {fs : Env → Res (List Opd)} {p : Pos} (hc : CallR X (.type T) (rC g)) (hg : Gl X x) (hm : X.mg x = none) (hv : bootBuiltins x = some (.type T)) (ha : PA X (a :: es) (rdA W fs))
    (ns : (a :: es).all notStar = true) (hn : x ≠ "__name__") (hdb : (x == ("__debug__" : Str)) = false) : PE X (.Call (.Name x p) (a :: es) [] pos) (rd W (fBi g fs)) := by
  rw [List.all_cons, Bool.and_eq_true] at ns
  exact (pe_callTy hc hg hm hv ha hn hdb (star_of ns.1 es X.env) (back_of ns.2 X.env pos)).imp fun _ _ _ h => bi_read h

/-! ### handing on -/
theorem getS_setS : ∀ (ρ : Env) (i j : Nat) (s : Sl), getS (setS ρ i s) j = if i = j ∧ i < ρ.length then s else getS ρ j
  | [], i, j, s => by simp [setS, getS]
  | a :: ρ, 0, 0, s => by simp [setS, getS]
  | a :: ρ, 0, j + 1, s => by simp [setS, getS]
  | a :: ρ, i + 1, 0, s => by simp [setS, getS]
  | a :: ρ, i + 1, j + 1, s => by
    simp only [setS, getS, getS_setS ρ i j s, List.length_cons]
    by_cases h : i = j ∧ i < ρ.length
    · rw [if_pos h, if_pos (by omega)]
    · rw [if_neg h, if_neg (by omega)]
theorem setS_len : ∀ (ρ : Env) (i : Nat) (s : Sl), (setS ρ i s).length = ρ.length
  | [], _, _ => rfl
  | _ :: _, 0, _ => rfl
  | _ :: ρ, i + 1, s => by simp [setS, setS_len ρ i s]
theorem getS_lt : ∀ {ρ : Env} {i : Nat}, getS ρ i ≠ .non → i < ρ.length
  | [], i, h => by simp [getS] at h
  | _ :: _, 0, _ => by simp
  | _ :: ρ, i + 1, h => by simp [getS] at h; have := getS_lt h; simp; omega
/-- an own thing is frozen -/
theorem freeze_slot {σ : L2.St} {ρ : Env} {G H : Hp} {i : Nat} {d : D} (l : Le G H) (e : EnvR G H σ ρ) (h : getS ρ i = .own d) :
    ∃ a u, σ[i]? = some (some (.ref a)) ∧ G a = none ∧ Rep (upd G a u) (.ref a) d ∧ Stp σ ρ G H σ (setS ρ i (.val d)) (upd G a u) H ∧ EnvLe ρ (setS ρ i (.val d)) := by
  obtain ⟨a, ha, g, o⟩ := e.own i d h
  obtain ⟨u, hu⟩ := o.at
  have nt : ∀ vs, u ≠ .tup vs := by
    intro vs z; subst z
    cases o with
    | lst hq _ _ => rw [hq] at hu; cases hu
    | dct0 hq _ _ _ => rw [hq] at hu; cases hu
    | dct1 hq _ _ _ => rw [hq] at hu; cases hu
  have m : Mo G (upd G a u) := mo_upd g u
  have hr : Rep (upd G a u) (.ref a) d := by
    cases o with
    | lst hq r z => rw [hq] at hu; cases hu; exact .lst upd_same (r.mono m) z
    | dct0 hq r k z => rw [hq] at hu; cases hu; exact .dct0 upd_same (r.mono m) k z
    | dct1 hq r k z => rw [hq] at hu; cases hu; exact .dct1 upd_same (r.mono m) k z
  have hi : i < ρ.length := getS_lt (by rw [h]; intro z; cases z)
  refine ⟨a, u, ha, g, hr, ⟨m, ?_, fun _ _ q _ => q, ?_, fun b o q => ⟨o, q⟩, ⟨by rw [setS_len]; exact e.len, ?_, ?_, ?_⟩, ?_⟩, ?_⟩
  · intro b o hb
    by_cases q : b = a
    · subst q; rw [upd_same] at hb; cases hb
      exact ⟨.inl hu, fun vs z => absurd z (nt vs)⟩
    · rw [upd_ne q] at hb; exact l b o hb
  · intro b hb hb2
    by_cases q : b = a
    · subst q; exact .inr (.inl ⟨i, d, h, ha⟩)
    · rw [upd_ne q] at hb2; exact absurd hb hb2
  · intro j d' hj
    rw [getS_setS] at hj
    by_cases q : i = j ∧ i < ρ.length
    · rw [if_pos q] at hj; cases hj
      rw [← q.1]; exact ⟨_, ha, hr⟩
    · rw [if_neg q] at hj
      obtain ⟨v, hv, r⟩ := e.val j d' hj
      exact ⟨v, hv, r.mono m⟩
  · intro j d' hj
    rw [getS_setS] at hj
    by_cases q : i = j ∧ i < ρ.length
    · rw [if_pos q] at hj; cases hj
    · rw [if_neg q] at hj
      obtain ⟨b, hb, gb, ob⟩ := e.own j d' hj
      have ne : b ≠ a := by
        intro z; subst z
        have := e.inj i j b d d' h hj ha hb
        exact q ⟨this, hi⟩
      exact ⟨b, hb, by rw [upd_ne ne]; exact gb, ob.mono m fun _ q => q⟩
  · intro j k b d1 d2 h1 h2 e1 e2
    rw [getS_setS] at h1 h2
    by_cases q : i = j ∧ i < ρ.length
    · rw [if_pos q] at h1; cases h1
    · by_cases q2 : i = k ∧ i < ρ.length
      · rw [if_pos q2] at h2; cases h2
      · rw [if_neg q] at h1; rw [if_neg q2] at h2
        exact e.inj j k b d1 d2 h1 h2 e1 e2
  · rintro b ⟨j, d', hj, hb⟩
    rw [getS_setS] at hj
    by_cases q : i = j ∧ i < ρ.length
    · rw [if_pos q] at hj; cases hj
    · rw [if_neg q] at hj; exact .inl ⟨j, d', hj, hb⟩
  · intro j
    rw [getS_setS]
    by_cases q : i = j ∧ i < ρ.length
    · rw [if_pos q, ← q.1, h]; exact .inr ⟨d, rfl⟩
    · rw [if_neg q]; exact SlLe.refl _
end
end RR

/-! A9: handing on, displays. -/
namespace RR
open PySem L2

theorem look_set {ρ : Env} {i : Nat} {d : D} (h : getS ρ i = .own d) (o : Opd) : look o (setS ρ i (.val d)) = look o ρ := by
  cases o with
  | val e => rfl
  | own e => rfl
  | pl j =>
    simp only [look, getS_setS]
    by_cases q : i = j ∧ i < ρ.length
    · rw [if_pos q, ← q.1, h]
    · rw [if_neg q]
theorem look_fz (o o' : Opd) (ρ : Env) : look o (fz o' ρ) = look o ρ := by
  cases o' with
  | val d => rfl
  | own d => rfl
  | pl i =>
    simp only [fz]
    split
    · rename_i d h; exact look_set h o
    · rfl
theorem looks_fz (os : List Opd) (o' : Opd) (ρ : Env) : looks os (fz o' ρ) = looks os ρ := by
  simp only [looks]
  exact List.map_congr_left fun o _ => look_fz o o' ρ
theorem look_fzs (o : Opd) : ∀ (os : List Opd) (ρ : Env), look o (fzs os ρ) = look o ρ
  | [], ρ => rfl
  | o' :: os, ρ => by rw [fzs, look_fzs o os, look_fz]
theorem looks_fzs (os' : List Opd) (os : List Opd) (ρ : Env) : looks os' (fzs os ρ) = looks os' ρ := by
  simp only [looks]
  exact List.map_congr_left fun o _ => look_fzs o os ρ
/-- a slot behind a handing on: as it was, or frozen -/
theorem getS_fz (o : Opd) (ρ : Env) (i : Nat) : getS (fz o ρ) i = getS ρ i ∨ ∃ d, getS ρ i = .own d ∧ getS (fz o ρ) i = .val d := by
  cases o with
  | val d => exact .inl rfl
  | own d => exact .inl rfl
  | pl j =>
    simp only [fz]
    split
    · rename_i d h
      rw [getS_setS]
      by_cases q : j = i ∧ j < ρ.length
      · rw [if_pos q]; rw [q.1] at h; exact .inr ⟨d, h, rfl⟩
      · rw [if_neg q]; exact .inl rfl
    · exact .inl rfl
theorem getS_fzs : ∀ (os : List Opd) (ρ : Env) (i : Nat), getS (fzs os ρ) i = getS ρ i ∨ ∃ d, getS ρ i = .own d ∧ getS (fzs os ρ) i = .val d
  | [], ρ, i => .inl rfl
  | o :: os, ρ, i => by
    rw [fzs]
    rcases getS_fzs os (fz o ρ) i with h | ⟨d, h1, h2⟩
    · rcases getS_fz o ρ i with q | ⟨e, q1, q2⟩
      · exact .inl (h.trans q)
      · exact .inr ⟨e, q1, h.trans q2⟩
    · rcases getS_fz o ρ i with q | ⟨e, q1, q2⟩
      · exact .inr ⟨d, q ▸ h1, h2⟩
      · rw [q2] at h1; cases h1

section
variable {σ : L2.St} {ρ0 ρ : Env} {G0 H0 G H : Hp} {v : V} {o : Opd}
/-- something is handed on -/
theorem fz_one (s : Stp σ ρ0 G0 H0 σ ρ G H) (e0 : EnvR G0 H0 σ ρ0) (l0 : EnvLe ρ0 ρ) (r : OpdF H0 σ ρ G H v o) :
    ∃ G', Mo G G' ∧ Rep G' v (look o ρ) ∧ Stp σ ρ0 G0 H0 σ (fz o ρ) G' H ∧ EnvLe ρ (fz o ρ) ∧
      (∀ b, G b = none → G' b ≠ none → v = .ref b ∧ ((∃ d, o = .own d) ∨ Mu σ ρ b)) := by
  cases o with
  | val d => exact ⟨G, Mo.refl G, r, s, EnvLe.refl _, fun b h h' => absurd h h'⟩
  | pl i =>
    obtain ⟨hv, hn⟩ := r
    cases q : getS ρ i with
    | non => exact absurd q hn
    | val d =>
      have e1 : fz (.pl i) ρ = ρ := by simp only [fz, q]
      have e2 : look (.pl i) ρ = d := by simp only [look, q]
      rw [e1, e2]
      obtain ⟨u, hu, ru⟩ := s.env.val i d q
      rw [hv] at hu; cases hu
      exact ⟨G, Mo.refl G, ru, s, EnvLe.refl _, fun b h h' => absurd h h'⟩
    | own d =>
      have e1 : fz (.pl i) ρ = setS ρ i (.val d) := by simp only [fz, q]
      have e2 : look (.pl i) ρ = d := by simp only [look, q]
      rw [e1, e2]
      obtain ⟨a, u, ha, g, hr, st, le⟩ := freeze_slot s.le s.env q
      rw [hv] at ha; cases ha
      refine ⟨upd G a u, st.mono, hr, s.trans st, le, fun b h h' => ?_⟩
      by_cases z : b = a
      · subst z; exact ⟨rfl, .inr ⟨i, d, q, hv⟩⟩
      · rw [upd_ne z] at h'; exact absurd h h'
  | own d =>
    obtain ⟨a, rfl, n, g, ow⟩ := r
    obtain ⟨u, hu⟩ := ow.at
    have nt : ∀ vs, u ≠ .tup vs := by
      intro vs z; subst z
      cases ow with
      | lst hq _ _ => rw [hq] at hu; cases hu
      | dct0 hq _ _ _ => rw [hq] at hu; cases hu
      | dct1 hq _ _ _ => rw [hq] at hu; cases hu
    have m : Mo G (upd G a u) := mo_upd g u
    have hr : Rep (upd G a u) (.ref a) d := by
      cases ow with
      | lst hq r z => rw [hq] at hu; cases hu; exact .lst upd_same (r.mono m) z
      | dct0 hq r k z => rw [hq] at hu; cases hu; exact .dct0 upd_same (r.mono m) k z
      | dct1 hq r k z => rw [hq] at hu; cases hu; exact .dct1 upd_same (r.mono m) k z
    refine ⟨upd G a u, m, hr, ⟨s.mono.trans m, ?_, s.keep, ?_, s.there, ⟨s.env.len, ?_, ?_, s.env.inj⟩, s.mine⟩, EnvLe.refl _, fun b h h' => ?_⟩
    · intro b w hb
      by_cases q : b = a
      · subst q; rw [upd_same] at hb; cases hb
        exact ⟨.inl hu, fun vs z => absurd z (nt vs)⟩
      · rw [upd_ne q] at hb; exact s.le b w hb
    · intro b hb hb2
      by_cases q : b = a
      · subst q; exact .inl n
      · rw [upd_ne q] at hb2 ⊢; exact s.fresh b hb hb2
    · intro j d' hj
      obtain ⟨w, hw, rw'⟩ := s.env.val j d' hj
      exact ⟨w, hw, rw'.mono m⟩
    · intro j d' hj
      obtain ⟨b, hb, gb, ob⟩ := s.env.own j d' hj
      have ne : b ≠ a := by
        intro z; subst z
        obtain ⟨w, hw⟩ := e0.mu (EnvLe.mu e0 l0 b ⟨j, d', hj, hb⟩)
        rw [n] at hw; cases hw
      exact ⟨b, hb, by rw [upd_ne ne]; exact gb, ob.mono m fun _ q => q⟩
    · by_cases q : b = a
      · subst q; exact ⟨rfl, .inl ⟨d, rfl⟩⟩
      · rw [upd_ne q] at h'; exact absurd h h'
theorem OpdsF.map {H0 : Hp} {σ : L2.St} {ρ ρ' : Env} {G H G' H' : Hp} {vs : List V} {os : List Opd} (r : OpdsF H0 σ ρ G H vs os)
    (f : ∀ (j : Nat) (v : V) (o : Opd), vs[j]? = some v → os[j]? = some o → OpdF H0 σ ρ G H v o → OpdF H0 σ ρ' G' H' v o) : OpdsF H0 σ ρ' G' H' vs os := by
  induction r with
  | nil => exact .nil
  | cons h r ne ih => exact .cons (f 0 _ _ rfl rfl h) (ih fun j v o hv ho => f (j + 1) v o (by simpa using hv) (by simpa using ho)) ne
/-- many are handed on -/
theorem fz_all (e0 : EnvR G0 H0 σ ρ0) : ∀ {os : List Opd} {vs : List V} {ρ : Env} {G : Hp}, Stp σ ρ0 G0 H0 σ ρ G H → EnvLe ρ0 ρ → OpdsF H0 σ ρ G H vs os →
    ∃ G', Mo G G' ∧ Reps G' vs (looks os ρ) ∧ Stp σ ρ0 G0 H0 σ (fzs os ρ) G' H ∧ EnvLe ρ (fzs os ρ) ∧
      (∀ b, G b = none → G' b ≠ none → (∃ (j : Nat) (d : D), os[j]? = some (.own d) ∧ vs[j]? = some (.ref b)) ∨ Mu σ ρ b)
  | [], _, ρ, G, s, l0, .nil => ⟨G, Mo.refl G, .nil, s, EnvLe.refl _, fun b h h' => absurd h h'⟩
  | o :: os, _, ρ, G, s, l0, .cons (v := v) (vs := vs) h r ne => by
    obtain ⟨G1, m1, r1, s1, le1, new1⟩ := fz_one s e0 l0 h
    have rest : OpdsF H0 σ (fz o ρ) G1 H vs os := by
      refine OpdsF.map r fun j w o' hw ho' q => ?_
      cases o' with
      | val d => exact Rep.mono m1 q
      | pl i =>
        obtain ⟨q1, q2⟩ := q
        refine ⟨q1, ?_⟩
        rcases getS_fz o ρ i with z | ⟨d, z1, z2⟩
        · rw [z]; exact q2
        · rw [z2]; intro z; cases z
      | own d =>
        obtain ⟨b, rfl, n, g, ow⟩ := q
        refine ⟨b, rfl, n, ?_, ow.mono m1 fun _ q => q⟩
        cases e : G1 b with
        | none => rfl
        | some w =>
          exfalso
          obtain ⟨e1, z | z⟩ := new1 b g (by rw [e]; simp)
          · obtain ⟨d', z⟩ := z
            exact ne b d' e1 z j d ho' hw
          · obtain ⟨u, hu⟩ := e0.mu (EnvLe.mu e0 l0 b z)
            rw [n] at hu; cases hu
    obtain ⟨G2, m2, r2, s2, le2, new2⟩ := fz_all e0 s1 (l0.trans le1) rest
    refine ⟨G2, m1.trans m2, ?_, s2, le1.trans le2, fun b hb hb2 => ?_⟩
    · rw [looks_fz] at r2
      exact .cons (r1.mono m2) r2
    · by_cases q : G1 b = none
      · rcases new2 b q hb2 with ⟨j, d, z1, z2⟩ | z
        · exact .inl ⟨j + 1, d, by simpa using z1, by simpa using z2⟩
        · exact .inr (EnvLe.mu s.env le1 b z)
      · obtain ⟨e1, ⟨d, z⟩ | z⟩ := new1 b hb q
        · exact .inl ⟨0, d, by rw [z]; rfl, by rw [e1]; rfl⟩
        · exact .inr z
end
theorem evL_len {Φ : Calls} : ∀ {es : List E} {ρ ρ' : Env} {os : List Opd}, evL Φ es ρ = .ok os ρ' → os.length = es.length
  | [], ρ, ρ', os, h => by rw [evL] at h; cases h; rfl
  | e :: es, ρ, ρ', os, h => by
    rw [evL] at h
    cases q : evE Φ e ρ with
    | bad => rw [q] at h; cases h
    | exc x ρ1 => rw [q] at h; cases h
    | ok o ρ1 =>
      rw [q] at h
      simp only [Res.bind] at h
      cases q2 : evL Φ es ρ1 with
      | bad => rw [q2] at h; cases h
      | exc x ρ2 => rw [q2] at h; cases h
      | ok os1 ρ2 =>
        rw [q2] at h
        cases h
        simp [evL_len q2]

section
variable {X : Cx} {W : XW} {es : List Expr} {fs : Env → Res (List Opd)} {pos : Pos}
/-! ### displays -/
def fTup (fs : Env → Res (List Opd)) : Env → Res Opd := fun ρ => (fs ρ).bind fun os ρ1 => .ok (.val (.tup (looks os ρ1))) (fzs os ρ1)
def fLst (fs : Env → Res (List Opd)) : Env → Res Opd := fun ρ => (fs ρ).bind fun os ρ1 => .ok (.own (.lst (looks os ρ1))) (fzs os ρ1)
/-- a list's values, handed on, from the start -/
theorem args_frozen {σ : L2.St} {H : Hp} {G : Hp} {ρ : Env} (en : EnvR G H σ ρ) {G1 H1 : Hp} {ρ1 : Env} (s1 : Stp σ ρ G H σ ρ1 G1 H1) (l1 : EnvLe ρ ρ1) {vs : List V} {os : List Opd} (rs : OpdsF H σ ρ1 G1 H1 vs os) :
    ∃ G2, Mo G1 G2 ∧ Reps G2 vs (looks os ρ1) ∧ Stp σ ρ G H σ (fzs os ρ1) G2 H1 ∧ EnvLe ρ (fzs os ρ1) := by
  obtain ⟨G2, m, r, s, le, _⟩ := fz_all en s1 l1 rs
  exact ⟨G2, m, r, s, l1.trans le⟩
theorem Post.get {α β : Type} {W : XW} {σ : L2.St} {ρ : Env} {G H : Hp} {r : Res α} {g : α → Env → Res β} {P : β → Env → Hp → Hp → Prop} (h : Post W σ ρ G H (r.bind g) P) (l : Le G H) (en : EnvR G H σ ρ) :
    Post W σ ρ G H r fun a ρ1 G1 H1 => Stp σ ρ G H σ ρ1 G1 H1 ∧ EnvLe ρ ρ1 ∧ Post W σ ρ G H (g a ρ1) P := by
  cases r with
  | bad => exact h
  | exc x ρ' => exact h
  | ok a ρ1 => exact fun G1 H1 s1 l1 => ⟨s1, l1, h⟩
theorem d_tup {k : Nat} (ha : PA X es (rdA W fs)) (hl : ∀ ρ os ρ', fs ρ = .ok os ρ' → os.length ≤ LINE) : PE X (.Tuple es k pos) (rd W (fTup fs)) := by
  refine (pe_tup ha).imp fun σ H Q h => ?_
  obtain ⟨G, ρ, l, en, p⟩ := h
  refine ⟨G, ρ, l, en, ?_⟩
  have p' := Post.get p l en
  cases q : fs ρ with
  | bad => rw [q] at p'; exact p'
  | exc x ρ1 => rw [q] at p'; exact p'
  | ok os ρ1 =>
    rw [q] at p'
    intro G1 H1 s1 l1 vs rs
    obtain ⟨_, _, p2⟩ := p' G1 H1 s1 l1
    obtain ⟨G2, m, r, s, le⟩ := args_frozen en s1 l1 rs
    have z : (looks os ρ1).length ≤ LINE := by rw [looks, List.length_map]; exact hl ρ os ρ1 q
    refine ⟨by rw [r.length, ← line_eq]; exact z, fun a ha => ?_⟩
    have n := New.frozen s.le ha (.tup vs)
    exact p2 _ _ (s.trans (n.stp s.env)) le _ (new_tup s.le ha r z)
theorem d_lst (ha : PA X es (rdA W fs)) (hl : ∀ ρ os ρ', fs ρ = .ok os ρ' → os.length ≤ LINE) : PE X (.List es pos) (rd W (fLst fs)) := by
  refine (pe_lst ha).imp fun σ H Q h => ?_
  obtain ⟨G, ρ, l, en, p⟩ := h
  refine ⟨G, ρ, l, en, ?_⟩
  have p' := Post.get p l en
  cases q : fs ρ with
  | bad => rw [q] at p'; exact p'
  | exc x ρ1 => rw [q] at p'; exact p'
  | ok os ρ1 =>
    rw [q] at p'
    intro G1 H1 s1 l1 vs rs
    obtain ⟨_, _, p2⟩ := p' G1 H1 s1 l1
    obtain ⟨G2, m, r, s, le⟩ := args_frozen en s1 l1 rs
    have z : (looks os ρ1).length ≤ LINE := by rw [looks, List.length_map]; exact hl ρ os ρ1 q
    refine ⟨by rw [r.length, ← line_eq]; exact z, fun a ha => ?_⟩
    have n := New.mine s.le ha (.lst vs)
    exact p2 _ _ (s.trans (n.stp s.env)) le _ ((new_lst s.le ha r z).opd s.there)

/-! ### truth -/
variable {a b c : Expr} {fa fb fc : Env → Res Opd} {ta tb tc : Env → Res Bool}
theorem boolR_ok {o : Opd} {ρ : Env} {k : Bool} : boolR (.ok (.val (.bl k)) ρ) = .ok k ρ := rfl
def fNot (fa : Env → Res Opd) : Env → Res Opd := fun ρ => (boolR (fa ρ)).bind fun b ρ1 => .ok (.val (.bl (!b))) ρ1
def fAnd (fa fb : Env → Res Opd) : Env → Res Opd := fun ρ => (boolR (fa ρ)).bind fun c ρ1 => if c then (boolR (fb ρ1)).bind fun k ρ2 => .ok (.val (.bl k)) ρ2 else .ok (.val (.bl false)) ρ1
def fOr (fa fb : Env → Res Opd) : Env → Res Opd := fun ρ => (boolR (fa ρ)).bind fun c ρ1 => if c then .ok (.val (.bl true)) ρ1 else (boolR (fb ρ1)).bind fun k ρ2 => .ok (.val (.bl k)) ρ2
def fIf (fc fa fb : Env → Res Opd) : Env → Res Opd := fun ρ => (boolR (fc ρ)).bind fun k ρ1 => if k then fa ρ1 else fb ρ1
/-- a value that is a truth -/
theorem rd_bool {fa : Env → Res Opd} {σ : L2.St} {G H : Hp} {ρ : Env} {P : Bool → Env → Hp → Hp → Prop} (p : Post W σ ρ G H (boolR (fa ρ)) P) :
    Post W σ ρ G H (fa ρ) fun o ρ' G' H' => ∀ v, OpdR H σ ρ' G' H' v o → ∃ k, v = .bl k ∧ P k ρ' G' H' := by
  refine (Post.bind p).imp fun o ρ1 G1 H1 s1 l1 p1 v r => ?_
  have t := OpdR.top r s1.env
  cases q : look o ρ1 with
  | bl k =>
    rw [q] at p1 t
    exact ⟨k, t.bl, p1 G1 H1 (Stp.refl s1.le s1.env) (EnvLe.refl _)⟩
  | _ => rw [q] at p1; exact False.elim p1
theorem d_not (ha : PE X a (rd W fa)) : PE X (.UnaryOp .Not a pos) (rd W (fNot fa)) := by
  refine (pe_not ha).imp fun σ H Q h => ?_
  obtain ⟨G, ρ, l, en, p⟩ := h
  refine ⟨G, ρ, l, en, (rd_bool (Post.bind p)).imp fun o ρ1 G1 H1 s1 l1 p1 v r => ?_⟩
  obtain ⟨k, rfl, p2⟩ := p1 v r
  exact ⟨k, rfl, p2 G1 H1 (Stp.refl s1.le s1.env) (EnvLe.refl _) _ (.bl _)⟩
theorem d_and {rest : List Expr} (ha : PE X a (rd W fa)) (hb : PE X (.BoolOp .And (b :: rest) pos) (rd W fb)) : PE X (.BoolOp .And (a :: b :: rest) pos) (rd W (fAnd fa fb)) := by
  refine (pe_and ha hb).imp fun σ H Q h => ?_
  obtain ⟨G, ρ, l, en, p⟩ := h
  refine ⟨G, ρ, l, en, (rd_bool (Post.bind p)).imp fun o ρ1 G1 H1 s1 l1 p1 v r => ?_⟩
  obtain ⟨k, rfl, p2⟩ := p1 v r
  refine ⟨k, rfl, ?_⟩
  cases k with
  | false => exact p2 G1 H1 (Stp.refl s1.le s1.env) (EnvLe.refl _) _ (.bl _)
  | true =>
    refine ⟨G1, ρ1, s1.le, s1.env, (rd_bool (Post.bind p2)).imp fun o2 ρ2 G2 H2 s2 l2 p3 v2 r2 => ?_⟩
    obtain ⟨k2, rfl, p4⟩ := p3 v2 r2
    exact p4 G2 H2 (Stp.refl s2.le s2.env) (EnvLe.refl _) _ (.bl _)
theorem d_or {rest : List Expr} (ha : PE X a (rd W fa)) (hb : PE X (.BoolOp .Or (b :: rest) pos) (rd W fb)) : PE X (.BoolOp .Or (a :: b :: rest) pos) (rd W (fOr fa fb)) := by
  refine (pe_or ha hb).imp fun σ H Q h => ?_
  obtain ⟨G, ρ, l, en, p⟩ := h
  refine ⟨G, ρ, l, en, (rd_bool (Post.bind p)).imp fun o ρ1 G1 H1 s1 l1 p1 v r => ?_⟩
  obtain ⟨k, rfl, p2⟩ := p1 v r
  refine ⟨k, rfl, ?_⟩
  cases k with
  | true => exact p2 G1 H1 (Stp.refl s1.le s1.env) (EnvLe.refl _) _ (.bl _)
  | false =>
    refine ⟨G1, ρ1, s1.le, s1.env, (rd_bool (Post.bind p2)).imp fun o2 ρ2 G2 H2 s2 l2 p3 v2 r2 => ?_⟩
    obtain ⟨k2, rfl, p4⟩ := p3 v2 r2
    exact p4 G2 H2 (Stp.refl s2.le s2.env) (EnvLe.refl _) _ (.bl _)
/-! tests -/
def tNotR (ta : Env → Res Bool) : Env → Res Bool := fun ρ => (ta ρ).bind fun b ρ1 => .ok (!b) ρ1
def tAndR (ta tb : Env → Res Bool) : Env → Res Bool := fun ρ => (ta ρ).bind fun c ρ1 => if c then tb ρ1 else .ok false ρ1
def tOrR (ta tb : Env → Res Bool) : Env → Res Bool := fun ρ => (ta ρ).bind fun c ρ1 => if c then .ok true ρ1 else tb ρ1
theorem boolR_not (fa : Env → Res Opd) (ρ : Env) : boolR (fNot fa ρ) = tNotR (fun ρ => boolR (fa ρ)) ρ := by
  show boolR ((boolR (fa ρ)).bind _) = (boolR (fa ρ)).bind _
  generalize boolR (fa ρ) = r
  cases r <;> rfl
theorem boolR_and (fa fb : Env → Res Opd) (ρ : Env) : boolR (fAnd fa fb ρ) = tAndR (fun ρ => boolR (fa ρ)) (fun ρ => boolR (fb ρ)) ρ := by
  show boolR ((boolR (fa ρ)).bind _) = (boolR (fa ρ)).bind _
  generalize boolR (fa ρ) = r
  cases r with
  | bad => rfl
  | exc x ρ1 => rfl
  | ok c ρ1 =>
    cases c with
    | false => rfl
    | true =>
      show boolR ((boolR (fb ρ1)).bind _) = boolR (fb ρ1)
      generalize boolR (fb ρ1) = r
      cases r <;> rfl
theorem boolR_or (fa fb : Env → Res Opd) (ρ : Env) : boolR (fOr fa fb ρ) = tOrR (fun ρ => boolR (fa ρ)) (fun ρ => boolR (fb ρ)) ρ := by
  show boolR ((boolR (fa ρ)).bind _) = (boolR (fa ρ)).bind _
  generalize boolR (fa ρ) = r
  cases r with
  | bad => rfl
  | exc x ρ1 => rfl
  | ok c ρ1 =>
    cases c with
    | true => rfl
    | false =>
      show boolR ((boolR (fb ρ1)).bind _) = boolR (fb ρ1)
      generalize boolR (fb ρ1) = r
      cases r <;> rfl
theorem t_not (ha : PT X a (rdT W ta)) : PT X (.UnaryOp .Not a pos) (rdT W (tNotR ta)) := by
  refine (pt_not ha).imp fun σ H Q h => ?_
  obtain ⟨G, ρ, l, en, p⟩ := h
  exact ⟨G, ρ, l, en, (Post.bind p).imp fun k ρ1 G1 H1 s1 l1 p1 => p1 G1 H1 (Stp.refl s1.le s1.env) (EnvLe.refl _)⟩
theorem t_and {rest : List Expr} (ha : PT X a (rdT W ta)) (hb : PW X (.BoolOp .And (b :: rest) pos) (rdT W tb)) : PW X (.BoolOp .And (a :: b :: rest) pos) (rdT W (tAndR ta tb)) := by
  refine (pw_and ha hb).imp fun σ H Q h => ?_
  obtain ⟨G, ρ, l, en, p⟩ := h
  refine ⟨G, ρ, l, en, (Post.bind p).imp fun k ρ1 G1 H1 s1 l1 p1 => ?_⟩
  cases k with
  | true => exact ⟨G1, ρ1, s1.le, s1.env, p1⟩
  | false => exact p1 G1 H1 (Stp.refl s1.le s1.env) (EnvLe.refl _)
theorem t_or {rest : List Expr} (ha : PT X a (rdT W ta)) (hb : PW X (.BoolOp .Or (b :: rest) pos) (rdT W tb)) : PW X (.BoolOp .Or (a :: b :: rest) pos) (rdT W (tOrR ta tb)) := by
  refine (pw_or ha hb).imp fun σ H Q h => ?_
  obtain ⟨G, ρ, l, en, p⟩ := h
  refine ⟨G, ρ, l, en, (Post.bind p).imp fun k ρ1 G1 H1 s1 l1 p1 => ?_⟩
  cases k with
  | false => exact ⟨G1, ρ1, s1.le, s1.env, p1⟩
  | true => exact p1 G1 H1 (Stp.refl s1.le s1.env) (EnvLe.refl _)
theorem d_ifx (hc : PT X c (rdT W fun ρ => boolR (fc ρ))) (ha : PE X a (rd W fa)) (hb : PE X b (rd W fb)) : PE X (.IfExp c a b pos) (rd W (fIf fc fa fb)) := by
  refine (pe_ifExp hc ha hb).imp fun σ H Q h => ?_
  obtain ⟨G, ρ, l, en, p⟩ := h
  refine ⟨G, ρ, l, en, (Post.bind p).imp fun k ρ1 G1 H1 s1 l1 p1 => ?_⟩
  have go : ∀ {fx : Env → Res Opd}, Post W σ ρ1 G1 H1 (fx ρ1) (fun o ρ' G' H' => ∀ v, OpdR H σ ρ' G' H' v o → Q v H') → rd W fx σ H1 Q := fun {fx} q =>
    ⟨G1, ρ1, s1.le, s1.env, q.imp fun o ρ2 G2 H2 s2 l2 p3 v r => p3 v (r.older s1.there)⟩
  cases k with
  | true => exact go p1
  | false => exact go p1
def fNeg (fa : Env → Res Opd) : Env → Res Opd := fun ρ => (intR (fa ρ)).bind fun i ρ1 => .ok (.val (.int (-i))) ρ1
theorem rd_int {fa : Env → Res Opd} {σ : L2.St} {G H : Hp} {ρ : Env} {P : Int → Env → Hp → Hp → Prop} (p : Post W σ ρ G H (intR (fa ρ)) P) :
    Post W σ ρ G H (fa ρ) fun o ρ' G' H' => ∀ v, OpdR H σ ρ' G' H' v o → ∃ k, v = .int k ∧ P k ρ' G' H' := by
  refine (Post.bind p).imp fun o ρ1 G1 H1 s1 l1 p1 v r => ?_
  have t := OpdR.top r s1.env
  cases q : look o ρ1 with
  | int k =>
    rw [q] at p1 t
    exact ⟨k, t.int, p1 G1 H1 (Stp.refl s1.le s1.env) (EnvLe.refl _)⟩
  | _ => rw [q] at p1; exact False.elim p1
theorem d_neg (ha : PE X a (rd W fa)) : PE X (.UnaryOp .USub a pos) (rd W (fNeg fa)) := by
  refine (pe_un un_neg ha).imp fun σ H Q h => ?_
  obtain ⟨G, ρ, l, en, p⟩ := h
  refine ⟨G, ρ, l, en, (rd_int (Post.bind p)).imp fun o ρ1 G1 H1 s1 l1 p1 v r => ?_⟩
  obtain ⟨k, rfl, p2⟩ := p1 v r
  exact ⟨k, rfl, p2 G1 H1 (Stp.refl s1.le s1.env) (EnvLe.refl _) _ (.int _)⟩
end
end RR

/-! A10: comparisons. -/
namespace RR
open PySem L2
def opC : C2 → CmpOp
  | .eq => .Eq | .ne => .NotEq | .lt => .Lt | .le => .LtE | .gt => .Gt | .ge => .GtE | .isin => .In | .notin => .NotIn | .is => .Is | .isnot => .IsNot

theorem toPs_any (n : Nat) (x : D) (hx : plainD n x = true) : ∀ {ys : List D}, plainDs n ys = true → (toPs ys).any (fun z => PyData.eqv z (toP x)) = ys.any fun y => eqD y x
  | [], _ => rfl
  | y :: ys, h => by
    simp only [plainDs, Bool.and_eq_true] at h
    rw [toPs, List.any_cons, List.any_cons, eqv_toP n n y x h.1 hx, toPs_any n x hx h.2]
theorem shaped_seq {n : Nat} (hn : n ≤ 63) {G : Hp} {vs : List V} {ds : List D} (r : Reps G vs ds) (p : plainDs n ds = true) : SeqAt.shaped (.list (toPs ds)) = true ∧ PyData.canLayAll0 (toPs ds) = true := by
  obtain ⟨h1, h2⟩ := r.lay p
  refine ⟨?_, h1⟩
  rw [SeqAt.shaped]
  have a : (PyData.list (toPs ds)).canLay0 = true := by simpa [PyData.canLay0] using h1
  have b : (PyData.list (toPs ds)).depth ≤ 64 := by simp only [PyData.depth]; omega
  rw [a, decide_eq_true b]; rfl
/-! ### the order -/
mutual
theorem alike_toP : ∀ (n m : Nat) (x y : D), plainD n x = true → plainD m y = true → PySem.W.alike (toP x) (toP y) = alikeD x y
  | n, m, .non, y, h1, h2 => by cases y <;> simp_all [toP, PySem.W.alike, alikeD, plainD]
  | n, m, .bl a, y, h1, h2 => by cases y <;> simp_all [toP, PySem.W.alike, alikeD, plainD]
  | n, m, .int i, y, h1, h2 => by cases y <;> simp_all [toP, PySem.W.alike, alikeD, plainD]
  | n, m, .str s, y, h1, h2 => by cases y <;> simp_all [toP, PySem.W.alike, alikeD, plainD]
  | n, m, .tup xs, y, h1, h2 => by
    cases y with
    | tup ys =>
      cases n with
      | zero => simp [plainD] at h1
      | succ n =>
        cases m with
        | zero => simp [plainD] at h2
        | succ m =>
          simp only [toP, PySem.W.alike, alikeD]
          exact alikes_toP n m xs ys (by simpa [plainD] using h1) (by simpa [plainD] using h2)
    | _ => simp_all [toP, PySem.W.alike, alikeD, plainD]
  | n, m, .lst xs, y, h1, h2 => by
    cases y with
    | lst ys =>
      cases n with
      | zero => simp [plainD] at h1
      | succ n =>
        cases m with
        | zero => simp [plainD] at h2
        | succ m =>
          simp only [toP, PySem.W.alike, alikeD]
          exact alikes_toP n m xs ys (by simpa [plainD] using h1) (by simpa [plainD] using h2)
    | _ => simp_all [toP, PySem.W.alike, alikeD, plainD]
  | n, m, .dct _ _, y, h1, h2 => by simp [plainD] at h1
  | n, m, .clo _ _, y, h1, h2 => by simp [plainD] at h1
theorem alikes_toP : ∀ (n m : Nat) (xs ys : List D), plainDs n xs = true → plainDs m ys = true → PySem.W.alikeAll (toPs xs) (toPs ys) = alikeDs xs ys
  | n, m, [], [], _, _ => by simp [toPs, PySem.W.alikeAll, alikeDs]
  | n, m, [], _ :: _, _, _ => by simp [toPs, PySem.W.alikeAll, alikeDs]
  | n, m, _ :: _, [], _, _ => by simp [toPs, PySem.W.alikeAll, alikeDs]
  | n, m, x :: xs, y :: ys, h1, h2 => by
    simp only [plainDs, Bool.and_eq_true] at h1 h2
    simp only [toPs, PySem.W.alikeAll, alikeDs]
    rw [alike_toP n m x y h1.1 h2.1, alikes_toP n m xs ys h1.2 h2.2]
end
theorem ltS_lt : ∀ (s t : S), ltS s t = decide (s < t)
  | [], [] => rfl
  | [], _ :: _ => by simp [ltS]
  | _ :: _, [] => by simp [ltS]
  | x :: xs, y :: ys => by
    rw [ltS, ltS_lt xs ys]
    by_cases h : x < y
    · rw [if_pos h]
      symm
      rw [decide_eq_true_eq]
      exact List.cons_lt_cons_iff.mpr (.inl h)
    · rw [if_neg h]
      by_cases h2 : y < x
      · rw [if_pos h2]
        symm
        rw [decide_eq_false_iff_not]
        intro z
        rcases List.cons_lt_cons_iff.mp z with z | ⟨z, _⟩
        · exact h z
        · omega
      · rw [if_neg h2]
        have : x = y := by omega
        subst this
        congr 1
        rw [List.cons_lt_cons_iff]
        simp
mutual
theorem lt_toP : ∀ (n m : Nat) (x y : D), plainD n x = true → plainD m y = true → alikeD x y = true → PySem.W.dataLt (toP x) (toP y) = ltD x y
  | n, m, .non, y, h1, h2, al => by
    cases y with
    | non => rfl
    | _ => simp [alikeD] at al
  | n, m, .bl a, y, h1, h2, al => by
    cases y with
    | bl b =>
      show PySem.W.dataLt (.bool a) (.bool b) = _
      rw [PySem.W.dataLt_bool]
      cases a <;> cases b <;> rfl
    | _ => simp [alikeD] at al
  | n, m, .int i, y, h1, h2, al => by
    cases y with
    | int j => exact PySem.W.dataLt_int i j
    | _ => simp [alikeD] at al
  | n, m, .str s, y, h1, h2, al => by
    cases y with
    | str t =>
      show PySem.W.dataLt (.str (toStr s)) (.str (toStr t)) = ltS s t
      rw [PySem.W.dataLt_str, toStr_list, toStr_list, ltS_lt]
    | _ => simp [alikeD] at al
  | n, m, .tup xs, y, h1, h2, al => by
    cases y with
    | tup ys =>
      cases n with
      | zero => simp [plainD] at h1
      | succ n =>
        cases m with
        | zero => simp [plainD] at h2
        | succ m =>
          show PySem.W.dataLt (.tuple (toPs xs)) (.tuple (toPs ys)) = ltDs xs ys
          rw [PySem.W.dataLt_tuple]
          exact lts_toP n m xs ys (by simpa [plainD] using h1) (by simpa [plainD] using h2) (by simpa [alikeD] using al)
    | _ => simp [alikeD] at al
  | n, m, .lst xs, y, h1, h2, al => by
    cases y with
    | lst ys =>
      cases n with
      | zero => simp [plainD] at h1
      | succ n =>
        cases m with
        | zero => simp [plainD] at h2
        | succ m =>
          show PySem.W.dataLt (.list (toPs xs)) (.list (toPs ys)) = ltDs xs ys
          rw [PySem.W.dataLt_list]
          exact lts_toP n m xs ys (by simpa [plainD] using h1) (by simpa [plainD] using h2) (by simpa [alikeD] using al)
    | _ => simp [alikeD] at al
  | n, m, .dct _ _, y, h1, h2, al => by simp [plainD] at h1
  | n, m, .clo _ _, y, h1, h2, al => by simp [plainD] at h1
theorem lts_toP : ∀ (n m : Nat) (xs ys : List D), plainDs n xs = true → plainDs m ys = true → alikeDs xs ys = true → PyProof.Rows.lexLt PyProof.Rows.itemOrd (PySem.W.keyToksAll (toPs xs)) (PySem.W.keyToksAll (toPs ys)) = ltDs xs ys
  | n, m, [], [], _, _, _ => by rfl
  | n, m, [], y :: ys, _, _, _ => by
    simp only [toPs, PySem.W.keyToksAll, ltDs]
    rfl
  | n, m, x :: xs, [], _, _, _ => by
    simp only [toPs, PySem.W.keyToksAll, ltDs]
    rfl
  | n, m, x :: xs, y :: ys, h1, h2, al => by
    simp only [plainDs, Bool.and_eq_true] at h1 h2
    simp only [alikeDs, Bool.and_eq_true] at al
    have a1 : PySem.W.alike (toP x) (toP y) = true := by rw [alike_toP n m x y h1.1 h2.1]; exact al.1
    have e1 := eqv_toP n m x y h1.1 h2.1
    simp only [toPs, ltDs]
    cases q : eqD x y with
    | true =>
      rw [if_pos rfl, PySem.W.dataLt_all_yes a1 (by rw [e1]; exact q)]
      exact lts_toP n m xs ys h1.2 h2.2 al.2
    | false =>
      rw [if_neg (by decide), PySem.W.dataLt_all_no a1 (by rw [e1]; exact q)]
      exact lt_toP n m x y h1.1 h2.1 al.1
end
theorem Top.depth {G H : Hp} {v : V} {d : D} {n : Nat} (t : Top G H v d) (p : plainD n d = true) : (toP d).depth ≤ n := by
  cases t with
  | rep r => exact (r.lay p).2
  | own o =>
    cases n with
    | zero => cases o <;> simp [plainD] at p
    | succ n =>
      cases o with
      | lst h r z =>
        have := (r.lay (n := n) (by simpa [plainD] using p)).2
        simpa [toP, PyData.depth] using this
      | dct0 h r k z => simp [plainD] at p
      | dct1 h r k z => simp [plainD] at p
section
variable {X : Cx}
/-- x in t, t a tuple -/
theorem op_inT (hu : X.A.units + 65 < cLine) : OpR X (compareOp .In) (fun x y H Q => ∃ d ds, Dp X.K H x d ∧ Dp X.K H y (.tuple ds) ∧ SeqAt.shaped d = true ∧ PyData.canLayAll0 ds = true ∧ Q (.bl (ds.any fun z => PyData.eqv z d)) H) := by
  intro pins s σ H x y v u Q I rx ry h
  obtain ⟨d, ds, hd, he, sd, se, q⟩ := h
  obtain ⟨as, r1⟩ := Dp.reads I d x v hd rx
  obtain ⟨bs, r2⟩ := Dp.reads I (.tuple ds) y u he ry
  exact SeqAt.in_tuple_reads r2 r1 se (SeqAt.canLay_of_shaped sd) (PyProof.Rows.room_in_shaped sd hu) ⟨.bl _, H, I, rfl, q⟩
theorem op_notInT (hu : X.A.units + 65 < cLine) : OpR X (compareOp .NotIn) (fun x y H Q => ∃ d ds, Dp X.K H x d ∧ Dp X.K H y (.tuple ds) ∧ SeqAt.shaped d = true ∧ PyData.canLayAll0 ds = true ∧ Q (.bl (!ds.any fun z => PyData.eqv z d)) H) := by
  intro pins s σ H x y v u Q I rx ry h
  obtain ⟨d, ds, hd, he, sd, se, q⟩ := h
  obtain ⟨as, r1⟩ := Dp.reads I d x v hd rx
  obtain ⟨bs, r2⟩ := Dp.reads I (.tuple ds) y u he ry
  exact SeqAt.notIn_tuple_reads r2 r1 se (SeqAt.canLay_of_shaped sd) (PyProof.Rows.room_in_shaped sd hu) ⟨.bl _, H, I, rfl, q⟩

theorem isin_cases {x y : D} {b : Bool} (h : isin x y = some b) : (∃ ys, y = .lst ys ∧ plainD deep x = true ∧ plainDs deep ys = true ∧ b = memD x ys) ∨ (∃ ys, y = .tup ys ∧ plainD deep x = true ∧ plainDs deep ys = true ∧ b = memD x ys) ∨
    (∃ t c, y = .str t ∧ x = .str [c] ∧ b = t.contains c) ∨ (∃ n kvs, y = .dct n kvs ∧ keyK n x = true ∧ b = dhas kvs x) := by
  unfold isin at h
  split at h
  · split at h
    · rename_i hp; rw [Bool.and_eq_true] at hp; cases h; exact .inl ⟨_, rfl, hp.1, hp.2, rfl⟩
    · cases h
  · split at h
    · rename_i hp; rw [Bool.and_eq_true] at hp; cases h; exact .inr (.inl ⟨_, rfl, hp.1, hp.2, rfl⟩)
    · cases h
  · split at h
    · cases h; exact .inr (.inr (.inl ⟨_, _, rfl, rfl, rfl⟩))
    · cases h
  · split at h
    · rename_i hp; cases h; exact .inr (.inr (.inr ⟨_, _, rfl, hp, rfl⟩))
    · cases h
  · cases h
theorem op_isin (hu : X.A.units + 65 < cLine) : OpR X (compareOp .In) (rB fun a b => (cmp2 .isin a b).map blv) := by
  intro pins s σ H x y v u Q I rx ry h
  obtain ⟨G, d, e, o, l, tx, ty, hf, k⟩ := h
  obtain ⟨b, hb, rfl⟩ := Option.map_eq_some_iff.mp hf
  have fin : Q (.bl b) H := k _ G H (New.refl l) (.bl _)
  rcases isin_cases hb with ⟨ys, rfl, p1, p2, rfl⟩ | ⟨ys, rfl, p1, p2, rfl⟩ | ⟨t, c, rfl, rfl, rfl⟩ | ⟨n, kvs, rfl, hk, rfl⟩
  · obtain ⟨a, vs, rfl, h1, r, z⟩ := ty.lst l
    refine op_inD hu pins s σ H _ _ v u Q I rx ry ⟨toP d, toPs ys, tx.dp l p1, .lst (.inl h1) (r.dp l p2), tx.shaped (by decide) p1, (shaped_seq (by decide) r p2).1, ?_⟩
    rw [toPs_any deep d p1 p2]; exact fin
  · obtain ⟨a, vs, rfl, g, h1, r, z⟩ := ty.tup l
    refine op_inT hu pins s σ H _ _ v u Q I rx ry ⟨toP d, toPs ys, tx.dp l p1, .tup (.inl h1) (r.dp l p2), tx.shaped (by decide) p1, (shaped_seq (by decide) r p2).2, ?_⟩
    rw [toPs_any deep d p1 p2]; exact fin
  · obtain ⟨rfl, _, _⟩ := tx.str
    obtain ⟨rfl, _, _⟩ := ty.str
    refine op_in_sign pins s σ H _ _ v u Q I rx ry ⟨c, toStr t, rfl, rfl, ?_⟩
    rw [toStr_list]
    have : decide (c ∈ t) = t.contains c := by rw [List.contains_eq_mem]
    rw [this]; exact fin
  · obtain ⟨a, r, rfl, g, g1, g2⟩ := Top.dget l ty tx hk
    have e : r.isSome = dhas kvs d := by
      rw [dhas_dget]
      cases q : RR.dget kvs d with
      | none => rw [g2 q]; rfl
      | some w => obtain ⟨u, rfl, _⟩ := g1 w q; rfl
    obtain rfl : u = Value.ref a := ry
    refine d_in (Nat.lt_of_le_of_lt (by omega) hu) I g rx fun s' I' => ⟨.bl r.isSome, H, I', rfl, ?_⟩
    rw [e]; exact fin
theorem op_notin (hu : X.A.units + 65 < cLine) : OpR X (compareOp .NotIn) (rB fun a b => (cmp2 .notin a b).map blv) := by
  intro pins s σ H x y v u Q I rx ry h
  obtain ⟨G, d, e, o, l, tx, ty, hf, k⟩ := h
  obtain ⟨b', hb', rfl⟩ := Option.map_eq_some_iff.mp hf
  obtain ⟨b, hb, rfl⟩ := Option.map_eq_some_iff.mp hb'
  have fin : Q (.bl (!b)) H := k _ G H (New.refl l) (.bl _)
  rcases isin_cases hb with ⟨ys, rfl, p1, p2, rfl⟩ | ⟨ys, rfl, p1, p2, rfl⟩ | ⟨t, c, rfl, rfl, rfl⟩ | ⟨n, kvs, rfl, hk, rfl⟩
  · obtain ⟨a, vs, rfl, h1, r, z⟩ := ty.lst l
    refine op_notInD hu pins s σ H _ _ v u Q I rx ry ⟨toP d, toPs ys, tx.dp l p1, .lst (.inl h1) (r.dp l p2), tx.shaped (by decide) p1, (shaped_seq (by decide) r p2).1, ?_⟩
    rw [toPs_any deep d p1 p2]; exact fin
  · obtain ⟨a, vs, rfl, g, h1, r, z⟩ := ty.tup l
    refine op_notInT hu pins s σ H _ _ v u Q I rx ry ⟨toP d, toPs ys, tx.dp l p1, .tup (.inl h1) (r.dp l p2), tx.shaped (by decide) p1, (shaped_seq (by decide) r p2).2, ?_⟩
    rw [toPs_any deep d p1 p2]; exact fin
  · obtain ⟨rfl, _, _⟩ := tx.str
    obtain ⟨rfl, _, _⟩ := ty.str
    refine op_notIn_sign pins s σ H _ _ v u Q I rx ry ⟨c, toStr t, rfl, rfl, ?_⟩
    rw [toStr_list]
    have : decide (c ∈ t) = t.contains c := by rw [List.contains_eq_mem]
    rw [this]; exact fin
  · obtain ⟨a, r, rfl, g, g1, g2⟩ := Top.dget l ty tx hk
    have e : r.isSome = dhas kvs d := by
      rw [dhas_dget]
      cases q : RR.dget kvs d with
      | none => rw [g2 q]; rfl
      | some w => obtain ⟨u, rfl, _⟩ := g1 w q; rfl
    obtain rfl : u = Value.ref a := ry
    refine d_notIn (Nat.lt_of_le_of_lt (by omega) hu) I g rx fun s' I' => ⟨.bl (!r.isSome), H, I', rfl, ?_⟩
    rw [e]; exact fin
theorem isD_cases {x y : D} {b : Bool} (h : isD x y = some b) : y = .non ∨ ∃ c, y = .bl c := by
  cases y with
  | non => exact .inl rfl
  | bl c => exact .inr ⟨c, rfl⟩
  | _ => cases x <;> simp [isD] at h
theorem op_is : OpR X (compareOp .Is) (rB fun a b => (cmp2 .is a b).map blv) := by
  intro pins s σ H x y v u Q I rx ry h
  obtain ⟨G, d, e, o, l, tx, ty, hf, k⟩ := h
  obtain ⟨b, hb, rfl⟩ := Option.map_eq_some_iff.mp hf
  have hb : isD d e = some b := hb
  have fin : Q (.bl b) H := k _ G H (New.refl l) (.bl _)
  rcases isD_cases hb with rfl | ⟨c, rfl⟩
  · obtain rfl := ty.non
    rw [isD_non hb tx] at fin
    exact op_isN pins s σ H _ _ v u Q I rx ry ⟨rfl, fin⟩
  · obtain ⟨a, rfl, rfl⟩ := isD_bl hb
    obtain rfl := tx.bl
    obtain rfl := ty.bl
    refine op_isBl pins s σ H _ _ v u Q I rx ry ⟨a, c, rfl, rfl, ?_⟩
    rw [← Bool.beq_eq_decide_eq]; exact fin
theorem op_isnot : OpR X (compareOp .IsNot) (rB fun a b => (cmp2 .isnot a b).map blv) := by
  intro pins s σ H x y v u Q I rx ry h
  obtain ⟨G, d, e, o, l, tx, ty, hf, k⟩ := h
  obtain ⟨b', hb', rfl⟩ := Option.map_eq_some_iff.mp hf
  obtain ⟨b, hb, rfl⟩ := Option.map_eq_some_iff.mp hb'
  have fin : Q (.bl (!b)) H := k _ G H (New.refl l) (.bl _)
  rcases isD_cases hb with rfl | ⟨c, rfl⟩
  · obtain rfl := ty.non
    rw [isD_non hb tx] at fin
    exact op_notN pins s σ H _ _ v u Q I rx ry ⟨rfl, fin⟩
  · obtain ⟨a, rfl, rfl⟩ := isD_bl hb
    obtain rfl := tx.bl
    obtain rfl := ty.bl
    refine op_notBl pins s σ H _ _ v u Q I rx ry ⟨a, c, rfl, rfl, ?_⟩
    rw [← Bool.beq_eq_decide_eq]; exact fin
theorem op_leI : OpR X (compareOp .LtE) (rB fun a b => (cmp2 .le a b).map blv) := by
  intro pins s σ H x y v u Q I rx ry h
  obtain ⟨G, d, e, o, l, tx, ty, hf, k⟩ := h
  obtain ⟨b, hb, rfl⟩ := Option.map_eq_some_iff.mp hf
  have fin : Q (.bl b) H := k _ G H (New.refl l) (.bl _)
  simp only [cmp2] at hb
  split at hb
  · cases hb
    obtain rfl := tx.int
    obtain rfl := ty.int
    exact L2.op_le pins s σ H _ _ v u Q I rx ry ⟨_, _, rfl, rfl, fin⟩
  · cases hb
theorem op_geI : OpR X (compareOp .GtE) (rB fun a b => (cmp2 .ge a b).map blv) := by
  intro pins s σ H x y v u Q I rx ry h
  obtain ⟨G, d, e, o, l, tx, ty, hf, k⟩ := h
  obtain ⟨b, hb, rfl⟩ := Option.map_eq_some_iff.mp hf
  have fin : Q (.bl b) H := k _ G H (New.refl l) (.bl _)
  simp only [cmp2] at hb
  split at hb
  · cases hb
    obtain rfl := tx.int
    obtain rfl := ty.int
    exact L2.op_ge pins s σ H _ _ v u Q I rx ry ⟨_, _, rfl, rfl, fin⟩
  · cases hb
theorem alike_ltD {n m : Nat} {G H : Hp} {x y : V} {d e : D} (l : Le G H) (tx : Top G H x d) (ty : Top G H y e) (p1 : plainD deep d = true) (p2 : plainD deep e = true) (al : alikeD d e = true) (nn : isNon d = false) :
    PySem.W.alike (toP d) (toP e) = true ∧ toP d ≠ .none ∧ min (toP d).depth (toP e).depth ≤ deep ∧ PySem.W.dataLt (toP d) (toP e) = ltD d e := by
  refine ⟨?_, ?_, ?_, ?_⟩
  · rw [alike_toP deep deep d e p1 p2]; exact al
  · intro z; cases d <;> simp_all [toP, isNon, plainD]
  · exact Nat.le_trans (Nat.min_le_left _ _) (tx.depth p1)
  · exact lt_toP deep deep d e p1 p2 al
theorem op_ltD (hu : X.A.units + 65 < cLine) : OpR X (compareOp .Lt) (rB fun a b => (cmp2 .lt a b).map blv) := by
  intro pins s σ H x y v u Q I rx ry h
  obtain ⟨G, d, e, o, l, tx, ty, hf, k⟩ := h
  obtain ⟨b, hb, rfl⟩ := Option.map_eq_some_iff.mp hf
  have fin : Q (.bl b) H := k _ G H (New.refl l) (.bl _)
  simp only [cmp2] at hb
  by_cases hc : (plain2 d e && alikeD d e && !isNon d) = true
  · rw [if_pos hc] at hb
    simp only [plain2, Bool.and_eq_true, Bool.not_eq_true'] at hc
    obtain ⟨⟨⟨p1, p2⟩, al⟩, nn⟩ := hc
    cases hb
    obtain ⟨a1, a2, a3, a4⟩ := alike_ltD (n := 0) (m := 0) l tx ty p1 p2 al nn
    obtain ⟨as, ra⟩ := Dp.reads I (toP d) x v (tx.dp l p1) rx
    obtain ⟨bs, rb⟩ := Dp.reads I (toP e) y u (ty.dp l p2) ry
    refine PySem.W.lt_data ra rb a1 a2 (by have : deep = 30 := rfl; omega) ?_
    rw [a4]
    exact ⟨.bl _, H, I, rfl, fin⟩
  · rw [if_neg hc] at hb; cases hb
theorem op_gtD (hu : X.A.units + 65 < cLine) : OpR X (compareOp .Gt) (rB fun a b => (cmp2 .gt a b).map blv) := by
  intro pins s σ H x y v u Q I rx ry h
  obtain ⟨G, d, e, o, l, tx, ty, hf, k⟩ := h
  obtain ⟨b, hb, rfl⟩ := Option.map_eq_some_iff.mp hf
  have fin : Q (.bl b) H := k _ G H (New.refl l) (.bl _)
  simp only [cmp2] at hb
  by_cases hc : (plain2 d e && alikeD d e && !isNon d) = true
  · rw [if_pos hc] at hb
    simp only [plain2, Bool.and_eq_true, Bool.not_eq_true'] at hc
    obtain ⟨⟨⟨p1, p2⟩, al⟩, nn⟩ := hc
    cases hb
    obtain ⟨a1, a2, a3, a4⟩ := alike_ltD (n := 0) (m := 0) l tx ty p1 p2 al nn
    have al2 : alikeD e d = true := by rw [← alike_toP deep deep e d p2 p1, PySem.W.alike_comm]; exact a1
    obtain ⟨as, ra⟩ := Dp.reads I (toP d) x v (tx.dp l p1) rx
    obtain ⟨bs, rb⟩ := Dp.reads I (toP e) y u (ty.dp l p2) ry
    refine PySem.W.gt_data ra rb a1 a2 (by have : deep = 30 := rfl; omega) ?_
    rw [lt_toP deep deep e d p2 p1 al2]
    exact ⟨.bl _, H, I, rfl, fin⟩
  · rw [if_neg hc] at hb; cases hb
theorem op_cmp (hu : X.A.units + 65 < cLine) (op : C2) : OpR X (compareOp (opC op)) (rB fun a b => (cmp2 op a b).map blv) := by
  cases op with
  | eq => exact op_eqq (by omega)
  | ne => exact op_nee (by omega)
  | lt => exact op_ltD hu
  | gt => exact op_gtD hu
  | le => exact op_leI
  | ge => exact op_geI
  | isin => exact op_isin hu
  | notin => exact op_notin hu
  | is => exact op_is
  | isnot => exact op_isnot
end

section
variable {X : Cx} {W : XW} {a b c : Expr} {fa fb fc : Env → Res Opd} {pos : Pos}
def fCmp (op : C2) (fa fb : Env → Res Opd) : Env → Res Opd := rd2 fa fb fun x y => (cmp2 op x y).map blv
theorem d_cmp (hu : X.A.units + 65 < cLine) {op : C2} (ha : PE X a (rd W fa)) (hb : PE X b (rd W fb)) (hs : notSet b = true) : PE X (.Compare a [opC op] [b] pos) (rd W (fCmp op fa fb)) :=
  (pe_cmpR (op_cmp hu op) ha hb (mark_of hs _)).imp fun _ _ _ h => rd2_op h
theorem t_cmp (hu : X.A.units + 65 < cLine) {op : C2} (ha : PE X a (rd W fa)) (hb : PE X b (rd W fb)) (hs : notSet b = true) : PT X (.Compare a [opC op] [b] pos) (rdT W fun ρ => boolR (fCmp op fa fb ρ)) := by
  refine (pt_cmpR (op_cmp hu op) ha hb (mark_of hs _)).imp fun σ H Q h => ?_
  refine rd2_op (g := fun x y => (cmp2 op x y).map blv) (W := W) ?_
  obtain ⟨G, ρ, l, en, p⟩ := h
  refine ⟨G, ρ, l, en, (rd_bool (fa := fCmp op fa fb) p).imp fun o ρ1 G1 H1 s1 l1 p1 v r => ?_⟩
  obtain ⟨k, rfl, p2⟩ := p1 v r
  exact ⟨k, rfl, p2⟩
def fChain (o1 o2 : C2) (fa fb fc : Env → Res Opd) : Env → Res Opd := fun ρ => (fa ρ).bind fun x ρ1 => (fb ρ1).bind fun y ρ2 => match cmp2 o1 (look x ρ2) (look y ρ2) with
    | some true => (fc ρ2).bind fun z ρ3 => okO ((cmp2 o2 (look y ρ3) (look z ρ3)).map blv) ρ3
    | some false => .ok (.val (.bl false)) ρ2
    | none => .bad
theorem chain_read {o1 o2 : C2} {σ : L2.St} {H : Hp} {Q : VK} (h : rd W (fChain o1 o2 fa fb fc) σ H Q) : tChain (rB fun a b => (cmp2 o1 a b).map blv) (rB fun a b => (cmp2 o2 a b).map blv) (rd W fa) (rd W fb) (rd W fc) σ H Q := by
  obtain ⟨G, ρ, l, en, p⟩ := h
  refine ⟨G, ρ, l, en, (Post.bind p).imp fun x1 ρ1 G1 H1 s1 l1 p1 v1 r1 => ?_⟩
  refine ⟨G1, ρ1, s1.le, s1.env, (Post.bind p1).imp fun x2 ρ2 G2 H2 s2 l2 p2 v2 r2 => ?_⟩
  cases q : cmp2 o1 (look x1 ρ2) (look x2 ρ2) with
  | none => rw [q] at p2; exact False.elim p2
  | some k =>
    rw [q] at p2
    refine ⟨G2, _, _, blv k, s2.le, OpdR.seen en s1 l1 r1 s2 l2, OpdR.top r2 s2.env, (by show Option.map blv (cmp2 o1 _ _) = _; rw [q]; rfl), fun v G' H' n r => ?_⟩
    have ev : v = .bl k := by cases (show Rep G' v (.bl k) from r); rfl
    subst ev
    refine ⟨k, rfl, ?_⟩
    have sn := n.stp s2.env
    cases k with
    | false => exact p2 G' H' sn (EnvLe.refl _) _ (.bl _)
    | true =>
      refine ⟨G', ρ2, n.le, sn.env, ?_⟩
      have p3 : Post W σ ρ2 G' H' ((fc ρ2).bind fun z ρ3 => okO ((cmp2 o2 (look x2 ρ3) (look z ρ3)).map blv) ρ3) (fun o ρ' G' H' => ∀ v, OpdR H σ ρ' G' H' v o → Q v H') := by
        have p2' : Post W σ ρ2 G2 H2 ((fc ρ2).bind fun z ρ3 => okO ((cmp2 o2 (look x2 ρ3) (look z ρ3)).map blv) ρ3) (fun o ρ' G' H' => ∀ v, OpdR H σ ρ' G' H' v o → Q v H') := p2
        generalize ((fc ρ2).bind fun z ρ3 => okO ((cmp2 o2 (look x2 ρ3) (look z ρ3)).map blv) ρ3) = rr at p2'
        cases rr with
        | bad => exact p2'
        | exc x ρ' => exact ExcW.later p2' sn
        | ok o ρ' => exact fun G3 H3 s3 l3 => p2' G3 H3 (sn.trans s3) l3
      refine (Post.bind p3).imp fun x3 ρ3 G3 H3 s3 l3 p4 v3 r3 => ?_
      cases q2 : cmp2 o2 (look x2 ρ3) (look x3 ρ3) with
      | none => rw [q2] at p4; exact False.elim p4
      | some k2 =>
        rw [q2] at p4
        refine ⟨G3, look x2 ρ3, look x3 ρ3, blv k2, s3.le, ?_, OpdR.top r3 s3.env, (by show Option.map blv (cmp2 o2 _ _) = _; rw [q2]; rfl), fun v G'' H'' n2 r2' => ?_⟩
        · exact OpdR.seen s1.env s2 l2 r2 (sn.trans s3) l3
        · exact p4 G'' H'' (n2.stp s3.env) (EnvLe.refl _) v (r2'.opd (((s1.trans s2).trans sn).trans s3).there)
theorem d_chain (hu : X.A.units + 65 < cLine) {o1 o2 : C2} (ha : PE X a (rd W fa)) (hb : PE X b (rd W fb)) (hc : PE X c (rd W fc)) (hs : notSet b = true) (hs2 : notSet c = true) : PE X (.Compare a [opC o1, opC o2] [b, c] pos) (rd W (fChain o1 o2 fa fb fc)) :=
  (pe_chain (op_cmp hu o1) (op_cmp hu o2) ha hb hc (hm := by show behindInMarks (opC o2) c = false; exact mark_of hs2 _)).imp fun _ _ _ h => chain_read h
theorem t_chain (hu : X.A.units + 65 < cLine) {o1 o2 : C2} (ha : PE X a (rd W fa)) (hb : PE X b (rd W fb)) (hc : PE X c (rd W fc)) (hs : notSet b = true) (hs2 : notSet c = true) : PT X (.Compare a [opC o1, opC o2] [b, c] pos) (rdT W fun ρ => boolR (fChain o1 o2 fa fb fc ρ)) := by
  refine (pt_chain (op_cmp hu o1) (op_cmp hu o2) ha hb hc (hm := by show behindInMarks (opC o2) c = false; exact mark_of hs2 _)).imp fun σ H Q h => ?_
  refine chain_read (W := W) ?_
  obtain ⟨G, ρ, l, en, p⟩ := h
  refine ⟨G, ρ, l, en, (rd_bool (fa := fChain o1 o2 fa fb fc) p).imp fun o ρ1 G1 H1 s1 l1 p1 v r => ?_⟩
  obtain ⟨k, rfl, p2⟩ := p1 v r
  exact ⟨k, rfl, p2⟩
end
end RR

/-! A11: slices; calls of the text's own defs. -/
namespace RR
open PySem L2

/-! ### slices -/
theorem clip_eq (n d : Nat) (o : Option Int) : HT.sIx n d o = clip n d o := by
  cases o with
  | none => rfl
  | some v =>
    show (if v < 0 then (v + (n : Int)).toNat else min v.toNat n) = (if v < 0 then (max (v + (n : Int)) 0).toNat else min v.toNat n)
    by_cases h : v < 0
    · rw [if_pos h, if_pos h]; omega
    · rw [if_neg h, if_neg h]
theorem cutV_cut (vs : List V) (lo hi : Option Int) : cutV vs lo hi = cut vs lo hi := by
  unfold cutV cut
  rw [clip_eq, clip_eq]
theorem Reps.cut {G : Hp} {vs : List V} {ds : List D} (r : Reps G vs ds) (lo hi : Option Int) : Reps G (RR.cut vs lo hi) (RR.cut ds lo hi) := by
  unfold RR.cut
  rw [r.length]
  exact (r.drop _).take _
theorem cut_len {α : Type} (xs : List α) (lo hi : Option Int) : (cut xs lo hi).length ≤ xs.length := by
  unfold cut
  rw [List.length_take, List.length_drop]
  omega
theorem cutS_cut (s : S) (lo hi : Option Int) : cutS (toStr s) lo hi = toStr (cut s lo hi) := by
  unfold cutS cut toStr
  simp only [Str.length, List.size_toArray]
  rw [clip_eq, clip_eq]
theorem cut_whole {α : Type} {xs : List α} {lo hi : Option Int} (h : clip xs.length 0 lo = 0 ∧ clip xs.length xs.length hi = xs.length) : cut xs lo hi = xs := by
  unfold cut
  rw [h.1, h.2]; simp
def rSl : V → Option Int → Option Int → Hp → VK → Prop := fun x lo hi H Q => ∃ G d o, Le G H ∧ Top G H x d ∧ sliceD d lo hi = some o ∧ ∀ v G' H', New G H G' H' → ResR H G' H' v o → Q v H'
section
variable {X : Cx}
theorem sl_any : SlR X rSl := by
  intro pins s σ H x v vl vu lo hi sl Q I rx hs pl pu h
  obtain ⟨G, d, o, l, t, hf, k⟩ := h
  unfold sliceD at hf
  split at hf
  · cases hf
    obtain ⟨a, vs, rfl, g, h1, r, z⟩ := t.tup l
    refine sl_tupA pins s σ H _ v vl vu lo hi sl Q I rx hs pl pu ⟨a, vs, rfl, .inl h1, fun hw => ?_, fun hw p hp => ?_⟩
    · rw [clip_eq, clip_eq, r.length] at hw
      rw [cut_whole hw] at k
      exact k _ G H (New.refl l) (.tup g r z)
    · rw [cutV_cut]
      exact k _ _ _ (New.frozen l hp _) (new_tup l hp (r.cut lo hi) (Nat.le_trans (cut_len _ _ _) z))
  · cases hf
    obtain ⟨a, vs, rfl, h1, r, z⟩ := t.lst l
    refine sl_list pins s σ H _ v vl vu lo hi sl Q I rx hs pl pu ⟨a, vs, rfl, .inl h1, fun p hp => ?_⟩
    rw [cutV_cut]
    exact k _ _ _ (New.mine l hp _) (new_lst l hp (r.cut lo hi) (Nat.le_trans (cut_len _ _ _) z))
  · cases hf
    obtain ⟨rfl, z, c⟩ := t.str
    refine sl_str pins s σ H _ v vl vu lo hi sl Q I rx hs pl pu ⟨_, rfl, by rw [toStr_len, ← line_eq]; exact z, ?_⟩
    rw [cutS_cut]
    refine k _ G H (New.refl l) (.str _ (Nat.le_trans (cut_len _ _ _) z) ?_)
    simp only [okS, List.all_eq_true] at c ⊢
    intro y hy
    refine c y ?_
    unfold cut at hy
    exact List.mem_of_mem_drop (List.mem_of_mem_take hy)
  · cases hf

variable {W : XW} {a : Expr} {fa : Env → Res Opd} {pos p2 : Pos} {lo hi : Option Expr} {fl fh : Env → Res (List Int)}
/-- a slice's part -/
def rdO (W : XW) (f : Env → Res (List Int)) : TO := fun σ H Q => ∃ G ρ, Le G H ∧ EnvR G H σ ρ ∧ Post W σ ρ G H (f ρ) fun is ρ' G' H' => Q (optI is) H'
theorem _root_.L2.PO.imp {X : Cx} {e : Option Expr} {t t' : TO} (h : PO X e t) (f : ∀ σ H Q, t' σ H Q → t σ H Q) : PO X e t' := ⟨fun pins s σ H Q I q => h.run pins s σ H Q I (f σ H Q q)⟩
theorem o_none : PO X none (rdO W fun ρ => .ok [] ρ) := po_none.imp fun σ H Q h => by
  obtain ⟨G, ρ, l, en, p⟩ := h
  exact p G H (Stp.refl l en) (EnvLe.refl _)
def fI1 (fa : Env → Res Opd) : Env → Res (List Int) := fun ρ => (intR (fa ρ)).bind fun i ρ1 => .ok [i] ρ1
theorem o_some (ha : PE X a (rd W fa)) : PO X (some a) (rdO W (fI1 fa)) := (po_some ha).imp fun σ H Q h => by
  obtain ⟨G, ρ, l, en, p⟩ := h
  refine ⟨G, ρ, l, en, (rd_int (Post.bind p)).imp fun o ρ1 G1 H1 s1 l1 p1 v r => ?_⟩
  obtain ⟨k, rfl, p2⟩ := p1 v r
  exact ⟨k, rfl, p2 G1 H1 (Stp.refl s1.le s1.env) (EnvLe.refl _)⟩
def fSlice (fa : Env → Res Opd) (fl fh : Env → Res (List Int)) : Env → Res Opd := fun ρ => (fa ρ).bind fun x ρ1 => (fl ρ1).bind fun l ρ2 => (fh ρ2).bind fun h ρ3 => okO (sliceD (look x ρ3) (optI l) (optI h)) ρ3
theorem d_slice (ha : PE X a (rd W fa)) (hl : PO X lo (rdO W fl)) (hh : PO X hi (rdO W fh)) : PE X (.Subscript a (.Slice lo hi none p2) pos) (rd W (fSlice fa fl fh)) := by
  refine (pe_slice sl_any ha hl hh).imp fun σ H Q h => ?_
  obtain ⟨G, ρ, l, en, p⟩ := h
  refine ⟨G, ρ, l, en, (Post.bind p).imp fun x ρ1 G1 H1 s1 l1 p1 v1 r1 => ?_⟩
  refine ⟨G1, ρ1, s1.le, s1.env, (Post.bind p1).imp fun i ρ2 G2 H2 s2 l2 p2 => ?_⟩
  refine ⟨G2, ρ2, s2.le, s2.env, (Post.bind p2).imp fun j ρ3 G3 H3 s3 l3 p3 => ?_⟩
  cases q : sliceD (look x ρ3) (optI i) (optI j) with
  | none => rw [q] at p3; exact False.elim p3
  | some o =>
    rw [q] at p3
    refine ⟨G3, _, o, s3.le, OpdR.seen en s1 l1 r1 (s2.trans s3) (l2.trans l3), q, fun v G' H' n r => ?_⟩
    exact p3 G' H' (n.stp s3.env) (EnvLe.refl _) v (r.opd ((s1.trans s2).trans s3).there)
def fRev (fa : Env → Res Opd) : Env → Res Opd := fun ρ => (fa ρ).bind fun x ρ1 => okO (revD (look x ρ1)) ρ1
theorem d_rev {k : Nat} {p1 p2 p3 : Pos} (ha : PE X a (rd W fa)) : PE X (.Subscript a (.Slice none none (some (.UnaryOp .USub (.Constant (.int 1) k p1) p2)) p3) pos) (rd W (fRev fa)) := by
  refine (L2.pe_revL ha).imp fun σ H Q h => ?_
  obtain ⟨G, ρ, l, en, p⟩ := h
  refine ⟨G, ρ, l, en, (Post.bind p).imp fun x ρ1 G1 H1 s1 l1 p1 v1 r1 => ?_⟩
  have t := OpdR.top r1 s1.env
  cases q : revD (look x ρ1) with
  | none => rw [q] at p1; exact False.elim p1
  | some o =>
    rw [q] at p1
    have fin : ∀ v G' H', New G1 H1 G' H' → ResR H1 G' H' v o → Q v H' := fun v G' H' n r => p1 G' H' (n.stp s1.env) (EnvLe.refl _) v (r.opd s1.there)
    cases e : look x ρ1 with
    | lst ds =>
      rw [e] at q t
      simp only [revD, Option.some.injEq] at q
      subst q
      obtain ⟨a, vs, rfl, h1, r, z⟩ := t.lst s1.le
      exact ⟨a, vs, rfl, .inl h1, fun p hp => fin _ _ _ (New.mine s1.le hp _) (new_lst s1.le hp r.rev (by rw [List.length_reverse]; exact z))⟩
    | _ => rw [e] at q; simp [revD] at q
end

/-! ### calls of the text's own defs -/
/-- the first argument's list, where it is the callee's to change -/
def Io (vs : List V) (as : List Sl) (a : Addr) : Prop := ∃ d, as[0]? = some (.own d) ∧ vs[0]? = some (.ref a)
inductive ArgsR (G H : Hp) : List V → List Sl → Prop
  | nil : ArgsR G H [] []
  | val {v : V} {d : D} {vs : List V} {as : List Sl} (h : Rep G v d) (r : ArgsR G H vs as) : ArgsR G H (v :: vs) (.val d :: as)
  | own {a : Addr} {d : D} {vs : List V} {as : List Sl} (g : G a = none) (o : Own G H a d) (r : ArgsR G H vs as) : ArgsR G H (.ref a :: vs) (.own d :: as)
/-- from the call to its end -/
structure CStp (vs : List V) (as : List Sl) (G H G' H' : Hp) : Prop where
  mono : Mo G G'
  le : Le G' H'
  keep : ∀ a o, H a = some o → ¬ Io vs as a → H' a = some o
  fresh : ∀ a, G a = none → G' a ≠ none → H a = none ∨ ∃ us, G' a = some (.tup us)
  there : ∀ a o, H a = some o → ∃ o', H' a = some o'
/-- a def's promise, by what its calls come to -/
def spF (xc : XCls) (run : List Sl → CR) : Sp := fun vs H Q E => ∃ G as, Le G H ∧ ArgsR G H vs as ∧
  match run as with
  | .bad => False
  | .exc x => ∀ cls ed G' H', ExAt xc x cls ed H' → Mo G G' → Le G' H' → (∀ a o, H a = some o → ¬ Io vs as a → H' a = some o) → (∀ a o, H a = some o → ∃ o', H' a = some o') → E cls ed H'
  | .ok d own out => ∀ v G' H', CStp vs as G H G' H' → (∀ a, Io vs as a → G' a = none ∧ Own G' H' a out) →
      (if own = true then ∃ a, v = .ref a ∧ H a = none ∧ G' a = none ∧ Own G' H' a d else Rep G' v d) → Q v H'

mutual
/-- what has no list in it leans on tuples alone -/
theorem Rep.noref {G G' : Hp} (k : ∀ a vs, G a = some (.tup vs) → G' a = some (.tup vs)) : ∀ {v : V} {d : D}, Rep G v d → noref d = true → Rep G' v d
  | _, _, .non, _ => .non
  | _, _, .bl b, _ => .bl b
  | _, _, .int i, _ => .int i
  | _, _, .str s h c, _ => .str s h c
  | _, _, .tup h r z, n => .tup (k _ _ h) (Reps.noref k r (by simpa [RR.noref] using n)) z
  | _, _, .lst h r z, n => by simp [RR.noref] at n
  | _, _, .dct0 h r q z, n => by simp [RR.noref] at n
  | _, _, .dct1 h r q z, n => by simp [RR.noref] at n
theorem Reps.noref {G G' : Hp} (k : ∀ a vs, G a = some (.tup vs) → G' a = some (.tup vs)) : ∀ {vs : List V} {ds : List D}, Reps G vs ds → norefs ds = true → Reps G' vs ds
  | _, _, .nil, _ => .nil
  | _, _, .cons h r, n => by
    simp only [norefs, Bool.and_eq_true] at n
    exact .cons (Rep.noref k h n.1) (Reps.noref k r n.2)
end
theorem own_ref {G H : Hp} {a : Addr} {d : D} (o : Own G H a d) : noref d = false := by cases o <;> rfl
theorem args_vals {G H : Hp} : ∀ {vs : List V} {ds : List D}, Reps G vs ds → ArgsR G H vs (ds.map .val)
  | _, _, .nil => .nil
  | _, _, .cons h r => .val h (args_vals r)
theorem io_vals {vs : List V} {ds : List D} {a : Addr} : ¬ Io vs (ds.map .val) a := by
  rintro ⟨d, h, _⟩
  cases ds <;> simp at h
end RR

/-! A12: calls of the text's own defs, by their promises. -/
namespace RR
open PySem L2

/-- the def x of the text, by what its calls come to -/
structure FnG (X : Cx) (xc : XCls) (x : Str) (run : List Sl → CR) : Prop where
  ex : ∃ (k : Nat) (fa : Addr) (fd : FuncData) (ps : List Str), Room k X.A ∧ X.mg x = some (.ref fa) ∧ PySem.W.keepIn X.K (.ref fa) = true ∧ Binds X.K fd ps [] ∧
    FnOk X.prog X.w X.K X.mg X.base (L2.CX X.prog X.w) k fa fd ps (spF xc run)

section
variable {σ : L2.St} {ρ : Env} {G H G' H' : Hp}
/-- a call that changes none of this frame's things -/
theorem CStp.stp {vs : List V} {as : List Sl} (c : CStp vs as G H G' H') (n : ∀ a, ¬ Io vs as a) (e : EnvR G H σ ρ) : Stp σ ρ G H σ ρ G' H' :=
  New.stp ⟨c.mono, c.le, fun a o h => c.keep a o h (n a), c.fresh⟩ e
theorem CStp.new {vs : List V} {as : List Sl} (c : CStp vs as G H G' H') (n : ∀ a, ¬ Io vs as a) : New G H G' H' := ⟨c.mono, c.le, fun a o h => c.keep a o h (n a), c.fresh⟩
/-- .. what was lent is one's own again -/
theorem lend_back {G1 G2 : Hp} {vs : List V} {as : List Sl} (m : Mo G1 G2) (l2 : Le G2 H) (c : CStp vs as G2 H G' H') (n : ∀ a, ¬ Io vs as a) (e : EnvR G1 H σ ρ) :
    ∃ G3, (∀ a us, G' a = some (.tup us) → G3 a = some (.tup us)) ∧ Stp σ ρ G1 H σ ρ G3 H' := by
  classical
  let G3 : Hp := fun a => if G1 a = none ∧ H a ≠ none ∧ ¬ (∃ us, G' a = some (.tup us)) then none else G' a
  have tup3 : ∀ a us, G' a = some (.tup us) → G3 a = some (.tup us) := fun a us h => by
    show (if _ then _ else _) = _
    rw [if_neg (fun z => z.2.2 ⟨us, h⟩)]; exact h
  have mono3 : Mo G1 G3 := fun a o h => by
    show (if _ then _ else _) = _
    rw [if_neg (fun z => by rw [h] at z; cases z.1)]
    exact c.mono a o (m a o h)
  have sub : ∀ a o, G3 a = some o → G' a = some o := fun a o h => by
    have h' : (if G1 a = none ∧ H a ≠ none ∧ ¬ (∃ us, G' a = some (.tup us)) then none else G' a) = some o := h
    split at h'
    · cases h'
    · exact h'
  have new : New G1 H G3 H' := by
    refine ⟨mono3, fun a o h => c.le a o (sub a o h), fun a o h => c.keep a o h (n a), fun a h h' => ?_⟩
    have h3 : (if G1 a = none ∧ H a ≠ none ∧ ¬ (∃ us, G' a = some (.tup us)) then none else G' a) ≠ none := h'
    split at h3
    · exact absurd rfl h3
    · rename_i z
      by_cases q : H a = none
      · exact .inl q
      · right
        have : ∃ us, G' a = some (.tup us) := Classical.byContradiction fun w => z ⟨h, q, w⟩
        obtain ⟨us, hu⟩ := this
        exact ⟨us, tup3 a us hu⟩
  exact ⟨G3, tup3, new.stp e⟩
end

section
variable {X : Cx} {W : XW} {fs : Env → Res (List Opd)} {x : Str} {f : Nat} {Φ : Calls}
def fCall (Φ : Calls) (lend : Bool) (f : Nat) (fs : Env → Res (List Opd)) : Env → Res Opd := fun ρ => (fs ρ).bind fun os ρ1 => callE Φ lend f os ρ1
theorem call_read {lend : Bool} {σ : L2.St} {H : Hp} {Q : VK} (h : rd W (fCall Φ lend f fs) σ H Q) : tCall (spF W.xc (Φ.run f)) [] W.E (rdA W fs) σ H Q := by
  obtain ⟨G, ρ, l, en, p⟩ := h
  refine ⟨G, ρ, l, en, ?_⟩
  have p' := Post.get p l en
  cases q : fs ρ with
  | bad => rw [q] at p'; exact p'
  | exc x ρ1 => rw [q] at p'; exact p'
  | ok os ρ1 =>
    rw [q] at p'
    intro G1 H1 s1 l1 vs rs
    obtain ⟨_, _, p2⟩ := p' G1 H1 s1 l1
    rw [List.append_nil]
    unfold callE at p2
    by_cases io : Φ.io f = true
    · rw [if_pos io] at p2
      cases rs with
      | nil => exact False.elim p2
      | @cons v0 vs' o0 r h0 rs' ne =>
        obtain ⟨G2, m, rr, s, le2, new2⟩ := fz_all en s1 l1 rs'
        have le := l1.trans le2
        cases o0 with
        | val d => exact False.elim p2
        | own d0 =>
          obtain ⟨a, rfl, n0, g1, ow⟩ := h0
          have g2 : G2 a = none := by
            cases e : G2 a with
            | none => rfl
            | some w =>
              exfalso
              rcases new2 a g1 (by rw [e]; simp) with ⟨j, d, z1, z2⟩ | z
              · exact ne a d0 rfl rfl j d z1 z2
              · obtain ⟨u, hu⟩ := mu_there en l1 a z
                rw [n0] at hu; cases hu
          refine ⟨G2, .own d0 :: (looks r ρ1).map .val, s.le, .own g2 (ow.mono m fun _ q => q) (args_vals rr), ?_⟩
          simp only at p2
          cases c : Φ.run f (.own d0 :: (looks r ρ1).map .val) with
          | bad => rw [c] at p2; exact False.elim p2
          | exc x => rw [c] at p2; exact False.elim p2
          | ok d o out =>
            rw [c] at p2
            intro v G' H' cs hio hres
            have ioA : ∀ b, Io (.ref a :: vs') (.own d0 :: (looks r ρ1).map .val) b → b = a := fun b ⟨d', h1, h2⟩ => by
              simp at h2; exact h2.symm
            -- the state behind
            have envS : EnvR G' H' σ (fzs r ρ1) := by
              refine ⟨s.env.len, fun i d h => ?_, fun i d h => ?_, s.env.inj⟩
              · obtain ⟨u, hu, ru⟩ := s.env.val i d h
                exact ⟨u, hu, ru.mono cs.mono⟩
              · obtain ⟨b, hb, gb, ob⟩ := s.env.own i d h
                have nb : b ≠ a := fun z => by
                  subst z
                  obtain ⟨u, hu⟩ := mu_there en le b ⟨i, d, h, hb⟩
                  rw [n0] at hu; cases hu
                obtain ⟨k1, k2⟩ := own_kept ob gb (fun u hu => cs.keep b u hu fun z => nb (ioA b z)) cs.mono cs.le (cs.fresh b gb)
                exact ⟨b, hb, k1, k2⟩
            have st : Stp σ ρ G H σ (fzs r ρ1) G' H' := by
              refine ⟨s.mono.trans cs.mono, cs.le, fun b o hb nm => ?_, fun b hb hb2 => ?_, fun b o hb => ?_, envS, fun b mb => .inl (EnvLe.mu en le b mb)⟩
              · refine cs.keep b o (s.keep b o hb nm) fun z => ?_
                rw [ioA b z] at hb; rw [n0] at hb; cases hb
              · by_cases q2 : G2 b = none
                · rcases cs.fresh b q2 hb2 with z | z
                  · left
                    cases e : H b with
                    | none => rfl
                    | some o => obtain ⟨o', e'⟩ := s.there b o e; rw [e'] at z; cases z
                  · exact .inr (.inr z)
                · rcases s.fresh b hb q2 with z | z | ⟨us, z⟩
                  · exact .inl z
                  · exact .inr (.inl z)
                  · exact .inr (.inr ⟨us, cs.mono _ _ z⟩)
              · obtain ⟨o', e⟩ := s.there b o hb
                exact cs.there b o' e
            refine p2 G' H' st le v ?_
            cases o with
            | true =>
              obtain ⟨b, rfl, n, g, ob⟩ := (by simpa using hres : ∃ a, v = .ref a ∧ H1 a = none ∧ G' a = none ∧ Own G' H' a d)
              refine ⟨b, rfl, ?_, g, ob⟩
              cases e : H b with
              | none => rfl
              | some u => obtain ⟨u', e'⟩ := s1.there b u e; rw [n] at e'; cases e'
            | false => exact (by simpa using hres : Rep G' v d)
        | pl i =>
          obtain ⟨hv0, _⟩ := h0
          simp only at p2
          split at p2
          · rename_i d0 hd0
            split at p2
            · rename_i d1 hd1
              have e1 : d1 = d0 := by
                rcases getS_fzs r ρ1 i with z | ⟨d, z1, z2⟩
                · rw [z, hd0] at hd1; cases hd1; rfl
                · rw [z2] at hd1; cases hd1
              subst e1
              obtain ⟨a, ha, g2, ow⟩ := s.env.own i d1 hd1
              rw [hv0] at ha; cases ha
              refine ⟨G2, .own d1 :: (looks r ρ1).map .val, s.le, .own g2 ow (args_vals rr), ?_⟩
              cases c : Φ.run f (.own d1 :: (looks r ρ1).map .val) with
              | bad => rw [c] at p2; exact False.elim p2
              | exc x => rw [c] at p2; exact False.elim p2
              | ok d o out =>
                rw [c] at p2
                intro v G' H' cs hio hres
                have ioA : ∀ b, Io (.ref a :: vs') (.own d1 :: (looks r ρ1).map .val) b → b = a := fun b ⟨d', h1, h2⟩ => by
                  simp at h2; exact h2.symm
                obtain ⟨ga, oa⟩ := hio a ⟨d1, rfl, rfl⟩
                have hi : i < (fzs r ρ1).length := getS_lt (by rw [hd1]; intro z; cases z)
                have ma : Mu σ (fzs r ρ1) a := ⟨i, d1, hd1, hv0⟩
                have st1 : Stp σ (fzs r ρ1) G2 H1 σ (setS (fzs r ρ1) i (.own out)) G' H' := by
                  refine ⟨cs.mono, cs.le, fun b o hb nm => cs.keep b o hb fun z => nm (by rw [ioA b z]; exact ma), fun b hb hb2 => ?_, cs.there, ⟨by rw [setS_len]; exact s.env.len, fun j d h => ?_, fun j d h => ?_, fun j k b d e h1 h2 e1 e2 => ?_⟩, ?_⟩
                  · rcases cs.fresh b hb hb2 with z | z
                    · exact .inl z
                    · exact .inr (.inr z)
                  · rw [getS_setS] at h
                    by_cases q2 : i = j ∧ i < (fzs r ρ1).length
                    · rw [if_pos q2] at h; cases h
                    · rw [if_neg q2] at h
                      obtain ⟨u, hu, ru⟩ := s.env.val j d h
                      exact ⟨u, hu, ru.mono cs.mono⟩
                  · rw [getS_setS] at h
                    by_cases q2 : i = j ∧ i < (fzs r ρ1).length
                    · rw [if_pos q2] at h; cases h
                      rw [← q2.1]; exact ⟨a, hv0, ga, oa⟩
                    · rw [if_neg q2] at h
                      obtain ⟨b, hb, gb, ob⟩ := s.env.own j d h
                      have nb : b ≠ a := fun z => by
                        subst z
                        exact q2 ⟨s.env.inj i j b d1 d hd1 h hv0 hb, hi⟩
                      obtain ⟨k1, k2⟩ := own_kept ob gb (fun u hu => cs.keep b u hu fun z => nb (ioA b z)) cs.mono cs.le (cs.fresh b gb)
                      exact ⟨b, hb, k1, k2⟩
                  · have old : ∀ {j : Nat} {d : D}, getS (setS (fzs r ρ1) i (.own out)) j = .own d → ∃ d', getS (fzs r ρ1) j = .own d' := fun {j d} h => by
                      rw [getS_setS] at h
                      by_cases q2 : i = j ∧ i < (fzs r ρ1).length
                      · rw [← q2.1]; exact ⟨d1, hd1⟩
                      · rw [if_neg q2] at h; exact ⟨d, h⟩
                    obtain ⟨d', h1'⟩ := old h1
                    obtain ⟨e', h2'⟩ := old h2
                    exact s.env.inj j k b d' e' h1' h2' e1 e2
                  · rintro b ⟨j, d, h, hb⟩
                    rw [getS_setS] at h
                    by_cases q2 : i = j ∧ i < (fzs r ρ1).length
                    · left; rw [← q2.1] at hb; exact ⟨i, d1, hd1, hb⟩
                    · rw [if_neg q2] at h; exact .inl ⟨j, d, h, hb⟩
                have le3 : EnvLe (fzs r ρ1) (setS (fzs r ρ1) i (.own out)) := fun j => by
                  rw [getS_setS]
                  by_cases q2 : i = j ∧ i < (fzs r ρ1).length
                  · rw [if_pos q2, ← q2.1, hd1]; exact .inl ⟨out, rfl⟩
                  · rw [if_neg q2]; exact SlLe.refl _
                refine p2 G' H' (s.trans st1) (le.trans le3) v ?_
                cases o with
                | true =>
                  obtain ⟨b, rfl, n, g, ob⟩ := (by simpa using hres : ∃ a, v = .ref a ∧ H1 a = none ∧ G' a = none ∧ Own G' H' a d)
                  refine ⟨b, rfl, ?_, g, ob⟩
                  cases e : H b with
                  | none => rfl
                  | some u => obtain ⟨u', e'⟩ := s1.there b u e; rw [n] at e'; cases e'
                | false => exact (by simpa using hres : Rep G' v d)
            · exact False.elim p2
          · exact False.elim p2
    · rw [if_neg io] at p2
      obtain ⟨G2, m, rr, s, le⟩ := args_frozen en s1 l1 rs
      refine ⟨G2, (looks os ρ1).map .val, s.le, args_vals rr, ?_⟩
      cases c : Φ.run f ((looks os ρ1).map .val) with
      | bad => rw [c] at p2; exact False.elim p2
      | exc x =>
        rw [c] at p2
        intro cls ed G' H' ex m' l' k t
        exact ExcW.later p2 s cls ed G' H' ex m' l' (fun b o hb _ => k b o hb io_vals) t
      | ok d o out =>
        rw [c] at p2
        intro v G' H' cs _ hres
        cases lend with
        | false =>
          refine p2 G' H' (s.trans (cs.stp (fun _ => io_vals) s.env)) le v ?_
          cases o with
          | true =>
            obtain ⟨b, rfl, n, g, ob⟩ := (by simpa using hres : ∃ a, v = .ref a ∧ H1 a = none ∧ G' a = none ∧ Own G' H' a d)
            refine ⟨b, rfl, ?_, g, ob⟩
            cases e : H b with
            | none => rfl
            | some u => obtain ⟨u', e'⟩ := s1.there b u e; rw [n] at e'; cases e'
          | false => exact (by simpa using hres : Rep G' v d)
        | true =>
          simp only [if_true] at p2
          split at p2
          · rename_i hn
            have rv : Rep G' v d := by
              cases o with
              | true =>
                obtain ⟨b, rfl, n, g, ob⟩ := (by simpa using hres : ∃ a, v = .ref a ∧ H1 a = none ∧ G' a = none ∧ Own G' H' a d)
                rw [own_ref ob] at hn; cases hn
              | false => exact (by simpa using hres : Rep G' v d)
            obtain ⟨G3, t3, st⟩ := lend_back m s.le cs (fun _ => io_vals) s1.env
            exact p2 G3 H' (s1.trans st) l1 v (rv.noref t3 hn)
          · exact False.elim p2

theorem d_call {lend : Bool} {e : Expr} {es : List Expr} {p pos : Pos} (F : FnG X W.xc x (Φ.run f)) (hx : Passes (L2.CX X.prog X.w) X W.E) (hg : Gl X x) (ha : PA X (e :: es) (rdA W fs)) (ns : (e :: es).all notStar = true) (hdb : (x == ("__debug__" : Str)) = false) :
    PE X (.Call (.Name x p) (e :: es) [] pos) (rd W (fCall Φ lend f fs)) := by
  obtain ⟨k, fa, fd, ps, hr, hm, hk, hb, F⟩ := F.ex
  rw [List.all_cons, Bool.and_eq_true] at ns
  exact (pe_call F hr hg hm hk hb .nil hx ha hdb (star_of ns.1 es X.env) (back_of ns.2 X.env pos)).imp fun _ _ _ h => call_read h
theorem d_call0 {lend : Bool} {p pos : Pos} (F : FnG X W.xc x (Φ.run f)) (hx : Passes (L2.CX X.prog X.w) X W.E) (hg : Gl X x) (hdb : (x == ("__debug__" : Str)) = false) :
    PE X (.Call (.Name x p) [] [] pos) (rd W (fCall Φ lend f fNil)) := by
  obtain ⟨k, fa, fd, ps, hr, hm, hk, hb, F⟩ := F.ex
  refine (pe_call0 F hr hg hm hk hb .nil hx hdb).imp fun σ H Q h => ?_
  have q := call_read h
  obtain ⟨G, ρ, l, en, p⟩ := q
  have p2 := p G H (Stp.refl l en) (EnvLe.refl _) [] .nil
  exact p2
end
end RR

/-! A13: a list or dict of one's own is changed; methods of lists; join. -/
namespace RR
open PySem L2

section
variable {σ : L2.St} {ρ : Env} {G H G' H' : Hp}
theorem own_write {i : Nat} {d d' : D} {a : Addr} {o : HO} (l : Le G H) (e : EnvR G H σ ρ) (h : getS ρ i = .own d) (ha : σ[i]? = some (some (.ref a))) (ow : ∀ H', H' a = some o → Own G H' a d') :
    Stp σ ρ G H σ (setS ρ i (.own d')) G (upd H a o) ∧ EnvLe ρ (setS ρ i (.own d')) := by
  obtain ⟨a', ha', g, o0⟩ := e.own i d h
  rw [ha] at ha'; cases ha'
  have ma : Mu σ ρ a := ⟨i, d, h, ha⟩
  have hi : i < ρ.length := getS_lt (by rw [h]; intro z; cases z)
  refine ⟨⟨Mo.refl G, fun b u hb => ?_, fun b u hb nm => ?_, fun b h1 h2 => absurd h1 h2, fun b u hb => ?_, ⟨by rw [setS_len]; exact e.len, fun j d1 hj => ?_, fun j d1 hj => ?_, fun j k b d1 d2 h1 h2 e1 e2 => ?_⟩, ?_⟩, fun j => ?_⟩
  · have nb : b ≠ a := fun z => by subst z; rw [g] at hb; cases hb
    have q := l b u hb
    refine ⟨?_, fun vs z => by rw [upd_ne nb]; exact q.2 vs z⟩
    rcases q.1 with z | ⟨w, z⟩
    · exact .inl (by rw [upd_ne nb]; exact z)
    · exact .inr ⟨w, by rw [upd_ne nb]; exact z⟩
  · have nb : b ≠ a := fun z => nm (by rw [z]; exact ma)
    rw [upd_ne nb]; exact hb
  · by_cases q : b = a
    · subst q; exact ⟨o, upd_same⟩
    · exact ⟨u, by rw [upd_ne q]; exact hb⟩
  · rw [getS_setS] at hj
    by_cases q : i = j ∧ i < ρ.length
    · rw [if_pos q] at hj; cases hj
    · rw [if_neg q] at hj; exact e.val j d1 hj
  · rw [getS_setS] at hj
    by_cases q : i = j ∧ i < ρ.length
    · rw [if_pos q] at hj; cases hj
      rw [← q.1]; exact ⟨a, ha, g, ow _ upd_same⟩
    · rw [if_neg q] at hj
      obtain ⟨b, hb, gb, ob⟩ := e.own j d1 hj
      have nb : b ≠ a := fun z => by
        subst z
        exact q ⟨e.inj i j b d d1 h hj ha hb, hi⟩
      exact ⟨b, hb, gb, ob.mono (Mo.refl G) fun u hu => by rw [upd_ne nb]; exact hu⟩
  · have old : ∀ {j : Nat} {d1 : D}, getS (setS ρ i (.own d')) j = .own d1 → ∃ d'', getS ρ j = .own d'' := fun {j d1} h1 => by
      rw [getS_setS] at h1
      by_cases q : i = j ∧ i < ρ.length
      · rw [← q.1]; exact ⟨d, h⟩
      · rw [if_neg q] at h1; exact ⟨d1, h1⟩
    obtain ⟨x1, y1⟩ := old h1
    obtain ⟨x2, y2⟩ := old h2
    exact e.inj j k b x1 x2 y1 y2 e1 e2
  · rintro b ⟨j, d1, h1, hb⟩
    rw [getS_setS] at h1
    by_cases q : i = j ∧ i < ρ.length
    · left; rw [← q.1] at hb; exact ⟨i, d, h, hb⟩
    · rw [if_neg q] at h1; exact .inl ⟨j, d1, h1, hb⟩
  · rw [getS_setS]
    by_cases q : i = j ∧ i < ρ.length
    · rw [if_pos q, ← q.1, h]; exact .inl ⟨d', rfl⟩
    · rw [if_neg q]; exact SlLe.refl _
/-- of a list -/
theorem lst_write {i : Nat} {xs ys : List D} {a : Addr} {us : List V} (l : Le G H) (e : EnvR G H σ ρ) (h : getS ρ i = .own (.lst xs)) (ha : σ[i]? = some (some (.ref a))) (r : Reps G us ys) (z : ys.length ≤ LINE) :
    Stp σ ρ G H σ (setS ρ i (.own (.lst ys))) G (upd H a (.lst us)) ∧ EnvLe ρ (setS ρ i (.own (.lst ys))) :=
  own_write l e h ha fun H' q => .lst q r z
/-- where it is -/
theorem lst_at {i : Nat} {xs : List D} (e : EnvR G H σ ρ) (h : getS ρ i = .own (.lst xs)) : ∃ a vs, σ[i]? = some (some (.ref a)) ∧ H a = some (.lst vs) ∧ Reps G vs xs ∧ xs.length ≤ LINE := by
  obtain ⟨a, ha, g, o⟩ := e.own i _ h
  cases o with
  | lst h r z => exact ⟨a, _, ha, h, r, z⟩
theorem lstAt_own {i : Nat} (h : lstAt ρ i = true) : ∃ xs, getS ρ i = .own (.lst xs) := by
  unfold lstAt at h
  split at h
  · rename_i xs e; exact ⟨xs, e⟩
  · cases h
end

theorem dropLast_getLast {α : Type} {xs : List α} {y : α} (h : xs.getLast? = some y) : xs[xs.length - 1]? = some y := by
  rw [List.getLast?_eq_getElem?] at h; exact h
theorem ix_seq {n : Nat} {i : Int} {k : Nat} (h : ix n i = some k) : seqIndex? i n = some k ∧ -(n : Int) ≤ i ∧ i < n ∧ k < n := by
  unfold ix at h
  by_cases q : 0 ≤ i
  · rw [if_pos q] at h
    by_cases q2 : i < n
    · rw [if_pos q2] at h
      cases h
      refine ⟨?_, by omega, q2, by omega⟩
      unfold seqIndex?
      simp only [Int.not_lt.mpr q]
      split <;> simp_all <;> omega
    · rw [if_neg q2] at h; cases h
  · rw [if_neg q] at h
    by_cases q2 : -(n : Int) ≤ i
    · rw [if_pos q2] at h
      cases h
      refine ⟨?_, q2, by omega, by omega⟩
      unfold seqIndex?
      simp only [Int.lt_of_not_ge q, if_true]
      split <;> simp_all <;> omega
    · rw [if_neg q2] at h; cases h

section
variable {X : Cx} {W : XW} {i : Nat} {e e2 : Expr} {f f2 : Env → Res Opd} {x : Str} {pos apos cpos : Pos}
structure VarOk (X : Cx) (i : Nat) (x : Str) : Prop where
  hN : X.N[i]? = some x
  hv : Vis X.env.scope x
  hd : (x == ("__debug__" : Str)) = false
  hcd : (x == ("__classdict__" : Str)) = false
/-- the walk of name.m(args), by what the method asks -/
theorem own_var {σ : L2.St} {ρ : Env} {G H : Hp} {Q : VK} {i : Nat} {a : Addr} (h : σ[i]? = some (some (.ref a))) (q : Q (.ref a) H) : tVar i σ H Q := ⟨_, h, q⟩
def few (e : List Expr) (env : PySem.Env) (cpos : Pos) : Prop := ((backTo cpos (starEach e env)).all (fun x => !x.1) && (backToKw cpos (keywordEach [] env)).all (fun x => x.1.isSome)
      && decide (e.length + ([] : List Keyword).length + (if ([] : List Keyword).isEmpty then 0 else 1) < 30)) = true
theorem few1 (n1 : notStar e = true) : few [e] X.env cpos := by
  unfold few
  rw [star_of n1 [] X.env]
  rfl
theorem few2 (n1 : notStar e = true) (n2 : notStar e2 = true) : few [e, e2] X.env cpos := by
  unfold few
  rw [star_of n1 [e2] X.env, star_of n2 [] X.env]
  rfl
def fAppend (i : Nat) (f : Env → Res Opd) : Env → Res Opd := fun ρ => if lstAt ρ i then (f ρ).bind fun o ρ1 => ownL (fz o ρ1) i fun xs => if xs.length < LINE then some (.non, xs ++ [look o ρ1]) else none else .bad
theorem ownL_ok {P : Opd → Env → Hp → Hp → Prop} {σ : L2.St} {ρ0 ρ : Env} {G H : Hp} {g : List D → Option (D × List D)} (h : Post W σ ρ0 G H (ownL ρ i g) P) : ∃ xs d ys, getS ρ i = .own (.lst xs) ∧ g xs = some (d, ys) ∧ Post W σ ρ0 G H (.ok (.val d) (setS ρ i (.own (.lst ys)))) P := by
  unfold ownL at h
  split at h
  · rename_i xs e
    split at h
    · rename_i d ys e2
      exact ⟨xs, d, ys, e, e2, h⟩
    · exact False.elim h
  · exact False.elim h
theorem Post.step {α β : Type} {σ : L2.St} {ρ : Env} {G H : Hp} {r : Res α} {g : α → Env → Res β} {P : β → Env → Hp → Hp → Prop} {P' : α → Env → Hp → Hp → Prop} (h : Post W σ ρ G H (r.bind g) P) (l : Le G H) (en : EnvR G H σ ρ)
    (f : ∀ a ρ1, r = .ok a ρ1 → ∀ G1 H1, Stp σ ρ G H σ ρ1 G1 H1 → EnvLe ρ ρ1 → Post W σ ρ G H (g a ρ1) P → P' a ρ1 G1 H1) : Post W σ ρ G H r P' := by
  cases r with
  | bad => exact h
  | exc x ρ' => exact h
  | ok a ρ1 => exact fun G1 H1 s1 l1 => f a ρ1 rfl G1 H1 s1 l1 h
theorem opd_f {H : Hp} {σ : L2.St} {ρ' : Env} {G' H' : Hp} {v : V} {o : Opd} (r : OpdR H σ ρ' G' H' v o) : OpdF H σ ρ' G' H' v o := by
  cases o with
  | val d => exact r
  | own d => exact r
  | pl i => exact ⟨r.1, by obtain ⟨d, h⟩ := r.2; rw [h]; intro z; cases z⟩
theorem d_append (V : VarOk X i x) (ha : PE X e (rd W f)) (ns : notStar e = true) (hline : (apos.endLine == cpos.line) = true) :
    PE X (.Call (.Attribute (.Name x pos) "append" apos) [e] [] cpos) (rd W (fAppend i f)) := by
  refine (pe_bm PySem.F.plainAttrs_list PySem.F.slot_list_append PySem.F.type_list_append mt_append (pe_var V.hN V.hv V.hd V.hcd) (pa_cons ha pa_nil (star_of ns [] X.env)) rfl (few1 ns) hline (star_of ns [] X.env) rfl).imp fun σ H Q h => ?_
  obtain ⟨G, ρ, l, en, p⟩ := h
  by_cases q : lstAt ρ i = true
  · obtain ⟨xs, hx⟩ := lstAt_own q
    obtain ⟨a, vs, ha, hH, rv, z⟩ := lst_at en hx
    unfold fAppend at p
    rw [if_pos q] at p
    refine ⟨_, ha, .inl ⟨rfl, vs, .inl (.inl hH)⟩, G, ρ, l, en, Post.step p l en fun o ρ1 hq G1 H1 s1 l1 p1 v r => ?_⟩
    obtain ⟨G2, m, rep, s2, le2, _⟩ := fz_one s1 en l1 (opd_f r)
    obtain ⟨xs2, d, ys, e1, e2, p2⟩ := ownL_ok p1
    obtain ⟨a', vs2, ha', hH2, rv2, z2⟩ := lst_at s2.env e1
    rw [ha] at ha'; cases ha'
    split at e2
    · rename_i hlt
      cases e2
      have zz : (xs2 ++ [look o ρ1]).length ≤ LINE := by rw [List.length_append]; exact hlt
      obtain ⟨st, le3⟩ := lst_write s2.le s2.env e1 ha (rv2.append (.cons rep .nil)) zz
      exact ⟨a, vs2, v, rfl, rfl, hH2, by rw [rv2.length, ← line_eq]; exact hlt, p2 G2 _ (s2.trans st) (l1.trans (le2.trans le3)) .non .non⟩
    · cases e2
  · unfold fAppend at p
    rw [if_neg q] at p
    exact False.elim p
def fPop (i : Nat) : Env → Res Opd := fun ρ => ownL ρ i fun xs => xs.getLast?.map fun d => (d, xs.dropLast)
theorem d_pop (V : VarOk X i x) (hline : (apos.endLine == cpos.line) = true) : PE X (.Call (.Attribute (.Name x pos) "pop" apos) [] [] cpos) (rd W (fPop i)) := by
  refine (pe_bm0 PySem.F.plainAttrs_list PySem.F.slot_list_pop PySem.F.type_list_pop mt_pop (pe_var V.hN V.hv V.hd V.hcd) rfl hline).imp fun σ H Q h => ?_
  obtain ⟨G, ρ, l, en, p⟩ := h
  obtain ⟨xs, d, ys, e1, e2, p2⟩ := ownL_ok p
  obtain ⟨a, vs, ha, hH, rv, z⟩ := lst_at en e1
  refine ⟨_, ha, .inl ⟨rfl, vs, .inl (.inl hH)⟩, ?_⟩
  cases g : xs.getLast? with
  | none => rw [g] at e2; cases e2
  | some y =>
    rw [g] at e2
    cases e2
    obtain ⟨v, hv, rp⟩ := rv.get (dropLast_getLast g)
    obtain ⟨st, le3⟩ := lst_write l en e1 ha rv.dropLast (by rw [List.length_dropLast]; omega)
    exact ⟨a, vs, v, rfl, rfl, hH, by rw [rv.length]; exact hv, p2 G _ st le3 v (by exact rp)⟩
def fReverse (i : Nat) : Env → Res Opd := fun ρ => ownL ρ i fun xs => some (.non, xs.reverse)
theorem d_reverse (V : VarOk X i x) (hline : (apos.endLine == cpos.line) = true) : PE X (.Call (.Attribute (.Name x pos) "reverse" apos) [] [] cpos) (rd W (fReverse i)) := by
  refine (pe_bm0 PySem.F.plainAttrs_list PySem.F.slot_list_reverse PySem.F.type_list_reverse mt_reverse (pe_var V.hN V.hv V.hd V.hcd) rfl hline).imp fun σ H Q h => ?_
  obtain ⟨G, ρ, l, en, p⟩ := h
  obtain ⟨xs, d, ys, e1, e2, p2⟩ := ownL_ok p
  obtain ⟨a, vs, ha, hH, rv, z⟩ := lst_at en e1
  cases e2
  obtain ⟨st, le3⟩ := lst_write l en e1 ha rv.rev (by rw [List.length_reverse]; exact z)
  exact ⟨_, ha, .inl ⟨rfl, vs, .inl (.inl hH)⟩, a, vs, rfl, rfl, hH, p2 G _ st le3 .non .non⟩
def fPopAt (i : Nat) (f : Env → Res Opd) : Env → Res Opd := fun ρ => if lstAt ρ i then (intR (f ρ)).bind fun k ρ1 => ownL ρ1 i fun xs => (ix xs.length k).bind fun j => (xs[j]?).map fun d => (d, xs.eraseIdx j) else .bad
theorem Res.bind_assoc {α β γ : Type} (r : Res α) (f : α → Env → Res β) (g : β → Env → Res γ) : (r.bind f).bind g = r.bind fun a ρ => (f a ρ).bind g := by cases r <;> rfl
theorem intR_step {σ : L2.St} {ρ : Env} {G H : Hp} {β : Type} {g : Int → Env → Res β} {P : β → Env → Hp → Hp → Prop} {P' : Opd → Env → Hp → Hp → Prop} {r : Res Opd} (h : Post W σ ρ G H ((intR r).bind g) P) (l : Le G H) (en : EnvR G H σ ρ)
    (f : ∀ o k ρ1 G1 H1, Stp σ ρ G H σ ρ1 G1 H1 → EnvLe ρ ρ1 → (∀ v, OpdR H σ ρ1 G1 H1 v o → v = .int k) → Post W σ ρ G H (g k ρ1) P → P' o ρ1 G1 H1) : Post W σ ρ G H r P' := by
  unfold intR at h
  rw [Res.bind_assoc] at h
  refine Post.step h l en fun o ρ1 e G1 H1 s1 l1 p1 => ?_
  cases q : look o ρ1 with
  | int k =>
    rw [q] at p1
    refine f o k ρ1 G1 H1 s1 l1 (fun v r => ?_) p1
    have t := OpdR.top r s1.env
    rw [q] at t
    exact t.int
  | _ => rw [q] at p1; exact False.elim p1
theorem line_small : (LINE : Int) < 2 ^ 62 := by decide
theorem len_erase' {α : Type} : ∀ (l : List α) (i : Nat), (l.eraseIdx i).length ≤ l.length := L2.len_erase
theorem d_popAt (V : VarOk X i x) (ha : PE X e (rd W f)) (ns : notStar e = true) (hline : (apos.endLine == cpos.line) = true) :
    PE X (.Call (.Attribute (.Name x pos) "pop" apos) [e] [] cpos) (rd W (fPopAt i f)) := by
  refine (pe_bm PySem.F.plainAttrs_list PySem.F.slot_list_pop PySem.F.type_list_pop mt_popAt (pe_var V.hN V.hv V.hd V.hcd) (pa_cons ha pa_nil (star_of ns [] X.env)) rfl (few1 ns) hline (star_of ns [] X.env) rfl).imp fun σ H Q h => ?_
  obtain ⟨G, ρ, l, en, p⟩ := h
  by_cases q : lstAt ρ i = true
  · obtain ⟨xs, hx⟩ := lstAt_own q
    obtain ⟨a, vs, ha, hH, rv, z⟩ := lst_at en hx
    unfold fPopAt at p
    rw [if_pos q] at p
    refine ⟨_, ha, .inl ⟨rfl, vs, .inl (.inl hH)⟩, G, ρ, l, en, intR_step p l en fun o k ρ1 G1 H1 s1 l1 hv p1 v r => ?_⟩
    obtain rfl := hv v r
    obtain ⟨xs2, d, ys, e1, e2, p2⟩ := ownL_ok p1
    obtain ⟨a', vs2, ha', hH2, rv2, z2⟩ := lst_at s1.env e1
    rw [ha] at ha'; cases ha'
    cases hj : ix xs2.length k with
    | none => rw [hj] at e2; cases e2
    | some j =>
      rw [hj] at e2
      simp only [Option.bind_some] at e2
      cases hd : xs2[j]? with
      | none => rw [hd] at e2; cases e2
      | some y =>
        rw [hd] at e2
        cases e2
        obtain ⟨w, hw, rp⟩ := rv2.get hd
        obtain ⟨q1, q2, q3, q4⟩ := ix_seq hj
        obtain ⟨st, le3⟩ := lst_write s1.le s1.env e1 ha (rv2.erase j) (Nat.le_trans (len_erase' _ _) z2)
        have b : (xs2.length : Int) < 2 ^ 62 := Int.lt_of_le_of_lt (by exact_mod_cast z2) line_small
        exact ⟨a, vs2, k, j, w, rfl, rfl, hH2, by omega, by omega, by rw [rv2.length]; exact q1, hw, p2 G1 _ (s1.trans st) (l1.trans le3) w (by exact rp)⟩
  · unfold fPopAt at p
    rw [if_neg q] at p
    exact False.elim p
def fInsert (i : Nat) (f f2 : Env → Res Opd) : Env → Res Opd := fun ρ => if lstAt ρ i then (intR (f ρ)).bind fun k ρ1 => (f2 ρ1).bind fun o ρ2 => ownL (fz o ρ2) i fun xs => if k = 0 ∧ xs.length < LINE then some (.non, look o ρ2 :: xs) else none else .bad
theorem d_insert (V : VarOk X i x) (ha : PE X e (rd W f)) (hb : PE X e2 (rd W f2)) (ns : notStar e = true) (ns2 : notStar e2 = true) (hline : (apos.endLine == cpos.line) = true) :
    PE X (.Call (.Attribute (.Name x pos) "insert" apos) [e, e2] [] cpos) (rd W (fInsert i f f2)) := by
  refine (pe_bm PySem.F.plainAttrs_list PySem.F.slot_list_insert PySem.F.type_list_insert mt_insert (pe_var V.hN V.hv V.hd V.hcd) (pa_cons ha (pa_cons hb pa_nil (star_of ns2 [] X.env)) (star_of ns [e2] X.env)) rfl (few2 ns ns2) hline (star_of ns [e2] X.env) (back_of (es := [e2]) (by simpa using ns2) X.env cpos)).imp fun σ H Q h => ?_
  obtain ⟨G, ρ, l, en, p⟩ := h
  by_cases q : lstAt ρ i = true
  · obtain ⟨xs, hx⟩ := lstAt_own q
    obtain ⟨a, vs, ha, hH, rv, z⟩ := lst_at en hx
    unfold fInsert at p
    rw [if_pos q] at p
    refine ⟨_, ha, .inl ⟨rfl, vs, .inl (.inl hH)⟩, G, ρ, l, en, intR_step p l en fun o k ρ1 G1 H1 s1 l1 hv p1 v r => ?_⟩
    obtain rfl := hv v r
    have p1' : Post W σ ρ1 G1 H1 ((f2 ρ1).bind fun o ρ2 => ownL (fz o ρ2) i fun xs => if k = 0 ∧ xs.length < LINE then some (.non, look o ρ2 :: xs) else none) (fun o ρ' G' H' => ∀ v, OpdR H σ ρ' G' H' v o → Q v H') := by
      have p9 := p1
      generalize (f2 ρ1).bind (fun o ρ2 => ownL (fz o ρ2) i fun xs => if k = 0 ∧ xs.length < LINE then some (.non, look o ρ2 :: xs) else none) = r9 at p9
      cases r9 with
      | bad => exact p9
      | exc x ρ9 => exact ExcW.later p9 s1
      | ok o9 ρ9 => exact fun G9 H9 s9 l9 => p9 G9 H9 (s1.trans s9) (l1.trans l9)
    refine ⟨G1, ρ1, s1.le, s1.env, Post.step p1' s1.le s1.env fun o2 ρ2 hq G2 H2 s2 l2 p2 v2 r2 => ?_⟩
    obtain ⟨G3, m, rep, s3, le3, _⟩ := fz_one s2 s1.env l2 (opd_f r2)
    obtain ⟨xs2, d, ys, e1, e2, p3⟩ := ownL_ok p2
    obtain ⟨a', vs2, ha', hH2, rv2, z2⟩ := lst_at s3.env e1
    rw [ha] at ha'; cases ha'
    split at e2
    · rename_i hlt
      cases e2
      obtain ⟨rfl, hlt⟩ := hlt
      obtain ⟨st, le4⟩ := lst_write s3.le s3.env e1 ha (us := v2 :: vs2) (ys := look o2 ρ2 :: xs2) (.cons rep rv2) hlt
      refine ⟨a, vs2, 0, v2, rfl, rfl, hH2, by rw [rv2.length, ← line_eq]; exact hlt, Int.le_refl _, by decide, ?_⟩
      exact p3 G3 _ (s3.trans st) (l2.trans (le3.trans le4)) .non .non
    · cases e2
  · unfold fInsert at p
    rw [if_neg q] at p
    exact False.elim p
end
end RR

/-! A14: join, list(range(..)), tuple(range(..)). -/
namespace RR
open PySem L2

theorem strs_of {G : Hp} : ∀ {vs : List V} {ds : List D} {ss : List S}, Reps G vs ds → strsOf ds = some ss → vs = (ss.map toStr).map V.str ∧ ∀ s ∈ ss, s.length ≤ LINE ∧ okS s = true
  | _, _, ss, .nil, h => by simp [strsOf] at h; subst h; exact ⟨rfl, by simp⟩
  | _, _, ss, .cons (v := v) (vs := vs) (d := d) (ds := ds) h r, e => by
    cases h with
    | str s h c =>
      simp only [strsOf, Option.map_eq_some_iff] at e
      obtain ⟨ss', e1, rfl⟩ := e
      obtain ⟨h1, h2⟩ := strs_of r e1
      refine ⟨by rw [h1]; rfl, fun t ht => ?_⟩
      rcases List.mem_cons.mp ht with rfl | ht
      · exact ⟨h, c⟩
      · exact h2 t ht
    | _ => simp [strsOf] at e
theorem join_to (sep : S) : ∀ ss : List S, Str.join (toStr sep) (ss.map toStr) = toStr (joinS sep ss)
  | [] => rfl
  | [x] => rfl
  | x :: y :: r => by
    show toStr x ++ toStr sep ++ Str.join (toStr sep) (toStr y :: r.map toStr) = toStr (x ++ sep ++ joinS sep (y :: r))
    have ih := join_to sep (y :: r)
    rw [List.map_cons] at ih
    rw [ih, toStr_app, toStr_app]
theorem okS_join {sep : S} (h : okS sep = true) : ∀ {ss : List S}, (∀ s ∈ ss, okS s = true) → okS (joinS sep ss) = true
  | [], _ => rfl
  | [x], hs => hs x (by simp)
  | x :: y :: r, hs => by
    rw [joinS]
    exact okS_app (okS_app (hs x (by simp)) h) (okS_join h fun s hs' => hs s (List.mem_cons_of_mem _ hs'))
theorem join_len (sep : S) : ∀ ss : List S, (ss.map List.length).sum + ss.length * sep.length ≤ (joinS sep ss).length + sep.length
  | [] => by simp [joinS]
  | [x] => by simp [joinS]
  | x :: y :: r => by
    have ih := join_len sep (y :: r)
    rw [joinS]
    simp only [List.map_cons, List.sum_cons, List.length_cons, List.length_append, Nat.add_mul, Nat.one_mul] at ih ⊢
    omega
section
variable {X : Cx} {W : XW} {a b : Expr} {fa fb : Env → Res Opd} {pos apos : Pos}
def fJoin (s : S) (fb : Env → Res Opd) : Env → Res Opd := fun ρ => (fb ρ).bind fun o ρ1 => okO (bi2 .join (.str s) (look o ρ1)) ρ1
theorem d_join {s : S} {j : Nat} {pc : Pos} (h1 : s.length ≤ LINE) (h2 : okS s = true) (hb : PE X b (rd W fb)) (nb : notStar b = true) (hline : (apos.endLine == pos.line) = true) :
    PE X (.Call (.Attribute (.Constant (.str (toStr s)) j pc) "join" apos) [b] [] pos) (rd W (fJoin s fb)) := by
  refine (pe_join pe_str hb (star_of nb [] X.env) rfl hline).imp fun σ H Q h => ?_
  obtain ⟨G, ρ, l, en, p⟩ := h
  refine ⟨⟨_, rfl⟩, G, ρ, l, en, Post.step p l en fun o1 ρ1 e1 G1 H1 s1 l1 p1 v1 r1 => ?_⟩
  have t := OpdR.top r1 s1.env
  cases q : look o1 ρ1 with
  | lst xs =>
    rw [q] at p1 t
    simp only [bi2] at p1
    cases q2 : strsOf xs with
    | none => rw [q2] at p1; exact False.elim p1
    | some ss =>
      rw [q2] at p1
      simp only [Option.bind_some] at p1
      by_cases z : (joinS s ss).length ≤ 8000000 ∧ s.length ≤ 8000000
      · rw [if_pos z] at p1
        obtain ⟨p', vs, rfl, hrd, rv, zz⟩ := t.lst s1.le
        obtain ⟨rfl, hs⟩ := strs_of rv q2
        refine ⟨toStr s, p', ss.map toStr, rfl, rfl, .inl (.inl hrd), ?_, ?_⟩
        · have q := join_len s ss
          have e : (ss.map toStr).map (·.length) = ss.map List.length := by
            rw [List.map_map]; exact List.map_congr_left fun x _ => toStr_len x
          rw [e, List.length_map, toStr_len]
          omega
        · rw [TL.join_eq, join_to]
          refine p1 G1 H1 s1 l1 _ (.str _ ?_ (okS_join h2 fun t ht => (hs t ht).2))
          have : 8000000 ≤ LINE := by decide
          omega
      · rw [if_neg z] at p1; exact False.elim p1
  | _ => rw [q] at p1; exact False.elim p1

/-! list(range(n)) -/
theorem rg_reps (G : Hp) (n : Int) : Reps G (rgV 0 n) (rangeL 0 n) := by
  unfold rgV rangeL
  have go : ∀ (l : List Nat), Reps G (l.map fun (i : Nat) => V.int (0 + (i : Int))) (l.map fun (i : Nat) => D.int (0 + (i : Int))) := by
    intro l
    induction l with
    | nil => exact .nil
    | cons x l ih => exact .cons (.int _) ih
  exact go _
theorem rg_len (n : Int) : (rangeL 0 n).length = n.toNat := by simp [rangeL]
theorem near_ok {i : Int} (h : near i = true) : -8000000 < i ∧ i < 8000000 := by
  have : i.natAbs < 8000000 := by simpa [near] using h
  omega
def fBi1 (f : Bi) (fa : Env → Res Opd) : Env → Res Opd := fun ρ => (fa ρ).bind fun o ρ1 => okO (bi1 f (look o ρ1)) ρ1
theorem line_val : (LINE : Int) = 16777216 := rfl
theorem d_listRg {p p1 p2 : Pos} (hc : X.calm = true) (hg : Gl X "list") (hm : X.mg "list" = none) (hg2 : Gl X "range") (hm2 : X.mg "range" = none) (ha : PE X a (rd W fa)) (na : notStar a = true) :
    PE X (.Call (.Name "list" p) [.Call (.Name "range" p1) [a] [] p2] [] pos) (rd W (fBi1 .listrange fa)) := by
  refine (pe_listRg hc hg hm (prg_1 hg2 hm2 ha (star_of na [] X.env)) rfl).imp fun σ H Q h => ?_
  obtain ⟨G, ρ, l, en, pp⟩ := h
  refine ⟨G, ρ, l, en, Post.step pp l en fun o1 ρ1 e1 G1 H1 s1 l1 q1 v1 r1 => ?_⟩
  have t := OpdR.top r1 s1.env
  cases q : look o1 ρ1 with
  | int n =>
    rw [q] at q1 t
    simp only [bi1] at q1
    by_cases z : near n = true
    · rw [if_pos z] at q1
      obtain ⟨z1, z2⟩ := near_ok z
      refine ⟨n, t.int, ⟨by omega, by omega, by omega, by omega, by omega⟩, fun q hq => ?_⟩
      have n1 := New.mine s1.le hq (.lst (rgV 0 n))
      exact q1 _ _ (s1.trans (n1.stp s1.env)) l1 _ ((new_lst s1.le hq (rg_reps G1 n) (by rw [rg_len]; have := line_val; omega)).opd s1.there)
    · rw [if_neg z] at q1; exact False.elim q1
  | _ => rw [q] at q1; exact False.elim q1
theorem d_tupRg {p p1 p2 : Pos} (hc : X.calm = true) (hg : Gl X "tuple") (hm : X.mg "tuple" = none) (hg2 : Gl X "range") (hm2 : X.mg "range" = none) (ha : PE X a (rd W fa)) (na : notStar a = true) :
    PE X (.Call (.Name "tuple" p) [.Call (.Name "range" p1) [a] [] p2] [] pos) (rd W (fBi1 .tuplerange fa)) := by
  refine (pe_tupRg hc hg hm (prg_1 hg2 hm2 ha (star_of na [] X.env)) rfl).imp fun σ H Q h => ?_
  obtain ⟨G, ρ, l, en, pp⟩ := h
  refine ⟨G, ρ, l, en, Post.step pp l en fun o1 ρ1 e1 G1 H1 s1 l1 q1 v1 r1 => ?_⟩
  have t := OpdR.top r1 s1.env
  cases q : look o1 ρ1 with
  | int n =>
    rw [q] at q1 t
    simp only [bi1] at q1
    by_cases z : near n = true
    · rw [if_pos z] at q1
      obtain ⟨z1, z2⟩ := near_ok z
      refine ⟨n, t.int, ⟨by omega, by omega, by omega, by omega, by omega⟩, fun q hq => ?_⟩
      have n1 := New.frozen s1.le hq (.tup (rgV 0 n))
      exact q1 _ _ (s1.trans (n1.stp s1.env)) l1 _ ((new_tup s1.le hq (rg_reps G1 n) (by rw [rg_len]; have := line_val; omega)))
    · rw [if_neg z] at q1; exact False.elim q1
  | _ => rw [q] at q1; exact False.elim q1
end
end RR

/-! A15: enumerate(tuple). -/
namespace PySem
open Sem (wp)
open PySem.Spec PyProof.Rows
open AutoSeq1 (wpAny_loadPart')
theorem rr_enumerate_newT (l : Addr) (items : Array Value) :
    Meets (Builtin.«enumerate.__new__» ⟨[.type "enumerate", .ref l], []⟩) (fun _ R s => s.heap.IsTuple l items ∧
      R (.ok (.ret (.ref (s.heap.push { cls := .type "tuple_iterator", data := .fields #[.ref l, .int 0 0] }).objs.size)))
        { s with heap := (s.heap.push { cls := .type "tuple_iterator", data := .fields #[.ref l, .int 0 0] }).push { cls := .type "enumerate", data := .fields #[.none, .bool false, .ref s.heap.objs.size, rawInt 0, .none, .none] } }) :=
  .of_wp fun prog w A R s h => by
    obtain ⟨hp, g, d, tk, os⟩ := s; obtain ⟨hl, h⟩ := h
    have hsub := sub_enumerate
    have hL : Heap.IsTuple (Shared.heap ⟨hp, g, d, tk, os⟩) l items := hl
    obtain ⟨⟨cls, dct, dt, sl⟩, ho, hc, n, hd⟩ := hl
    replace hc : cls = .type "tuple" := hc
    replace hd : dt = .seq items n := hd
    subst hc hd
    wp_walk using wpAny_loadPart' ho
    refine wpAny_stack_any fun st => wpAny_pure ?_
    split
    · rename_i c _ _ _ _ _
      cases (c == Value.type "enumerate")
      · wp_walk using wpAny_loadPart' ho, wpAny_pyIter_tuple hL
        exact ⟨_, rfl, h⟩
      · wp_walk using wpAny_loadPart' ho, wpAny_pyIter_tuple hL
        exact ⟨_, rfl, h⟩
    · wp_walk using wpAny_loadPart' ho, wpAny_pyIter_tuple hL
      exact ⟨_, rfl, h⟩
theorem rr_call_enumerate_tuple {prog : Program} {w : World} {A : Around} {E : Value → Shared → Prop} {s : Shared} {l : Addr} {items : Array Value} {Q : Value → Shared → Prop} (hL : s.heap.IsTuple l items)
    (h : ∀ h', IsEnum h' (s.heap.objs.size + 1) s.heap.objs.size 0 .none → h'.IsTupleIter s.heap.objs.size l 0 → h'.objs.size = s.heap.objs.size + 2 →
      (∀ b o, s.heap.get? b = some o → h'.get? b = some o) → Q (.ref (s.heap.objs.size + 1)) { s with heap := h' }) :
    wpAny (model prog w) A (call (.type "enumerate") [.ref l]) Q E s := by
  refine callType_new F.called_enumerate (by decide) (F.typeCall_enumerate_1 _) (F.newCall_enumerate_1 _) (fun obj => F.args_object_init_2 obj _) F.entry_enumerate_new
    (rr_enumerate_newT l items) ⟨hL, ?_⟩
  have hz : (s.heap.push { cls := .type "tuple_iterator", data := .fields #[.ref l, .int 0 0] }).objs.size = s.heap.objs.size + 1 := Heap.size_push ..
  show _ ∧ _
  rw [hz]
  have he : IsEnum ((s.heap.push { cls := .type "tuple_iterator", data := .fields #[.ref l, .int 0 0] }).push
      { cls := .type "enumerate", data := .fields #[.none, .bool false, .ref s.heap.objs.size, rawInt 0, .none, .none] }) (s.heap.objs.size + 1) s.heap.objs.size 0 .none := by
    have := Heap.get?_push_size (s.heap.push { cls := .type "tuple_iterator", data := .fields #[.ref l, .int 0 0] })
      (o := { cls := .type "enumerate", data := .fields #[.none, .bool false, .ref s.heap.objs.size, rawInt 0, .none, .none] }) rfl
    rw [hz] at this; exact this
  refine ⟨⟨_, he, rfl⟩, h _ he ⟨_, Heap.get?_push_of_some _ (Heap.get?_push_size _ rfl), rfl, rfl⟩ (by rw [Heap.size_push, hz]) fun b o x => Heap.get?_push_of_some _ (Heap.get?_push_of_some _ x)⟩
end PySem

namespace RR
open PySem L2 PySem.Spec PyProof.Rows
/-- the tuple at a, each item in a new pair -/
def IteT (K : PySem.W.Frag) (a : Addr) : It :=
  ⟨fun i H => ∃ (xs : List V) (x : V), SqT K H a xs ∧ xs[i]? = some x, fun i H v H' => ∃ T x, v = .ref T ∧ H T = none ∧ H' = upd H T (.tup [.int (i : Nat), x]) ∧ ∀ xs, SqT K H a xs → xs[i]? = some x, fun i H => ∃ xs : List V, SqT K H a xs ∧ xs.length = i⟩
theorem turn_enumT {P : Program} {w : World} {K : PySem.W.Frag} {elts : List Expr} {kk : Nat} {tpos : Pos} (a e it : Addr) :
    Turn P w K (.Tuple elts kk tpos) (IteT K a) [e, it] e (fun i h => (∃ old, IsEnum h e it ((i : Nat) : Int) old) ∧ h.IsTupleIter it a i ∧ e ≠ it) where
  mem := by simp
  obj := fun i h st b hb => by
    obtain ⟨⟨old, he⟩, ⟨o, ho, hc, hd⟩, _⟩ := st
    have e' : b = e ∨ b = it := by simpa using hb
    rcases e' with z | z
    · rw [z]; exact ⟨_, he, fun v q => nomatch q⟩
    · rw [z]; exact ⟨o, ho, fun v q => by rw [hd] at q; cases q⟩
  keep := fun i h h' st k => let ⟨⟨old, he⟩, hi, hne⟩ := st; ⟨⟨old, k e (by simp) _ he⟩, hi.at fun o q => k it (by simp) o q, hne⟩
  item := by
    intro X hP hw hK hc i pins s σ H E I hf st hg
    subst hP hw hK
    obtain ⟨⟨old, he⟩, hit, hne⟩ := st
    obtain ⟨xs, x, hq, hx⟩ := hg
    obtain ⟨its, rv, p, hz⟩ := I.tuple hq
    have pT : s.heap.IsTuple a its.toArray := p
    obtain ⟨u, hu, ru⟩ := rv.get hx
    have hel : e < s.heap.objs.size := Heap.lt_size he
    have hil : it < s.heap.objs.size := by obtain ⟨_, q, _⟩ := hit; exact Heap.lt_size q
    have ne1 : a ≠ it := by
      intro z; subst z
      obtain ⟨o1, q1, c1, _⟩ := hit
      obtain ⟨o2, q2, c2, _⟩ := pT
      rw [q1] at q2; cases q2
      rw [c1] at c2; exact absurd c2 (by decide)
    have ne2 : e ≠ a := by
      intro z; subst z
      obtain ⟨o2, q2, c2, _⟩ := pT
      have he' : s.heap.get? e = _ := he
      rw [he'] at q2; cases q2
      exact absurd (show Value.type "enumerate" = Value.type "tuple" from c2) (by decide)
    have D := Draws.tuple (prog := X.prog) (w := X.w) (A := X.A.in1) (I.ok.hd hc) it a ne1 its.toArray
    have hlt : i < its.toArray.size := by
      have := (List.getElem?_eq_some_iff.mp hu).1
      simpa using this
    refine wpAny_pyNext_enum_itemD D he ⟨hit, pT⟩ hlt hne (by simp [hne, ne2]) fun x2 h' tk hP ho hst hT hsz hk => ?_
    have hx2 : x2 = u := by
      have : its[i]? = some x2 := by simpa using hP
      rw [hu] at this; exact (Option.some.inj this).symm
    subst hx2
    refine ⟨_, rfl, wpAny_letOwnedTupleGo_enum (s := { s with heap := h', toks := tk + 1 }) ho fun h'' he' sb => ?_⟩
    have hT2 : h''.get? s.heap.objs.size = some { cls := .type "tuple", data := .seq #[.int i tk, x2] } := (sb.2 _ (Nat.ne_of_gt hel)).trans hT
    have new : ObjOk X.prog X.w (upd H s.heap.objs.size (.tup [.int (i : Nat), x])) h'' s.heap.objs.size (.tup [.int (i : Nat), x]) :=
      ⟨by show 2 ≤ sizeLine; decide, [.int i tk, x2], .cons ⟨_, rfl⟩ (.cons ru .nil), ⟨_, hT2, rfl, _, rfl⟩⟩
    have I1 : Inv X pins σ (upd H s.heap.objs.size (.tup [.int (i : Nat), x])) { s with heap := h'', toks := tk + 1 } :=
      I.turnedNew (ch := [e, it]) (fun b ob hb q => (sb.2 b (fun z => hb (by simp [z]))).trans (hk b ob (fun z => hb (by simp [z])) (fun z => hb (by simp [z])) q)) hf (Nat.le_refl _) new
    refine ⟨.ref s.heap.objs.size, _, I1, rfl, ⟨_, x, rfl, I.hok.fresh (Nat.le_refl _), rfl, fun ys hy => by rw [I.tuple_inj hy hq]; exact hx⟩, ⟨⟨x2, ?_⟩, hst.1.at fun o q => (sb.2 it (Ne.symm hne)).trans q, hne⟩, fun b hb => ?_⟩
    · have e1 : ((i + 1 : Nat) : Int) = (i : Int) + 1 := by omega
      rw [e1]; exact he'
    · have hb' : b < s.heap.objs.size := by
        have e' : b = e ∨ b = it := by simpa using hb
        rcases e' with z | z
        · rw [z]; exact hel
        · rw [z]; exact hil
      rw [upd_ne (Nat.ne_of_lt hb')]
      exact (hf b hb).1
  done := by
    intro X hP hw hK hc i pins s σ H E I hf st hg
    subst hP hw hK
    obtain ⟨⟨old, he⟩, hit, hne⟩ := st
    obtain ⟨xs, hq, hx⟩ := hg
    obtain ⟨its, rv, p, hz⟩ := I.tuple hq
    have pT : s.heap.IsTuple a its.toArray := p
    obtain ⟨f0, f1, f2, f3, f4, f5⟩ := hf it (by simp)
    have hl := rv.length
    have ne1 : a ≠ it := by
      intro z; subst z
      obtain ⟨o1, q1, c1, _⟩ := hit
      obtain ⟨o2, q2, c2, _⟩ := pT
      rw [q1] at q2; cases q2
      rw [c1] at c2; exact absurd c2 (by decide)
    have D := Draws.tuple (prog := X.prog) (w := X.w) (A := X.A.in1) (I.ok.hd hc) it a ne1 its.toArray
    have hi : i = its.toArray.size := by rw [List.size_toArray]; omega
    exact wpAny_pyNext_enum_endD D he (hi ▸ ⟨hit, pT⟩) fun h' eb => ⟨rfl, I.turned (t' := s.toks) (fun b o hb q => eb b o hb q) f0 f1 f3 f4 f5⟩
  self := fun A i s Q E st h => let ⟨⟨_, he⟩, _⟩ := st; wpAny_pyIter_enum he h
/-- enumerate of a list or a tuple -/
def iEnumA (K : PySem.W.Frag) (ta : TA) : TI := fun σ H R => ta σ H fun vs H1 => ∃ a xs, vs = [.ref a] ∧ ((SqL K H1 a xs ∧ R (Ite K a) H1) ∨ (SqT K H1 a xs ∧ R (IteT K a) H1))
theorem pi_enumA {X : Cx} {e : Expr} {ta : TA} {p pos tpos : Pos} {elts : List Expr} {kk : Nat} (hg : Gl X "enumerate") (hm : X.mg "enumerate" = none) (ha : PA X [e] ta) (hs : starEach [e] X.env = [(false, eval e X.env)]) :
    PI X (.Tuple elts kk tpos) (.Call (.Name "enumerate" p) [e] [] pos) (iEnumA X.K ta) := by
  refine ⟨fun pins s σ H R I h => ?_⟩
  refine Call_ (ld_blt I hg hm boot_enumerate (PyProof.Rows.callWith_type1 (thn (ha.run pos pins s σ H _ I h) fun us s1 ⟨vs, H1, I1, r1, q1⟩ => ?_) hs rfl))
  obtain ⟨a, xs, ex, q1⟩ := q1
  subst ex
  cases r1 with
  | cons r rr =>
    cases rr
    cases r
    have fresh2 : ∀ b, b ∈ [s1.heap.objs.size + 1, s1.heap.objs.size] → FpOk X pins H1 b := fun b hb => by
      have e' : b = s1.heap.objs.size + 1 ∨ b = s1.heap.objs.size := by simpa using hb
      have hle : s1.heap.objs.size ≤ b := by
        rcases e' with z | z
        · rw [z]; exact Nat.le_add_right _ _
        · rw [z]; exact Nat.le_refl _
      exact I1.fpOk hle (I1.hok.fresh hle)
    rcases q1 with ⟨hq, q⟩ | ⟨hq, q⟩
    · obtain ⟨its, rv, p', hz⟩ := I1.list hq
      refine call_enumerate_list p'.isList fun h' he hit hsz hk => wpAny_pyIter_enum he ?_
      have I2 : Inv X pins σ H1 { s1 with heap := h' } := I1.kept (t' := s1.toks) hk
      exact ⟨s1.heap.objs.size + 1, [s1.heap.objs.size + 1, s1.heap.objs.size], _, _, H1, rfl, I2, turn_enum a (s1.heap.objs.size + 1) s1.heap.objs.size, ⟨⟨.none, he⟩, hit, Nat.succ_ne_self _⟩, fresh2, q⟩
    · obtain ⟨its, rv, p', hz⟩ := I1.tuple hq
      refine rr_call_enumerate_tuple (show s1.heap.IsTuple a its.toArray from p') fun h' he hit hsz hk => wpAny_pyIter_enum he ?_
      have I2 : Inv X pins σ H1 { s1 with heap := h' } := I1.kept (t' := s1.toks) hk
      exact ⟨s1.heap.objs.size + 1, [s1.heap.objs.size + 1, s1.heap.objs.size], _, _, H1, rfl, I2, turn_enumT a (s1.heap.objs.size + 1) s1.heap.objs.size, ⟨⟨.none, he⟩, hit, Nat.succ_ne_self _⟩, fresh2, q⟩
/-- a list, a tuple, a text -/
def iAny (K : PySem.W.Frag) (te : TE) : TI := fun σ H R => te σ H fun v H1 => (∃ a xs, v = .ref a ∧ SqL K H1 a xs ∧ R (Itl K a) H1) ∨ (∃ a xs, v = .ref a ∧ SqT K H1 a xs ∧ R (Itt K a) H1) ∨ ∃ x, v = .str x ∧ R (Its x) H1
theorem pi_any {X : Cx} {tg e : Expr} {te : TE} (he : PE X e te) : PI X tg e (iAny X.K te) := by
  refine ⟨fun pins s σ H R I h => ?_⟩
  refine thn (he.run pins s σ H _ I h) fun v s1 ⟨y, H1, I1, r1, q⟩ => ?_
  rcases q with ⟨a, xs, rfl, hq, q⟩ | ⟨a, xs, rfl, hq, q⟩ | ⟨x, rfl, q⟩
  · cases r1
    obtain ⟨its, rv, p, hz⟩ := I1.list hq
    refine wpAny_pyIter_list p.isList ?_
    exact pi_one (tk := s1.toks) I1 _ (turn_list a _) ⟨_, Heap.get?_push_size _ rfl, rfl, rfl⟩ q
  · cases r1
    obtain ⟨its, rv, p, hz⟩ := I1.tuple hq
    refine wpAny_pyIter_tuple (show s1.heap.IsTuple a its.toArray from p) ?_
    exact pi_one (tk := s1.toks) I1 _ (turn_tuple a _) ⟨_, Heap.get?_push_size _ rfl, rfl, rfl⟩ q
  · obtain ⟨t, rfl⟩ := r1
    cases ha : x.cps.all (· < 128)
    · exact wpAny_pyIter_wide ha (pi_one (tk := s1.toks) I1 _ (turn_str _ x t "str_iterator" (.inr rfl)) ⟨_, Heap.get?_push_size _ rfl, rfl, rfl⟩ q)
    · exact wpAny_pyIter_ascii ha (pi_one (tk := s1.toks) I1 _ (turn_str _ x t "str_ascii_iterator" (.inl rfl)) ⟨_, Heap.get?_push_size _ rfl, rfl, rfl⟩ q)
end RR

/-! A16: slots out of sight; names that are set. -/
namespace RR
open PySem L2

section
variable {hid : Nat → Bool} {σ σw σ2 σw2 : L2.St} {ρ ρw ρ2 ρ3 ρ3w : Env} {G H G2 H2 : Hp}
/-- ρw is ρ with the slots of hid out of sight -/
structure Hid (hid : Nat → Bool) (ρ ρw : Env) : Prop where
  len : ρw.length = ρ.length
  out : ∀ j, hid j = true → getS ρw j = .non
  same : ∀ j, hid j = false → getS ρw j = getS ρ j
theorem Hid.mu (h : Hid hid ρ ρw) (hs : ∀ j, hid j = false → σw[j]? = σ[j]?) {a : Addr} (m : Mu σw ρw a) : Mu σ ρ a := by
  obtain ⟨i, d, h1, h2⟩ := m
  cases q : hid i with
  | true => rw [h.out i q] at h1; cases h1
  | false => exact ⟨i, d, by rw [← h.same i q]; exact h1, by rw [← hs i q]; exact h2⟩
theorem Hid.env (h : Hid hid ρ ρw) (hs : ∀ j, hid j = false → σw[j]? = σ[j]?) (hl : σw.length = σ.length) (e : EnvR G H σ ρ) : EnvR G H σw ρw where
  len := by rw [hl, h.len]; exact e.len
  val := fun i d hi => by
    cases q : hid i with
    | true => rw [h.out i q] at hi; cases hi
    | false => rw [h.same i q] at hi; rw [hs i q]; exact e.val i d hi
  own := fun i d hi => by
    cases q : hid i with
    | true => rw [h.out i q] at hi; cases hi
    | false => rw [h.same i q] at hi; rw [hs i q]; exact e.own i d hi
  inj := fun i j a d1 d2 h1 h2 e1 e2 => by
    cases q : hid i with
    | true => rw [h.out i q] at h1; cases h1
    | false =>
      cases q2 : hid j with
      | true => rw [h.out j q2] at h2; cases h2
      | false =>
        rw [h.same i q] at h1; rw [h.same j q2] at h2
        rw [hs i q] at e1; rw [hs j q2] at e2
        exact e.inj i j a d1 d2 h1 h2 e1 e2
/-- what was hidden is seen again -/
theorem Hid.show (h : Hid hid ρ ρw) (e : EnvR G H σ ρ) (hs : ∀ j, hid j = false → σw[j]? = σ[j]?) (s : Stp σw ρw G H σw2 ρ2 G2 H2)
    (l2 : σ2.length = σw2.length) (h2h : ∀ j, hid j = true → σ2[j]? = σ[j]?) (h2s : ∀ j, hid j = false → σ2[j]? = σw2[j]?)
    (l3 : ρ3.length = ρ2.length) (r3h : ∀ j, hid j = true → getS ρ3 j = getS ρ j) (r3s : ∀ j, hid j = false → getS ρ3 j = getS ρ2 j) : Stp σ ρ G H σ2 ρ3 G2 H2 := by
  have nm : ∀ {i : Nat} {d : D} {a : Addr}, hid i = true → getS ρ i = .own d → σ[i]? = some (some (.ref a)) → ¬ Mu σw ρw a := fun {i d a} q h1 ha ⟨k, d', hk, hka⟩ => by
    cases q2 : hid k with
    | true => rw [h.out k q2] at hk; cases hk
    | false =>
      rw [h.same k q2] at hk
      rw [hs k q2] at hka
      have := e.inj i k a d d' h1 hk ha hka
      subst this
      rw [q] at q2; cases q2
  have ownH : ∀ {i : Nat} {d : D}, hid i = true → getS ρ i = .own d → ∃ a, σ2[i]? = some (some (.ref a)) ∧ σ[i]? = some (some (.ref a)) ∧ G2 a = none ∧ Own G2 H2 a d ∧ ¬ Mu σw ρw a ∧ H a ≠ none := fun {i d} q h1 => by
    obtain ⟨a, ha, g, o⟩ := e.own i d h1
    have n := nm q h1 ha
    obtain ⟨u, hu⟩ := o.at
    obtain ⟨k1, k2⟩ := own_kept o g (fun u hu => s.keep a u hu n) s.mono s.le (fun z => by
      rcases s.fresh a g z with w | w | w
      · exact .inl w
      · exact absurd w n
      · exact .inr w)
    exact ⟨a, by rw [h2h i q]; exact ha, ha, k1, k2, n, by rw [hu]; simp⟩
  refine ⟨s.mono, s.le, fun a o ha n => s.keep a o ha fun m => n (h.mu hs m), fun a ha h' => ?_, s.there, ⟨?_, fun i d hi => ?_, fun i d hi => ?_, fun i j a d1 d2 h1 h2' e1 e2 => ?_⟩, fun a m => ?_⟩
  · rcases s.fresh a ha h' with z | z | z
    · exact .inl z
    · exact .inr (.inl (h.mu hs z))
    · exact .inr (.inr z)
  · rw [l2, l3]; exact s.env.len
  · cases q : hid i with
    | true =>
      rw [r3h i q] at hi
      obtain ⟨v, hv, r⟩ := e.val i d hi
      exact ⟨v, by rw [h2h i q]; exact hv, r.mono s.mono⟩
    | false =>
      rw [r3s i q] at hi
      rw [h2s i q]
      exact s.env.val i d hi
  · cases q : hid i with
    | true =>
      rw [r3h i q] at hi
      obtain ⟨a, ha, _, k1, k2, _⟩ := ownH q hi
      exact ⟨a, ha, k1, k2⟩
    | false =>
      rw [r3s i q] at hi
      rw [h2s i q]
      exact s.env.own i d hi
  · have mix : ∀ {i j : Nat} {d1 d2 : D}, hid i = true → hid j = false → getS ρ i = .own d1 → getS ρ2 j = .own d2 → σ2[i]? = some (some (.ref a)) → σw2[j]? = some (some (.ref a)) → False := fun {i j d1 d2} q q2 h1 h2 e1 e2 => by
      obtain ⟨b, hb, _, _, _, n, hn⟩ := ownH q h1
      rw [e1] at hb; cases hb
      rcases s.mine a ⟨j, d2, h2, e2⟩ with z | z
      · exact n z
      · exact hn z
    cases q : hid i with
    | true =>
      cases q2 : hid j with
      | true =>
        rw [r3h i q] at h1; rw [r3h j q2] at h2'
        rw [h2h i q] at e1; rw [h2h j q2] at e2
        exact e.inj i j a d1 d2 h1 h2' e1 e2
      | false =>
        rw [r3h i q] at h1; rw [r3s j q2] at h2'
        rw [h2s j q2] at e2
        exact (mix q q2 h1 h2' e1 e2).elim
    | false =>
      cases q2 : hid j with
      | true =>
        rw [r3s i q] at h1; rw [r3h j q2] at h2'
        rw [h2s i q] at e1
        exact (mix q2 q h2' h1 e2 e1).elim
      | false =>
        rw [r3s i q] at h1; rw [r3s j q2] at h2'
        rw [h2s i q] at e1; rw [h2s j q2] at e2
        exact s.env.inj i j a d1 d2 h1 h2' e1 e2
  · obtain ⟨i, d, hi, ha⟩ := m
    cases q : hid i with
    | true =>
      rw [r3h i q] at hi; rw [h2h i q] at ha
      exact .inl ⟨i, d, hi, ha⟩
    | false =>
      rw [r3s i q] at hi; rw [h2s i q] at ha
      rcases s.mine a ⟨i, d, hi, ha⟩ with z | z
      · exact .inl (h.mu hs z)
      · exact .inr z
/-- slots of things that never change, hidden on both sides -/
theorem Hid.both (h : Hid hid ρ2 ρw) (h3 : Hid hid ρ3 ρ3w) (hs : ∀ j, hid j = false → σw[j]? = σ2[j]?) (hl : σw.length = σ2.length) (nv : ∀ j, hid j = true → ∀ d, getS ρ2 j ≠ .own d) (s : Stp σ2 ρ2 G H σ2 ρ3 G2 H2) : Stp σw ρw G H σw ρ3w G2 H2 := by
  have back : ∀ {a : Addr}, Mu σ2 ρ2 a → Mu σw ρw a := fun {a} ⟨i, d, hi, ha⟩ => by
    cases q : hid i with
    | true => exact absurd hi (nv i q d)
    | false => exact ⟨i, d, by rw [h.same i q]; exact hi, by rw [hs i q]; exact ha⟩
  refine ⟨s.mono, s.le, fun a o ha n => s.keep a o ha fun m => n (back m), fun a ha h' => ?_, s.there, h3.env hs hl s.env, fun a m => ?_⟩
  · rcases s.fresh a ha h' with z | z | z
    · exact .inl z
    · exact .inr (.inl (back z))
    · exact .inr (.inr z)
  · rcases s.mine a (h3.mu hs m) with z | z
    · exact .inl (back z)
    · exact .inr z
end

/-! ### names that are set -/
section
variable {σ : L2.St} {ρ ρ1 : Env} {G H G1 H1 : Hp} {v : V} {d : D} {i : Nat}
theorem set_get {σ : L2.St} {i j : Nat} {v : Option V} : (σ.set i v)[j]? = if i = j ∧ i < σ.length then some v else σ[j]? := by
  rw [List.getElem?_set]
  by_cases h : i = j
  · subst h
    by_cases q : i < σ.length
    · simp [q]
    · simp [q, List.getElem?_eq_none (Nat.le_of_not_lt q)]
  · simp [h]
/-- by a thing that never changes -/
theorem asg_val {σ0 : L2.St} (s : Stp σ0 ρ G H σ ρ1 G1 H1) (r : Rep G1 v d) : Stp σ0 ρ G H (σ.set i (some v)) (setS ρ1 i (.val d)) G1 H1 := by
  have L := s.env.len
  refine ⟨s.mono, s.le, s.keep, s.fresh, s.there, ⟨by rw [List.length_set, setS_len]; exact L, fun j e hj => ?_, fun j e hj => ?_, fun j k a d1 d2 h1 h2 e1 e2 => ?_⟩, fun a m => ?_⟩
  · rw [getS_setS] at hj
    rw [set_get, L]
    by_cases q : i = j ∧ i < ρ1.length
    · rw [if_pos q] at hj ⊢; cases hj; exact ⟨v, rfl, r⟩
    · rw [if_neg q] at hj ⊢; exact s.env.val j e hj
  · rw [getS_setS] at hj
    rw [set_get, L]
    by_cases q : i = j ∧ i < ρ1.length
    · rw [if_pos q] at hj; cases hj
    · rw [if_neg q] at hj ⊢; exact s.env.own j e hj
  · rw [getS_setS] at h1 h2
    rw [set_get, L] at e1 e2
    by_cases q : i = j ∧ i < ρ1.length
    · rw [if_pos q] at h1; cases h1
    · by_cases q2 : i = k ∧ i < ρ1.length
      · rw [if_pos q2] at h2; cases h2
      · rw [if_neg q] at h1 e1; rw [if_neg q2] at h2 e2
        exact s.env.inj j k a d1 d2 h1 h2 e1 e2
  · obtain ⟨j, e, hj, ha⟩ := m
    rw [getS_setS] at hj
    rw [set_get, L] at ha
    by_cases q : i = j ∧ i < ρ1.length
    · rw [if_pos q] at hj; cases hj
    · rw [if_neg q] at hj ha; exact s.mine a ⟨j, e, hj, ha⟩
/-- by a new list or dict -/
theorem asg_own (e0 : EnvR G H σ ρ) (l1 : EnvLe ρ ρ1) (s : Stp σ ρ G H σ ρ1 G1 H1) (r : OpdR H σ ρ1 G1 H1 v (.own d)) : Stp σ ρ G H (σ.set i (some v)) (setS ρ1 i (.own d)) G1 H1 := by
  have L := s.env.len
  obtain ⟨b, rfl, n, g, ow⟩ := r
  have alone : ∀ {j : Nat} {e : D}, getS ρ1 j = .own e → σ[j]? ≠ some (some (.ref b)) := fun {j e} hj z => by
    obtain ⟨u, hu⟩ := mu_there e0 l1 b ⟨j, e, hj, z⟩
    rw [n] at hu; cases hu
  refine ⟨s.mono, s.le, s.keep, s.fresh, s.there, ⟨by rw [List.length_set, setS_len]; exact L, fun j e hj => ?_, fun j e hj => ?_, fun j k a d1 d2 h1 h2 e1 e2 => ?_⟩, fun a m => ?_⟩
  · rw [getS_setS] at hj
    rw [set_get, L]
    by_cases q : i = j ∧ i < ρ1.length
    · rw [if_pos q] at hj; cases hj
    · rw [if_neg q] at hj ⊢; exact s.env.val j e hj
  · rw [getS_setS] at hj
    rw [set_get, L]
    by_cases q : i = j ∧ i < ρ1.length
    · rw [if_pos q] at hj ⊢; cases hj; exact ⟨b, rfl, g, ow⟩
    · rw [if_neg q] at hj ⊢; exact s.env.own j e hj
  · rw [getS_setS] at h1 h2
    rw [set_get, L] at e1 e2
    by_cases q : i = j ∧ i < ρ1.length
    · rw [if_pos q] at h1 e1
      cases e1
      by_cases q2 : i = k ∧ i < ρ1.length
      · exact q.1.symm.trans q2.1
      · rw [if_neg q2] at h2 e2
        exact absurd e2 (alone h2)
    · rw [if_neg q] at h1 e1
      by_cases q2 : i = k ∧ i < ρ1.length
      · rw [if_pos q2] at h2 e2
        cases e2
        exact absurd e1 (alone h1)
      · rw [if_neg q2] at h2 e2
        exact s.env.inj j k a d1 d2 h1 h2 e1 e2
  · obtain ⟨j, e, hj, ha⟩ := m
    rw [getS_setS] at hj
    rw [set_get, L] at ha
    by_cases q : i = j ∧ i < ρ1.length
    · rw [if_pos q] at hj ha; cases ha; exact .inr n
    · rw [if_neg q] at hj ha; exact s.mine a ⟨j, e, hj, ha⟩
end
end RR

/-! A17: what is walked. -/
namespace RR
open PySem L2 PyProof.Rows

/-- the walk J gives the items, as long as what stands at S stands -/
structure Walk (J : It) (S : Addr → Prop) (G1 H1 : Hp) (items : List D) : Prop where
  go : ∀ i, i < items.length → ∀ H, (∀ a, S a → H a = H1 a) → J.go i H
  stop : ∀ H, (∀ a, S a → H a = H1 a) → J.stop items.length H
  yld : ∀ i d, items[i]? = some d → ∀ G H x H', Mo G1 G → Le G H → (∀ a, S a → H a = H1 a) → J.yld i H x H' → ∃ G', New G H G' H' ∧ Rep G' x d
def rdI (W : XW) (sk : SK) (f : Env → Res (List Opd)) : TI := fun σ H R => ∃ G ρ, Le G H ∧ EnvR G H σ ρ ∧ Post W σ ρ G H (f ρ) fun os ρ1 G1 H1 => ∀ vs, OpdsF H σ ρ1 G1 H1 vs os →
  ∃ items, itemsOf sk (looks os ρ1) = some items ∧ ∀ J S, (∀ a, S a → V.ref a ∈ vs ∧ H1 a ≠ none) → Walk J S G1 H1 items → R J H1
theorem _root_.L2.PI.imp {X : Cx} {tg e : Expr} {t t' : TI} (h : PI X tg e t) (f : ∀ σ H R, t' σ H R → t σ H R) : PI X tg e t' := ⟨fun pins s σ H R I q => h.run pins s σ H R I (f σ H R q)⟩

theorem rd_at {H H1 : Hp} {a : Addr} {u : HO} (h : Rd H1 a u) (e : H a = H1 a) : Rd H a u := by
  rcases h with h | ⟨o, h⟩
  · exact .inl (e.trans h)
  · exact .inr ⟨o, e.trans h⟩
theorem rd_some {H : Hp} {a : Addr} {u : HO} (h : Rd H a u) : H a ≠ none := by
  rcases h with h | ⟨o, h⟩ <;> rw [h] <;> simp
section
variable {K : PySem.W.Frag} {G1 H1 : Hp} {a b : Addr} {vs us : List V} {ds es : List D}
theorem walk_list (h : Rd H1 a (.lst vs)) (r : Reps G1 vs ds) : Walk (Itl K a) (fun b => b = a) G1 H1 ds where
  go := fun i hi H hs => by
    have hi' : i < vs.length := by rw [r.length]; exact hi
    exact ⟨vs, vs[i], .inl (rd_at h (hs a rfl)), List.getElem?_eq_getElem hi'⟩
  stop := fun H hs => ⟨vs, .inl (rd_at h (hs a rfl)), Nat.le_of_eq r.length⟩
  yld := fun i d hd G H x H' m l hs y => by
    obtain ⟨rfl, y⟩ := y
    obtain ⟨v, hv, rp⟩ := r.get hd
    have e := y vs (.inl (rd_at h (hs a rfl)))
    rw [hv] at e; cases e
    exact ⟨G, New.refl l, rp.mono m⟩
theorem walk_tup (h : Rd H1 a (.tup vs)) (r : Reps G1 vs ds) : Walk (Itt K a) (fun b => b = a) G1 H1 ds where
  go := fun i hi H hs => by
    have hi' : i < vs.length := by rw [r.length]; exact hi
    exact ⟨vs, vs[i], .inl (rd_at h (hs a rfl)), List.getElem?_eq_getElem hi'⟩
  stop := fun H hs => ⟨vs, .inl (rd_at h (hs a rfl)), Nat.le_of_eq r.length⟩
  yld := fun i d hd G H x H' m l hs y => by
    obtain ⟨rfl, y⟩ := y
    obtain ⟨v, hv, rp⟩ := r.get hd
    have e := y vs (.inl (rd_at h (hs a rfl)))
    rw [hv] at e; cases e
    exact ⟨G, New.refl l, rp.mono m⟩
theorem walk_str {s : S} (c : okS s = true) : Walk (Its (toStr s)) (fun _ => False) G1 H1 (s.map fun c => .str [c]) where
  go := fun i hi H _ => by
    show i < (toStr s).cps.size
    simpa [toStr] using hi
  stop := fun H _ => by
    show (toStr s).cps.size ≤ _
    simp [toStr]
  yld := fun i d hd G H x H' m l _ y => by
    obtain ⟨rfl, k, hk, rfl⟩ := y
    have hk' : s[i]? = some k := by simpa [toStr] using hk
    rw [List.getElem?_map, hk'] at hd
    cases hd
    refine ⟨G, New.refl l, .str [k] (show 1 ≤ LINE by decide) ?_⟩
    simp only [okS, List.all_eq_true] at c ⊢
    intro z hz
    simp at hz; subst hz
    exact c z (List.mem_of_getElem? hk')
theorem pair_new {G H : Hp} {T : Addr} {v : V} {d : D} {i : Nat} (l : Le G H) (hT : H T = none) (r : Rep G v d) : ∃ G', New G H G' (upd H T (.tup [.int (i : Int), v])) ∧ Rep G' (.ref T) (.tup [.int i, d]) :=
  ⟨_, New.frozen l hT _, new_tup l hT (.cons (.int _) (.cons r .nil)) (show 2 ≤ LINE by decide)⟩
theorem enum_len : ∀ (n : Nat) (ds : List D), (enumL n ds).length = ds.length
  | _, [] => rfl
  | n, _ :: ds => by simp [enumL, enum_len (n + 1) ds]
theorem enum_get : ∀ (n : Nat) (ds : List D) (i : Nat), (enumL n ds)[i]? = (ds[i]?).map fun d => .tup [.int ((n + i : Nat) : Int), d]
  | _, [], i => by simp [enumL]
  | n, d :: ds, 0 => by simp [enumL]
  | n, d :: ds, i + 1 => by
    simp only [enumL, List.getElem?_cons_succ]
    rw [enum_get (n + 1) ds i]
    congr 1; funext e; congr 3; omega
theorem walk_enum (h : Rd H1 a (.lst vs)) (r : Reps G1 vs ds) : Walk (Ite K a) (fun b => b = a) G1 H1 (enumL 0 ds) where
  go := fun i hi H hs => by
    rw [enum_len] at hi
    have hi' : i < vs.length := by rw [r.length]; exact hi
    exact ⟨vs, vs[i], .inl (rd_at h (hs a rfl)), List.getElem?_eq_getElem hi'⟩
  stop := fun H hs => ⟨vs, .inl (rd_at h (hs a rfl)), by rw [enum_len]; exact Nat.le_of_eq r.length⟩
  yld := fun i d hd G H x H' m l hs y => by
    obtain ⟨T, z, rfl, hT, rfl, y⟩ := y
    rw [enum_get] at hd
    obtain ⟨d', hd', rfl⟩ := Option.map_eq_some_iff.mp hd
    obtain ⟨v, hv, rp⟩ := r.get hd'
    have e := y vs (.inl (rd_at h (hs a rfl)))
    rw [hv] at e; cases e
    rw [Nat.zero_add]
    exact pair_new l hT (rp.mono m)
theorem walk_enumT (h : Rd H1 a (.tup vs)) (r : Reps G1 vs ds) : Walk (IteT K a) (fun b => b = a) G1 H1 (enumL 0 ds) where
  go := fun i hi H hs => by
    rw [enum_len] at hi
    have hi' : i < vs.length := by rw [r.length]; exact hi
    exact ⟨vs, vs[i], .inl (rd_at h (hs a rfl)), List.getElem?_eq_getElem hi'⟩
  stop := fun H hs => ⟨vs, .inl (rd_at h (hs a rfl)), by rw [enum_len]; exact r.length⟩
  yld := fun i d hd G H x H' m l hs y => by
    obtain ⟨T, z, rfl, hT, rfl, y⟩ := y
    rw [enum_get] at hd
    obtain ⟨d', hd', rfl⟩ := Option.map_eq_some_iff.mp hd
    obtain ⟨v, hv, rp⟩ := r.get hd'
    have e := y vs (.inl (rd_at h (hs a rfl)))
    rw [hv] at e; cases e
    rw [Nat.zero_add]
    exact pair_new l hT (rp.mono m)
theorem zip_get : ∀ (xs ys : List D) (i : Nat) (d : D), (zipL xs ys)[i]? = some d → ∃ x y, xs[i]? = some x ∧ ys[i]? = some y ∧ d = .tup [x, y]
  | [], ys, i, d, h => by simp [zipL] at h
  | _ :: _, [], i, d, h => by simp [zipL] at h
  | x :: xs, y :: ys, 0, d, h => by simp [zipL] at h; subst h; exact ⟨x, y, rfl, rfl, rfl⟩
  | x :: xs, y :: ys, i + 1, d, h => by
    obtain ⟨x', y', h1, h2, h3⟩ := zip_get xs ys i d (by simpa [zipL] using h)
    exact ⟨x', y', by simpa using h1, by simpa using h2, h3⟩
theorem zip_len : ∀ (xs ys : List D), (zipL xs ys).length = min xs.length ys.length
  | [], ys => by simp [zipL]
  | _ :: _, [] => by simp [zipL]
  | x :: xs, y :: ys => by simp [zipL, zip_len xs ys]
theorem walk_zip (h : Rd H1 a (.lst vs)) (r : Reps G1 vs ds) (h2 : Rd H1 b (.lst us)) (r2 : Reps G1 us es) : Walk (Itz K a b) (fun c => c = a ∨ c = b) G1 H1 (zipL ds es) where
  go := fun i hi H hs => by
    rw [zip_len] at hi
    have i1 : i < vs.length := by rw [r.length]; omega
    have i2 : i < us.length := by rw [r2.length]; omega
    exact ⟨vs, us, vs[i], us[i], .inl (rd_at h (hs a (.inl rfl))), .inl (rd_at h2 (hs b (.inr rfl))), List.getElem?_eq_getElem i1, List.getElem?_eq_getElem i2⟩
  stop := fun H hs => ⟨vs, us, .inl (rd_at h (hs a (.inl rfl))), .inl (rd_at h2 (hs b (.inr rfl))), by rw [zip_len, r.length, r2.length]; omega⟩
  yld := fun i d hd G H x H' m l hs y => by
    obtain ⟨T, z1, z2, rfl, hT, rfl, y1, y2⟩ := y
    obtain ⟨d1, d2, e1, e2, rfl⟩ := zip_get _ _ _ _ hd
    obtain ⟨v, hv, rp⟩ := r.get e1
    obtain ⟨u, hu, rp2⟩ := r2.get e2
    have q1 := y1 vs (.inl (rd_at h (hs a (.inl rfl))))
    have q2 := y2 us (.inl (rd_at h2 (hs b (.inr rfl))))
    rw [hv] at q1; cases q1
    rw [hu] at q2; cases q2
    exact ⟨_, New.frozen l hT _, new_tup l hT (.cons (rp.mono m) (.cons (rp2.mono m) .nil)) (show 2 ≤ LINE by decide)⟩
theorem walk_zipT (h : Rd H1 a (.tup vs)) (r : Reps G1 vs ds) (h2 : Rd H1 b (.tup us)) (r2 : Reps G1 us es) : Walk (RZ.ItzT K a b) (fun c => c = a ∨ c = b) G1 H1 (zipL ds es) where
  go := fun i hi H hs => by
    rw [zip_len] at hi
    have i1 : i < vs.length := by rw [r.length]; omega
    have i2 : i < us.length := by rw [r2.length]; omega
    exact ⟨vs, us, vs[i], us[i], .inl (rd_at h (hs a (.inl rfl))), .inl (rd_at h2 (hs b (.inr rfl))), List.getElem?_eq_getElem i1, List.getElem?_eq_getElem i2⟩
  stop := fun H hs => ⟨vs, us, .inl (rd_at h (hs a (.inl rfl))), .inl (rd_at h2 (hs b (.inr rfl))), by rw [zip_len, r.length, r2.length]; omega⟩
  yld := fun i d hd G H x H' m l hs y => by
    obtain ⟨T, z1, z2, rfl, hT, rfl, y1, y2⟩ := y
    obtain ⟨d1, d2, e1, e2, rfl⟩ := zip_get _ _ _ _ hd
    obtain ⟨v, hv, rp⟩ := r.get e1
    obtain ⟨u, hu, rp2⟩ := r2.get e2
    have q1 := y1 vs (.inl (rd_at h (hs a (.inl rfl))))
    have q2 := y2 us (.inl (rd_at h2 (hs b (.inr rfl))))
    rw [hv] at q1; cases q1
    rw [hu] at q2; cases q2
    exact ⟨_, New.frozen l hT _, new_tup l hT (.cons (rp.mono m) (.cons (rp2.mono m) .nil)) (show 2 ≤ LINE by decide)⟩
theorem walk_rng {lo : Int} {n : Nat} : Walk (Itr lo n) (fun _ => False) G1 H1 ((List.range n).map fun (i : Nat) => .int (lo + i)) where
  go := fun i hi H _ => by
    show i < n
    simpa using hi
  stop := fun H _ => by
    show n ≤ _
    simp
  yld := fun i d hd G H x H' m l _ y => by
    obtain ⟨rfl, rfl⟩ := y
    rw [List.getElem?_map] at hd
    obtain ⟨j, hj, rfl⟩ := Option.map_eq_some_iff.mp hd
    obtain ⟨_, rfl⟩ := List.getElem?_eq_some_iff.mp hj
    simp only [List.getElem_range]
    exact ⟨G, New.refl l, .int _⟩
end

section
variable {X : Cx} {W : XW} {tg e e2 e3 : Expr} {f f2 : Env → Res Opd} {fs : Env → Res (List Opd)} {p pos : Pos}
theorem OpdsF.one {H : Hp} {σ : L2.St} {ρ : Env} {G' H' : Hp} {v : V} {o : Opd} (r : OpdF H σ ρ G' H' v o) : OpdsF H σ ρ G' H' [v] [o] := .cons r .nil (by intro a d _ _ j e h; simp at h)
/-- a thing -/
theorem i_any (ha : PE X e (rd W f)) : PI X tg e (rdI W .it (fCons f fNil)) := by
  refine (pi_any ha).imp fun σ H R h => ?_
  obtain ⟨G, ρ, l, en, p⟩ := h
  refine ⟨G, ρ, l, en, Post.step p l en fun o ρ1 e1 G1 H1 s1 l1 p1 v r => ?_⟩
  have p2 := p1 G1 H1 s1 l1 [v] (OpdsF.one (opd_f r))
  obtain ⟨items, hi, k⟩ := p2
  have t := OpdR.top r s1.env
  show _ ∨ _ ∨ _
  simp only [looks, List.map_cons, List.map_nil] at hi
  cases q : look o ρ1 with
  | lst ds =>
    rw [q] at hi t; cases hi
    obtain ⟨a, vs, rfl, hr, rv, z⟩ := t.lst s1.le
    exact .inl ⟨a, vs, rfl, .inl hr, k _ (fun b => b = a) (fun b hb => by subst hb; exact ⟨by simp, rd_some hr⟩) (walk_list hr rv)⟩
  | tup ds =>
    rw [q] at hi t; cases hi
    obtain ⟨a, vs, rfl, g, hr, rv, z⟩ := t.tup s1.le
    exact .inr (.inl ⟨a, vs, rfl, .inl hr, k _ (fun b => b = a) (fun b hb => by subst hb; exact ⟨by simp, rd_some hr⟩) (walk_tup hr rv)⟩)
  | str s =>
    rw [q] at hi t; cases hi
    obtain ⟨rfl, z, c⟩ := t.str
    exact .inr (.inr ⟨_, rfl, k _ _ (fun b hb => hb.elim) (walk_str c)⟩)
  | _ => rw [q] at hi; simp [itemsOf] at hi
theorem OpdsF.tops1 {H : Hp} {σ : L2.St} {ρ : Env} {G' H' : Hp} {vs : List V} {os : List Opd} {d : D} (r : OpdsF H σ ρ G' H' vs os) (e : EnvR G' H' σ ρ) (h : looks os ρ = [d]) : ∃ v, vs = [v] ∧ Top G' H' v d := by
  have t := r.tops e
  rw [h] at t
  exact t.one
theorem OpdsF.tops2 {H : Hp} {σ : L2.St} {ρ : Env} {G' H' : Hp} {vs : List V} {os : List Opd} {d d2 : D} (r : OpdsF H σ ρ G' H' vs os) (e : EnvR G' H' σ ρ) (h : looks os ρ = [d, d2]) : ∃ v u, vs = [v, u] ∧ Top G' H' v d ∧ Top G' H' u d2 := by
  have t := r.tops e
  rw [h] at t
  exact t.two
theorem small_near {i : Int} (h : near i = true) : -(2 ^ 62) ≤ i ∧ i < 2 ^ 62 := by
  obtain ⟨a, b⟩ := near_ok h
  constructor <;> omega
theorem items_enum {l items : List D} (h : itemsOf .enum l = some items) : ∃ ds, (l = [.lst ds] ∨ l = [.tup ds]) ∧ items = enumL 0 ds := by
  match l, h with
  | [.lst ds], h => cases h; exact ⟨ds, .inl rfl, rfl⟩
  | [.tup ds], h => cases h; exact ⟨ds, .inr rfl, rfl⟩
theorem items_zip {l items : List D} (h : itemsOf .zip l = some items) : ∃ ds es, (l = [.lst ds, .lst es] ∨ l = [.tup ds, .tup es]) ∧ items = zipL ds es := by
  match l, h with
  | [.lst ds, .lst es], h => cases h; exact ⟨ds, es, .inl rfl, rfl⟩
  | [.tup ds, .tup es], h => cases h; exact ⟨ds, es, .inr rfl, rfl⟩
theorem items_rng1 {d : D} {items : List D} (h : itemsOf .range [d] = some items) : ∃ n, d = .int n ∧ near n = true ∧ items = rangeL 0 n := by
  cases d with
  | int n =>
    simp only [itemsOf] at h
    split at h
    · rename_i hn; cases h; exact ⟨n, rfl, hn, rfl⟩
    · cases h
  | _ => simp [itemsOf] at h
theorem items_rng2 {d e : D} {items : List D} (h : itemsOf .range [d, e] = some items) : ∃ a b, d = .int a ∧ e = .int b ∧ near a = true ∧ near b = true ∧ items = rangeL a b := by
  match d, e, h with
  | .int a, .int b, h =>
    simp only [itemsOf] at h
    split at h
    · rename_i hn; rw [Bool.and_eq_true] at hn; cases h; exact ⟨a, b, rfl, rfl, hn.1, hn.2, rfl⟩
    · cases h
theorem i_enum {elts : List Expr} {kk : Nat} {tpos : Pos} (hg : Gl X "enumerate") (hm : X.mg "enumerate" = none) (ha : PA X [e] (rdA W fs)) (ns : notStar e = true) :
    PI X (.Tuple elts kk tpos) (.Call (.Name "enumerate" p) [e] [] pos) (rdI W .enum fs) := by
  refine (pi_enumA hg hm ha (star_of ns [] X.env)).imp fun σ H R h => ?_
  obtain ⟨G, ρ, l, en, pp⟩ := h
  refine ⟨G, ρ, l, en, pp.imp fun os ρ1 G1 H1 s1 l1 k vs rs => ?_⟩
  obtain ⟨items, hi, k⟩ := k vs rs
  obtain ⟨ds, hl, rfl⟩ := items_enum hi
  rcases hl with hl | hl
  · obtain ⟨v, rfl, t⟩ := rs.tops1 s1.env hl
    obtain ⟨a, us, rfl, hr, rv, z⟩ := t.lst s1.le
    exact ⟨a, us, rfl, .inl ⟨.inl hr, k _ (fun b => b = a) (fun b hb => by subst hb; exact ⟨by simp, rd_some hr⟩) (walk_enum hr rv)⟩⟩
  · obtain ⟨v, rfl, t⟩ := rs.tops1 s1.env hl
    obtain ⟨a, us, rfl, g, hr, rv, z⟩ := t.tup s1.le
    exact ⟨a, us, rfl, .inr ⟨.inl hr, k _ (fun b => b = a) (fun b hb => by subst hb; exact ⟨by simp, rd_some hr⟩) (walk_enumT hr rv)⟩⟩
theorem i_zip {elts : List Expr} {kk : Nat} {tpos : Pos} (hg : Gl X "zip") (hm : X.mg "zip" = none) (ha : PA X [e, e2] (rdA W fs)) (ns : notStar e = true) (ns2 : notStar e2 = true) :
    PI X (.Tuple elts kk tpos) (.Call (.Name "zip" p) [e, e2] [] pos) (rdI W .zip fs) := by
  refine (RZ.pi_zipA hg hm ha (star_of ns [e2] X.env) (back_of (es := [e2]) (by simpa using ns2) X.env pos)).imp fun σ H R h => ?_
  obtain ⟨G, ρ, l, en, pp⟩ := h
  refine ⟨G, ρ, l, en, pp.imp fun os ρ1 G1 H1 s1 l1 k vs rs => ?_⟩
  obtain ⟨items, hi, k⟩ := k vs rs
  obtain ⟨ds, es, hl, rfl⟩ := items_zip hi
  rcases hl with hl | hl
  · obtain ⟨v, u, rfl, t, t2⟩ := rs.tops2 s1.env hl
    obtain ⟨a, us, rfl, hr, rv, z⟩ := t.lst s1.le
    obtain ⟨b, us2, rfl, hr2, rv2, z2⟩ := t2.lst s1.le
    refine ⟨a, b, us, us2, rfl, .inl ⟨.inl hr, .inl hr2, k _ (fun c => c = a ∨ c = b) (fun c hc => ?_) (walk_zip hr rv hr2 rv2)⟩⟩
    rcases hc with rfl | rfl
    · exact ⟨by simp, rd_some hr⟩
    · exact ⟨by simp, rd_some hr2⟩
  · obtain ⟨v, u, rfl, t, t2⟩ := rs.tops2 s1.env hl
    obtain ⟨a, us, rfl, g, hr, rv, z⟩ := t.tup s1.le
    obtain ⟨b, us2, rfl, g2, hr2, rv2, z2⟩ := t2.tup s1.le
    refine ⟨a, b, us, us2, rfl, .inr ⟨.inl hr, .inl hr2, k _ (fun c => c = a ∨ c = b) (fun c hc => ?_) (walk_zipT hr rv hr2 rv2)⟩⟩
    rcases hc with rfl | rfl
    · exact ⟨by simp, rd_some hr⟩
    · exact ⟨by simp, rd_some hr2⟩
theorem rng_eq (a b : Int) : rangeL a b = (List.range (b - a).toNat).map fun (i : Nat) => D.int (a + i) := rfl
theorem i_rng1 (hg : Gl X "range") (hm : X.mg "range" = none) (ha : PE X e (rd W f)) (ns : notStar e = true) : PI X tg (.Call (.Name "range" p) [e] [] pos) (rdI W .range (fCons f fNil)) := by
  refine (pi_range1 hg hm (pa_cons ha pa_nil (star_of ns [] X.env)) (by rw [star_of ns [] X.env]; rfl)).imp fun σ H R h => ?_
  obtain ⟨G, ρ, l, en, p⟩ := h
  refine ⟨G, ρ, l, en, Post.step p l en fun o ρ1 e1 G1 H1 s1 l1 p1 v r => ?_⟩
  obtain ⟨items, hi, k⟩ := p1 G1 H1 s1 l1 [v] (OpdsF.one (opd_f r))
  have t := OpdR.top r s1.env
  simp only [looks, List.map_cons, List.map_nil] at hi
  obtain ⟨n, hq, hn, rfl⟩ := items_rng1 hi
  rw [hq] at t
  obtain ⟨a, b⟩ := small_near hn
  refine ⟨n, by rw [t.int], a, b, k _ (fun _ => False) (fun _ hb => hb.elim) ?_⟩
  have w := walk_rng (G1 := G1) (H1 := H1) (lo := 0) (n := n.toNat)
  rw [rng_eq, Int.sub_zero]; exact w
theorem i_rng2 (hg : Gl X "range") (hm : X.mg "range" = none) (ha : PA X [e, e2] (rdA W fs)) (ns : notStar e = true) (ns2 : notStar e2 = true) (h2 : ∀ ρ os ρ', fs ρ = .ok os ρ' → os.length = 2) : PI X tg (.Call (.Name "range" p) [e, e2] [] pos) (rdI W .range fs) := by
  refine (pi_range2 hg hm ha (by rw [star_of ns [e2] X.env, star_of ns2 [] X.env]; rfl) (by rw [star_of ns2 [] X.env]; rfl)).imp fun σ H R h => ?_
  obtain ⟨G, ρ, l, en, pp⟩ := h
  refine ⟨G, ρ, l, en, ?_⟩
  cases q : fs ρ with
  | bad => rw [q] at pp; exact pp
  | exc x ρ1 => rw [q] at pp; exact pp
  | ok os ρ1 =>
    rw [q] at pp
    intro G1 H1 s1 l1 vs rs
    obtain ⟨items, hi, k⟩ := pp G1 H1 s1 l1 vs rs
    have hl := h2 ρ os ρ1 q
    match os, hl with
    | [o1, o2], _ =>
      simp only [looks, List.map_cons, List.map_nil] at hi
      obtain ⟨a, b, q1, q2, n1, n2, rfl⟩ := items_rng2 hi
      obtain ⟨v, u, rfl, t, t2⟩ := rs.tops2 (d := look o1 ρ1) (d2 := look o2 ρ1) s1.env rfl
      rw [q1] at t; rw [q2] at t2
      obtain ⟨a1, a2⟩ := small_near n1
      obtain ⟨b1, b2⟩ := small_near n2
      refine ⟨a, b, by rw [t.int, t2.int], ⟨a1, a2, b1, b2⟩, k _ (fun _ => False) (fun _ hb => hb.elim) ?_⟩
      rw [rng_eq]
      exact walk_rng
end
end RR

/-! A18: what a loop needs: sources put away, targets, the new list set aside. -/
namespace RR
open PySem L2

/-! ### sources put away -/
def inPl (os : List Opd) (j : Nat) : Bool := os.any fun o => match o with | .pl i => i == j | _ => false
theorem inPl_cons_pl (i : Nat) (os : List Opd) (j : Nat) : inPl (.pl i :: os) j = (i == j || inPl os j) := rfl
theorem getS_hides : ∀ (os : List Opd) (ρ : Env) (j : Nat), (hides os ρ).length = ρ.length ∧ getS (hides os ρ) j = if inPl os j = true then .non else getS ρ j
  | [], ρ, j => ⟨rfl, rfl⟩
  | .pl i :: os, ρ, j => by
    obtain ⟨a, b⟩ := getS_hides os (setS ρ i .non) j
    rw [hides]
    refine ⟨by rw [a, setS_len], ?_⟩
    rw [b, inPl_cons_pl, getS_setS]
    by_cases q : inPl os j = true
    · simp [q]
    · by_cases e : i = j
      · subst e
        by_cases z : i < ρ.length
        · simp [q, z]
        · have : getS ρ i = .non := by
            cases w : getS ρ i with
            | non => rfl
            | val d => exact absurd (getS_lt (by rw [w]; intro h; cases h)) z
            | own d => exact absurd (getS_lt (by rw [w]; intro h; cases h)) z
          simp [q, z, this]
      · simp [q, e]
  | .val d :: os, ρ, j => by
    have := getS_hides os ρ j
    rw [hides] <;> first | exact this | (intro i z; cases z)
  | .own d :: os, ρ, j => by
    have := getS_hides os ρ j
    rw [hides] <;> first | exact this | (intro i z; cases z)
theorem getS_shows : ∀ (os : List Opd) (ρ0 ρ : Env) (j : Nat), (shows ρ0 os ρ).length = ρ.length ∧ (ρ0.length = ρ.length → getS (shows ρ0 os ρ) j = if inPl os j = true then getS ρ0 j else getS ρ j)
  | [], ρ0, ρ, j => ⟨rfl, fun _ => rfl⟩
  | .pl i :: os, ρ0, ρ, j => by
    obtain ⟨a, b⟩ := getS_shows os ρ0 (setS ρ i (getS ρ0 i)) j
    rw [shows]
    refine ⟨by rw [a, setS_len], fun hl => ?_⟩
    rw [b (by rw [setS_len]; exact hl), inPl_cons_pl, getS_setS]
    by_cases q : inPl os j = true
    · simp [q]
    · by_cases e : i = j
      · subst e
        by_cases z : i < ρ.length
        · simp [q, z]
        · have g : ∀ r : Env, r.length = ρ.length → getS r i = .non := fun r hr => by
            cases w : getS r i with
            | non => rfl
            | val d => exact absurd (getS_lt (by rw [w]; intro h; cases h)) (by rw [hr]; exact z)
            | own d => exact absurd (getS_lt (by rw [w]; intro h; cases h)) (by rw [hr]; exact z)
          simp [q, z, g ρ rfl, g ρ0 hl]
      · simp [q, e]
  | .val d :: os, ρ0, ρ, j => by
    have := getS_shows os ρ0 ρ j
    rw [shows] <;> first | exact this | (intro i z; cases z)
  | .own d :: os, ρ0, ρ, j => by
    have := getS_shows os ρ0 ρ j
    rw [shows] <;> first | exact this | (intro i z; cases z)
theorem fzs_len : ∀ (os : List Opd) (ρ : Env), (fzs os ρ).length = ρ.length
  | [], ρ => rfl
  | o :: os, ρ => by
    rw [fzs, fzs_len os]
    cases o with
    | val d => rfl
    | own d => rfl
    | pl i => simp only [fz]; split <;> simp [setS_len]

theorem OpdsF.has {H : Hp} {σ : L2.St} {ρ : Env} {G' H' : Hp} {vs : List V} {os : List Opd} (r : OpdsF H σ ρ G' H' vs os) {v : V} (h : v ∈ vs) : ∃ o ∈ os, OpdF H σ ρ G' H' v o := by
  induction r with
  | nil => cases h
  | cons q r ne ih =>
    rcases List.mem_cons.mp h with rfl | h
    · exact ⟨_, List.mem_cons_self .., q⟩
    · obtain ⟨o, ho, z⟩ := ih h
      exact ⟨o, List.mem_cons_of_mem _ ho, z⟩
theorem Reps.has {G : Hp} : ∀ {vs : List V} {ds : List D}, Reps G vs ds → ∀ v ∈ vs, ∃ d, Rep G v d
  | _, _, .nil, v, h => by cases h
  | _, _, .cons q r, v, h => by
    rcases List.mem_cons.mp h with rfl | h
    · exact ⟨_, q⟩
    · exact Reps.has r v h
theorem Rep.in {G : Hp} {a : Addr} {d : D} (r : Rep G (.ref a) d) : G a ≠ none := by cases r <;> simp_all
theorem mu_notG {σ : L2.St} {ρ : Env} {G H : Hp} (e : EnvR G H σ ρ) {a : Addr} (m : Mu σ ρ a) : G a = none := by
  obtain ⟨i, d, h, ha⟩ := m
  obtain ⟨b, hb, g, _⟩ := e.own i d h
  rw [ha] at hb; cases hb; exact g

structure Away (hide : Bool) (os : List Opd) (σ : L2.St) (ρ : Env) (G H : Hp) (ρ1 : Env) (G1 H1 : Hp) (vs : List V) (G2 : Hp) : Prop where
  mono : Mo G1 G2
  le : Le G2 H1
  env : EnvR G2 H1 σ (away hide os ρ1)
  fwd : Stp σ ρ G H σ (away hide os ρ1) G2 H1
  off : ∀ a, V.ref a ∈ vs → ¬ Mu σ (away hide os ρ1) a
  back : ∀ σ2 ρf G' H', Stp σ (away hide os ρ1) G2 H1 σ2 ρf G' H' → σ2.length = σ.length → (∀ j, hide = true → inPl os j = true → σ2[j]? = σ[j]?) → Stp σ ρ G H σ2 (again hide os ρ1 ρf) G' H'
  ble : ∀ ρf, ρf.length = ρ1.length → EnvLe (away hide os ρ1) ρf → EnvLe ρ (again hide os ρ1 ρf)
theorem away_ok {hide : Bool} {os : List Opd} {σ : L2.St} {ρ : Env} {G H : Hp} {ρ1 : Env} {G1 H1 : Hp} {vs : List V} (en : EnvR G H σ ρ) (s1 : Stp σ ρ G H σ ρ1 G1 H1) (l1 : EnvLe ρ ρ1) (rs : OpdsF H σ ρ1 G1 H1 vs os) :
    ∃ G2, Away hide os σ ρ G H ρ1 G1 H1 vs G2 := by
  cases hide with
  | false =>
    obtain ⟨G2, m, r, s, le, _⟩ := fz_all en s1 l1 rs
    refine ⟨G2, m, s.le, s.env, s, fun a ha mu => ?_, fun σ2 ρf G' H' st _ _ => s.trans st, fun ρf _ le2 => (l1.trans le).trans le2⟩
    obtain ⟨d, rd⟩ := r.has _ ha
    exact rd.in (mu_notG s.env mu)
  | true =>
    have hid : Hid (inPl os) ρ1 (hides os ρ1) := ⟨(getS_hides os ρ1 0).1, fun j hj => by rw [(getS_hides os ρ1 j).2, if_pos hj], fun j hj => by rw [(getS_hides os ρ1 j).2, if_neg (by rw [hj]; decide)]⟩
    have e2 := hid.env (fun _ _ => rfl) rfl s1.env
    refine ⟨G1, Mo.refl G1, s1.le, e2, ⟨s1.mono, s1.le, s1.keep, s1.fresh, s1.there, e2, fun a m => s1.mine a (hid.mu (fun _ _ => rfl) m)⟩, fun a ha mu => ?_, fun σ2 ρf G' H' st hsl hk => ?_, fun ρf hl le2 => ?_⟩
    · obtain ⟨o, ho, q⟩ := rs.has ha
      cases o with
      | val d => exact (Rep.in q) (mu_notG e2 mu)
      | own d =>
        obtain ⟨b, e, n, _⟩ := q
        cases e
        obtain ⟨u, hu⟩ := mu_there en l1 a (hid.mu (fun _ _ => rfl) mu)
        rw [n] at hu; cases hu
      | pl i =>
        obtain ⟨k, d, hk, hka⟩ := mu
        obtain ⟨q1, q2⟩ := q
        have hi : inPl os i = true := by
          unfold inPl
          rw [List.any_eq_true]
          exact ⟨_, ho, by simp⟩
        have hk' : inPl os k = false := by
          cases z : inPl os k with
          | false => rfl
          | true => rw [show away true os ρ1 = hides os ρ1 from rfl, hid.out k z] at hk; cases hk
        rw [show away true os ρ1 = hides os ρ1 from rfl, hid.same k hk'] at hk
        cases w : getS ρ1 i with
        | non => exact q2 w
        | val d' =>
          obtain ⟨v, hv, r⟩ := s1.env.val i d' w
          rw [q1] at hv; cases hv
          obtain ⟨b, hb, g, _⟩ := s1.env.own k d hk
          rw [hka] at hb; cases hb
          exact r.in g
        | own d' =>
          have := s1.env.inj i k a d' d w hk q1 hka
          subst this
          rw [hi] at hk'; cases hk'
    · have L := st.env.len
      have sl : ρ1.length = ρf.length := by
        have := s1.env.len
        omega
      refine s1.trans ?_
      refine hid.show s1.env (fun _ _ => rfl) st rfl (fun j hj => hk j rfl hj) (fun _ _ => rfl) (getS_shows os ρ1 ρf 0).1 (fun j hj => ?_) (fun j hj => ?_)
      · rw [show again true os ρ1 ρf = shows ρ1 os ρf from rfl, (getS_shows os ρ1 ρf j).2 sl, if_pos hj]
      · rw [show again true os ρ1 ρf = shows ρ1 os ρf from rfl, (getS_shows os ρ1 ρf j).2 sl, if_neg (by rw [hj]; decide)]
    · refine l1.trans fun j => ?_
      rw [show again true os ρ1 ρf = shows ρ1 os ρf from rfl, (getS_shows os ρ1 ρf j).2 hl.symm]
      by_cases q : inPl os j = true
      · rw [if_pos q]; exact SlLe.refl _
      · rw [if_neg q]
        have z := le2 j
        rw [show away true os ρ1 = hides os ρ1 from rfl, hid.same j (by simpa using q)] at z
        exact z

/-! ### the block's names -/
theorem wipe_get (σ : L2.St) : ∀ (vs : List Nat) (j : Nat), (wipe σ vs)[j]? = if j ∈ vs then (if j < σ.length then some none else none) else σ[j]?
  | [], j => by simp [wipe]
  | v :: vs, j => by
    have ih := wipe_get σ vs j
    rw [wipe, set_get, wipe_length, ih]
    by_cases e : v = j
    · subst e
      by_cases q : v < σ.length
      · simp [q]
      · simp [q]
    · have e' : j ≠ v := fun z => e z.symm
      simp [e, e']
theorem wipe_same {σ σ2 : L2.St} {vs : List Nat} (l : σ2.length = σ.length) (h : ∀ j, j ∉ vs → σ2[j]? = (wipe σ vs)[j]?) : wipe σ2 vs = wipe σ vs := by
  apply List.ext_getElem?
  intro j
  rw [wipe_get, wipe_get]
  by_cases q : j ∈ vs
  · simp [q, l]
  · have := h j q
    rw [wipe_get] at this
    simp only [q, if_false] at this ⊢
    exact this
def inTg (tg : List Nat) (j : Nat) : Bool := tg.any (· == j)
theorem inTg_mem {tg : List Nat} {j : Nat} : inTg tg j = true ↔ j ∈ tg := by simp [inTg]
theorem getS_wipe : ∀ (tg : List Nat) (ρ : Env) (j : Nat), (wipeS tg ρ).length = ρ.length ∧ getS (wipeS tg ρ) j = if inTg tg j = true then .non else getS ρ j
  | [], ρ, j => ⟨rfl, rfl⟩
  | i :: tg, ρ, j => by
    obtain ⟨a, b⟩ := getS_wipe tg (setS ρ i .non) j
    have e1 : wipeS (i :: tg) ρ = wipeS tg (setS ρ i .non) := rfl
    rw [e1]
    refine ⟨by rw [a, setS_len], ?_⟩
    rw [b, getS_setS]
    have e2 : inTg (i :: tg) j = (i == j || inTg tg j) := rfl
    rw [e2]
    by_cases q : inTg tg j = true
    · simp [q]
    · by_cases e : i = j
      · subst e
        by_cases z : i < ρ.length
        · simp [q, z]
        · have : getS ρ i = .non := by
            cases w : getS ρ i with
            | non => rfl
            | val d => exact absurd (getS_lt (by rw [w]; intro h; cases h)) z
            | own d => exact absurd (getS_lt (by rw [w]; intro h; cases h)) z
          simp [q, z, this]
      · simp [q, e]
theorem getS_back : ∀ (tg : List Nat) (ρ0 ρ : Env) (j : Nat), (backS tg ρ0 ρ).length = ρ.length ∧ (ρ0.length = ρ.length → getS (backS tg ρ0 ρ) j = if inTg tg j = true then getS ρ0 j else getS ρ j)
  | [], ρ0, ρ, j => ⟨rfl, fun _ => rfl⟩
  | i :: tg, ρ0, ρ, j => by
    obtain ⟨a, b⟩ := getS_back tg ρ0 (setS ρ i (getS ρ0 i)) j
    have e1 : backS (i :: tg) ρ0 ρ = backS tg ρ0 (setS ρ i (getS ρ0 i)) := rfl
    rw [e1]
    refine ⟨by rw [a, setS_len], fun hl => ?_⟩
    rw [b (by rw [setS_len]; exact hl), getS_setS]
    have e2 : inTg (i :: tg) j = (i == j || inTg tg j) := rfl
    rw [e2]
    by_cases q : inTg tg j = true
    · simp [q]
    · by_cases e : i = j
      · subst e
        by_cases z : i < ρ.length
        · simp [q, z]
        · have g : ∀ r : Env, r.length = ρ.length → getS r i = .non := fun r hr => by
            cases w : getS r i with
            | non => rfl
            | val d => exact absurd (getS_lt (by rw [w]; intro h; cases h)) (by rw [hr]; exact z)
            | own d => exact absurd (getS_lt (by rw [w]; intro h; cases h)) (by rw [hr]; exact z)
          simp [q, z, g ρ rfl, g ρ0 hl]
      · simp [q, e]
theorem hid_wipe (tg : List Nat) (ρ : Env) : Hid (inTg tg) ρ (wipeS tg ρ) :=
  ⟨(getS_wipe tg ρ 0).1, fun j hj => by rw [(getS_wipe tg ρ j).2, if_pos hj], fun j hj => by rw [(getS_wipe tg ρ j).2, if_neg (by rw [hj]; decide)]⟩

/-! ### targets -/
def gNames : List Nat → TGs
  | [] => gNil
  | i :: is => gCons (gName i) (gNames is)
def gT (K : PySem.W.Frag) : List Nat → TG
  | [i] => gName i
  | is => gTup K is.length (gNames is)
def setsV (ρ : Env) (ps : List (Nat × D)) : Env := ps.foldl (fun ρ p => setS ρ p.1 (.val p.2)) ρ
theorem names_step {σ : L2.St} {ρ : Env} {G H G1 H1 : Hp} : ∀ {is : List Nat} {vs : List V} {ds : List D} {σ1 : L2.St} {ρ1 : Env} {R : L2.St → Hp → Prop}, is.length = ds.length → Reps G1 vs ds → Stp σ ρ G H σ1 ρ1 G1 H1 →
    (∀ σ2, Stp σ ρ G H σ2 (setsV ρ1 (is.zip ds)) G1 H1 → (∀ j, inTg is j = false → σ2[j]? = σ1[j]? ∧ getS (setsV ρ1 (is.zip ds)) j = getS ρ1 j) → (∀ j, inTg is j = true → ∀ d, getS (setsV ρ1 (is.zip ds)) j ≠ .own d) → σ2.length = σ1.length → R σ2 H1) → gNames is vs σ1 H1 R
  | [], [], [], σ1, ρ1, R, _, _, s, k => ⟨rfl, k σ1 s (fun j _ => ⟨rfl, rfl⟩) (fun j hj => by simp [inTg] at hj) rfl⟩
  | [], _ :: _, [], σ1, ρ1, R, _, r, s, k => by cases r
  | [], _, _ :: _, σ1, ρ1, R, hl, r, s, k => by simp at hl
  | _ :: _, _, [], σ1, ρ1, R, hl, r, s, k => by simp at hl
  | _ :: _, [], _ :: _, σ1, ρ1, R, hl, r, s, k => by cases r
  | i :: is, v :: vs, d :: ds, σ1, ρ1, R, hl, r, s, k => by
    obtain ⟨h, r⟩ : Rep G1 v d ∧ Reps G1 vs ds := by cases r with | cons h r => exact ⟨h, r⟩
    refine ⟨v, vs, rfl, ?_⟩
    refine names_step (by simpa using hl) r (asg_val s h) fun σ2 s2 off on l2 => ?_
    refine k σ2 s2 (fun j hj => ?_) (fun j hj e => ?_) (by rw [l2, List.length_set])
    · have hj' : i ≠ j ∧ inTg is j = false := by
        have : (i == j || inTg is j) = false := hj
        rw [Bool.or_eq_false_iff] at this
        exact ⟨by simpa using this.1, this.2⟩
      obtain ⟨a, b⟩ := off j hj'.2
      refine ⟨a.trans ?_, b.trans ?_⟩
      · rw [set_get, if_neg (fun z => hj'.1 z.1)]
      · rw [getS_setS, if_neg (fun z => hj'.1 z.1)]
    · show getS (setsV (setS ρ1 i (.val d)) (is.zip ds)) j ≠ .own e
      cases q : inTg is j with
      | true => exact on j q e
      | false =>
        have e1 : i = j := by
          have : (i == j || inTg is j) = true := hj
          rw [q, Bool.or_false] at this
          simpa using this
        rw [(off j q).2, getS_setS]
        subst e1
        by_cases z : i < ρ1.length
        · rw [if_pos ⟨rfl, z⟩]; intro w; cases w
        · rw [if_neg (fun w => z w.2)]
          intro w
          exact z (getS_lt (by rw [w]; intro y; cases y))
theorem one_step {σ : L2.St} {ρ : Env} {G H G1 H1 : Hp} {i : Nat} {v : V} {d : D} {σ1 : L2.St} {ρ1 : Env} {R : L2.St → Hp → Prop} (h : Rep G1 v d) (s : Stp σ ρ G H σ1 ρ1 G1 H1)
    (k : ∀ σ2, Stp σ ρ G H σ2 (setS ρ1 i (.val d)) G1 H1 → (∀ j, inTg [i] j = false → σ2[j]? = σ1[j]? ∧ getS (setS ρ1 i (.val d)) j = getS ρ1 j) → (∀ j, inTg [i] j = true → ∀ d', getS (setS ρ1 i (.val d)) j ≠ .own d') → σ2.length = σ1.length → R σ2 H1) : gName i v σ1 H1 R := by
  have q := names_step (is := [i]) (vs := [v]) (ds := [d]) (R := R) rfl (.cons h .nil) s k
  obtain ⟨v', r, e, q⟩ := q
  cases e
  exact q.2
theorem bind_step {tg : List Nat} {σ : L2.St} {ρ : Env} {G H G1 H1 : Hp} {x : V} {d : D} {σ1 : L2.St} {ρ1 ρ2 : Env} {R : L2.St → Hp → Prop} (K : PySem.W.Frag) (hb : bindT tg d ρ1 = some ρ2) (h : Rep G1 x d) (s : Stp σ ρ G H σ1 ρ1 G1 H1)
    (k : ∀ σ2, Stp σ ρ G H σ2 ρ2 G1 H1 → (∀ j, inTg tg j = false → σ2[j]? = σ1[j]? ∧ getS ρ2 j = getS ρ1 j) → (∀ j, inTg tg j = true → ∀ d', getS ρ2 j ≠ .own d') → σ2.length = σ1.length → R σ2 H1) : gT K tg x σ1 H1 R := by
  have tup : ∀ {ds : List D}, d = .tup ds → tg.length = ds.length → ρ2 = setsV ρ1 (tg.zip ds) → gTup K tg.length (gNames tg) x σ1 H1 R := by
    rintro ds rfl hl rfl
    cases h with
    | @tup a vs _ hg r z =>
      refine ⟨a, vs, rfl, .inl (s.le a _ hg).1, by rw [r.length]; exact hl.symm, ?_⟩
      exact names_step hl r s k
  unfold bindT at hb
  split at hb
  · cases hb
    exact one_step h s k
  · rename_i ds hne
    split at hb
    · rename_i hl
      cases hb
      unfold gT
      split
      · rename_i i; exact absurd rfl (hne i)
      · exact tup rfl hl rfl
    · cases hb
  · cases hb

/-! ### the new list is set aside -/
def mask (H : Hp) (L : Addr) : Hp := fun a => if a = L then none else H a
theorem mask_at (H : Hp) (L : Addr) : mask H L L = none := by simp [mask]
theorem mask_ne {H : Hp} {L a : Addr} (h : a ≠ L) : mask H L a = H a := by simp [mask, h]
theorem mask_some {H : Hp} {L a : Addr} {o : HO} (h : mask H L a = some o) : a ≠ L ∧ H a = some o := by
  by_cases e : a = L
  · subst e; rw [mask_at] at h; cases h
  · rw [mask_ne e] at h; exact ⟨e, h⟩
theorem mask_upd (H : Hp) (L : Addr) (o : HO) : mask (upd H L o) L = mask H L := by
  funext a
  by_cases e : a = L
  · subst e; rw [mask_at, mask_at]
  · rw [mask_ne e, mask_ne e, upd_ne e]
theorem mask_none {H : Hp} {L : Addr} (h : H L = none) : mask H L = H := by
  funext a
  by_cases e : a = L
  · subst e; rw [mask_at, h]
  · rw [mask_ne e]
theorem upd_mask {H : Hp} {L : Addr} {o : HO} (h : H L = some o) : upd (mask H L) L o = H := by
  funext a
  by_cases e : a = L
  · subst e; rw [upd_same, h]
  · rw [upd_ne e, mask_ne e]
theorem rd_mask {H : Hp} {L a : Addr} {u : HO} (e : a ≠ L) : Rd (mask H L) a u ↔ Rd H a u := by unfold Rd; rw [mask_ne e]
section
variable {σ σ' : L2.St} {ρ ρ' : Env} {G H G' H' : Hp} {L : Addr}
theorem mask_le (l : Le G H) (g : G L = none) : Le G (mask H L) := fun a o h => by
  have e : a ≠ L := fun z => by subst z; rw [g] at h; cases h
  exact ⟨(rd_mask e).mpr (l a o h).1, fun vs z => by rw [mask_ne e]; exact (l a o h).2 vs z⟩
theorem unmask_le (l : Le G (mask H L)) : Le G H := fun a o h => by
  have e : a ≠ L := fun z => by subst z; exact rd_some (l a o h).1 (mask_at H a)
  exact ⟨(rd_mask e).mp (l a o h).1, fun vs z => (mask_some ((l a o h).2 vs z)).2⟩
theorem unmask_env (e : EnvR G (mask H L) σ ρ) : EnvR G H σ ρ where
  len := e.len
  val := e.val
  own := fun i d h => by
    obtain ⟨a, ha, g, o⟩ := e.own i d h
    exact ⟨a, ha, g, o.mono (Mo.refl G) fun u hu => (mask_some hu).2⟩
  inj := e.inj
theorem mask_nomu (e : EnvR G (mask H L) σ ρ) : ¬ Mu σ ρ L := fun m => by
  obtain ⟨u, hu⟩ := e.mu m
  rw [mask_at] at hu; cases hu
theorem stp_off {xs : List V} (s : Stp σ ρ G H σ' ρ' G' H') (g : G L = none) (n : ¬ Mu σ ρ L) (h : H L = some (.lst xs)) : H' L = some (.lst xs) ∧ G' L = none := by
  have h' := s.keep L _ h n
  refine ⟨h', ?_⟩
  cases q : G' L with
  | none => rfl
  | some w =>
    rcases s.fresh L g (by rw [q]; simp) with z | z | ⟨us, z⟩
    · rw [h] at z; cases z
    · exact absurd z n
    · have := (s.le L _ z).2 us rfl
      rw [h'] at this; cases this
theorem mask_stp {xs : List V} (s : Stp σ ρ G H σ' ρ' G' H') (g : G L = none) (n : ¬ Mu σ ρ L) (h : H L = some (.lst xs)) : Stp σ ρ G (mask H L) σ' ρ' G' (mask H' L) := by
  obtain ⟨h', g'⟩ := stp_off s g n h
  have n' : ¬ Mu σ' ρ' L := fun m => by
    rcases s.mine L m with z | z
    · exact n z
    · rw [h] at z; cases z
  refine ⟨s.mono, mask_le s.le g', fun a o ha nm => ?_, fun a ha h2 => ?_, fun a o ha => ?_, ⟨s.env.len, s.env.val, fun i d hi => ?_, s.env.inj⟩, fun a m => ?_⟩
  · obtain ⟨e, ha⟩ := mask_some ha
    rw [mask_ne e]; exact s.keep a o ha nm
  · rcases s.fresh a ha h2 with z | z | z
    · left
      by_cases e : a = L
      · subst e; exact mask_at H a
      · rw [mask_ne e]; exact z
    · exact .inr (.inl z)
    · exact .inr (.inr z)
  · obtain ⟨e, ha⟩ := mask_some ha
    obtain ⟨o', ho⟩ := s.there a o ha
    exact ⟨o', by rw [mask_ne e]; exact ho⟩
  · obtain ⟨a, ha, ga, oa⟩ := s.env.own i d hi
    have e : a ≠ L := fun z => n' (by subst z; exact ⟨i, d, hi, ha⟩)
    exact ⟨a, ha, ga, oa.mono (Mo.refl _) fun u hu => by rw [mask_ne e]; exact hu⟩
  · rcases s.mine a m with z | z
    · exact .inl z
    · right
      by_cases e : a = L
      · subst e; exact mask_at H a
      · rw [mask_ne e]; exact z
end
/-- off the targets, later kinds -/
theorem hid_le {hid : Nat → Bool} {a a' b b' : Env} (h1 : Hid hid a a') (h2 : Hid hid b b') (l : EnvLe a b) : EnvLe a' b' := fun j => by
  cases q : hid j with
  | true => rw [h1.out j q, h2.out j q]; exact SlLe.refl _
  | false => rw [h1.same j q, h2.same j q]; exact l j
end RR

/-! A19: list comprehensions. -/
namespace RR
open PySem L2

theorem items_len {sk : SK} {G H : Hp} {vs : List V} {ds items : List D} (l : Le G H) (t : Tops G H vs ds) (h : itemsOf sk ds = some items) : items.length ≤ LINE := by
  have B : (LINE : Nat) = 16777216 := rfl
  have near_b : ∀ {i : Int}, near i = true → -8000000 < i ∧ i < 8000000 := near_ok
  match sk, ds, h with
  | .it, [.lst xs], h => cases h; obtain ⟨v, rfl, t1⟩ := t.one; obtain ⟨_, _, _, _, _, z⟩ := t1.lst l; exact z
  | .it, [.tup xs], h => cases h; obtain ⟨v, rfl, t1⟩ := t.one; obtain ⟨_, _, _, _, _, _, z⟩ := t1.tup l; exact z
  | .it, [.str s], h => cases h; obtain ⟨v, rfl, t1⟩ := t.one; obtain ⟨_, z, _⟩ := t1.str; rw [List.length_map]; exact z
  | .range, [.int n], h =>
    obtain ⟨m, e, hn, rfl⟩ := items_rng1 h
    cases e
    obtain ⟨a, b⟩ := near_b hn
    simp only [rangeL, List.length_map, List.length_range]; omega
  | .range, [.int a, .int b], h =>
    obtain ⟨x, y, e1, e2, h1, h2, rfl⟩ := items_rng2 h
    cases e1; cases e2
    obtain ⟨a1, a2⟩ := near_b h1
    obtain ⟨b1, b2⟩ := near_b h2
    simp only [rangeL, List.length_map, List.length_range]; omega
  | .range, [.int a, .int b, .int c], h =>
    simp only [itemsOf] at h
    split at h
    · rename_i hn
      simp only [Bool.and_eq_true] at hn
      obtain ⟨⟨⟨h1, h2⟩, h3⟩, h4⟩ := hn
      cases h
      obtain ⟨a1, a2⟩ := near_b h1
      obtain ⟨b1, b2⟩ := near_b h2
      obtain ⟨c1, c2⟩ := near_b h3
      have c0 : c ≠ 0 := by simpa using h4
      have dv : ∀ (x : Int) (k : Int), 0 < k → 0 ≤ x → (x + k - 1) / k ≤ x := fun x k hk hx => by
        by_cases z : x = 0
        · subst z
          have : (0 + k - 1) / k = 0 := Int.ediv_eq_zero_of_lt (by omega) (by omega)
          omega
        · have h1 : x + k - 1 ≤ x * k := by
            have : (x - 1) * 1 ≤ (x - 1) * k := Int.mul_le_mul_of_nonneg_left (by omega) (by omega)
            have e : (x - 1) * k = x * k - k := by rw [Int.sub_mul, Int.one_mul]
            omega
          exact Int.ediv_le_of_le_mul hk h1
      have dn : ∀ (x : Int) (k : Int), 0 < k → x < 0 → (x + k - 1) / k ≤ 0 := fun x k hk hx => by
        have : (x + k - 1) / k < 1 := Int.ediv_lt_of_lt_mul hk (by omega)
        omega
      unfold stepL
      split
      · rename_i hc
        simp only [List.length_map, List.length_range]
        by_cases z : 0 ≤ b - a
        · have := dv (b - a) c hc z; omega
        · have := dn (b - a) c hc (by omega); omega
      · rename_i hc
        simp only [List.length_map, List.length_range]
        by_cases z : 0 ≤ a - b
        · have := dv (a - b) (-c) (by omega) z; omega
        · have := dn (a - b) (-c) (by omega) (by omega); omega
    · cases h
  | .enum, ds, h =>
    obtain ⟨xs, hl, rfl⟩ := items_enum h
    rw [enum_len]
    rcases hl with rfl | rfl
    · obtain ⟨v, rfl, t1⟩ := t.one; obtain ⟨_, _, _, _, _, z⟩ := t1.lst l; exact z
    · obtain ⟨v, rfl, t1⟩ := t.one; obtain ⟨_, _, _, _, _, _, z⟩ := t1.tup l; exact z
  | .zip, ds, h =>
    obtain ⟨xs, ys, hl, rfl⟩ := items_zip h
    rw [zip_len]
    rcases hl with rfl | rfl
    · obtain ⟨v, u, rfl, t1, _⟩ := t.two; obtain ⟨_, _, _, _, _, z⟩ := t1.lst l; omega
    · obtain ⟨v, u, rfl, t1, _⟩ := t.two; obtain ⟨_, _, _, _, _, _, z⟩ := t1.tup l; omega
  | .items, [.dct k kvs], h =>
    cases h
    obtain ⟨v, rfl, t1⟩ := t.one
    rw [List.length_map]
    rcases t1.dctK with rfl | rfl
    · obtain ⟨_, _, _, _, _, _, _, z⟩ := t1.dct0 l; exact z
    · obtain ⟨_, _, _, _, _, _, _, z⟩ := t1.dct1 l; exact z

/-- no exception is wanted -/
def XW.nox (W : XW) : XW := ⟨W.xc, fun _ _ _ => False⟩
def fComp (hide : Bool) (tg : List Nat) (sk : SK) (fsrc : Env → Res (List Opd)) (fc : Env → Res Bool) (fe : Env → Res Opd) : Env → Res Opd := fun ρ => (fsrc ρ).bind fun os ρ1 => match itemsOf sk (looks os ρ1) with
    | none => .bad
    | some items =>
      (noX (compF (fun d ρ => bindT tg d (wipeS tg ρ)) fc fe items [] (away hide os ρ1))).bind fun ds ρ2 =>
        .ok (.own (.lst ds)) (again hide os ρ1 (backS tg (away hide os ρ1) ρ2))
theorem Post.okd {α : Type} {W : XW} {σ : L2.St} {ρ : Env} {G H : Hp} {r : Res α} {P : α → Env → Hp → Hp → Prop} (h : Post W σ ρ G H r P) {a : α} {ρ1 : Env} (e : r = .ok a ρ1) : ∀ G' H', Stp σ ρ G H σ ρ1 G' H' → EnvLe ρ ρ1 → P a ρ1 G' H' := by rw [e] at h; exact h
theorem compF_cons {bind : D → Env → Option Env} {test : Env → Res Bool} {elt : Env → Res Opd} {x : D} {xs acc ds : List D} {ρ ρf : Env} (h : compF bind test elt (x :: xs) acc ρ = .ok ds ρf) :
    ∃ ρ1 b ρ2, bind x ρ = some ρ1 ∧ test ρ1 = .ok b ρ2 ∧ (b = true → ∃ o ρ3, elt ρ2 = .ok o ρ3 ∧ compF bind test elt xs (acc ++ [look o ρ3]) (fz o ρ3) = .ok ds ρf) ∧ (b = false → compF bind test elt xs acc ρ2 = .ok ds ρf) := by
  rw [compF] at h
  cases q : bind x ρ with
  | none => rw [q] at h; cases h
  | some ρ1 =>
    rw [q] at h
    simp only at h
    cases q2 : test ρ1 with
    | bad => rw [q2] at h; cases h
    | exc y ρ2 => rw [q2] at h; cases h
    | ok b ρ2 =>
      rw [q2] at h
      simp only [Res.bind] at h
      refine ⟨ρ1, b, ρ2, rfl, q2, fun hb => ?_, fun hb => ?_⟩
      · subst hb
        rw [if_pos rfl] at h
        cases q3 : elt ρ2 with
        | bad => rw [q3] at h; cases h
        | exc y ρ3 => rw [q3] at h; cases h
        | ok o ρ3 => rw [q3] at h; exact ⟨o, ρ3, rfl, h⟩
      · subst hb
        rw [if_neg (by decide)] at h
        exact h

section
variable {X : Cx} {W : XW} {tgE iter elt : Expr} {ifs : List Expr} {fsrc : Env → Res (List Opd)} {fc : Env → Res Bool} {fe : Env → Res Opd} {sk : SK} {pos : Pos} {tg : List Nat} {hide : Bool} {own : List (Str × Nat)} {scope : Scope}
theorem comp_read {vs : List Nat} (hv : tg = vs) {σ : L2.St} {H : Hp} {Q : VK} (h : rd W (fComp hide tg sk fsrc fc fe) σ H Q) :
    tLc (rdI W sk fsrc) (gT X.K tg) (rdT W.nox fc) (rd W.nox fe) vs σ H Q := by
  subst hv
  obtain ⟨G, ρ, l, en, p⟩ := h
  refine ⟨G, ρ, l, en, Post.step p l en fun os ρ1 e1 G1 H1 s1 l1 p1 us rs => ?_⟩
  cases hi : itemsOf sk (looks os ρ1) with
  | none => rw [hi] at p1; exact False.elim p1
  | some items =>
    rw [hi] at p1
    simp only at p1
    refine ⟨items, rfl, fun J S hS wk L hL => ?_⟩
    have hlen := items_len s1.le (rs.tops s1.env) hi
    obtain ⟨G2, aw⟩ := away_ok (hide := hide) en s1 l1 rs
    cases hr : compF (fun d ρ => bindT tg d (wipeS tg ρ)) fc fe items [] (away hide os ρ1) with
    | bad => rw [hr] at p1; exact False.elim p1
    | exc x ρ9 => rw [hr] at p1; exact False.elim p1
    | ok dsf ρf =>
      rw [hr] at p1
      replace p1 : Post W σ ρ G H (.ok (.own (.lst dsf)) (again hide os ρ1 (backS tg (away hide os ρ1) ρf))) (fun o ρ' G' H' => ∀ v, OpdR H σ ρ' G' H' v o → Q v H') := p1
      obtain ⟨aMono, aLe, aEnv, aFwd, aOff, aBack, aBle⟩ := aw
      generalize away hide os ρ1 = ρs at *
      let σw := wipe σ tg
      have hs : ∀ j, inTg tg j = false → σw[j]? = σ[j]? := fun j hj => by
        show (wipe σ tg)[j]? = _
        rw [wipe_get, if_neg (fun z => by rw [inTg_mem.mpr z] at hj; cases hj)]
      have hl : σw.length = σ.length := wipe_length σ tg
      have hG2L : G2 L = none := by
        cases q : G2 L with
        | none => rfl
        | some w => exact absurd hL (rd_some (aLe L w q).1)
      have e0 : EnvR G2 H1 σw (wipeS tg ρs) := (hid_wipe tg ρs).env hs hl aEnv
      refine ⟨fun i m Hc => m = items.length - i ∧ i ≤ items.length ∧ ∃ ρi Gi accV accD, compF (fun d ρ => bindT tg d (wipeS tg ρ)) fc fe (items.drop i) accD ρi = .ok dsf ρf ∧ ρi.length = ρs.length ∧ Stp σw (wipeS tg ρs) G2 H1 σw (wipeS tg ρi) Gi (mask Hc L) ∧
        Hc L = some (.lst accV) ∧ Reps Gi accV accD ∧ accD.length ≤ i ∧ Gi L = none ∧ EnvLe (wipeS tg ρs) (wipeS tg ρi), ⟨items.length, by simp, Nat.zero_le _, ρs, G2, [], [], by rw [List.drop_zero]; exact hr, rfl, ?_, upd_same, .nil, Nat.zero_le _, hG2L, EnvLe.refl _⟩, ?_⟩
      · rw [mask_upd, mask_none hL]
        exact Stp.refl aLe e0
      · rintro i m Hc ⟨rfl, hin, ρi, Gi, accV, accD, hcomp, hρl, st, hLc, rv, hacc, hGL, le0⟩
        have agree : ∀ a, S a → Hc a = H1 a := fun a ha => by
          obtain ⟨h1, h2⟩ := hS a ha
          have ne : a ≠ L := fun z => by subst z; exact h2 hL
          cases q : H1 a with
          | none => exact absurd q h2
          | some o =>
            have := st.keep a o q (fun mu => aOff a h1 ((hid_wipe tg ρs).mu hs mu))
            rw [mask_ne ne] at this
            exact this
        by_cases hlt : i < items.length
        · right
          have hd : items[i]? = some items[i] := List.getElem?_eq_getElem hlt
          refine ⟨wk.go i hlt Hc agree, fun H' => ∃ ρi Gi accV accD, compF (fun d ρ => bindT tg d (wipeS tg ρ)) fc fe (items.drop (i + 1)) accD ρi = .ok dsf ρf ∧ ρi.length = ρs.length ∧ Stp σw (wipeS tg ρs) G2 H1 σw (wipeS tg ρi) Gi (mask H' L) ∧
            H' L = some (.lst accV) ∧ Reps Gi accV accD ∧ accD.length ≤ i + 1 ∧ Gi L = none ∧ EnvLe (wipeS tg ρs) (wipeS tg ρi), fun H' hH' => ⟨items.length - (i + 1), by omega, rfl, hlt, hH'⟩, fun x H' hy => ?_⟩
          rw [List.drop_eq_getElem_cons hlt] at hcomp
          obtain ⟨ρa, b, ρb, hb, ht, hyes, hno⟩ := compF_cons hcomp
          have leC : Le Gi Hc := unmask_le st.le
          have eC : EnvR Gi Hc σw (wipeS tg ρi) := unmask_env st.env
          have nL : ¬ Mu σw (wipeS tg ρi) L := mask_nomu st.env
          obtain ⟨G', nw, rx⟩ := wk.yld i _ hd Gi Hc x H' (aMono.trans st.mono) leC agree hy
          have st1 : Stp σw (wipeS tg ρi) Gi Hc σw (wipeS tg ρi) G' H' := nw.stp eC
          refine bind_step (σ := σw) (ρ := wipeS tg ρi) (G := Gi) (H := Hc) X.K hb rx st1 fun σ2 st2 off on l2 => ?_
          have w2 : wipe σ2 tg = wipe (wipe σ tg) tg := wipe_same l2 fun j hj => by
            refine (off j (by cases z : inTg tg j with | false => rfl | true => exact absurd (inTg_mem.mp z) hj)).1.trans ?_
            show (wipe σ tg)[j]? = _
            rw [wipe_get (wipe σ tg), if_neg hj]
          have w3 : wipe (wipe σ tg) tg = wipe σ tg := by
            refine wipe_same (wipe_length σ tg) fun j hj => rfl
          refine ⟨w2.trans w3, ?_⟩
          -- behind the turn
          have hidA : Hid (inTg tg) ρa (wipeS tg ρi) := by
            have L1 := st2.env.len
            have L2 := eC.len
            refine ⟨L2.symm.trans (l2.symm.trans L1), (hid_wipe tg ρi).out, fun j hj => ((off j hj).2).symm⟩
          have fin : ∀ {ρz : Env} {Gz Hz : Hp}, Stp σ2 ρa G' H' σ2 ρz Gz Hz → EnvLe ρa ρz →
              ρz.length = ρs.length ∧ Stp σw (wipeS tg ρs) G2 H1 σw (wipeS tg ρz) Gz (mask Hz L) ∧ Hz L = some (.lst accV) ∧ Mo Gi Gz ∧ Gz L = none ∧ EnvLe (wipeS tg ρs) (wipeS tg ρz) := fun {ρz Gz Hz} sz lz => by
            have b1 : Stp σw (wipeS tg ρi) G' H' σw (wipeS tg ρz) Gz Hz := Hid.both hidA (hid_wipe tg ρz) (fun j hj => ((off j hj).1).symm) l2.symm on sz
            have b2 := st1.trans b1
            obtain ⟨o1, o2⟩ := stp_off b2 hGL nL hLc
            refine ⟨?_, st.trans (mask_stp b2 hGL nL hLc), o1, b2.mono, o2, le0.trans (hid_le hidA (hid_wipe tg ρz) lz)⟩
            have q1 := sz.env.len
            have q2 := st2.env.len
            have q3 := eC.len
            have q4 := (hid_wipe tg ρi).len
            exact q1.symm.trans (l2.trans (q3.trans (q4.trans hρl)))
          refine ⟨G', ρa, st2.le, st2.env, ?_⟩
          rw [ht]
          intro G3 H3 s3 l3
          cases b with
          | false =>
            rw [if_neg (by decide)]
            obtain ⟨f1, f2, f3, f4, f5, f6⟩ := fin s3 l3
            exact ⟨ρb, G3, accV, accD, hno rfl, f1, f2, f3, rv.mono f4, by omega, f5, f6⟩
          | true =>
            rw [if_pos rfl]
            obtain ⟨o, ρc, he, hrest⟩ := hyes rfl
            refine ⟨G3, ρb, s3.le, s3.env, ?_⟩
            rw [he]
            intro G4 H4 s4 l4 v r
            obtain ⟨G5, m5, r5, s5, le5, _⟩ := fz_one s4 s3.env l4 (opd_f r)
            obtain ⟨f1, f2, f3, f4, f5, f6⟩ := fin (s3.trans s5) (l3.trans (l4.trans le5))
            refine ⟨accV, f3, ?_, fz o ρc, G5, accV ++ [v], accD ++ [look o ρc], hrest, f1, ?_, upd_same, (rv.mono f4).append (.cons r5 .nil), ?_, f5, f6⟩
            · rw [rv.length, ← line_eq]; omega
            · rw [mask_upd]; exact f2
            · rw [List.length_append, List.length_singleton]; omega
        · left
          have e : i = items.length := by omega
          subst e
          refine ⟨wk.stop Hc agree, ?_⟩
          rw [List.drop_length, compF] at hcomp
          cases hcomp
          have len0 := aEnv.len
          have b1 : Stp σ ρs G2 H1 σ (backS tg ρs ρf) Gi (mask Hc L) := by
            refine (hid_wipe tg ρs).show aEnv hs st hl.symm (fun _ _ => rfl) (fun j hj => (hs j hj).symm) ?_ (fun j hj => ?_) (fun j hj => ?_)
            · rw [(getS_back tg ρs ρf 0).1, (hid_wipe tg ρf).len]
            · rw [(getS_back tg ρs ρf j).2 hρl.symm, if_pos hj]
            · rw [(getS_back tg ρs ρf j).2 hρl.symm, if_neg (by rw [hj]; decide), (hid_wipe tg ρf).same j hj]
          have b2 := aBack σ (backS tg ρs ρf) Gi (mask Hc L) b1 rfl (fun _ _ _ => rfl)
          have n1 := New.mine b2.le (mask_at Hc L) (.lst accV)
          rw [upd_mask hLc] at n1
          have b3 := b2.trans (n1.stp b2.env)
          refine p1 Gi Hc b3 ?_ _ ⟨L, rfl, ?_, hGL, .lst hLc rv (by omega)⟩
          · refine aBle _ ?_ (fun j => ?_)
            · rw [(getS_back tg ρs ρf 0).1, hρl]
              have z1 := s1.env.len
              omega
            · rw [(getS_back tg ρs ρf j).2 hρl.symm]
              by_cases q : inTg tg j = true
              · rw [if_pos q]; exact SlLe.refl _
              · rw [if_neg q]
                have z := le0 j
                rw [(hid_wipe tg ρs).same j (by simpa using q), (hid_wipe tg ρf).same j (by simpa using q)] at z
                exact z
          · cases q : H L with
            | none => rfl
            | some w => obtain ⟨w', hw'⟩ := s1.there L w q; rw [hL] at hw'; cases hw'
theorem d_comp (hc : X.calm = true) (hN : X.N.Nodup) (hi : PI X tgE iter (rdI W sk fsrc)) (ok : BlkOk X.N X.env.scope scope own) (hown : own.map (·.2) = tg)
    (hg : ∀ (s : Shared) (H : Hp) (C : Addr) (cl : List (Str × Addr)) (fp : List Addr), PG (X.blk s H scope (compEnvC scope cl C X.env) fp) tgE (gT X.K tg))
    (ht : ∀ (s : Shared) (H : Hp) (C : Addr) (cl : List (Str × Addr)) (fp : List Addr), PTs (X.blk s H scope (compEnvC scope cl C X.env) fp) ifs (rdT W.nox fc))
    (he : ∀ (s : Shared) (H : Hp) (C : Addr) (cl : List (Str × Addr)) (fp : List Addr), PE (X.blk s H scope (compEnvC scope cl C X.env) fp) elt (rd W.nox fe)) (hset : notSet iter = true) :
    PE X (.ListComp elt [⟨tgE, iter, ifs, 0⟩] scope pos) (rd W (fComp hide tg sk fsrc fc fe)) :=
  (pe_lc hc hN hi ok hg ht he (fs_of hset X.env)).imp fun σ H Q h => comp_read hown.symm h
end
end RR

/-! A20: statements. -/
namespace RR
open PySem L2

abbrev Fix := Nat → Bool
/-- behind the statement's run -/
def PostS (W : XW) (fix : Fix) (σ : L2.St) (ρ : Env) (G H : Hp) (o : Out) (D : Ends) : Prop :=
  match o with
  | .bad => False
  | .exc x _ => ExcW W σ ρ G H x
  | .nx ρ' => ∀ σ' G' H', Stp σ ρ G H σ' ρ' G' H' → σ'.length = σ.length → (∀ j, fix j = true → σ'[j]? = σ[j]?) → D.nx σ' H'
  | .ret o ρ' => ∀ σ' G' H', Stp σ ρ G H σ' ρ' G' H' → σ'.length = σ.length → (∀ j, fix j = true → σ'[j]? = σ[j]?) → ∀ v, OpdR H σ' ρ' G' H' v o → D.rt v H'
def rdS (W : XW) (fix : Fix) (f : Env → Out) : TS := fun D σ H => ∃ G ρ, Le G H ∧ EnvR G H σ ρ ∧ PostS W fix σ ρ G H (f ρ) D
section
variable {W : XW} {fix fix' : Fix} {σ σi : L2.St} {ρ ρi : Env} {G H Gi Hi : Hp} {D D' : Ends}
/-- an expression comes first -/
theorem PostS.outR {α : Type} {r : Res α} {f : α → Env → Out} {P : α → Env → Hp → Hp → Prop} (h : PostS W fix σ ρ G H (r.out f) D) (s : Stp σ ρ G H σi ρi Gi Hi)
    (k : ∀ a ρ1 G1 H1, r = .ok a ρ1 → Stp σi ρi Gi Hi σi ρ1 G1 H1 → EnvLe ρi ρ1 → PostS W fix σ ρ G H (f a ρ1) D → P a ρ1 G1 H1) : Post W σi ρi Gi Hi r P := by
  cases r with
  | bad => exact h
  | exc x ρ' => exact ExcW.later h s
  | ok a ρ1 => exact fun G1 H1 s1 l1 => k a ρ1 G1 H1 rfl s1 l1 h
/-- a statement comes first -/
theorem PostS.stR {o : Out} {g : Env → Out} (h : PostS W fix σ ρ G H (o.bind g) D) (s : Stp σ ρ G H σi ρi Gi Hi) (hl : σi.length = σ.length) (hf : ∀ j, fix j = true → σi[j]? = σ[j]?) (ff : ∀ j, fix j = true → fix' j = true) (hrt : D'.rt = D.rt)
    (k : ∀ ρz σz Gz Hz, Stp σi ρi Gi Hi σz ρz Gz Hz → σz.length = σi.length → (∀ j, fix' j = true → σz[j]? = σi[j]?) → PostS W fix σ ρ G H (g ρz) D → D'.nx σz Hz) : PostS W fix' σi ρi Gi Hi o D' := by
  cases o with
  | bad => exact h
  | exc x ρ' => exact ExcW.later h s
  | nx ρz => exact fun σz Gz Hz sz lz fz => k ρz σz Gz Hz sz lz fz h
  | ret o ρz =>
    intro σz Gz Hz sz lz fz v r
    rw [hrt]
    exact h σz Gz Hz (s.trans sz) (lz.trans hl) (fun j hj => (fz j (ff j hj)).trans (hf j hj)) v (r.older s.there)
/-- from here on -/
theorem PostS.from {o : Out} (h : PostS W fix σ ρ G H o D) (s : Stp σ ρ G H σi ρi Gi Hi) (hl : σi.length = σ.length) (hf : ∀ j, fix j = true → σi[j]? = σ[j]?) : PostS W fix σi ρi Gi Hi o D := by
  cases o with
  | bad => exact h
  | exc x ρ' => exact ExcW.later h s
  | nx ρz => exact fun σz Gz Hz sz lz fz => h σz Gz Hz (s.trans sz) (lz.trans hl) fun j hj => (fz j hj).trans (hf j hj)
  | ret o ρz => exact fun σz Gz Hz sz lz fz v r => h σz Gz Hz (s.trans sz) (lz.trans hl) (fun j hj => (fz j hj).trans (hf j hj)) v (r.older s.there)
end

section
variable {X : Cx} {W : XW} {fix fix' : Fix} {e : Expr} {f : Env → Res Opd} {pos : Pos} {st : Stmt} {rest : List Stmt} {g h : Env → Out}
/-! ### blocks -/
theorem ss_nil : PSs X [] (rdS W fix fun ρ => .nx ρ) := pss_nil.imp fun D σ H h => by
  obtain ⟨G, ρ, l, en, p⟩ := h
  exact p σ G H (Stp.refl l en) rfl fun _ _ => rfl
theorem ss_cons (h1 : PS X st (rdS W fix g)) (h2 : PSs X rest (rdS W fix h)) : PSs X (st :: rest) (rdS W fix fun ρ => (g ρ).bind h) := by
  refine (pss_cons h1 h2).imp fun D σ H q => ?_
  obtain ⟨G, ρ, l, en, p⟩ := q
  refine ⟨G, ρ, l, en, PostS.stR p (Stp.refl l en) rfl (fun _ _ => rfl) (fun _ z => z) rfl fun ρz σz Gz Hz sz lz fz pz => ?_⟩
  exact ⟨Gz, ρz, sz.le, sz.env, pz.from sz lz fz⟩
/-! ### small statements -/
theorem s_ret (he : PE X e (rd W f)) : PS X (.Return (some e) pos) (rdS W fix fun ρ => (f ρ).out fun o ρ1 => .ret o ρ1) := by
  refine (ps_ret he).imp fun D σ H q => ?_
  obtain ⟨G, ρ, l, en, p⟩ := q
  refine ⟨G, ρ, l, en, PostS.outR p (Stp.refl l en) fun o ρ1 G1 H1 _ s1 l1 p1 v r => ?_⟩
  exact p1 σ G1 H1 s1 rfl (fun _ _ => rfl) v r
theorem s_retN : PS X (.Return none pos) (rdS W fix fun ρ => .ret (.val .non) ρ) := by
  refine ps_retN.imp fun D σ H q => ?_
  obtain ⟨G, ρ, l, en, p⟩ := q
  exact p σ G H (Stp.refl l en) rfl (fun _ _ => rfl) .non .non
theorem s_expr (he : PE X e (rd W f)) (hs : swapsWith e none pos.line X.env = pure false) : PS X (.Expr e pos) (rdS W fix fun ρ => (f ρ).out fun _ ρ1 => .nx ρ1) := by
  refine (ps_expr he hs).imp fun D σ H q => ?_
  obtain ⟨G, ρ, l, en, p⟩ := q
  refine ⟨G, ρ, l, en, PostS.outR p (Stp.refl l en) fun o ρ1 G1 H1 _ s1 l1 p1 v r => ?_⟩
  exact p1 σ G1 H1 s1 rfl (fun _ _ => rfl)
theorem s_ite {c : Expr} {a b : List Stmt} {fc : Env → Res Bool} (hc : PT X c (rdT W fc)) (ha : PSs X a (rdS W fix g)) (hb : PSs X b (rdS W fix h)) : PS X (.If c a b pos) (rdS W fix fun ρ => (fc ρ).out fun k ρ1 => if k then g ρ1 else h ρ1) := by
  refine (ps_if hc ha hb).imp fun D σ H q => ?_
  obtain ⟨G, ρ, l, en, p⟩ := q
  refine ⟨G, ρ, l, en, PostS.outR p (Stp.refl l en) fun k ρ1 G1 H1 _ s1 l1 p1 => ?_⟩
  cases k with
  | true => exact ⟨G1, ρ1, s1.le, s1.env, PostS.from p1 s1 rfl fun _ _ => rfl⟩
  | false => exact ⟨G1, ρ1, s1.le, s1.env, PostS.from p1 s1 rfl fun _ _ => rfl⟩

structure LocOk (X : Cx) (i : Nat) (x : Str) : Prop where
  hN : X.N[i]? = some x
  loc : Loc X.env.scope x
  fn : X.fn x = true ∨ X.env.scope.names.lookup x = some .local
theorem not_fix {fix : Fix} {i : Nat} (hi : fix i = false) {j : Nat} (hj : fix j = true) : i ≠ j := fun z => by subst z; rw [hi] at hj; cases hj
/-- stored under a name -/
theorem put_step {i : Nat} {o : Opd} {σ : L2.St} {ρ ρ1 : Env} {G H G1 H1 : Hp} {v : V} {D : Ends} (hi : fix i = false) (l : Le G H) (en : EnvR G H σ ρ) (s1 : Stp σ ρ G H σ ρ1 G1 H1) (l1 : EnvLe ρ ρ1) (r : OpdR H σ ρ1 G1 H1 v o)
    (p : PostS W fix σ ρ G H (.nx (putO i o ρ1)) D) : D.nx (σ.set i (some v)) H1 := by
  have hf : ∀ j, fix j = true → (σ.set i (some v))[j]? = σ[j]? := fun j hj => by rw [set_get, if_neg (fun z => not_fix hi hj z.1)]
  cases o with
  | val d => exact p _ G1 H1 (asg_val s1 r) (List.length_set ..) hf
  | own d => exact p _ G1 H1 (asg_own en l1 s1 r) (List.length_set ..) hf
  | pl j =>
    obtain ⟨G2, m, rep, s2, le2, _⟩ := fz_one s1 en l1 (opd_f r)
    exact p _ G2 H1 (asg_val s2 rep) (List.length_set ..) hf
theorem s_asg {i : Nat} {x : Str} {px : Pos} (hN : X.N.Nodup) (L : LocOk X i x) (he : PE X e (rd W f)) (hs : swapsWith e (some (.Name x px)) pos.line X.env = pure false) (hi : fix i = false) :
    PS X (.Assign [.Name x px] e pos) (rdS W fix fun ρ => (f ρ).out fun o ρ1 => .nx (putO i o ρ1)) := by
  refine (ps_set hN L.hN L.loc he hs L.fn).imp fun D σ H q => ?_
  obtain ⟨G, ρ, l, en, p⟩ := q
  refine ⟨G, ρ, l, en, PostS.outR p (Stp.refl l en) fun o ρ1 G1 H1 _ s1 l1 p1 v r => ?_⟩
  exact put_step hi l en s1 l1 r p1
/-- name = [..] -/
theorem s_asgC {i : Nat} {x : Str} {px lpos : Pos} {tgE iter elt : Expr} {ifs : List Expr} {scope : Scope} {own : List (Str × Nat)} {sk : SK} {fsrc : Env → Res (List Opd)} {fc : Env → Res Bool} {fe : Env → Res Opd} {tg : List Nat} {hide : Bool} (hc : X.calm = true) (hN : X.N.Nodup)
    (hx : X.N[i]? = some x) (hxl : X.env.scope.names.lookup x = some .local) (hsw : swapsWith (.ListComp elt [⟨tgE, iter, ifs, 0⟩] scope lpos) (some (.Name x px)) pos.line X.env = pure true) (hi : PI X tgE iter (rdI W sk fsrc)) (ok : BlkOk X.N X.env.scope scope own) (hown : own.map (·.2) = tg)
    (hg : ∀ (s : Shared) (H : Hp) (C : Addr) (cl : List (Str × Addr)) (fp : List Addr), PG (X.blk s H scope (compEnvC scope cl C X.env) fp) tgE (gT X.K tg))
    (ht : ∀ (s : Shared) (H : Hp) (C : Addr) (cl : List (Str × Addr)) (fp : List Addr), PTs (X.blk s H scope (compEnvC scope cl C X.env) fp) ifs (rdT W.nox fc))
    (he : ∀ (s : Shared) (H : Hp) (C : Addr) (cl : List (Str × Addr)) (fp : List Addr), PE (X.blk s H scope (compEnvC scope cl C X.env) fp) elt (rd W.nox fe)) (hset : notSet iter = true) (hfix : fix i = false) :
    PS X (.Assign [.Name x px] (.ListComp elt [⟨tgE, iter, ifs, 0⟩] scope lpos) pos) (rdS W fix fun ρ => (fComp hide tg sk fsrc fc fe ρ).out fun o ρ1 => .nx (putO i o ρ1)) := by
  refine (ps_setLc hc hN hx hxl hsw hi ok hg ht he (fs_of hset X.env)).imp fun D σ H q => ?_
  obtain ⟨G, ρ, l, en, p⟩ := q
  refine comp_read (X := X) (W := W) (hide := hide) hown.symm ⟨G, ρ, l, en, PostS.outR p (Stp.refl l en) fun o ρ1 G1 H1 _ s1 l1 p1 v r => ?_⟩
  exact put_step hfix l en s1 l1 r p1
end
end RR

/-! A21: loops. -/
namespace RR
open PySem L2

def fFor (hide : Bool) (tg : List Nat) (sk : SK) (fsrc : Env → Res (List Opd)) (fb : Env → Out) : Env → Out := fun ρ => (fsrc ρ).out fun os ρ1 => match itemsOf sk (looks os ρ1) with
    | none => .bad
    | some items => (forF (bindT tg) fb items (away hide os ρ1)).bind fun ρ2 => .nx (again hide os ρ1 ρ2)
section
variable {X : Cx} {W : XW} {fix fix' : Fix} {tgE iter : Expr} {body : List Stmt} {pos : Pos} {sk : SK} {fsrc : Env → Res (List Opd)} {fb : Env → Out} {tg : List Nat} {hide : Bool}
theorem for_read (ff : ∀ j, fix j = true → fix' j = true) (ftg : ∀ j, inTg tg j = true → fix' j = false) (hsrc : hide = true → ∀ ρ os ρ1, fsrc ρ = .ok os ρ1 → ∀ j, inPl os j = true → fix' j = true)
    {D : Ends} {σ : L2.St} {H : Hp} (h : rdS W fix (fFor hide tg sk fsrc fb) D σ H) : tFor (rdI W sk fsrc) (gT X.K tg) (rdS W fix' fb) D σ H := by
  obtain ⟨G, ρ, l, en, p⟩ := h
  refine ⟨G, ρ, l, en, PostS.outR p (Stp.refl l en) fun os ρ1 G1 H1 e1 s1 l1 p1 us rs => ?_⟩
  cases hi : itemsOf sk (looks os ρ1) with
  | none => rw [hi] at p1; exact False.elim p1
  | some items =>
    rw [hi] at p1
    simp only at p1
    refine ⟨items, rfl, fun J S hS wk => ?_⟩
    obtain ⟨G2, aMono, aLe, aEnv, aFwd, aOff, aBack, aBle⟩ := away_ok (hide := hide) en s1 l1 rs
    generalize away hide os ρ1 = ρs at *
    refine ⟨fun i m σi Hi => m = items.length - i ∧ i ≤ items.length ∧ ∃ ρi Gi, Stp σ ρs G2 H1 σi ρi Gi Hi ∧ σi.length = σ.length ∧ (∀ j, fix' j = true → σi[j]? = σ[j]?) ∧
      PostS W fix σ ρ G H ((forF (bindT tg) fb (items.drop i) ρi).bind fun ρ2 => .nx (again hide os ρ1 ρ2)) D, ⟨items.length, by simp, Nat.zero_le _, ρs, G2, Stp.refl aLe aEnv, rfl, fun _ _ => rfl, by rw [List.drop_zero]; exact p1⟩, ?_⟩
    rintro i m σi Hi ⟨rfl, hin, ρi, Gi, st, hlen, hfix, pi⟩
    have agree : ∀ a, S a → Hi a = H1 a := fun a ha => by
      obtain ⟨h1, h2⟩ := hS a ha
      cases q : H1 a with
      | none => exact absurd q h2
      | some o => exact st.keep a o q (aOff a h1)
    by_cases hlt : i < items.length
    · right
      have hd : items[i]? = some items[i] := List.getElem?_eq_getElem hlt
      refine ⟨wk.go i hlt Hi agree, fun σz Hz => ∃ ρi Gi, Stp σ ρs G2 H1 σz ρi Gi Hz ∧ σz.length = σ.length ∧ (∀ j, fix' j = true → σz[j]? = σ[j]?) ∧
        PostS W fix σ ρ G H ((forF (bindT tg) fb (items.drop (i + 1)) ρi).bind fun ρ2 => .nx (again hide os ρ1 ρ2)) D, fun σz Hz hz => ⟨items.length - (i + 1), by omega, rfl, hlt, hz⟩, fun x H' hy => ?_⟩
      rw [List.drop_eq_getElem_cons hlt, forF] at pi
      cases hb : bindT tg items[i] ρi with
      | none => rw [hb] at pi; exact False.elim pi
      | some ρa =>
        rw [hb] at pi
        simp only at pi
        obtain ⟨G', nw, rx⟩ := wk.yld i _ hd Gi Hi x H' (aMono.trans st.mono) st.le agree hy
        refine bind_step (σ := σ) (ρ := ρs) (G := G2) (H := H1) X.K hb rx (st.trans (nw.stp st.env)) fun σ2 st2 off on l2 => ?_
        have fx2 : ∀ j, fix' j = true → σ2[j]? = σ[j]? := fun j hj => by
          have : inTg tg j = false := by
            cases q : inTg tg j with
            | false => rfl
            | true => rw [ftg j q] at hj; cases hj
          exact ((off j this).1).trans (hfix j hj)
        refine ⟨G', ρa, st2.le, st2.env, ?_⟩
        have pi' : PostS W fix σ ρ G H ((fb ρa).bind fun ρ2 => (forF (bindT tg) fb (items.drop (i + 1)) ρ2).bind fun ρ2 => .nx (again hide os ρ1 ρ2)) D := by
          have e : ∀ (o : Out) (f g : PySem.Env → Out) , True := fun _ _ _ => trivial
          generalize hq : fb ρa = o at pi
          cases o <;> exact pi
        refine PostS.stR pi' (aFwd.trans st2) (l2.trans hlen) (fun j hj => fx2 j (ff j hj)) ff rfl fun ρz σz Gz Hz sz lz fz pz => ?_
        exact ⟨ρz, Gz, st2.trans sz, lz.trans (l2.trans hlen), fun j hj => (fz j hj).trans (fx2 j hj), pz⟩
    · left
      have e : i = items.length := by omega
      subst e
      refine ⟨wk.stop Hi agree, ?_⟩
      rw [List.drop_length, forF] at pi
      exact pi σi Gi Hi (aBack σi ρi Gi Hi st hlen fun j hh hj => hfix j (hsrc hh ρ os ρ1 e1 j hj)) hlen fun j hj => hfix j (ff j hj)
theorem s_for (hp : PassesOwn (model X.prog X.w) X.A X.env X.xe) (hc : X.calm = true) (hi : PI X tgE iter (rdI W sk fsrc)) (hg : PG X tgE (gT X.K tg)) (hb : PSs X body (rdS W fix' fb)) (hset : notSet iter = true)
    (ff : ∀ j, fix j = true → fix' j = true) (ftg : ∀ j, inTg tg j = true → fix' j = false) (hsrc : hide = true → ∀ ρ os ρ1, fsrc ρ = .ok os ρ1 → ∀ j, inPl os j = true → fix' j = true) :
    PS X (.For tgE iter body [] pos) (rdS W fix (fFor hide tg sk fsrc fb)) :=
  (ps_for hp hc hi hg hb (fs_of hset X.env)).imp fun D σ H h => for_read ff ftg hsrc h
theorem s_while {c : Expr} {fc : Env → Res Bool} {n : Nat} (hp : PassesOwn (model X.prog X.w) X.A X.env X.xe) (hc : PT X c (rdT W fc)) (hb : PSs X body (rdS W fix fb)) :
    PS X (.While c body [] pos) (rdS W fix fun ρ => whF fc fb n ρ) := by
  refine (ps_while hp hc hb).imp fun D σ H h => ?_
  obtain ⟨G, ρ, l, en, p⟩ := h
  refine ⟨fun m σi Hi => ∃ ρi Gi, Stp σ ρ G H σi ρi Gi Hi ∧ σi.length = σ.length ∧ (∀ j, fix j = true → σi[j]? = σ[j]?) ∧ PostS W fix σ ρ G H (whF fc fb m ρi) D, ⟨n, ρ, G, Stp.refl l en, rfl, fun _ _ => rfl, p⟩, ?_⟩
  rintro m σi Hi ⟨ρi, Gi, st, hlen, hfix, pi⟩
  cases m with
  | zero => exact False.elim pi
  | succ m =>
    rw [whF] at pi
    refine ⟨Gi, ρi, st.le, st.env, PostS.outR pi st fun b ρ1 G1 H1 _ s1 l1 p1 => ?_⟩
    cases b with
    | true =>
      rw [if_pos rfl] at p1 ⊢
      refine ⟨fun σz Hz => ∃ ρi Gi, Stp σ ρ G H σz ρi Gi Hz ∧ σz.length = σ.length ∧ (∀ j, fix j = true → σz[j]? = σ[j]?) ∧ PostS W fix σ ρ G H (whF fc fb m ρi) D, fun σz Hz hz => ⟨m, Nat.lt_succ_self m, hz⟩, ?_⟩
      refine ⟨G1, ρ1, s1.le, s1.env, PostS.stR p1 (st.trans s1) hlen hfix (fun _ z => z) rfl fun ρz σz Gz Hz sz lz fz pz => ?_⟩
      exact ⟨ρz, Gz, (st.trans s1).trans sz, lz.trans hlen, fun j hj => (fz j hj).trans (hfix j hj), pz⟩
    | false =>
      rw [if_neg (by decide)] at p1 ⊢
      exact p1 σi G1 H1 (st.trans s1) hlen hfix
end
end RR

/-! A22: stores. -/
namespace RR
open PySem L2

theorem outO_ok {W : XW} {fix : Fix} {σ : L2.St} {ρ : Env} {G H : Hp} {o : Option Env} {D : Ends} (h : PostS W fix σ ρ G H (outO o) D) : ∃ ρ', o = some ρ' ∧ PostS W fix σ ρ G H (.nx ρ') D := by
  cases o with
  | none => exact False.elim h
  | some ρ' => exact ⟨ρ', rfl, h⟩
theorem opd_later {σ : L2.St} {ρ ρ1 ρ2 : Env} {G H G1 H1 G2 H2 : Hp} {v : V} {o : Opd} (en : EnvR G H σ ρ) (s1 : Stp σ ρ G H σ ρ1 G1 H1) (l1 : EnvLe ρ ρ1) (r : OpdR H σ ρ1 G1 H1 v o) (s2 : Stp σ ρ1 G1 H1 σ ρ2 G2 H2) (l2 : EnvLe ρ1 ρ2) : OpdF H σ ρ2 G2 H2 v o := by
  cases o with
  | val d => exact Rep.mono s2.mono r
  | own d => exact OpdR.keepOwn r (fun a m => mu_there en l1 a m) s2
  | pl i =>
    obtain ⟨h1, d, hd⟩ := r
    refine ⟨h1, fun z => ?_⟩
    have q := l2 i
    rw [hd, z] at q
    rcases q with ⟨e, q⟩ | ⟨e, q⟩ <;> cases q
theorem ix_N {α : Type} {xs : List α} {i : Int} {j : Nat} (h : ix xs.length i = some j) : ixN xs.length i = some j := by
  unfold ix at h
  unfold ixN
  by_cases q : 0 ≤ i
  · rw [if_pos q] at h ⊢
    by_cases q2 : i < xs.length
    · rw [if_pos q2] at h ⊢; exact h
    · rw [if_neg q2] at h; cases h
  · rw [if_neg q] at h ⊢
    by_cases q2 : -(xs.length : Int) ≤ i
    · rw [if_pos q2] at h ⊢; exact h
    · rw [if_neg q2] at h; cases h
section
variable {X : Cx} {W : XW} {fix : Fix} {e : Expr} {f fk : Env → Res Opd} {pos p2 p3 : Pos}
theorem s_unp {tgE : Expr} {is : List Nat} (he : PE X e (rd W f)) (hg : PG X tgE (gT X.K is)) (hs : swapsWithSole [tgE] e pos.line X.env = pure false) (hw : swappedStores [tgE] e X.env = pure none)
    (h1 : (assignEach [tgE] X.env).map (·.2) = [assign tgE X.env]) (hi : ∀ j, inTg is j = true → fix j = false) :
    PS X (.Assign [tgE] e pos) (rdS W fix fun ρ => (f ρ).out fun o ρ1 => outO (match look o ρ1 with | .tup ds => bindT is (.tup ds) ρ1 | _ => none)) := by
  refine (ps_asg he hg hs hw h1).imp fun D σ H q => ?_
  obtain ⟨G, ρ, l, en, p⟩ := q
  refine ⟨G, ρ, l, en, PostS.outR p (Stp.refl l en) fun o ρ1 G1 H1 _ s1 l1 p1 v r => ?_⟩
  obtain ⟨ρ2, hb, p2⟩ := outO_ok p1
  have t := OpdR.top r s1.env
  cases hq : look o ρ1 with
  | tup ds =>
    rw [hq] at hb t
    have rp : Rep G1 v (.tup ds) := by
      cases t with
      | rep r => exact r
      | own o => cases o
    refine bind_step X.K hb rp s1 fun σ2 st2 off on l2 => ?_
    refine p2 σ2 G1 H1 st2 l2 fun j hj => ?_
    have : inTg is j = false := by
      cases q : inTg is j with
      | false => rfl
      | true => rw [hi j q] at hj; cases hj
    exact (off j this).1
  | _ => rw [hq] at hb; cases hb

/-! ### o[k] = v -/
def rSetA : TSet := fun o i v H Q => rSetL o i v H Q ∨ rSetD o i v H Q
theorem set_any (hu : X.A.units + 1 < cLine) : PSet X rSetA := by
  intro pins s σ H o i v ov iv u Q I ro ri rv h
  rcases h with h | h
  · exact set_list pins s σ H o i v ov iv u Q I ro ri rv h
  · exact set_dict hu pins s σ H o i v ov iv u Q I ro ri rv h
theorem key_rep {G H : Hp} {v : V} {n : Nat} {d : D} (t : Top G H v d) (h : keyK n d = true) : Rep G v d := by
  cases t with
  | rep r => exact r
  | own o => cases o <;> (cases n with | zero => simp [keyK, key0] at h | succ n => cases n <;> simp [keyK] at h)
/-- a list or dict of one's own, one thing put in -/
theorem setD_ok {G H : Hp} {a : Addr} {d d' k e : D} {kv v : V} {Q : Hp → Prop} (l : Le G H) (ow : Own G H a d) (tk : Top G H kv k) (rv : Rep G v e) (h : setD d k e = some d')
    (q : ∀ o, (∀ H', H' a = some o → Own G H' a d') → Q (upd H a o)) : rSetA (.ref a) kv v H Q := by
  unfold setD at h
  split at h
  · rename_i xs i
    obtain ⟨j, hj, rfl⟩ := Option.map_eq_some_iff.mp h
    cases ow with
    | @lst vs _ hH r z =>
      have := tk.int
      subst this
      refine .inl ⟨a, vs, i, j, rfl, rfl, hH, by rw [r.length]; exact ix_N hj, q _ fun H' hq => .lst hq (Reps.set rv j r) (by rw [List.length_set]; exact z)⟩
  · rename_i kd kvs
    split at h
    · rename_i hk
      cases h
      obtain ⟨hk, hz⟩ := hk
      have rk := key_rep tk hk
      have hz2 : (dput kvs k e).length ≤ LINE := Nat.le_trans (dput_len kvs k e) hz
      cases ow with
      | @dct0 ks us _ hH r hm z =>
        obtain ⟨key, hkey⟩ := key0_of (show key0 k = true by simpa [keyK] using hk)
        have hy := rk.key hkey
        subst hy
        obtain ⟨ks', us', e1, e2, e3⟩ := putK_zip (kf := keyOf) (G := G) eqD_key0 hkey rv r hm
        refine .inr ⟨a, _, rfl, DPut.k hH (by rw [dct_len r hm, ← line_eq]; exact hz), q _ fun H' hq => ?_⟩
        rw [e1] at hq
        exact .dct0 hq e2 e3 hz2
      | @dct1 ks us _ hH r hm z =>
        obtain ⟨key, hkey⟩ := keyK1_of hk
        obtain ⟨b, rfl, hb⟩ := rk.keyT hkey
        have hb' : H b = some (.tup (key.map kV)) := (l b _ hb).2 _ rfl
        obtain ⟨ks', us', e1, e2, e3⟩ := putK_zip (kf := keyOfT) (G := G) eqD_keyT hkey rv r hm
        refine .inr ⟨a, _, rfl, DPut.t hH hb' (by rw [dct_len r hm, ← line_eq]; exact hz), q _ fun H' hq => ?_⟩
        rw [e1] at hq
        exact .dct1 hq e2 e3 hz2
    · cases h
  · cases h
theorem s_setit {i : Nat} {x : Str} {k : Expr} (hu : X.A.units + 1 < cLine) (V : VarOk X i x) (he : PE X e (rd W f)) (hk : PE X k (rd W fk)) (ns : notSlice k = true)
    (hs : swapsWithSole [.Subscript (.Name x p2) k p3] e pos.line X.env = pure false) (hw : swappedStores [.Subscript (.Name x p2) k p3] e X.env = pure none) :
    PS X (.Assign [.Subscript (.Name x p2) k p3] e pos) (rdS W fix fun ρ => (f ρ).out fun o ρ1 => if ownAt ρ1 i then (fk ρ1).out fun x ρ2 => outO (setO (fz o ρ2) i (look x ρ2) (look o ρ2)) else .bad) := by
  have ha : ∀ v, assign (.Subscript (.Name x p2) k p3) X.env v = (do
      let ov ← holding [v] (eval (.Name x p2) X.env)
      let iv ← holding [v, ov] (eval k X.env)
      standAt p3
      holding [v, ov, iv] (setItem ov iv v)
      release [v, ov, iv] []) := fun v => by cases k <;> first | rfl | cases ns
  refine (ps_asg he (pg_sub (pe_var V.hN V.hv V.hd V.hcd) hk (set_any hu) ha) hs hw rfl).imp fun D σ H q => ?_
  obtain ⟨G, ρ, l, en, p⟩ := q
  refine ⟨G, ρ, l, en, PostS.outR p (Stp.refl l en) fun o ρ1 G1 H1 _ s1 l1 p1 v r => ?_⟩
  by_cases ho : ownAt ρ1 i = true
  · rw [if_pos ho] at p1
    have hd0 : ∃ d, getS ρ1 i = .own d := by
      unfold ownAt at ho
      split at ho
      · rename_i d e; exact ⟨d, e⟩
      · cases ho
    obtain ⟨d0, hd0⟩ := hd0
    obtain ⟨a, ha1, _, _⟩ := s1.env.own i d0 hd0
    refine ⟨.ref a, ha1, G1, ρ1, s1.le, s1.env, PostS.outR p1 s1 fun ox ρ2 G2 H2 _ s2 l2 p2 kv rk => ?_⟩
    obtain ⟨ρ3, hb, p3⟩ := outO_ok p2
    obtain ⟨G3, m, rep, s3, le3, _⟩ := fz_one (s1.trans s2) en (l1.trans l2) (opd_later en s1 l1 r s2 l2)
    unfold setO at hb
    split at hb
    · rename_i d hd
      obtain ⟨d', hd', rfl⟩ := Option.map_eq_some_iff.mp hb
      obtain ⟨a', ha', g, ow⟩ := s3.env.own i d hd
      rw [ha1] at ha'; cases ha'
      have tk : Top G3 H2 kv (look ox ρ2) := by
        have t2 := OpdR.top rk s2.env
        cases t2 with
        | rep r => exact .rep (r.mono m)
        | own ow2 => exact .own (ow2.mono m fun _ z => z)
      refine setD_ok s3.le ow tk rep hd' fun o' ho' => ?_
      obtain ⟨st, le4⟩ := own_write s3.le s3.env hd ha1 ho'
      exact p3 σ G3 _ (s3.trans st) rfl fun _ _ => rfl
    · cases hb
  · rw [if_neg ho] at p1
    exact False.elim p1

/-! ### name op= e -/
def rAugA : B2 → R2 := fun op x y H Q => (∃ i j z, x = .int i ∧ y = .int j ∧ augI op i j = some z ∧ Q (.int z) H) ∨ (op = .add ∧ rExt2 x y H Q)
theorem aug_any (op : B2) : PIp X (opOf op) (rAugA op) := by
  intro pins s σ H x y v u Q I rx ry h
  rcases h with ⟨i, j, z, rfl, rfl, hz, q⟩ | ⟨rfl, h⟩
  · cases op with
    | add => cases hz; exact iop_add pins s σ H _ _ v u Q I rx ry ⟨i, j, rfl, rfl, q⟩
    | sub => cases hz; exact iop_sub pins s σ H _ _ v u Q I rx ry ⟨i, j, rfl, rfl, q⟩
    | mul =>
      simp only [augI] at hz
      split at hz
      · rename_i hc
        cases hz
        refine iop_mul pins s σ H _ _ v u Q I rx ry ⟨i, j, rfl, rfl, ?_, q⟩
        unfold CMul
        rcases hc with hc | hc
        · left; omega
        · right; omega
      · cases hz
    | fdiv =>
      simp only [augI] at hz
      split at hz
      · rename_i hc
        cases hz
        exact iop_fdivW pins s σ H _ _ v u Q I rx ry ⟨i, j, rfl, rfl, big_div hc.1 hc.2, q⟩
      · cases hz
    | mod => cases hz
    | pow => cases hz
  · exact iop_ext pins s σ H x y v u Q I rx ry h
theorem s_aug {op : B2} {i : Nat} {x : Str} (hN : X.N.Nodup) (L : LocOk X i x) (he : PE X e (rd W f)) (hi : fix i = false) :
    PS X (.AugAssign (.Name x p2) (opOf op) e pos) (rdS W fix fun ρ => (match getS ρ i with | .non => .bad | _ => (f ρ).out fun o ρ1 => outO (augO op ρ1 i o))) := by
  refine (ps_aug hN L.hN L.loc he (aug_any op) L.fn).imp fun D σ H q => ?_
  obtain ⟨G, ρ, l, en, p⟩ := q
  replace p : PostS W fix σ ρ G H (match getS ρ i with | .non => .bad | _ => (f ρ).out fun o ρ1 => outO (augO op ρ1 i o)) D := p
  have hf : ∀ (v : V), ∀ j, fix j = true → (σ.set i (some v))[j]? = σ[j]? := fun v j hj => by rw [set_get, if_neg (fun z => not_fix hi hj z.1)]
  have hx : ∃ v, σ[i]? = some (some v) := by
    cases hq : getS ρ i with
    | non => rw [hq] at p; exact False.elim p
    | val d => obtain ⟨v, hv, _⟩ := en.val i d hq; exact ⟨v, hv⟩
    | own d => obtain ⟨a, ha, _⟩ := en.own i d hq; exact ⟨_, ha⟩
  obtain ⟨v0, hv0⟩ := hx
  have p' : PostS W fix σ ρ G H ((f ρ).out fun o ρ1 => outO (augO op ρ1 i o)) D := by
    cases hq : getS ρ i with
    | non => rw [hq] at p; exact False.elim p
    | val d => rw [hq] at p; exact p
    | own d => rw [hq] at p; exact p
  refine ⟨v0, hv0, G, ρ, l, en, PostS.outR p' (Stp.refl l en) fun o ρ1 G1 H1 _ s1 l1 p1 v r => ?_⟩
  obtain ⟨ρ2, hb, p2⟩ := outO_ok p1
  unfold augO at hb
  split at hb
  · rename_i k hk
    split at hb
    · rename_i j hj
      obtain ⟨z, hz, rfl⟩ := Option.map_eq_some_iff.mp hb
      obtain ⟨v1, hv1, rk⟩ := s1.env.val i _ hk
      rw [hv0] at hv1; cases hv1
      have e0 := (Top.rep (H := H1) rk).int
      have t := OpdR.top r s1.env
      rw [hj] at t
      refine .inl ⟨k, j, z, e0, t.int, hz, ?_⟩
      exact p2 _ G1 H1 (asg_val s1 (.int z)) (List.length_set ..) (hf _)
    · cases hb
  · rename_i xs hk
    split at hb
    · rename_i ys
      split at hb
      · rename_i hz
        cases hb
        obtain ⟨a, vs, ha, hH, rv, z⟩ := lst_at s1.env hk
        rw [hv0] at ha; cases ha
        obtain ⟨b, rfl, nb, gb, ow⟩ := r
        cases ow with
        | @lst us _ hB rb zb =>
          refine .inr ⟨rfl, a, b, vs, us, rfl, rfl, hH, hB, by rw [rv.length, rb.length, ← line_eq]; exact hz, ?_⟩
          obtain ⟨st, le⟩ := lst_write s1.le s1.env hk hv0 (rv.append rb) (by rw [List.length_append]; exact hz)
          have same : σ.set i (some (.ref a)) = σ := by
            apply List.ext_getElem?
            intro j
            rw [set_get]
            by_cases q : i = j ∧ i < σ.length
            · rw [if_pos q, ← q.1, hv0]
            · rw [if_neg q]
          rw [same]
          exact p2 σ G1 _ (s1.trans st) rfl fun _ _ => rfl
      · cases hb
    · cases hb
  · cases hb
end
end RR

/-! A23: more built-in calls; raise; pairs stored at once. -/
namespace PySem
open PySem.Spec PyProof.Rows PySem.Calls
section
variable {prog : Program} {w : World} {A : Around} {E : Value → Shared → Prop} {s : Shared}
theorem rr_collect_tuple {l : Addr} {vs : List Value} {Q : List Value → Shared → Prop} (hl : s.heap.IsTuple l vs.toArray)
    (h : Q vs { s with heap := (s.heap.push (seqObj "list" #[] 0)).update s.heap.objs.size (Obj.mapSeq (· ++ vs.toArray)) }) (hsz : vs.length ≤ sizeLine) :
    wpAny (model prog w) A (collect (.ref l)) Q E s := by
  obtain ⟨ob, hob, hcl, nn, hdat⟩ := id hl
  unfold collect
  refine wpAny_bind (wpAny_runValue (codeAny_builtin entry_proto_collect' ?_))
  show wpAny _ _ (do again (.builtin "list.__iadd__" ⟨[← newList [], .ref l], []⟩)) _ _ s
  refine wpAny_bind (wpAny_newList (wpAny_pure ⟨Code.quiet_builtin _ (by decide +kernel), codeAny_builtin entry_list_iadd' ?_⟩))
  show wpAny _ _ (Builtin.List.listExtendWith (.ref s.heap.objs.size) (.ref l) (.ref s.heap.objs.size)) _ _ { s with heap := s.heap.push (seqObj "list" #[] 0) }
  unfold Builtin.List.listExtendWith
  have hob' : (s.heap.push (seqObj "list" #[] 0)).get? l = some ob := Heap.get?_push_of_some _ hob
  refine wpAny_bind (wpAny_typeOf (T := "tuple") ⟨ob, hob', hcl⟩ ?_)
  have ht : (Value.type "tuple" == Value.type "tuple") = true := by rfl
  rw [if_pos (by rw [ht]; simp)]
  refine wpAny_bind (listItems_at hob' hdat ?_)
  refine wpAny_bind (listItems_at (xs := #[]) (n := 0) (Heap.get?_push_size _ rfl) rfl ?_)
  rw [if_neg (by simp)]
  refine wpAny_bind (listUpdate_at (xs := #[]) (n := 0) (Heap.get?_push_size _ rfl) rfl ?_ (Nat.zero_le _) (by show (#[] ++ vs.toArray).size ≤ sizeLine + 1; simp only [Array.size_append, List.size_toArray, List.length_nil]; omega))
  refine wpAny_pure ?_
  show wpAny (model prog w) A (do
      let o ← load s.heap.objs.size
      match o.data with
      | .seq xs _ => pure xs.toList
      | _ => unsupported "internal:collect") Q E { s with heap := (s.heap.push (seqObj "list" #[] 0)).update s.heap.objs.size (Obj.mapSeq (· ++ vs.toArray)) }
  refine wpAny_bind (wpAny_load (get?_update_seq (Heap.get?_push_size _ rfl) _) ?_)
  show wpAny _ _ (pure ((#[] : Array Value) ++ vs.toArray).toList) Q E _
  rw [show ((#[] : Array Value) ++ vs.toArray).toList = vs by simp]
  exact wpAny_pure h
theorem rr_sorted_of_sort {l : Addr} {vs : List Value} {Q : Value → Shared → Prop} (hl : s.heap.IsTuple l vs.toArray) (hL : vs.length ≤ sizeLine)
    (body : ∀ E' : Value → Shared → Prop, wpAny (model prog w) A.in1.in1 (Builtin.«list.sort» ⟨[.ref (s.heap.objs.size + 1)], []⟩) (fun f s' => f = .done (.ret .none) ∧ Q (.ref (s.heap.objs.size + 1)) s') E' { s with heap := W.copyHeap s.heap vs }) :
    wpAny (model prog w) A (call (.builtin "sorted") [.ref l]) Q E s := by
  refine call_function_entry_kw kind_sorted plain_sorted entry_sorted (args_sorted1 _) ?_
  unfold Builtin.«sorted»
  refine wpAny_bind (m := checkCount "sorted" 1 1 _) (wpAny_pure ?_)
  refine wpAny_bind (rr_collect_tuple hl ?_ hL)
  refine wpAny_bind (wpAny_newList ?_ hL)
  have hsz : ((s.heap.push (seqObj "list" #[] 0)).update s.heap.objs.size (Obj.mapSeq (· ++ vs.toArray))).objs.size = s.heap.objs.size + 1 := by
    rw [Heap.size_update, size_push']
  show wpAny _ _ _ _ _ { s with heap := W.copyHeap s.heap vs }
  rw [hsz]
  refine wpAny_bind (wpAny_holding (wpAny_call_entry_kw slot_list_sort ⟨_, W.copyHeap_at s.heap vs, rfl⟩ entry_list_sort ?body (args_list_sort _)))
  case body =>
    show wpAny (model prog w) A.in1.in1 (Builtin.«list.sort» ⟨[.ref (s.heap.objs.size + 1)], []⟩) _ _ _
    refine wpAny_mono (body _) (fun f s' hf => ?_) fun _ _ e => e
    obtain ⟨rfl, hq⟩ := hf
    exact ⟨_, rfl, wpAny_pure ⟨_, rfl, hq⟩⟩
open W in
theorem rr_sorted_tuple {β : Type} {vs : List Value} {bs : List β} {enc : β → PyData} {R : Value → β → Prop} {l : Addr} {Q : Value → Shared → Prop} (hl : s.heap.IsTuple l vs.toArray) (e : EachIs R vs bs) (er : EachIs (fun v b => ∃ as, Reads s.heap v (enc b) as) vs bs) (hal : AllAlike (bs.map enc)) (hk : Sortable (bs.map enc)) (hL : bs.length ≤ sizeLine)
    (hu : ∀ b, b ∈ bs → A.units + 2 + (enc b).depth < cLine) (h : ∀ out, out.length = bs.length → EachIs R out (bs.mergeSort (dataLe false enc)) → Q (.ref (s.heap.objs.size + 1)) { s with heap := sortedAll s.heap vs (List.toArray out) }) :
    wpAny (model prog w) A (call (.builtin "sorted") [.ref l]) Q E s := by
  have er' : EachIs (fun v b => ∃ as, Reads (sortingHeap (copyHeap s.heap vs) (s.heap.objs.size + 1) vs) v (enc b) as) vs bs := er.mono fun _ _ ⟨as, r⟩ => ⟨as, PyProof.Rows.Reads.keeps (fun _ _ => sorting_copy_old) r⟩
  exact rr_sorted_of_sort hl (by rw [e.length]; exact hL) fun _ => list_sort_vals (s := { s with heap := copyHeap s.heap vs }) (copyHeap_at s.heap vs)
    (SortsAt.data (s := { s with heap := sortingHeap (copyHeap s.heap vs) (s.heap.objs.size + 1) vs }) (each_map (R := fun v d => ∃ as, Reads (sortingHeap (copyHeap s.heap vs) (s.heap.objs.size + 1) vs) v d as) enc er') hal hk (bound_map hu)) (by rw [e.length]; exact hL)
    ⟨rfl, h _ (by rw [sortVals_length false rfl]; exact e.length) (sortVals_data false e er' hal)⟩
end
end PySem
namespace RR
open PySem L2

section
variable {X : Cx}
theorem c_allD (hc : X.calm = true) : CallR X (.builtin "all") (rC (biD .all)) := by
  intro pins s σ H xs us Q I r h
  obtain ⟨G, ds, o, l, ts, hf, k⟩ := h
  obtain ⟨a, rfl, hf2⟩ := biD_one hf (by intros; rfl) (by intros; rfl)
  obtain ⟨x, rfl, t⟩ := ts.one
  cases a with
  | lst ys =>
    obtain ⟨bs, hb, rfl⟩ := Option.map_eq_some_iff.mp hf2
    exact c_all hc pins s σ H _ us Q I r ⟨G, ys, bs, x, l, rfl, t, hb, k _ G H (New.refl l) (.bl _)⟩
  | _ => cases hf2
theorem c_anyD (hc : X.calm = true) : CallR X (.builtin "any") (rC (biD .any)) := by
  intro pins s σ H xs us Q I r h
  obtain ⟨G, ds, o, l, ts, hf, k⟩ := h
  obtain ⟨a, rfl, hf2⟩ := biD_one hf (by intros; rfl) (by intros; rfl)
  obtain ⟨x, rfl, t⟩ := ts.one
  cases a with
  | lst ys =>
    obtain ⟨bs, hb, rfl⟩ := Option.map_eq_some_iff.mp hf2
    exact c_any hc pins s σ H _ us Q I r ⟨G, ys, bs, x, l, rfl, t, hb, k _ G H (New.refl l) (.bl _)⟩
  | _ => cases hf2
theorem two_int {f : D → D → Option Opd} {a b : D} {o : Opd} {g : Int → Int → Opd} (h : (match a, b with | .int i, .int j => some (g i j) | _, _ => none) = some o) : ∃ i j, a = .int i ∧ b = .int j ∧ o = g i j := by
  split at h
  · cases h; exact ⟨_, _, rfl, rfl, rfl⟩
  · cases h
theorem c_minD (hc : X.calm = true) : CallR X (.builtin "min") (rC (biD .min2)) := by
  intro pins s σ H xs us Q I r h
  obtain ⟨G, ds, o, l, ts, hf, k⟩ := h
  obtain ⟨a, b, rfl, hf2⟩ := biD_two hf (by intros; rfl) (by intros; rfl)
  obtain ⟨x, y, rfl, t, t2⟩ := ts.two
  obtain ⟨i, j, rfl, rfl, rfl⟩ := two_int (f := fun _ _ => none) (g := fun i j => .val (.int (if j < i then j else i))) hf2
  exact c_min2 hc pins s σ H _ us Q I r ⟨i, j, by rw [t.int, t2.int], k _ G H (New.refl l) (.int _)⟩
theorem c_maxD (hc : X.calm = true) : CallR X (.builtin "max") (rC (biD .max2)) := by
  intro pins s σ H xs us Q I r h
  obtain ⟨G, ds, o, l, ts, hf, k⟩ := h
  obtain ⟨a, b, rfl, hf2⟩ := biD_two hf (by intros; rfl) (by intros; rfl)
  obtain ⟨x, y, rfl, t, t2⟩ := ts.two
  obtain ⟨i, j, rfl, rfl, rfl⟩ := two_int (f := fun _ _ => none) (g := fun i j => .val (.int (if i < j then j else i))) hf2
  exact c_max2 hc pins s σ H _ us Q I r ⟨i, j, by rw [t.int, t2.int], k _ G H (New.refl l) (.int _)⟩
/-- what a value stands for -/
def StandsFor (G : Hp) (u : Value) (d : D) : Prop := ∃ v, RelV v u ∧ Rep G v d
theorem stands {G : Hp} : ∀ {vs : List V} {us : List Value} {ds : List D}, Vals vs us → Reps G vs ds → PySem.W.EachIs (StandsFor G) us ds
  | _, _, _, .nil, .nil => .nil
  | _, _, _, .cons r rs, .cons q qs => .cons ⟨_, r, q⟩ (stands rs qs)
theorem stands_back {G : Hp} {us : List Value} {ds : List D} (h : PySem.W.EachIs (StandsFor G) us ds) : ∃ vs, Vals vs us ∧ Reps G vs ds := by
  induction h with
  | nil => exact ⟨[], .nil, .nil⟩
  | cons h r ih =>
    obtain ⟨v, r1, r2⟩ := h
    obtain ⟨vs, a, b⟩ := ih
    exact ⟨v :: vs, .cons r1 a, .cons r2 b⟩
theorem stands_reads {X : Cx} {pins : List (Addr × Obj)} {σ : L2.St} {G H : Hp} {s : Shared} {n : Nat} (I : L2.Inv X pins σ H s) (l : Le G H) : ∀ {us : List Value} {ds : List D}, PySem.W.EachIs (StandsFor G) us ds → plainDs n ds = true → PySem.W.EachIs (fun u d => ∃ as, Reads s.heap u (toP d) as) us ds
  | _, _, .nil, _ => .nil
  | _, _, .cons ⟨v, r1, r2⟩ rs, p => by
    simp only [plainDs, Bool.and_eq_true] at p
    exact .cons (Dp.reads I _ v _ ((Top.rep r2).dp l p.1) r1) (stands_reads I l rs p.2)
theorem plain_mem {n : Nat} : ∀ {ds : List D}, plainDs n ds = true → ∀ d ∈ ds, plainD n d = true
  | [], _, d, h => by cases h
  | x :: xs, p, d, h => by
    simp only [plainDs, Bool.and_eq_true] at p
    rcases List.mem_cons.mp h with rfl | h
    · exact p.1
    · exact plain_mem p.2 d h
theorem sort_facts {n : Nat} {ds : List D} (p : plainDs n ds = true) (ok : sortOk ds = true) : PySem.W.AllAlike (ds.map toP) ∧ PySem.W.Sortable (ds.map toP) ∧ ds.mergeSort (PySem.W.dataLe false toP) = ds.mergeSort leD := by
  unfold sortOk at ok
  rw [Bool.and_eq_true, List.all_eq_true] at ok
  obtain ⟨h1, h2⟩ := ok
  have al : ∀ a ∈ ds, ∀ b ∈ ds, alikeD a b = true := fun a ha b hb => List.all_eq_true.mp (h1 a ha) b hb
  refine ⟨fun d hd d' hd' => ?_, ?_, ?_⟩
  · obtain ⟨a, ha, rfl⟩ := List.mem_map.mp hd
    obtain ⟨b, hb, rfl⟩ := List.mem_map.mp hd'
    rw [alike_toP n n a b (plain_mem p a ha) (plain_mem p b hb)]
    exact al a ha b hb
  · rw [Bool.or_eq_true] at h2
    rcases h2 with h2 | h2
    · left
      intro d hd
      obtain ⟨a, ha, rfl⟩ := List.mem_map.mp hd
      have := List.all_eq_true.mp h2 a ha
      split at this
      · exact ⟨_, _, rfl⟩
      · cases this
    · right
      intro d hd
      obtain ⟨a, ha, rfl⟩ := List.mem_map.mp hd
      have := List.all_eq_true.mp h2 a ha
      have pa := plain_mem p a ha
      cases a <;> simp_all [toP, plainD]
  · have q := List.map_mergeSort (r := PySem.W.dataLe false toP) (s := leD) (f := id) (l := ds) (fun a ha b hb => by
      rw [PySem.W.dataLe_eq]
      show (!PySem.W.dataLt (toP b) (toP a)) = (!ltD b a)
      rw [lt_toP n n b a (plain_mem p b hb) (plain_mem p a ha) (al b hb a ha)])
    simpa using q
theorem c_sorted (hu : X.A.units + 65 < cLine) : CallR X (.builtin "sorted") (rC (biD .sorted)) := by
  intro pins s σ H xs us Q I r h
  obtain ⟨G, ds, o, l, ts, hf, k⟩ := h
  obtain ⟨a, rfl, hf2⟩ := biD_one hf (by intros; rfl) (by intros; rfl)
  obtain ⟨x, rfl, t⟩ := ts.one
  -- what is common
  have go : ∀ (ds : List D) (vs : List V) (its : List Value) (p : Addr), bi1 .sorted a = some o → (a = .lst ds ∨ a = .tup ds) → Reps G vs ds → ds.length ≤ LINE → Vals vs its → (s.heap.IsList p its.toArray ∨ s.heap.IsTuple p its.toArray) →
      wpAny (model X.prog X.w) X.A (call (.builtin "sorted") [.ref p]) (EP X pins σ Q) X.xe s := by
    intro ds vs its p hb ha rv z vv hp
    have hb' : (if sPlain ds then (sortD ds).map fun ys => Opd.own (.lst ys) else none) = some o := by
      rcases ha with rfl | rfl <;> exact hb
    by_cases hpl : sPlain ds = true
    · rw [if_pos hpl] at hb'
      unfold sortD at hb'
      by_cases hok : sortOk ds = true
      · rw [if_pos hok] at hb'
        cases hb'
        obtain ⟨f1, f2, f3⟩ := sort_facts (n := deep) hpl hok
        have e := stands vv rv
        have er := stands_reads I l e (n := deep) hpl
        have hL : ds.length ≤ sizeLine := by rw [← line_eq]; exact z
        have hdep : ∀ b, b ∈ ds → X.A.units + 2 + (toP b).depth < cLine := fun b hb => by
          obtain ⟨v, hv, rb⟩ : ∃ v, v ∈ vs ∧ Rep G v b := by
            obtain ⟨j, hj, e⟩ := List.getElem_of_mem hb
            obtain ⟨v, h1, h2⟩ := rv.get (List.getElem?_eq_some_iff.mpr ⟨hj, e⟩)
            exact ⟨v, List.mem_of_getElem? h1, h2⟩
          have := (rb.lay (plain_mem (n := deep) hpl b hb)).2
          have e : deep = 30 := rfl
          omega
        have fin : ∀ out : List Value, out.length = ds.length → PySem.W.EachIs (StandsFor G) out (ds.mergeSort (PySem.W.dataLe false toP)) → EP X pins σ Q (.ref (s.heap.objs.size + 1)) { s with heap := PyProof.Rows.sortedAll s.heap its (List.toArray out) } := fun out ho he => by
          rw [f3] at he
          obtain ⟨ws, h1, h2⟩ := stands_back he
          obtain ⟨ep, he'⟩ := PyProof.Rows.sortedAll_at s.heap its out.toArray
          have hq := I.hok.fresh (Nat.le_succ s.heap.objs.size)
          have hwl : ws.length ≤ sizeLine := by rw [h1.length, ho]; exact hL
          refine ⟨.ref _, upd H (s.heap.objs.size + 1) (.lst ws), I.laid (t' := s.toks) (fun _ _ => PyProof.Rows.sortedAll_old) (Nat.le_succ _) ⟨hwl, out, ep, h1, he'⟩, rfl, ?_⟩
          exact k _ _ _ (New.mine l hq _) (new_lst l hq h2 (by rw [List.length_mergeSort]; exact z))
        rcases hp with hp | hp
        · exact PySem.W.sorted_data hp e er f1 f2 hL hdep fin
        · exact PySem.rr_sorted_tuple hp e er f1 f2 hL hdep fin
      · rw [if_neg hok] at hb'; cases hb'
    · rw [if_neg hpl] at hb'; cases hb'
  cases a with
  | lst ds =>
    obtain ⟨p, vs, rfl, h1, r1, z⟩ := t.lst l
    obtain ⟨its, rv, pl, hz⟩ := I.list (.inl h1)
    obtain rfl := Vals.ref1 r
    exact go ds vs its p hf2 (.inl rfl) r1 z rv (.inl pl.isList)
  | tup ds =>
    obtain ⟨p, vs, rfl, g1, h1, r1, z⟩ := t.tup l
    obtain ⟨its, rv, pl, hz⟩ := I.tuple (.inl h1)
    obtain rfl := Vals.ref1 r
    exact go ds vs its p hf2 (.inr rfl) r1 z rv (.inr (show s.heap.IsTuple p its.toArray from pl))
  | _ => cases hf2
end

section
variable {X : Cx} {W : XW} {fix : Fix} {a : Expr} {fa : Env → Res Opd} {pos p p2 : Pos} {x T : Str}
def isIsa : Bi → Bool
  | .isint => true | .isbool => true | .isstr => true | .istuple => true | .islist => true | _ => false
theorem isa_bi1 {f : Bi} (h : isIsa f = true) (d : D) : bi1 f d = (kindD d).map fun k => blv (isaB f k) := by cases f <;> first | rfl | cases h
theorem d_isa {f : Bi} (hf : isIsa f = true) (hg : Gl X "isinstance") (hm : X.mg "isinstance" = none) (hT : Gl X T) (hmT : X.mg T = none) (hv : bootBuiltins T = some (.type (isaOf f))) (hn : T ≠ "__name__") (hdb : (T == ("__debug__" : Str)) = false) (ha : PE X a (rd W fa)) (na : notStar a = true) :
    PE X (.Call (.Name "isinstance" p) [a, .Name T p2] [] pos) (rd W (fBi1 f fa)) := by
  refine (pe_callB (c_isa f) hg hm (by rfl) (pa_cons ha (pa_cons (pe_bltn (v := .ty (isaOf f)) hT hmT hv rfl hn hdb) pa_nil) (star_of na _ X.env)) (by decide) (by decide) (star_of na _ X.env) rfl).imp fun σ H Q h => ?_
  obtain ⟨G, ρ, l, en, pp⟩ := h
  refine ⟨G, ρ, l, en, Post.step pp l en fun o ρ1 e1 G1 H1 s1 l1 p1 v r => ?_⟩
  have t := OpdR.top r s1.env
  rw [isa_bi1 hf] at p1
  cases q : kindD (look o ρ1) with
  | none => rw [q] at p1; exact False.elim p1
  | some n =>
    rw [q] at p1
    exact ⟨G1, _, n, v, s1.le, rfl, t, q, p1 G1 H1 s1 l1 _ (.bl _)⟩

/-! ### raise -/
structure ExcG (X : Cx) (xc : XCls) (x : Str) (c : Nat) : Prop where
  ex : ∃ (C : Addr) (bmB : List Value) (B newId initId : String), ExcBaseFacts B newId initId bmB ∧ PySem.W.excIn X.K C bmB newId = true ∧ X.mg x = some (.ref C) ∧ PySem.W.keepIn X.K (.ref C) = true ∧ Raises X (.ref C) ∧ xc c = .ref C
theorem s_raise {c : Nat} {m : Str} {j : Nat} {pc : Pos} (hc : X.calm = true) (tk : Takes X fun cls d _ H => W.E cls d H) (F : ExcG X W.xc x c) (hg : Gl X x) (hdb : (x == ("__debug__" : Str)) = false) :
    PS X (.Raise (some (.Call (.Name x p) [.Constant (.str m) j pc] [] pos)) none p2) (rdS W fix fun ρ => .exc ⟨c, .non⟩ ρ) := by
  obtain ⟨C, bmB, B, newId, initId, hF, hq, gC, kC, r, hx⟩ := F.ex
  refine (L2.ps_raise hc tk (pmk_ownA hF hq gC kC r hg (pa_cons pe_str pa_nil) hdb)).imp fun D σ H h => ?_
  obtain ⟨G, ρ, l, en, pp⟩ := h
  refine ⟨show 1 ≤ sizeLine by decide, ?_⟩
  exact pp (.ref C) none G H ⟨hx.symm, rfl⟩ (Mo.refl G) l (fun a o h _ => h) fun a o h => ⟨o, h⟩

end

/-! ### a, b = x, y -/
section
theorem setS_comm : ∀ {ρ : Env} {i j : Nat} {a b : Sl}, i ≠ j → setS (setS ρ i a) j b = setS (setS ρ j b) i a
  | [], i, j, a, b, h => rfl
  | s :: ρ, 0, 0, a, b, h => absurd rfl h
  | s :: ρ, 0, j + 1, a, b, h => rfl
  | s :: ρ, i + 1, 0, a, b, h => rfl
  | s :: ρ, i + 1, j + 1, a, b, h => by
    simp only [setS]
    rw [setS_comm (fun z => h (by rw [z]))]
theorem asg_own2 {σ0 σ : L2.St} {ρ ρ1 : Env} {G H G1 H1 : Hp} {b : Addr} {d : D} {i : Nat} (s : Stp σ0 ρ G H σ ρ1 G1 H1) (n : H b = none) (g : G1 b = none) (ow : Own G1 H1 b d) (nm : ¬ Mu σ ρ1 b) : Stp σ0 ρ G H (σ.set i (some (.ref b))) (setS ρ1 i (.own d)) G1 H1 := by
  have L := s.env.len
  have alone : ∀ {j : Nat} {e : D}, getS ρ1 j = .own e → σ[j]? ≠ some (some (.ref b)) := fun {j e} hj z => nm ⟨j, e, hj, z⟩
  refine ⟨s.mono, s.le, s.keep, s.fresh, s.there, ⟨by rw [List.length_set, setS_len]; exact L, fun j e hj => ?_, fun j e hj => ?_, fun j k a d1 d2 h1 h2 e1 e2 => ?_⟩, fun a m => ?_⟩
  · rw [getS_setS] at hj
    rw [set_get, L]
    by_cases q : i = j ∧ i < ρ1.length
    · rw [if_pos q] at hj; cases hj
    · rw [if_neg q] at hj ⊢; exact s.env.val j e hj
  · rw [getS_setS] at hj
    rw [set_get, L]
    by_cases q : i = j ∧ i < ρ1.length
    · rw [if_pos q] at hj ⊢; cases hj; exact ⟨b, rfl, g, ow⟩
    · rw [if_neg q] at hj ⊢; exact s.env.own j e hj
  · rw [getS_setS] at h1 h2
    rw [set_get, L] at e1 e2
    by_cases q : i = j ∧ i < ρ1.length
    · rw [if_pos q] at h1 e1
      cases e1
      by_cases q2 : i = k ∧ i < ρ1.length
      · exact q.1.symm.trans q2.1
      · rw [if_neg q2] at h2 e2
        exact absurd e2 (alone h2)
    · rw [if_neg q] at h1 e1
      by_cases q2 : i = k ∧ i < ρ1.length
      · rw [if_pos q2] at h2 e2
        cases e2
        exact absurd e1 (alone h1)
      · rw [if_neg q2] at h2 e2
        exact s.env.inj j k a d1 d2 h1 h2 e1 e2
  · obtain ⟨j, e, hj, ha⟩ := m
    rw [getS_setS] at hj
    rw [set_get, L] at ha
    by_cases q : i = j ∧ i < ρ1.length
    · rw [if_pos q] at hj ha; cases ha; exact .inr n
    · rw [if_neg q] at hj ha; exact s.mine a ⟨j, e, hj, ha⟩
/-- what is stored: a frozen thing or a new one -/
def NPl : Opd → Prop
  | .pl _ => False
  | _ => True
/-- only what stands in slots is frozen -/
theorem fz_pl {σ : L2.St} {ρ0 : Env} {G0 H0 H : Hp} (e0 : EnvR G0 H0 σ ρ0) : ∀ {os : List Opd} {vs : List V} {ρ : Env} {G : Hp} (r1 : Env), (∀ o, look o ρ = look o r1) → Stp σ ρ0 G0 H0 σ ρ G H → EnvLe ρ0 ρ → OpdsF H0 σ ρ G H vs os →
    ∃ G', Mo G G' ∧ Stp σ ρ0 G0 H0 σ (fzs os ρ) G' H ∧ EnvLe ρ (fzs os ρ) ∧ OpdsF H0 σ (fzs os ρ) G' H vs (os.map (unpl r1)) ∧ (∀ b, G b = none → G' b ≠ none → Mu σ ρ b)
  | [], _, ρ, G, r1, hl, s, l0, .nil => ⟨G, Mo.refl G, s, EnvLe.refl _, .nil, fun b h h' => absurd h h'⟩
  | o :: os, _, ρ, G, r1, hl, s, l0, .cons (v := v) (vs := vs) h r ne => by
    have step : ∃ G1, Mo G G1 ∧ Stp σ ρ0 G0 H0 σ (fz o ρ) G1 H ∧ EnvLe ρ (fz o ρ) ∧ OpdF H0 σ (fz o ρ) G1 H v (unpl r1 o) ∧ (∀ b, G b = none → G1 b ≠ none → Mu σ ρ b) := by
      cases o with
      | val d => exact ⟨G, Mo.refl G, s, EnvLe.refl _, h, fun b h h' => absurd h h'⟩
      | own d => exact ⟨G, Mo.refl G, s, EnvLe.refl _, h, fun b h h' => absurd h h'⟩
      | pl i =>
        obtain ⟨G1, m1, r1', s1, le1, new1⟩ := fz_one s e0 l0 h
        refine ⟨G1, m1, s1, le1, ?_, fun b hb hb2 => ?_⟩
        · show Rep G1 v (look (.pl i) r1)
          rw [← hl]; exact r1'
        · obtain ⟨_, ⟨d, z⟩ | z⟩ := new1 b hb hb2
          · cases z
          · exact z
    obtain ⟨G1, m1, s1, le1, f1, new1⟩ := step
    have rest : OpdsF H0 σ (fz o ρ) G1 H vs os := by
      refine OpdsF.map r fun j w o' hw ho' q => ?_
      cases o' with
      | val d => exact Rep.mono m1 q
      | pl i =>
        obtain ⟨q1, q2⟩ := q
        refine ⟨q1, ?_⟩
        rcases getS_fz o ρ i with z | ⟨d, z1, z2⟩
        · rw [z]; exact q2
        · rw [z2]; intro z; cases z
      | own d =>
        obtain ⟨b, rfl, n, g, ow⟩ := q
        refine ⟨b, rfl, n, ?_, ow.mono m1 fun _ q => q⟩
        cases e : G1 b with
        | none => rfl
        | some w =>
          exfalso
          have z := new1 b g (by rw [e]; simp)
          obtain ⟨u, hu⟩ := e0.mu (EnvLe.mu e0 l0 b z)
          rw [n] at hu; cases hu
    obtain ⟨G2, m2, s2, le2, r2, new2⟩ := fz_pl e0 (ρ := fz o ρ) (os := os) r1 (fun o' => (look_fz o' o ρ).trans (hl o')) s1 (l0.trans le1) rest
    refine ⟨G2, m1.trans m2, s2, le1.trans le2, .cons ?_ r2 ?_, fun b hb hb2 => ?_⟩
    · cases hu : unpl r1 o with
      | val d => rw [hu] at f1; exact Rep.mono m2 f1
      | pl i => cases o <;> simp [unpl] at hu
      | own d =>
        rw [hu] at f1
        obtain ⟨b, rfl, n, g, ow⟩ := f1
        refine ⟨b, rfl, n, ?_, ow.mono m2 fun _ q => q⟩
        cases e : G2 b with
        | none => rfl
        | some w =>
          exfalso
          have z := new2 b g (by rw [e]; simp)
          obtain ⟨u, hu⟩ := e0.mu (EnvLe.mu e0 (l0.trans le1) b z)
          rw [n] at hu; cases hu
    · intro a d ea eo j e' hj
      rw [List.getElem?_map] at hj
      obtain ⟨o', ho', eo'⟩ := Option.map_eq_some_iff.mp hj
      have eo1 : o = .own d := by cases o <;> simp [unpl] at eo <;> rw [eo]
      have eo2 : o' = .own e' := by cases o' <;> simp [unpl] at eo' <;> rw [eo']
      exact ne a d ea eo1 j e' (by rw [ho', eo2])
    · by_cases q : G1 b = none
      · exact EnvLe.mu s.env le1 b (new2 b q hb2)
      · exact new1 b hb q
theorem put1 {σ0 σ : L2.St} {ρ ρ1 : Env} {G H G1 H1 : Hp} {v : V} {o : Opd} {i : Nat} (s : Stp σ0 ρ G H σ ρ1 G1 H1) (np : NPl o) (r : OpdF H σ0 ρ1 G1 H1 v o) (nm : ∀ a d, v = .ref a → o = .own d → ¬ Mu σ ρ1 a) :
    Stp σ0 ρ G H (σ.set i (some v)) (setS ρ1 i (match o with | .own d => .own d | .val d => .val d | .pl _ => .non)) G1 H1 := by
  cases o with
  | pl i => exact np.elim
  | val d => exact asg_val s r
  | own d =>
    obtain ⟨b, rfl, n, g, ow⟩ := r
    exact asg_own2 s n g ow (nm b d rfl rfl)
def slO : Opd → Sl
  | .own d => .own d
  | .val d => .val d
  | .pl _ => .non
theorem put1' {σ0 σ : L2.St} {ρ ρ1 : Env} {G H G1 H1 : Hp} {v : V} {o : Opd} {i : Nat} (s : Stp σ0 ρ G H σ ρ1 G1 H1) (np : NPl o) (r : OpdF H σ0 ρ1 G1 H1 v o) (nm : ∀ a d, v = .ref a → o = .own d → ¬ Mu σ ρ1 a) :
    Stp σ0 ρ G H (σ.set i (some v)) (setS ρ1 i (slO o)) G1 H1 := by
  have q := put1 (i := i) s np r nm
  cases o <;> exact q
/-- a later operand's reading, other slots set -/
theorem opd_np {σ0 σ1 : L2.St} {ρ ρ' : Env} {G1 H1 H : Hp} {v : V} {o : Opd} (np : NPl o) (r : OpdF H σ0 ρ G1 H1 v o) : OpdF H σ1 ρ' G1 H1 v o := by
  cases o with
  | pl i => exact np.elim
  | val d => exact r
  | own d => exact r
theorem unpl_np (ρ : Env) (o : Opd) : NPl (unpl ρ o) := by cases o <;> exact trivial
theorem putOs_cons {i : Nat} {is : List Nat} {o : Opd} {os : List Opd} {ρ ρ' : Env} (h : putOs (i :: is) (o :: os) ρ = some ρ') : ∃ ρ1, putOs is os ρ = some ρ1 ∧ ρ' = setS ρ1 i (slO o) := by
  cases o with
  | pl k => simp [putOs] at h
  | val d => simp only [putOs, Option.map_eq_some_iff] at h; obtain ⟨ρ1, h1, rfl⟩ := h; exact ⟨ρ1, h1, rfl⟩
  | own d => simp only [putOs, Option.map_eq_some_iff] at h; obtain ⟨ρ1, h1, rfl⟩ := h; exact ⟨ρ1, h1, rfl⟩
theorem fresh_nomu {σ : L2.St} {ρ ρ1 : Env} {G H : Hp} (en : EnvR G H σ ρ) (l : EnvLe ρ ρ1) {v : V} {o : Opd} {ρ' : Env} {G1 H1 : Hp} (r : OpdF H σ ρ' G1 H1 v o) : ∀ a d, v = .ref a → o = .own d → ¬ Mu σ ρ1 a := by
  rintro a d rfl rfl m
  obtain ⟨b, e, n, _⟩ := r
  cases e
  obtain ⟨u, hu⟩ := mu_there en l a m
  rw [n] at hu; cases hu
/-- names stored, by their kinds -/
theorem mu_set {σ : L2.St} {ρ : Env} {i : Nat} {v : V} {o : Opd} {a : Addr} (hl : σ.length = ρ.length) (m : Mu (σ.set i (some v)) (setS ρ i (slO o)) a) : Mu σ ρ a ∨ (v = .ref a ∧ ∃ d, o = .own d) := by
  obtain ⟨j, e, hj, ha⟩ := m
  rw [getS_setS] at hj
  rw [set_get, hl] at ha
  by_cases q : i = j ∧ i < ρ.length
  · rw [if_pos q] at hj ha
    cases ha
    cases o with
    | own d => exact .inr ⟨rfl, d, rfl⟩
    | val d => cases hj
    | pl k => cases hj
  · rw [if_neg q] at hj ha; exact .inl ⟨j, e, hj, ha⟩
variable {X : Cx} {W : XW} {fix : Fix} {fs : Env → Res (List Opd)} {pos px py pz pt pt2 : Pos} {a b c : Expr} {i j k : Nat} {x y z : Str} {kt k2 : Nat}
theorem s_par2 (hc : X.calm = true) (hN : X.N.Nodup) (hi : X.N[i]? = some x) (hj : X.N[j]? = some y) (hij : i ≠ j) (hx : X.env.scope.names.lookup x = some .local) (hy : X.env.scope.names.lookup y = some .local) (ha : PA X [a, b] (rdA W fs))
    (hlen : ∀ ρ os ρ', fs ρ = .ok os ρ' → os.length = 2)
    (hw : swappedStores [.Tuple [.Name x px, .Name y py] kt pt] (.Tuple [a, b] k2 pt2) X.env = pure (some [x, y])) (fi : fix i = false) (fj : fix j = false) :
    PS X (.Assign [.Tuple [.Name x px, .Name y py] kt pt] (.Tuple [a, b] k2 pt2) pos) (rdS W fix fun ρ => (fs ρ).out fun os ρ1 => outO (putOs [i, j] (os.map (unpl ρ1)) (fzs os ρ1))) := by
  refine (ps_par hc hN hi hj hij hx hy ha hw).imp fun D σ H q => ?_
  obtain ⟨G, ρ, l, en, p⟩ := q
  refine ⟨G, ρ, l, en, PostS.outR p (Stp.refl l en) fun os ρ1 G1 H1 e1 s1 l1 p1 vs rs => ?_⟩
  have hl := hlen ρ os ρ1 e1
  match os, hl with
  | [o1, o2], _ =>
    obtain ⟨ρ2, hb, p2⟩ := outO_ok p1
    obtain ⟨G2, m, s2, le2, r2, _⟩ := fz_pl en ρ1 (fun _ => rfl) s1 l1 rs
    obtain ⟨ρa, hb1, rfl⟩ := putOs_cons hb
    obtain ⟨ρb, hb2, rfl⟩ := putOs_cons hb1
    cases hb2
    cases r2 with
    | @cons v1 _ _ _ f1 r2 ne =>
      cases r2 with
      | @cons v2 _ _ _ f2 r2 _ =>
        cases r2
        refine ⟨v1, v2, rfl, ?_⟩
        have t1 := put1' (i := i) s2 (unpl_np ρ1 o1) f1 (fresh_nomu en (l1.trans le2) f1)
        have t2 := put1' (i := j) t1 (unpl_np ρ1 o2) (opd_np (unpl_np ρ1 o2) f2) (fun a' d' ea eo mu => by
          rcases mu_set s2.env.len mu with z | ⟨z, d, zo⟩
          · exact fresh_nomu en (l1.trans le2) f2 a' d' ea eo z
          · exact ne a' d z zo 0 d' (by simp [eo]) (by simp [ea]))
        rw [setS_comm hij] at t2
        refine p2 _ G2 H1 t2 (by simp) fun n hn => ?_
        rw [set_get, if_neg (fun z => not_fix fj hn z.1), set_get, if_neg (fun z => not_fix fi hn z.1)]
end
end RR

/-! A24: functions. -/
namespace RR
open PySem L2

theorem args_len {G H : Hp} {vs : List V} {as : List Sl} (r : ArgsR G H vs as) : vs.length = as.length := by
  induction r with
  | nil => rfl
  | val h r ih => simp [ih]
  | own g o r ih => simp [ih]
theorem args_get {G H : Hp} {vs : List V} {as : List Sl} (r : ArgsR G H vs as) : ∀ {i : Nat} {s : Sl}, as[i]? = some s → ∃ v, vs[i]? = some v ∧ ((∃ d, s = .val d ∧ Rep G v d) ∨ ∃ a d, s = .own d ∧ v = .ref a ∧ G a = none ∧ Own G H a d) := by
  induction r with
  | nil => intro i s h; simp at h
  | val h r ih =>
    intro i s hi
    cases i with
    | zero => simp at hi; subst hi; exact ⟨_, rfl, .inl ⟨_, rfl, h⟩⟩
    | succ i => exact ih (by simpa using hi)
  | own g o r ih =>
    intro i s hi
    cases i with
    | zero => simp at hi; subst hi; exact ⟨_, rfl, .inr ⟨_, _, rfl, rfl, g, o⟩⟩
    | succ i => exact ih (by simpa using hi)
theorem okSl_own {io : Bool} : ∀ {as : List Sl} {n i : Nat} {d : D}, okSl io n as = true → as[i]? = some (.own d) → n = 0 ∧ i = 0 ∧ io = true
  | [], n, i, d, h, hi => by simp at hi
  | .own e :: r, 0, 0, d, h, hi => by
    simp only [okSl, Bool.and_eq_true] at h
    exact ⟨rfl, rfl, h.1⟩
  | .own e :: r, 0, i + 1, d, h, hi => by
    simp only [okSl, Bool.and_eq_true] at h
    have := okSl_own h.2 (by simpa using hi)
    omega
  | .own e :: r, n + 1, i, d, h, hi => by simp [okSl] at h
  | .val e :: r, n, 0, d, h, hi => by simp at hi
  | .val e :: r, n, i + 1, d, h, hi => by
    have h' : okSl io (n + 1) r = true := by cases n <;> exact h
    have := okSl_own h' (by simpa using hi)
    omega
  | .non :: r, n, i, d, h, hi => by cases n <;> simp [okSl] at h
theorem getS_get : ∀ (ρ : Env) (i : Nat), getS ρ i = (ρ[i]?).getD .non
  | [], i => by simp [getS]
  | s :: ρ, 0 => by simp [getS]
  | s :: ρ, i + 1 => by simp [getS, getS_get ρ i]
theorem start_env {io : Bool} {G H : Hp} {vs : List V} {as : List Sl} {N : List Str} {m : Nat} (r : ArgsR G H vs as) (ok : okSl io 0 as = true) (hm : N.length = as.length + m) : EnvR G H (L2.start N vs) (as ++ List.replicate m .non) := by
  have hl := args_len r
  have slot : ∀ {i : Nat} {s : Sl}, getS (as ++ List.replicate m .non) i = s → s ≠ .non → as[i]? = some s := fun {i s} h hn => by
    rw [getS_get, List.getElem?_append] at h
    by_cases q : i < as.length
    · rw [if_pos q, List.getElem?_eq_getElem q] at h
      simp at h
      rw [List.getElem?_eq_getElem q, h]
    · rw [if_neg q] at h
      rw [List.getElem?_replicate] at h
      split at h <;> simp at h <;> exact absurd h.symm hn
  have val : ∀ {i : Nat} {v : V}, vs[i]? = some v → (L2.start N vs)[i]? = some (some v) := fun {i v} h => by
    have hi : i < vs.length := (List.getElem?_eq_some_iff.mp h).1
    unfold L2.start
    rw [List.getElem?_append, if_pos (by rw [List.length_map]; exact hi), List.getElem?_map, h]
    rfl
  refine ⟨?_, fun i d h => ?_, fun i d h => ?_, fun i j a d e h1 h2 e1 e2 => ?_⟩
  · unfold L2.start
    rw [List.length_append, List.length_append, List.length_map, List.length_replicate, List.length_replicate]
    omega
  · obtain ⟨v, hv, q⟩ := args_get r (slot h (by intro z; cases z))
    rcases q with ⟨d', e, rp⟩ | ⟨a, d', e, _⟩
    · cases e; exact ⟨v, val hv, rp⟩
    · cases e
  · obtain ⟨v, hv, q⟩ := args_get r (slot h (by intro z; cases z))
    rcases q with ⟨d', e, rp⟩ | ⟨a, d', e, rfl, g, o⟩
    · cases e
    · cases e; exact ⟨a, val hv, g, o⟩
  · have a1 := (okSl_own ok (slot h1 (by intro z; cases z))).2.1
    have a2 := (okSl_own ok (slot h2 (by intro z; cases z))).2.1
    omega
/-- the slot whose address is fixed -/
def ioFix (io : Bool) : Fix := fun j => io && j == 0
theorem body_ok {xc : XCls} {E : XK} {io : Bool} {G H : Hp} {vs : List V} {as : List Sl} {N : List Str} {m : Nat} {Q : VK} {o : Out} (l : Le G H) (r : ArgsR G H vs as) (ok : okSl io 0 as = true) (hm : N.length = as.length + m)
    (h : match endC io o with
      | .bad => False
      | .exc x => ∀ cls ed G' H', ExAt xc x cls ed H' → Mo G G' → Le G' H' → (∀ a o, H a = some o → ¬ Io vs as a → H' a = some o) → (∀ a o, H a = some o → ∃ o', H' a = some o') → E cls ed H'
      | .ok d own out => ∀ v G' H', CStp vs as G H G' H' → (∀ a, Io vs as a → G' a = none ∧ Own G' H' a out) → (if own = true then ∃ a, v = .ref a ∧ H a = none ∧ G' a = none ∧ Own G' H' a d else Rep G' v d) → Q v H') :
    PostS ⟨xc, E⟩ (ioFix io) (L2.start N vs) (as ++ List.replicate m .non) G H o { nx := fun _ H' => Q .non H', rt := Q } := by
  have en := start_env (N := N) (m := m) r ok hm
  have muIo : ∀ {a : Addr}, Mu (L2.start N vs) (as ++ List.replicate m .non) a → Io vs as a ∧ io = true := fun {a} ⟨i, d, h1, h2⟩ => by
    have hs : as[i]? = some (.own d) := by
      rw [getS_get, List.getElem?_append] at h1
      by_cases q : i < as.length
      · rw [if_pos q, List.getElem?_eq_getElem q] at h1
        simp at h1
        rw [List.getElem?_eq_getElem q, h1]
      · rw [if_neg q, List.getElem?_replicate] at h1
        split at h1 <;> simp at h1
    obtain ⟨_, rfl, hio⟩ := okSl_own ok hs
    obtain ⟨v, hv, q⟩ := args_get r hs
    rcases q with ⟨d', e, _⟩ | ⟨b, d', e, rfl, _⟩
    · cases e
    · cases e
      refine ⟨⟨d, hs, ?_⟩, hio⟩
      unfold L2.start at h2
      have hi : 0 < vs.length := (List.getElem?_eq_some_iff.mp hv).1
      rw [List.getElem?_append, if_pos (by rw [List.length_map]; exact hi), List.getElem?_map, hv] at h2
      simp at h2
      rw [hv, h2]
  have ioMu : ∀ {a : Addr}, Io vs as a → (L2.start N vs)[0]? = some (some (.ref a)) ∧ io = true := fun {a} ⟨d, h1, h2⟩ => by
    refine ⟨?_, (okSl_own ok h1).2.2⟩
    have hi : 0 < vs.length := (List.getElem?_eq_some_iff.mp h2).1
    unfold L2.start
    rw [List.getElem?_append, if_pos (by rw [List.length_map]; exact hi), List.getElem?_map, h2]
    rfl
  -- the callee's whole step
  have cstp : ∀ {σ' : L2.St} {ρ' : Env} {G' H' : Hp}, Stp (L2.start N vs) (as ++ List.replicate m .non) G H σ' ρ' G' H' → (∀ j, ioFix io j = true → σ'[j]? = (L2.start N vs)[j]?) → (io = true → ∃ d, getS ρ' 0 = .own d) → CStp vs as G H G' H' := fun {σ' ρ' G' H'} s hf hd =>
    ⟨s.mono, s.le, fun a o ha n => s.keep a o ha fun mu => n (muIo mu).1, fun a ha h' => by
      rcases s.fresh a ha h' with z | z | z
      · exact .inl z
      · obtain ⟨hio, hi⟩ := muIo z
        obtain ⟨d, hd⟩ := hd hi
        obtain ⟨b, hb, g, _⟩ := s.env.own 0 d hd
        rw [hf 0 (by simp [ioFix, hi]), (ioMu hio).1] at hb
        cases hb
        exact absurd g h'
      · exact .inr z, s.there⟩
  have outs : ∀ {σ' : L2.St} {ρ' : Env} {G' H' : Hp} {z : D}, Stp (L2.start N vs) (as ++ List.replicate m .non) G H σ' ρ' G' H' → (∀ j, ioFix io j = true → σ'[j]? = (L2.start N vs)[j]?) → (io = true → getS ρ' 0 = .own z) → ∀ a, Io vs as a → G' a = none ∧ Own G' H' a z := fun {σ' ρ' G' H' z} s hf hd a ha => by
    obtain ⟨h1, hi⟩ := ioMu ha
    obtain ⟨b, hb, g, ow⟩ := s.env.own 0 z (hd hi)
    rw [hf 0 (by simp [ioFix, hi]), h1] at hb
    cases hb
    exact ⟨g, ow⟩
  cases o with
  | bad => exact h
  | exc x ρ' =>
    intro cls ed G' H' ex m' l' k t
    exact h cls ed G' H' ex m' l' (fun a o ha n => k a o ha fun mu => n (muIo mu).1) t
  | nx ρ' =>
    intro σ' G' H' s hl hf
    show Q .non H'
    cases io with
    | false => exact h .non G' H' (cstp s hf (fun z => by cases z)) (fun a ha => absurd (ioMu ha).2 (by decide)) (by simpa using .non)
    | true =>
      simp only [endC, if_true] at h
      cases hz : getS ρ' 0 with
      | own d =>
        rw [hz] at h
        exact h .non G' H' (cstp s hf (fun _ => ⟨d, hz⟩)) (outs s hf fun _ => hz) (by simpa using .non)
      | val d => rw [hz] at h; exact False.elim h
      | non => rw [hz] at h; exact False.elim h
  | ret op ρ' =>
    intro σ' G' H' s hl hf v rv
    show Q v H'
    -- what comes out, by its kind
    have res : ∀ {i : Nat}, op = .pl i → (io && i == 0) = false → ∃ a, v = .ref a ∧ H a = none ∧ G' a = none ∧ Own G' H' a (look op ρ') := fun {i} e hi => by
      subst e
      obtain ⟨h1, d, hd⟩ := rv
      obtain ⟨a, ha, g, ow⟩ := s.env.own i d hd
      rw [h1] at ha
      cases ha
      have hlk : look (.pl i) ρ' = d := by simp only [look, hd]
      refine ⟨a, rfl, ?_, g, by rw [hlk]; exact ow⟩
      rcases s.mine a ⟨i, d, hd, h1⟩ with z | z
      · exfalso
        obtain ⟨hio, hi2⟩ := muIo z
        have h0 := (ioMu hio).1
        rw [← hf 0 (by simp [ioFix, hi2])] at h0
        have hd0 : ∃ d0, getS ρ' 0 = .own d0 := by
          subst hi2
          simp only [endC, if_true] at h
          rw [if_neg (by rw [hi]; decide)] at h
          cases hz : getS ρ' 0 with
          | own d => exact ⟨d, rfl⟩
          | val d => rw [hz] at h; exact False.elim h
          | non => rw [hz] at h; exact False.elim h
        obtain ⟨d0, hd0⟩ := hd0
        have := s.env.inj i 0 a d d0 hd hd0 h1 h0
        subst this
        rw [hi2] at hi
        cases hi
      · exact z
    cases hio : io with
    | false =>
      subst hio
      have C := cstp s hf (fun z => by cases z)
      have outs' : ∀ a, Io vs as a → G' a = none ∧ Own G' H' a .non := fun a ha => absurd (ioMu ha).2 (by decide)
      cases op with
      | val d => exact h v G' H' C outs' (by simpa using (show Rep G' v d from rv))
      | own d => exact h v G' H' C outs' (by simpa using (show ∃ a, v = .ref a ∧ H a = none ∧ G' a = none ∧ Own G' H' a d from rv))
      | pl i =>
        have q := res rfl (by rfl)
        have h' : ∀ v G' H', CStp vs as G H G' H' → (∀ a, Io vs as a → G' a = none ∧ Own G' H' a .non) → (if true = true then ∃ a, v = .ref a ∧ H a = none ∧ G' a = none ∧ Own G' H' a (look (.pl i) ρ') else Rep G' v (look (.pl i) ρ')) → Q v H' := h
        exact h' v G' H' C outs' (by simpa using q)
    | true =>
      subst hio
      have hb : ∀ {i : Nat}, op = .pl i → (true && i == 0) = false := fun {i} e => by
        subst e
        cases hi : (true && i == 0) with
        | false => rfl
        | true =>
          simp only [endC, if_true] at h
          rw [if_pos hi] at h
          exact False.elim h
      have hz : ∃ z, getS ρ' 0 = .own z := by
        cases hz : getS ρ' 0 with
        | own d => exact ⟨d, rfl⟩
        | val d =>
          exfalso
          cases op with
          | val e => simp only [endC, if_true, hz] at h
          | own e => simp only [endC, if_true, hz] at h
          | pl i => simp only [endC, if_true] at h; rw [if_neg (by rw [hb rfl]; decide), hz] at h; exact h
        | non =>
          exfalso
          cases op with
          | val e => simp only [endC, if_true, hz] at h
          | own e => simp only [endC, if_true, hz] at h
          | pl i => simp only [endC, if_true] at h; rw [if_neg (by rw [hb rfl]; decide), hz] at h; exact h
      obtain ⟨z, hz⟩ := hz
      have C := cstp s hf (fun _ => ⟨z, hz⟩)
      have O := outs s hf (fun _ => hz)
      cases op with
      | val d =>
        simp only [endC, if_true, hz] at h
        exact h v G' H' C O (by simpa using (show Rep G' v d from rv))
      | own d =>
        simp only [endC, if_true, hz] at h
        exact h v G' H' C O (show ∃ a, v = .ref a ∧ H a = none ∧ G' a = none ∧ Own G' H' a d from rv)
      | pl i =>
        simp only [endC, if_true] at h
        rw [if_neg (by rw [hb rfl]; decide), hz] at h
        have q := res rfl (hb rfl)
        exact h v G' H' C O (by simpa using q)
end RR

/-! A30: set(a list of ints); sorted of it; how many are in it. -/
namespace PySem
open PySem.Spec PyProof.Rows L2
section
variable {P : Program} {w : World} {A : Around} {E : Value → Shared → Prop} {s : Shared}
/-- the empty set, as it is made -/
abbrev rrNil (w : World) : Obj := { cls := .type "set", dict := none, data := .set #[] 0 (.fresh 0 0 (!w.params.followText "set-order")) }
theorem rr_set_list {L : Addr} {its : Array Value} (ks : List Int) {Q : Value → Shared → Prop} (calm : A.handled = none) (isL : s.heap.IsList L its) (hint : IntsAre its.toList ks) (few : ks.length + 1 < scanBound)
    (fin : ∀ (h' : Heap) (tk c : Nat), SetR w h' s.heap.objs.size (fun j => decide (j ∈ ks)) c → c ≤ ks.length → (∀ b o, s.heap.get? b = some o → h'.get? b = some o) → Q (.ref s.heap.objs.size) { s with heap := h', toks := tk }) :
    wpAny (model P w) A (call (.type "set") [.ref L]) Q E s := by
  have sz : its.size = ks.length := (Array.length_toList ..).symm.trans (IntsAre.length hint)
  obtain ⟨c, tl, hmro⟩ := F.called_set.mro
  have made := F.called_set.made; have subs := F.called_set.sub
  refine wpAny_call (codeAny_of_tree ?_); show wpAny _ _ (callAny (.type "set") _) _ _ _
  refine wpAny_pure ⟨Code.quiet_builtin _ (by decide +kernel), codeAny_builtin F.entry_type_call ?_⟩; rw [Around.under_plain (weight_type_call_type "set" [.ref L] []) rfl]
  have k1 := F.called_set.notType; have k2 := F.called_set.canCreate; have k3 := F.typeCall_set_1 (.ref L)
  repeat (any_goals (first | assumption | wp_step))
  generalize hO : rrNil w = O at *
  refine codeAny_mono (code_set_led1 (w := w) (.ref L) (E := E) (Q₁ := fun ob t => ob = .ref s.heap.objs.size ∧ t = { s with heap := s.heap.push O }) ⟨rfl, by rw [← hO]⟩) fun r t hr => ?_
  match r, hr with
  | .ok (.ret ob), hr =>
    obtain ⟨rfl, rfl⟩ := hr
    have at1 : (s.heap.push O).get? s.heap.objs.size = some O := Heap.get?_push_size _ (by rw [← hO]; rfl)
    have ty1 : Shared.TypeIs { s with heap := s.heap.push O } (.ref s.heap.objs.size) "set" := ⟨_, at1, by rw [← hO]⟩
    have i1 := F.called_set.init.lookup; have i2 := F.called_set.init.bind (.ref s.heap.objs.size)
    repeat (any_goals (first | assumption | wp_step))
    refine codeAny_mono (codeAny_call_builtin (R := wants (fun z t => z = .none ∧ ∃ h' tk c, t = { s with heap := h', toks := tk } ∧ SetR w h' s.heap.objs.size (fun j => decide (j ∈ ks)) c ∧ c ≤ ks.length ∧ (∀ b o, s.heap.get? b = some o → h'.get? b = some o)) E)
      F.called_set.init.plain F.entry_set_init (check_set_init_1 ty1 ?_)) fun z t hz => ?_
    · obtain ⟨⟨ocl, odi, oda, osl⟩, lat, lcl, ln, lda⟩ := isL
      replace lcl : ocl = .type "list" := lcl
      replace lda : oda = .seq its ln := lda
      subst lcl lda
      have lat2 : (s.heap.push O).get? L = some ⟨.type "list", odi, .seq its ln, osl⟩ := Heap.get?_push_of_some _ lat
      have q1 := F.sub_list_set; have q2 := F.sub_list_frozenset
      have q3 : (Value.type "list" == Value.type "dict") = false := by decide
      have isL2 : (s.heap.push O).IsList L its := ⟨_, lat2, rfl, ln, rfl⟩
      subst hO
      unfold Builtin.«set.__init__» noKeywords Builtin.Frozenset.updateFrom
      generalize hI : pyIter = I0
      wp_walk
      subst hI
      refine wpAny_pyIter_list isL2 ?_
      refine wpAny_bind (wpAny_runValue ?_)
      have Ls : L < s.heap.objs.size := Heap.lt_size lat
      have zz : (s.heap.push (rrNil w)).objs.size = s.heap.objs.size + 1 := Heap.size_push ..
      have w1 := Walks.list (prog := P) (w := w) (A := A.in1.in1.in1) (by simp [calm]) (s.heap.push (rrNil w)).objs.size L (by rw [zz]; exact Nat.ne_of_lt (Nat.lt_succ_of_lt Ls)) its
      refine set_update_ints w1.toS s.heap.objs.size (by rw [zz]; simp only [List.mem_cons, List.not_mem_nil, or_false, not_or]; exact ⟨Nat.ne_of_lt (Nat.lt_succ_self _), Nat.ne_of_gt Ls⟩) ks sz few (fun i v hv => ?_) (its.size - 0) 0 _ (by omega) (Nat.zero_le _) ⟨⟨_, Heap.get?_push_size _ rfl, rfl, rfl⟩, isL2.push _⟩
        ⟨0, Nat.le_refl 0, setR_new_at (by rw [Heap.get?_push_of_some _ at1])⟩ fun t c hm hc hS => ?_
      · have hi : i < ks.length := by rw [← sz]; exact (Array.getElem?_eq_some_iff.mp hv).1
        obtain ⟨tk, e⟩ := IntsAre.int_at hint i v (by rw [Array.getElem?_toList]; exact hv)
        exact ⟨ks[i], tk, List.getElem?_eq_getElem hi, by rw [e, List.getD_eq_getElem?_getD, List.getElem?_eq_getElem hi] <;> rfl⟩
      · obtain ⟨h', g', d', tk', os'⟩ := t
        have eg : g' = s.gens := hm.gens; have ed : d' = s.drawn := hm.drawn; have eo : os' = s.os := hm.os
        subst eg ed eo
        show wpAny _ _ _ _ _ _
        refine wpAny_pure ?_
        show wpAny _ _ (ret Value.none) _ _ _
        refine wpAny_pure ⟨rfl, h', tk', c, rfl, hS, by omega, fun b o e => hm.heap b o ?_ (Heap.get?_push_of_some _ (Heap.get?_push_of_some _ e))⟩
        have lb := Heap.lt_size e
        rw [zz]; simp only [List.mem_cons, List.not_mem_nil, or_false, not_or]; exact ⟨Nat.ne_of_lt lb, Nat.ne_of_lt (Nat.lt_succ_of_lt lb)⟩
    · match z, hz with
      | .ok (.ret r), hz =>
        obtain ⟨rfl, h', tk, c, rfl, a1, a2, a3⟩ := hz
        repeat (any_goals (first | assumption | wp_step))
        exact fin _ _ _ a1 a2 a3
      | .error e, hz => exact hz
      | .ok .next, hz => exact hz.elim
      | .ok .brk, hz => exact hz.elim
      | .ok .cont, hz => exact hz.elim
  | .error e, hr => exact hr
  | .ok .next, hr => exact hr.elim
  | .ok .brk, hr => exact hr.elim
  | .ok .cont, hr => exact hr.elim
end
end PySem

/-! A31: sum(a list of lists, a list). -/
namespace PySem
open PySem.Spec PyProof.Rows L2
abbrev rrL (its : List Value) (c : Nat) : Obj := { cls := .type "list", data := .seq its.toArray c }
section
variable {P : Program} {w : World} {A : Around} {E : Value → Shared → Prop} {s : Shared}
theorem rr_add_lists {a b : Addr} {xs ys : List Value} {m n : Nat} {Q : Value → Shared → Prop} (ha : s.heap.get? a = some (rrL xs m)) (hb : s.heap.get? b = some (rrL ys n)) (hz : xs.length + ys.length ≤ sizeLine)
    (h : Q (.ref s.heap.objs.size) { s with heap := s.heap.push (rrL (xs ++ ys) 0) }) : wpAny (model P w) A (binaryOp .Add (.ref a) (.ref b)) Q E s := by
  refine PySem.concat_meets ⟨_, ha, rfl⟩ ⟨_, hb, rfl⟩ PySem.noFill_list_add PySem.seq_list_add PySem.F.slot_list_add PySem.F.entry_list_add (PySem.F.args_list_add_2 _ _)
    (PyProof.Rows.list_addW a b xs.toArray ys.toArray m n none none #[] #[] (by rw [List.size_toArray, List.size_toArray]; exact hz)) ⟨ha, hb, ?_⟩
  have ea : xs.toArray ++ ys.toArray = (xs ++ ys).toArray := by simp
  rw [ea]
  exact h
/-- the sum behind i lists: at T -/
structure RrSum (base h : Heap) (S T : Addr) (wr : List Addr) (acc : List Value) (b : Addr) (first : Bool) : Prop where
  old : ∀ c o, base.get? c = some o → h.get? c = some o
  here : ∃ n, h.get? T = some (rrL acc n)
  apart : T ≠ S ∧ T ∉ wr
  same : first = true → T = b
  new : first = false → base.objs.size ≤ T
theorem rr_sum_loop {I : Addr} {fp wr : List Addr} {G : Array GenState → Array GenState → Prop} {n : Nat} {Pv : Nat → Value → Prop} {St : Nat → Shared → Prop} {R : Result → Shared → Prop} {base : Heap} {b : Addr}
    (W : WalksS P w A.in1 I fp wr G n Pv St) (S : Addr) (hS0 : S ∉ fp) (hwS : ∀ c ∈ wr, c < S) (hSb : base.objs.size ≤ S) (hb0 : ∀ c, c = S ∨ c ∈ wr → base.get? c = none) (start : List Value) (LL : List (List Value)) (hn : n = LL.length) (hz : start.length + (LL.map List.length).sum ≤ sizeLine)
    (hval : ∀ i v, Pv i v → ∃ l its m, LL[i]? = some its ∧ v = .ref l ∧ base.get? l = some (rrL its m)) :
    ∀ (k i : Nat) (s : Shared) (T : Addr) (c : Nat), n - i = k → i ≤ n → St i s → s.heap.get? S = some (rrL [.ref T] c) → RrSum base s.heap S T wr (start ++ (LL.take i).flatten) b (i == 0) →
      (∀ s' T', Moved (S :: wr) G s s' → RrSum base s'.heap S T' wr (start ++ LL.flatten) b (n == 0) → R (.ok (.ret (.ref T'))) s') →
      codeAny (model P w) A (.builtin "sum.loop" ⟨[.ref I, .ref S, rawInt 2, rawInt 0], []⟩) R s := by
  have hSw : S ∉ wr := fun h => hS0 (W.sub _ h)
  have up : ∀ c ∈ wr, c ∈ S :: wr := fun c hc => List.mem_cons_of_mem _ hc
  intro k
  induction k with
  | zero =>
    intro i s T c hk hi st hS r hR
    obtain rfl : i = n := by omega
    refine codeAny_builtin F.entry_sum_loop ?_
    rw [Around.under_plainId F.plain_sum_loop _]
    show wpAny _ A.in1 (seqItems? (.ref S) >>= _) _ _ s
    refine wpAny_bind (wpAny_seqItems hS rfl ?_)
    show wpAny _ A.in1 (tryCatch (pyNext (.ref I)) _ >>= _) _ _ s
    refine wpAny_bind (wpAny_tryCatch (W.done s _ _ st fun s' hm => ?_))
    refine wpAny_pure (hR s' T (hm.mono up) ?_)
    rw [List.take_of_length_le (by omega)] at r
    refine ⟨fun c o h => hm.heap c o (fun z => ?_) (r.old c o h), ?_, r.apart, r.same, r.new⟩
    · rw [hb0 c (.inr z)] at h; cases h
    · obtain ⟨m, h⟩ := r.here
      exact ⟨m, hm.heap T _ r.apart.2 h⟩
  | succ k ih =>
    intro i s T c hk hi st hS r hR
    have hlt : i < n := by omega
    refine codeAny_builtin F.entry_sum_loop ?_
    rw [Around.under_plainId F.plain_sum_loop _]
    show wpAny _ A.in1 (seqItems? (.ref S) >>= _) _ _ s
    refine wpAny_bind (wpAny_seqItems hS rfl ?_)
    show wpAny _ A.in1 (tryCatch (pyNext (.ref I)) _ >>= _) _ _ s
    refine wpAny_bind (wpAny_tryCatch (W.item i s _ _ hlt st fun v s' hP st' hm => ?_))
    obtain ⟨l, its, m, hl, rfl, hbl⟩ := hval i v hP
    have hS' := hm.heap S _ hSw hS
    obtain ⟨mT, hT⟩ := r.here
    have hT' := hm.heap T _ r.apart.2 hT
    have old' : ∀ c o, base.get? c = some o → s'.heap.get? c = some o := fun c o h => hm.heap c o (fun z => by rw [hb0 c (.inr z)] at h; cases h) (r.old c o h)
    have e1 : (LL.take (i + 1)).flatten = (LL.take i).flatten ++ its := by rw [List.take_add_one, hl]; simp
    have hz' : (start ++ (LL.take i).flatten).length + its.length ≤ sizeLine := by
      have e2 : LL = LL.take i ++ its :: LL.drop (i + 1) := by
        obtain ⟨h1, h2⟩ := List.getElem?_eq_some_iff.mp hl
        rw [← h2, ← List.drop_eq_getElem_cons h1, List.take_append_drop]
      have e3 : (LL.map List.length).sum = ((LL.take i).map List.length).sum + (its.length + ((LL.drop (i + 1)).map List.length).sum) := by
        conv => lhs; rw [e2]
        simp
      rw [List.length_append, List.length_flatten]
      omega
    show wpAny _ A.in1 ((holding [Value.ref l] (binaryOp .Add (.ref T) (.ref l))).attempt >>= _) _ _ _
    refine wpAny_bind (wpAny_attempt (wpAny_holding (rr_add_lists hT' (old' l _ hbl) hz' ?_)))
    have Sz := Heap.lt_size hS'
    have p1 : (s'.heap.push (rrL ((start ++ (LL.take i).flatten) ++ its) 0)).get? S = some (rrL [.ref T] c) := Heap.get?_push_of_some _ hS'
    show wpAny _ A.in1 (updateSeq S (fun _ => #[.ref s'.heap.objs.size]) >>= _) _ _ _
    refine wpAny_bind (wpAny_updateSeq p1 rfl ?_)
    have p2 := Heap.get?_update_self (Obj.mapSeq fun _ => #[Value.ref s'.heap.objs.size]) p1 rfl
    refine wpAny_bind (wpAny_letGo ?_)
    have keepS : ∀ c o, c ≠ S → s'.heap.get? c = some o → ((s'.heap.push (rrL ((start ++ (LL.take i).flatten) ++ its) 0)).update S (Obj.mapSeq fun _ => #[Value.ref s'.heap.objs.size])).get? c = some o := fun c o hc h =>
      (Heap.get?_update_other _ _ (Ne.symm hc)).trans (Heap.get?_push_of_some _ h)
    have new1 : ((s'.heap.push (rrL ((start ++ (LL.take i).flatten) ++ its) 0)).update S (Obj.mapSeq fun _ => #[Value.ref s'.heap.objs.size])).get? s'.heap.objs.size = some (rrL (start ++ (LL.take (i + 1)).flatten) 0) := by
      rw [e1, ← List.append_assoc]
      exact (Heap.get?_update_other _ _ (Nat.ne_of_lt Sz)).trans (Heap.get?_push_size _ rfl)
    have keep2 : ∀ c o, c ≠ S → s'.heap.get? c = some o → (((s'.heap.push (rrL ((start ++ (LL.take i).flatten) ++ its) 0)).update S (Obj.mapSeq fun _ => #[Value.ref s'.heap.objs.size])).update S (Obj.mapSeq fun _ => #[Value.ref s'.heap.objs.size])).get? c = some o := fun c o hc h =>
      (Heap.get?_update_other _ _ (Ne.symm hc)).trans (keepS c o hc h)
    refine wpAny_bind (wpAny_updateSeq p2 rfl (wpAny_pure ⟨plainId_quiet F.plain_sum_loop _, ih (i + 1) _ s'.heap.objs.size _ (by omega) hlt (W.frame _ s' _ _ st' (Nat.le_refl _) fun c hc o e => keep2 c o (fun z => hS0 (z ▸ hc)) e) (Heap.get?_update_self _ p2 rfl) ?_ fun s'' T' hm'' r'' => ?_⟩))
    · refine ⟨fun c o h => keep2 c o (fun z => by rw [hb0 c (.inl z)] at h; cases h) (old' c o h), ⟨0, (Heap.get?_update_other _ _ (Nat.ne_of_lt Sz)).trans new1⟩, ⟨Nat.ne_of_gt Sz, fun z => ?_⟩, fun z => by simp at z, fun _ => ?_⟩
      · exact absurd (Nat.lt_trans (hwS _ z) Sz) (Nat.lt_irrefl _)
      · exact Nat.le_trans hSb (Nat.le_of_lt Sz)
    · exact hR s'' T' (Moved.trans W.gtrans ((hm.mono up).then_heap (Nat.le_refl _) fun c o hc e => keep2 c o (fun z => hc (z ▸ List.mem_cons_self)) e) hm'') r''
theorem rr_sub_list_str : isSubtype (.type "list") (.type "str") = pure false := by rw [isSubtype_type]; kernel_rfl
theorem rr_sub_list_bytes : isSubtype (.type "list") (.type "bytes") = pure false := by rw [isSubtype_type]; kernel_rfl
theorem rr_sub_list_ba : isSubtype (.type "list") (.type "bytearray") = pure false := by rw [isSubtype_type]; kernel_rfl
theorem rr_args_sum2 (a b : Value) : argsOk "sum" ⟨[a, b], []⟩ := by unfold argsOk; kernel_rfl
theorem rr_sum {a b : Addr} {its : List Value} {ys : List Value} {LL : List (List Value)} {ma mb : Nat} {Q : Value → Shared → Prop} (hh : A.handled = none) (ha : s.heap.get? a = some (rrL its ma)) (hb : s.heap.get? b = some (rrL ys mb))
    (hl : its.length = LL.length) (hLL : ∀ (i : Nat) (l : Value), its[i]? = some l → ∃ (c : Addr) (m : Nat) (xs : List Value), l = Value.ref c ∧ LL[i]? = some xs ∧ s.heap.get? c = some (rrL xs m)) (hz : ys.length + (LL.map List.length).sum ≤ sizeLine)
    (h : ∀ h' tk T n, (∀ c o, s.heap.get? c = some o → h'.get? c = some o) → h'.get? T = some (rrL (ys ++ LL.flatten) n) → (T = b ∧ LL = [] ∨ s.heap.objs.size ≤ T) → Q (.ref T) { s with heap := h', toks := tk }) :
    wpAny (model P w) A (call (.builtin "sum") [.ref a, .ref b]) Q E s := by
  refine call_function_tree F.kind_sum F.plain_sum F.entry_sum (rr_args_sum2 _ _) ?_
  unfold Builtin.«sum»
  simp only [List.length_cons, List.length_nil]
  rw [if_neg (by decide)]
  refine wpAny_bind (wpAny_of_eq (show Builtin.Builtins.bindParams "sum" ["start"] 0 ⟨[.ref b], []⟩ = pure [some (.ref b)] from rfl) ?_)
  have isl : s.heap.IsList a its.toArray := ⟨_, ha, rfl, ma, rfl⟩
  refine wpAny_bind (wpAny_pyIter_list isl ?_)
  refine wpAny_bind (wpAny_pure ?_)
  have hb1 : (s.heap.push { cls := .type "list_iterator", data := .fields #[.ref a, .int 0 0] }).get? b = some (rrL ys mb) := Heap.get?_push_of_some _ hb
  have tb : Shared.TypeIs { s with heap := s.heap.push { cls := .type "list_iterator", data := .fields #[.ref a, .int 0 0] } } (.ref b) "list" := ⟨_, hb1, rfl⟩
  simp only [List.forIn_cons, List.forIn_nil]
  refine wpAny_bind (wpAny_bind (wpAny_bind (wpAny_isInstance (T := "list") (b := false) tb rr_sub_list_str ?_)))
  simp only [Bool.false_eq_true, if_false]
  refine wpAny_pure (wpAny_bind (wpAny_bind (wpAny_isInstance (T := "list") (b := false) tb rr_sub_list_bytes ?_)))
  simp only [Bool.false_eq_true, if_false]
  refine wpAny_pure (wpAny_bind (wpAny_bind (wpAny_isInstance (T := "list") (b := false) tb rr_sub_list_ba ?_)))
  simp only [Bool.false_eq_true, if_false]
  refine wpAny_pure (wpAny_pure ?_)
  refine wpAny_bind (wpAny_newObj_type ?_)
  have zi : (s.heap.push { cls := .type "list_iterator", data := .fields #[.ref a, .int 0 0] }).objs.size = s.heap.objs.size + 1 := Heap.size_push ..
  have la := Heap.lt_size ha
  have lb := Heap.lt_size hb
  have W := Walks.list (prog := P) (w := w) (A := A.in1) (by simp [hh]) s.heap.objs.size a (Nat.ne_of_lt la) its.toArray
  have nb : ∀ c, s.heap.objs.size ≤ c → s.heap.get? c = none := fun c hc => by
    cases q : s.heap.get? c with
    | none => rfl
    | some o => exact absurd (Heap.lt_size q) (Nat.not_lt.mpr hc)
  refine wpAny_pure ⟨plainId_quiet F.plain_sum_loop _, rr_sum_loop W.toS (base := s.heap) (b := b) (s.heap.push { cls := .type "list_iterator", data := .fields #[.ref a, .int 0 0] }).objs.size (by rw [zi]; simp only [List.mem_cons, List.not_mem_nil, or_false, not_or]; exact ⟨Nat.succ_ne_self _, Nat.ne_of_gt (Nat.lt_succ_of_lt la)⟩) (fun c hc => by rw [zi, List.mem_singleton.mp hc]; exact Nat.lt_succ_self _) (by rw [zi]; exact Nat.le_succ _)
    (fun c hc => ?_) ys LL (by rw [List.size_toArray]; exact hl) hz (fun i v hv => ?_) _ 0 _ b 0 rfl (Nat.zero_le _) ⟨⟨_, Heap.get?_push_of_some _ (Heap.get?_push_size _ rfl), rfl, rfl⟩, (isl.push _).push _⟩ ?_ ?_ fun s' T' hm r => ?_⟩
  · rcases hc with rfl | hc
    · rw [zi]; exact nb _ (Nat.le_succ _)
    · rw [List.mem_singleton.mp hc]; exact nb _ (Nat.le_refl _)
  · obtain ⟨c, m, xs, rfl, h1, h2⟩ := hLL i v (by simpa using hv)
    exact ⟨c, xs, m, h1, rfl, h2⟩
  · have := Heap.get?_push_size (s.heap.push { cls := .type "list_iterator", data := .fields #[.ref a, .int 0 0] }) (o := rrL [.ref b] 0) rfl
    exact this
  · refine ⟨fun c o h => Heap.get?_push_of_some _ (Heap.get?_push_of_some _ h), ⟨mb, ?_⟩, ⟨by rw [zi]; exact Nat.ne_of_lt (Nat.lt_succ_of_lt lb), fun z => ?_⟩, fun _ => rfl, fun z => by simp at z⟩
    · simpa using Heap.get?_push_of_some _ hb1
    · rw [List.mem_singleton.mp z] at lb; exact absurd lb (Nat.lt_irrefl _)
  · obtain ⟨h', g', d', tk', os'⟩ := s'
    have eg : g' = s.gens := hm.gens
    have ed : d' = s.drawn := hm.drawn
    have eo : os' = s.os := hm.os
    subst eg ed eo
    obtain ⟨n, r1⟩ := r.here
    refine h h' tk' T' n r.old r1 ?_
    by_cases q : its.toArray.size = 0
    · left
      refine ⟨r.same (by rw [q]; rfl), ?_⟩
      rw [List.size_toArray, hl] at q
      exact List.length_eq_zero_iff.mp q
    · right
      exact r.new (by simpa using q)
end
end PySem

/-! A32: sorted(set(xs)), len(set(xs)), sum(xss, [..]) by data; a, b = x, y through a tuple. -/
namespace RR
open PySem L2 PySem.Spec PyProof.Rows

/-! ### set(a list of ints) -/
def rSetL (K : PySem.W.Frag) (w : World) : List V → Hp → VK → Prop := fun xs H Q => ∃ (l : Addr) (ns : List Int), xs = [V.ref l] ∧ SqL K H l (ns.map V.int) ∧ ns.length + 1 < scanBound ∧
  ∀ p c, H p = none → (∀ ms : List Int, ms.Nodup → (∀ k, k ∈ ms ↔ k ∈ ns) → ms.length = c) → Q (.ref p) (upd H p (SetO w p (fun j => decide (j ∈ ns)) c))
theorem setR_count {w : World} {h : Heap} {a : Addr} {S : Int → Bool} {n : Nat} (R : SetR w h a S n) (ms : List Int) (nd : ms.Nodup) (hm : ∀ k, k ∈ ms ↔ S k = true) : ms.length = n := by
  obtain ⟨o, es, ep, t, _, _, _, _, nd2, hk, _, _, hn, _⟩ := R
  have : ms.Perm (es.toList.map L2.keyOf) := (List.perm_ext_iff_of_nodup nd nd2).mpr fun k => (hm k).trans (hk k)
  rw [this.length_eq, List.length_map, Array.length_toList, hn]
section
variable {X : Cx}
theorem cr_setL (hc : X.calm = true) : CallR X (.type "set") (rSetL X.K X.w) := by
  intro pins s σ H xs us Q I r h
  obtain ⟨l, ns, rfl, hl, few, q⟩ := h
  rw [Vals.ref1 r]
  obtain ⟨its, rv, pl, hz⟩ := I.list hl
  refine PySem.rr_set_list ns (I.ok.hd hc) pl.isList (by simpa using Vals.ints rv) few fun h' tk c R hcn k => ?_
  refine ⟨.ref s.heap.objs.size, upd H s.heap.objs.size (SetO X.w s.heap.objs.size (fun j => decide (j ∈ ns)) c), I.laid (t' := tk) k (Nat.le_refl _) (setO_new R), rfl, q _ c (I.hok.fresh (Nat.le_refl _)) fun ms nd hm => ?_⟩
  exact setR_count R ms nd fun k => by rw [hm k]; simp
def rLenSet (w : World) : List V → Hp → VK → Prop := fun xs H Q => ∃ (a : Addr) (S : Int → Bool) (n : Nat), xs = [V.ref a] ∧ H a = some (SetO w a S n) ∧ Q (.int (n : Nat)) H
theorem cr_lenSet : CallR X (.builtin "len") (rLenSet X.w) := by
  intro pins s σ H xs us Q I r h
  obtain ⟨a, S, n, rfl, ha, q⟩ := h
  rw [Vals.ref1 r]
  obtain ⟨o, es, ep, t, ho, hex, hd, _, _, _, hb, hf, hn, _⟩ := setO_get I ha
  exact call_len_set ho hex hd hf (by unfold scanBound at hb; omega) ⟨.int n, H, I.tok _, ⟨_, by rw [hn]⟩, q⟩
end

/-! ### by data -/
theorem ints_of {G : Hp} : ∀ {vs : List V} {ds : List D} {ns : List Int}, Reps G vs ds → intsOf ds = some ns → vs = ns.map V.int
  | _, _, ns, .nil, h => by simp [intsOf] at h; subst h; rfl
  | _, _, ns, .cons (v := v) (vs := vs) (d := d) (ds := ds) h r, e => by
    cases h with
    | int i =>
      simp only [intsOf, Option.map_eq_some_iff] at e
      obtain ⟨ns', e1, rfl⟩ := e
      rw [ints_of r e1]; rfl
    | _ => simp [intsOf] at e
theorem nubI_mem : ∀ (l : List Int) (x : Int), x ∈ nubI l ↔ x ∈ l
  | [], x => by simp [nubI]
  | y :: l, x => by
    rw [nubI]
    split
    · rename_i h
      rw [nubI_mem l x]
      refine ⟨fun h => List.mem_cons_of_mem _ h, fun h' => ?_⟩
      rcases List.mem_cons.mp h' with rfl | h'
      · simpa using h
      · exact h'
    · rw [List.mem_cons, List.mem_cons, nubI_mem l x]
theorem nubI_nd : ∀ l : List Int, (nubI l).Nodup
  | [] => List.Pairwise.nil
  | y :: l => by
    rw [nubI]
    split
    · exact nubI_nd l
    · rename_i h
      exact List.nodup_cons.mpr ⟨fun h' => h (by simpa using (nubI_mem l y).mp h'), nubI_nd l⟩
theorem sortI_of {l m : List Int} (hm : m.Pairwise (· < ·)) (hp : ∀ k, k ∈ m ↔ k ∈ l) : sortI (nubI l) = m := by
  have nd : m.Nodup := hm.imp fun h e => by omega
  have p : (nubI l).Perm m := (List.perm_ext_iff_of_nodup (nubI_nd l) nd).mpr fun k => by rw [nubI_mem, hp]
  refine List.Perm.eq_of_pairwise (le := fun a b => a ≤ b) (fun a b _ _ h1 h2 => Int.le_antisymm h1 h2) ?_ (hm.imp fun h => Int.le_of_lt h) ((List.mergeSort_perm _ _).trans p)
  have := List.pairwise_mergeSort (le := fun a b : Int => decide (a ≤ b)) (fun a b c h1 h2 => by simp at *; omega) (fun a b => by simp; omega) (nubI l)
  unfold sortI
  simpa using this
theorem scan_few : 4001 < scanBound := by unfold scanBound; omega
section
variable {X : Cx} {W : XW} {a b : Expr} {fa fb : Env → Res Opd} {pos : Pos}
theorem d_sset {p p1 p2 : Pos} (hc : X.calm = true) (hg : Gl X "sorted") (hm : X.mg "sorted" = none) (hg2 : Gl X "set") (hm2 : X.mg "set" = none) (ha : PE X a (rd W fa)) (na : notStar a = true) :
    PE X (.Call (.Name "sorted" p) [.Call (.Name "set" p1) [a] [] p2] [] pos) (rd W (fBi1 .sortedset fa)) := by
  refine (pe_callB (cr_sortedSet hc) hg hm (by decide +kernel) (pa_cons (pe_callTy (cr_setL hc) hg2 hm2 (by decide +kernel) (pa_cons ha pa_nil (star_of na [] X.env)) (by decide) (by decide) (star_of na [] X.env) rfl) pa_nil rfl) (by decide) (by decide) rfl rfl).imp fun σ H Q h => ?_
  obtain ⟨G, ρ, l, en, pp⟩ := h
  refine ⟨G, ρ, l, en, Post.step pp l en fun o1 ρ1 e1 G1 H1 s1 l1 q1 v1 r1 => ?_⟩
  have t := OpdR.top r1 s1.env
  cases q : look o1 ρ1 with
  | lst xs =>
    rw [q] at q1 t
    simp only [bi1] at q1
    cases q2 : intsOf xs with
    | none => rw [q2] at q1; exact False.elim q1
    | some ns =>
      rw [q2] at q1
      simp only [Option.bind_some] at q1
      by_cases z : ns.length ≤ 4000 ∧ (nubI ns).length < 64
      · rw [if_pos z] at q1
        obtain ⟨p', vs, rfl, hrd, rv, zz⟩ := t.lst s1.le
        obtain rfl := ints_of rv q2
        refine ⟨p', ns, rfl, .inl hrd, by have := scan_few; omega, fun p c hp hcount => ?_⟩
        have hc64 : c < 64 := by rw [← hcount (nubI ns) (nubI_nd ns) (nubI_mem ns)]; exact z.2
        refine ⟨p, _, c, rfl, upd_same, hc64, fun ms p3 hms hmem hlen hp3 => ?_⟩
        have n1 := New.mine s1.le hp (SetO X.w p (fun j => decide (j ∈ ns)) c)
        have n2 := New.mine n1.le hp3 (.lst (ms.map V.int))
        have e : sortI (nubI ns) = ms := sortI_of hms fun k => by rw [hmem]; simp
        rw [e] at q1
        refine q1 _ _ (s1.trans ((n1.trans n2).stp s1.env)) l1 _ ((new_lst n1.le hp3 (Reps.ints ms) ?_).opd (s1.trans (n1.stp s1.env)).there)
        rw [List.length_map, hlen]; exact Nat.le_trans (Nat.le_of_lt hc64) (by decide)
      · rw [if_neg z] at q1; exact False.elim q1
  | _ => rw [q] at q1; exact False.elim q1
theorem d_lset {p p1 p2 : Pos} (hc : X.calm = true) (hg : Gl X "len") (hm : X.mg "len" = none) (hg2 : Gl X "set") (hm2 : X.mg "set" = none) (ha : PE X a (rd W fa)) (na : notStar a = true) :
    PE X (.Call (.Name "len" p) [.Call (.Name "set" p1) [a] [] p2] [] pos) (rd W (fBi1 .lenset fa)) := by
  refine (pe_callB cr_lenSet hg hm (by decide +kernel) (pa_cons (pe_callTy (cr_setL hc) hg2 hm2 (by decide +kernel) (pa_cons ha pa_nil (star_of na [] X.env)) (by decide) (by decide) (star_of na [] X.env) rfl) pa_nil rfl) (by decide) (by decide) rfl rfl).imp fun σ H Q h => ?_
  obtain ⟨G, ρ, l, en, pp⟩ := h
  refine ⟨G, ρ, l, en, Post.step pp l en fun o1 ρ1 e1 G1 H1 s1 l1 q1 v1 r1 => ?_⟩
  have t := OpdR.top r1 s1.env
  cases q : look o1 ρ1 with
  | lst xs =>
    rw [q] at q1 t
    simp only [bi1] at q1
    cases q2 : intsOf xs with
    | none => rw [q2] at q1; exact False.elim q1
    | some ns =>
      rw [q2] at q1
      simp only [Option.bind_some] at q1
      by_cases z : ns.length ≤ 4000
      · rw [if_pos z] at q1
        obtain ⟨p', vs, rfl, hrd, rv, zz⟩ := t.lst s1.le
        obtain rfl := ints_of rv q2
        refine ⟨p', ns, rfl, .inl hrd, by have := scan_few; omega, fun p c hp hcount => ?_⟩
        refine ⟨p, _, c, rfl, upd_same, ?_⟩
        have n1 := New.mine s1.le hp (SetO X.w p (fun j => decide (j ∈ ns)) c)
        rw [hcount (nubI ns) (nubI_nd ns) (nubI_mem ns)] at q1
        exact q1 _ _ (s1.trans (n1.stp s1.env)) l1 _ (.int _)
      · rw [if_neg z] at q1; exact False.elim q1
  | _ => rw [q] at q1; exact False.elim q1
/-! ### sum(xss, [..]) -/
def rSumL : List V → Hp → VK → Prop := fun xs H Q => ∃ (a b : Addr) (vs ys : List V) (LL : List (List V)), xs = [V.ref a, V.ref b] ∧ Rd H a (.lst vs) ∧ H b = some (.lst ys) ∧ vs.length = LL.length ∧
  (∀ (i : Nat) (v : V), vs[i]? = some v → ∃ (c : Addr) (zs : List V), v = .ref c ∧ LL[i]? = some zs ∧ Rd H c (.lst zs)) ∧ ys.length + (LL.map List.length).sum ≤ sizeLine ∧
  (LL = [] → Q (.ref b) H) ∧ ∀ p, H p = none → Q (.ref p) (upd H p (.lst (ys ++ LL.flatten)))
theorem pair_app {α β : Type} {F : α → β → Prop} : ∀ {l1 l2 : List α} {m1 m2 : List β}, Paired F l1 m1 → Paired F l2 m2 → Paired F (l1 ++ l2) (m1 ++ m2)
  | _, _, _, _, .nil, h => h
  | _, _, _, _, .cons r t, h => .cons r (pair_app t h)
theorem vals_flat : ∀ {LL : List (List V)} {MM : List (List Value)}, Paired Vals LL MM → Vals LL.flatten MM.flatten
  | _, _, .nil => .nil
  | _, _, .cons r t => by rw [List.flatten_cons, List.flatten_cons]; exact pair_app r (vals_flat t)
theorem paired_len : ∀ {LL : List (List V)} {MM : List (List Value)}, Paired Vals LL MM → LL.length = MM.length ∧ (LL.map List.length).sum = (MM.map List.length).sum
  | _, _, .nil => ⟨rfl, rfl⟩
  | _, _, .cons r t => by
    obtain ⟨h1, h2⟩ := paired_len t
    have := r.length
    exact ⟨by simp [h1], by simp only [List.map_cons, List.sum_cons]; omega⟩
theorem raw_lists {X : Cx} {pins : List (Addr × Obj)} {σ : L2.St} {H : Hp} {s : Shared} (I : L2.Inv X pins σ H s) : ∀ {vs : List V} {LL : List (List V)} {us : List Value}, vs.length = LL.length → Vals vs us →
    (∀ (i : Nat) (v : V), vs[i]? = some v → ∃ (c : Addr) (zs : List V), v = .ref c ∧ LL[i]? = some zs ∧ Rd H c (.lst zs)) →
    ∃ MM, Paired Vals LL MM ∧ ∀ (i : Nat) (l : Value), us[i]? = some l → ∃ (c : Addr) (m : Nat) (xs : List Value), l = Value.ref c ∧ MM[i]? = some xs ∧ s.heap.get? c = some (PySem.rrL xs m)
  | [], [], _, _, .nil, _ => ⟨[], .nil, fun i l h => by simp at h⟩
  | [], _ :: _, _, h, _, _ => by simp at h
  | _ :: _, [], _, h, _, _ => by simp at h
  | v :: vs, zs :: LL, _, hl, .cons (l₂ := us) r t, h => by
    obtain ⟨MM, h1, h2⟩ := raw_lists I (vs := vs) (LL := LL) (by simpa using hl) t (fun i w hw => h (i + 1) w (by simpa using hw))
    obtain ⟨c, zs', rfl, e, hr⟩ := h 0 v rfl
    simp only [List.getElem?_cons_zero, Option.some.injEq] at e
    subst e
    obtain ⟨_, its, n, rv, _, hg⟩ := Inv.lstR I hr
    cases r
    refine ⟨its :: MM, .cons rv h1, fun i l hi => ?_⟩
    cases i with
    | zero =>
      simp only [List.getElem?_cons_zero, Option.some.injEq] at hi
      exact ⟨c, n, its, hi.symm, rfl, hg⟩
    | succ i => exact h2 i l (by simpa using hi)
theorem cr_sumL {X : Cx} (hc : X.calm = true) : CallR X (.builtin "sum") rSumL := by
  intro pins s σ H xs us Q I r h
  obtain ⟨a, b, vs, ys, LL, rfl, ha, hb, hl, hLL, hz, q0, q⟩ := h
  cases r with
  | cons ra r =>
    cases r with
    | cons rb r =>
      cases r
      cases ra
      cases rb
      obtain ⟨_, its, m, rv, _, hga⟩ := Inv.lstR I ha
      obtain ⟨_, its2, m2, rv2, _, hgb⟩ := Inv.lstR I (.inl hb)
      obtain ⟨MM, pm, hMM⟩ := raw_lists I hl rv hLL
      obtain ⟨l1, l2⟩ := paired_len pm
      refine PySem.rr_sum (I.ok.hd hc) hga hgb (by rw [← rv.length, hl, l1]) hMM (by rw [← rv2.length, ← l2]; exact hz) fun h' tk T n k hT cs => ?_
      rcases cs with ⟨rfl, e⟩ | hn
      · have e' : LL = [] := by rw [e] at l1; exact List.length_eq_zero_iff.mp l1
        exact ⟨.ref T, H, I.kept (t' := tk) k, rfl, q0 e'⟩
      · have hp : H T = none := I.hok.fresh hn
        have hv : Vals (ys ++ LL.flatten) (its2 ++ MM.flatten) := pair_app rv2 (vals_flat pm)
        have hlen : (ys ++ LL.flatten).length ≤ sizeLine := by rw [List.length_append, List.length_flatten]; exact hz
        exact ⟨.ref T, upd H T (.lst (ys ++ LL.flatten)), I.laid (o := .lst (ys ++ LL.flatten)) (t' := tk) k hn ⟨hlen, _, n, hv, hT⟩, rfl, q T hp⟩
end
end RR

/-! A33: sum by data; names stored through a tuple. -/
namespace RR
open PySem L2 PySem.Spec PyProof.Rows
theorem lists_of {G H : Hp} (l : Le G H) : ∀ {vs : List V} {ds : List D} {ls : List (List D)}, Reps G vs ds → listsOf ds = some ls → ∃ LL : List (List V), vs.length = LL.length ∧
    (∀ (i : Nat) (v : V), vs[i]? = some v → ∃ (c : Addr) (zs : List V), v = .ref c ∧ LL[i]? = some zs ∧ Rd H c (.lst zs)) ∧ Reps G LL.flatten ls.flatten ∧ LL.map List.length = ls.map List.length
  | _, _, ls, .nil, h => by
    simp [listsOf] at h
    subst h
    exact ⟨[], rfl, fun i v h => by simp at h, .nil, rfl⟩
  | _, _, ls, .cons (v := v) (vs := vs) (d := d) (ds := ds) h r, e => by
    cases h with
    | @lst a us xs h r' z =>
      simp only [listsOf, Option.map_eq_some_iff] at e
      obtain ⟨ls', e1, rfl⟩ := e
      obtain ⟨LL, h1, h2, h3, h4⟩ := lists_of l r e1
      refine ⟨us :: LL, by simp [h1], fun i v hi => ?_, by rw [List.flatten_cons, List.flatten_cons]; exact r'.append h3, by simp [h4, r'.length]⟩
      cases i with
      | zero =>
        simp only [List.getElem?_cons_zero, Option.some.injEq] at hi
        exact ⟨a, us, hi.symm, rfl, (l _ _ h).1⟩
      | succ i => exact h2 i v (by simpa using hi)
    | _ => simp [listsOf] at e
theorem sum_dct (x : D) (k : Nat) (kvs : List (D × D)) : bi2 .sum2 x (.dct k kvs) = none := by cases x <;> rfl
section
variable {X : Cx} {W : XW} {a b : Expr} {fs : Env → Res (List Opd)} {pos : Pos}
theorem d_sum2 {p : Pos} (hc : X.calm = true) (hg : Gl X "sum") (hm : X.mg "sum" = none) (ha : PA X [a, b] (rdA W fs)) (shape : ∀ ρ os ρ', fs ρ = .ok os ρ' → ∃ o d, os = [o, .own d]) (na : notStar a = true) (nb : notStar b = true) :
    PE X (.Call (.Name "sum" p) [a, b] [] pos) (rd W (fBi (biD .sum2) fs)) := by
  refine (pe_callB (cr_sumL hc) hg hm (by decide +kernel) ha (by decide) (by decide) (star_of na [b] X.env) (back_of (es := [b]) (by simpa using nb) X.env pos)).imp fun σ H Q h => ?_
  obtain ⟨G, ρ, l, en, pp⟩ := h
  refine ⟨G, ρ, l, en, Post.step pp l en fun os ρ1 e1 G1 H1 s1 l1 q1 vs rs => ?_⟩
  obtain ⟨o, d, rfl⟩ := shape ρ os ρ1 e1
  cases rs with
  | @cons v1 _ _ _ f1 rs ne =>
    cases rs with
    | @cons v2 _ _ _ f2 rs _ =>
      cases rs
      have t1 := f1.top s1.env
      obtain ⟨b', rfl, n2, g2, ow⟩ := f2
      simp only [looks, List.map_cons, List.map_nil, look] at q1
      have q1' : Post W σ ρ G H (okO (bi2 .sum2 (look o ρ1) d) ρ1) (fun o ρ' G' H' => ∀ v, OpdR H σ ρ' G' H' v o → Q v H') := q1
      cases ow with
      | @lst ys ds hb rb zb =>
        cases q : look o ρ1 with
        | lst xs =>
          rw [q] at q1' t1
          simp only [bi2] at q1'
          cases q2 : listsOf xs with
          | none => rw [q2] at q1'; exact False.elim q1'
          | some ls =>
            rw [q2] at q1'
            simp only [Option.bind_some] at q1'
            by_cases z : (ls.map List.length).sum + ds.length ≤ LINE
            · rw [if_pos z] at q1'
              obtain ⟨p', us, rfl, hrd, rv, _⟩ := t1.lst s1.le
              obtain ⟨LL, h1, h2, h3, h4⟩ := lists_of s1.le rv q2
              have hz : ys.length + (LL.map List.length).sum ≤ sizeLine := by rw [h4, rb.length, ← line_eq]; omega
              have hlen : (ds ++ ls.flatten).length ≤ LINE := by rw [List.length_append, List.length_flatten]; omega
              refine ⟨p', b', us, ys, LL, rfl, hrd, hb, h1, h2, hz, fun e0 => ?_, fun p3 hp3 => ?_⟩
              · have e1 : ls = [] := by
                  rw [e0] at h4
                  simpa using h4.symm
                subst e1
                rw [List.flatten_nil, List.append_nil] at q1'
                exact q1' G1 H1 s1 l1 _ ⟨b', rfl, n2, g2, .lst hb rb zb⟩
              · have n1 := New.mine s1.le hp3 (.lst (ys ++ LL.flatten))
                exact q1' _ _ (s1.trans (n1.stp s1.env)) l1 _ ((new_lst s1.le hp3 (rb.append h3) hlen).opd s1.there)
            · rw [if_neg z] at q1'; exact False.elim q1'
        | _ => rw [q] at q1'; exact False.elim q1'
      | dct0 _ _ _ _ => rw [sum_dct] at q1'; exact False.elim q1'
      | dct1 _ _ _ _ => rw [sum_dct] at q1'; exact False.elim q1'
end

/-! ### names stored through a tuple -/
def setsO (ρ : Env) (ps : List (Nat × Opd)) : Env := ps.foldl (fun ρ p => setS ρ p.1 (slO p.2)) ρ
theorem setsO_comm : ∀ (ps : List (Nat × Opd)) (ρ : Env) (i : Nat) (s : Sl), (∀ p ∈ ps, p.1 ≠ i) → setsO (setS ρ i s) ps = setS (setsO ρ ps) i s
  | [], ρ, i, s, _ => rfl
  | p :: ps, ρ, i, s, h => by
    show setsO (setS (setS ρ i s) p.1 (slO p.2)) ps = setS (setsO (setS ρ p.1 (slO p.2)) ps) i s
    rw [setS_comm (fun e => h p (List.mem_cons_self ..) e.symm), setsO_comm ps _ i s fun q hq => h q (List.mem_cons_of_mem _ hq)]
theorem putOs_sets : ∀ {is : List Nat} {os : List Opd} {ρ ρ' : Env}, is.Nodup → putOs is os ρ = some ρ' → is.length = os.length ∧ ρ' = setsO ρ (is.zip os)
  | [], [], ρ, ρ', _, h => by simp [putOs] at h; subst h; exact ⟨rfl, rfl⟩
  | [], _ :: _, ρ, ρ', _, h => by simp [putOs] at h
  | _ :: _, [], ρ, ρ', _, h => by simp [putOs] at h
  | i :: is, o :: os, ρ, ρ', nd, h => by
    obtain ⟨ρ1, h1, rfl⟩ := putOs_cons h
    rw [List.nodup_cons] at nd
    obtain ⟨h2, rfl⟩ := putOs_sets nd.2 h1
    refine ⟨by simp [h2], ?_⟩
    show _ = setsO (setS ρ i (slO o)) (is.zip os)
    rw [setsO_comm]
    intro p hp e
    have := (List.of_mem_zip (show (p.1, p.2) ∈ is.zip os from hp)).1
    rw [e] at this
    exact nd.1 this
theorem names_put {σ0 σx : L2.St} {ρ0 ρx : Env} {G0 H0 G1 H1 : Hp} {is : List Nat} : ∀ {vs : List V} {os : List Opd} {σ1 : L2.St} {ρ1 : Env} {R : L2.St → Hp → Prop}, is.length = os.length → (∀ o ∈ os, NPl o) → OpdsF H0 σx ρx G1 H1 vs os → Stp σ0 ρ0 G0 H0 σ1 ρ1 G1 H1 →
    (∀ (j : Nat) (a : Addr) (d : D), os[j]? = some (.own d) → vs[j]? = some (.ref a) → ¬ Mu σ1 ρ1 a) → (∀ σ2, Stp σ0 ρ0 G0 H0 σ2 (setsO ρ1 (is.zip os)) G1 H1 → (∀ j, inTg is j = false → σ2[j]? = σ1[j]?) → σ2.length = σ1.length → R σ2 H1) → gNames is vs σ1 H1 R := by
  induction is with
  | nil =>
    intro vs os σ1 ρ1 R hl np r s fr k
    cases r with
    | nil => exact ⟨rfl, k σ1 s (fun _ _ => rfl) rfl⟩
    | cons _ _ _ => simp at hl
  | cons i is ih =>
    intro vs os σ1 ρ1 R hl np r s fr k
    cases r with
    | nil => simp at hl
    | @cons v vs o os f r ne =>
      have npo := np o (List.mem_cons_self ..)
      have t1 := put1' (i := i) s npo (opd_np npo f) (fun a d ea eo => fr 0 a d (by simp [eo]) (by simp [ea]))
      refine ⟨v, vs, rfl, ?_⟩
      refine ih (by simpa using hl) (fun o' h' => np o' (List.mem_cons_of_mem _ h')) r t1 (fun j a d hj ha mu => ?_) fun σ2 s2 off l2 => k σ2 s2 (fun j hj => ?_) (by rw [l2, List.length_set])
      · rcases mu_set s.env.len mu with z | ⟨z, d', zo⟩
        · exact fr (j + 1) a d (by simpa using hj) (by simpa using ha) z
        · exact ne a d' z zo j d hj ha
      · have hj2 : inTg is j = false := by
          unfold inTg at hj ⊢
          rw [List.any_cons, Bool.or_eq_false_iff] at hj
          exact hj.2
        have hij : ¬ i = j := by
          unfold inTg at hj
          rw [List.any_cons, Bool.or_eq_false_iff] at hj
          simpa using hj.1
        rw [off j hj2, set_get, if_neg (fun z => hij z.1)]
theorem OpdsF.heap {H : Hp} {σ : L2.St} {ρ : Env} {G H1 H2 : Hp} (k : ∀ a u, H1 a = some u → H2 a = some u) {vs : List V} {os : List Opd} (r : OpdsF H σ ρ G H1 vs os) : OpdsF H σ ρ G H2 vs os := by
  induction r with
  | nil => exact .nil
  | @cons v vs o os h r ne ih =>
    refine .cons ?_ ih ne
    cases o with
    | val d => exact h
    | pl i => exact h
    | own d =>
      obtain ⟨a, rfl, n, g, ow⟩ := h
      exact ⟨a, rfl, n, g, ow.mono (Mo.refl G) (k a)⟩
theorem OpdsF.len {H : Hp} {σ : L2.St} {ρ : Env} {G H1 : Hp} {vs : List V} {os : List Opd} (r : OpdsF H σ ρ G H1 vs os) : vs.length = os.length := by
  induction r with
  | nil => rfl
  | cons _ _ _ ih => simp [ih]
theorem s_parT {X : Cx} {W : XW} {fix : Fix} {fs : Env → Res (List Opd)} {pos : Pos} {tgE : Expr} {vs : List Expr} {k2 : Nat} {pt2 : Pos} {is : List Nat} (h2 : 2 ≤ is.length) (nd : is.Nodup) (ha : PA X vs (rdA W fs)) (hg : PG X tgE (gT X.K is))
    (hlen : ∀ ρ os ρ', fs ρ = .ok os ρ' → os.length ≤ LINE) (hs : swapsWithSole [tgE] (.Tuple vs k2 pt2) pos.line X.env = pure false) (hw : swappedStores [tgE] (.Tuple vs k2 pt2) X.env = pure none)
    (h1 : (assignEach [tgE] X.env).map (·.2) = [assign tgE X.env]) (hi : ∀ j, inTg is j = true → fix j = false) :
    PS X (.Assign [tgE] (.Tuple vs k2 pt2) pos) (rdS W fix fun ρ => (fs ρ).out fun os ρ1 => outO (putOs is (os.map (unpl ρ1)) (fzs os ρ1))) := by
  refine (ps_asg (pe_tup ha) hg hs hw h1).imp fun D σ H q => ?_
  obtain ⟨G, ρ, l, en, p⟩ := q
  refine ⟨G, ρ, l, en, PostS.outR p (Stp.refl l en) fun os ρ1 G1 H1 e1 s1 l1 p1 us rs => ?_⟩
  obtain ⟨ρ2, hb, p2⟩ := outO_ok p1
  obtain ⟨G2, m, s2, le2, r2, _⟩ := fz_pl en ρ1 (fun _ => rfl) s1 l1 rs
  obtain ⟨e2, rfl⟩ := putOs_sets nd hb
  have ul := rs.len
  have z := hlen ρ os ρ1 e1
  refine ⟨by rw [ul, ← line_eq]; exact z, fun a ha' => ?_⟩
  have n := New.mine s2.le ha' (.tup us)
  have s3 := s2.trans (n.stp s2.env)
  have g : gTup X.K is.length (gNames is) (.ref a) σ (upd H1 a (.tup us)) D.nx := by
    refine ⟨a, us, rfl, .inl (.inl upd_same), by rw [ul, e2, List.length_map], ?_⟩
    refine names_put (ρ1 := fzs os ρ1) e2 (fun o ho => ?_) (r2.heap (keep_upd ha' _)) s3 (fun j b d hj hbj mu => ?_) fun σ2 st off l2 => ?_
    · obtain ⟨o', _, rfl⟩ := List.mem_map.mp ho
      exact unpl_np ρ1 o'
    · obtain ⟨w, hw, f⟩ := r2.get hj
      rw [hbj] at hw
      cases hw
      exact fresh_nomu en (l1.trans le2) f b d rfl rfl mu
    · refine p2 σ2 G2 _ st (by rw [l2]) fun j hj => off j ?_
      cases q : inTg is j with
      | false => rfl
      | true => rw [hi j q] at hj; cases hj
  cases is with
  | nil => cases h2
  | cons i is =>
    cases is with
    | nil => simp at h2
    | cons j is => exact g
end RR

/-! A34: dict comprehensions, keys ints or texts. -/
namespace RR
open PySem L2

def fKv (fk fv : Env → Res Opd) : Env → Res (D × D) := fun ρ => (fk ρ).bind fun x ρ2 => (fv ρ2).bind fun y ρ3 => .ok (look x ρ3, look y ρ3) (fz y ρ3)
def fDcomp (kind : Nat) (tg : List Nat) (sk : SK) (fsrc : Env → Res (List Opd)) (fk fv : Env → Res Opd) : Env → Res Opd := fun ρ => (fsrc ρ).bind fun os ρ1 => match itemsOf sk (looks os ρ1) with
    | none => .bad
    | some items =>
      (noX (dcompF kind (fun d ρ => bindT tg d (wipeS tg ρ)) (fKv fk fv) items [] (fzs os ρ1))).bind fun ds ρ2 =>
        .ok (.own (.dct kind ds)) (backS tg (fzs os ρ1) ρ2)
theorem dcompF_cons {kind : Nat} {bind : D → Env → Option Env} {fk fv : Env → Res Opd} {x : D} {xs : List D} {acc ds : List (D × D)} {ρ ρf : Env} (h : dcompF kind bind (fKv fk fv) (x :: xs) acc ρ = .ok ds ρf) :
    ∃ ρ1 a ρ2 b ρ3, bind x ρ = some ρ1 ∧ fk ρ1 = .ok a ρ2 ∧ fv ρ2 = .ok b ρ3 ∧ keyK kind (look a ρ3) = true ∧ acc.length < LINE ∧ dcompF kind bind (fKv fk fv) xs (dput acc (look a ρ3) (look b ρ3)) (fz b ρ3) = .ok ds ρf := by
  rw [dcompF] at h
  cases q : bind x ρ with
  | none => rw [q] at h; cases h
  | some ρ1 =>
    rw [q] at h
    simp only [fKv] at h
    cases q2 : fk ρ1 with
    | bad => rw [q2] at h; cases h
    | exc y ρ2 => rw [q2] at h; cases h
    | ok a ρ2 =>
      rw [q2] at h
      simp only [Res.bind] at h
      cases q3 : fv ρ2 with
      | bad => rw [q3] at h; cases h
      | exc y ρ3 => rw [q3] at h; cases h
      | ok b ρ3 =>
        rw [q3] at h
        simp only at h
        split at h
        · rename_i hc
          exact ⟨ρ1, a, ρ2, b, ρ3, rfl, q2, q3, hc.1, hc.2, h⟩
        · cases h
section
variable {σ σ' : L2.St} {ρ ρ' : Env} {G H G' H' : Hp} {L : Addr}
theorem stp_offK {o0 : HO} (nt : ∀ us, o0 ≠ .tup us) (s : Stp σ ρ G H σ' ρ' G' H') (g : G L = none) (n : ¬ Mu σ ρ L) (h : H L = some o0) : H' L = some o0 ∧ G' L = none := by
  have h' := s.keep L _ h n
  refine ⟨h', ?_⟩
  cases q : G' L with
  | none => rfl
  | some w =>
    rcases s.fresh L g (by rw [q]; simp) with z | z | ⟨us, z⟩
    · rw [h] at z; cases z
    · exact absurd z n
    · have := (s.le L _ z).2 us rfl
      rw [h'] at this; exact absurd (Option.some.inj this) (nt us)
theorem mask_stpK {o0 : HO} (nt : ∀ us, o0 ≠ .tup us) (s : Stp σ ρ G H σ' ρ' G' H') (g : G L = none) (n : ¬ Mu σ ρ L) (h : H L = some o0) : Stp σ ρ G (mask H L) σ' ρ' G' (mask H' L) := by
  obtain ⟨h', g'⟩ := stp_offK nt s g n h
  have n' : ¬ Mu σ' ρ' L := fun m => by
    rcases s.mine L m with z | z
    · exact n z
    · rw [h] at z; cases z
  refine ⟨s.mono, mask_le s.le g', fun a o ha nm => ?_, fun a ha h2 => ?_, fun a o ha => ?_, ⟨s.env.len, s.env.val, fun i d hi => ?_, s.env.inj⟩, fun a m => ?_⟩
  · obtain ⟨e, ha⟩ := mask_some ha
    rw [mask_ne e]; exact s.keep a o ha nm
  · rcases s.fresh a ha h2 with z | z | z
    · left
      by_cases e : a = L
      · subst e; exact mask_at H a
      · rw [mask_ne e]; exact z
    · exact .inr (.inl z)
    · exact .inr (.inr z)
  · obtain ⟨e, ha⟩ := mask_some ha
    obtain ⟨o', ho⟩ := s.there a o ha
    exact ⟨o', by rw [mask_ne e]; exact ho⟩
  · obtain ⟨a, ha, ga, oa⟩ := s.env.own i d hi
    have e : a ≠ L := fun z => n' (by subst z; exact ⟨i, d, hi, ha⟩)
    exact ⟨a, ha, ga, oa.mono (Mo.refl _) fun u hu => by rw [mask_ne e]; exact hu⟩
  · rcases s.mine a m with z | z
    · exact .inl z
    · right
      by_cases e : a = L
      · subst e; exact mask_at H a
      · rw [mask_ne e]; exact z
end
section
variable {X : Cx} {W : XW} {tgE iter kx vx : Expr} {ifs : List Expr} {fsrc : Env → Res (List Opd)} {fk fv : Env → Res Opd} {sk : SK} {pos : Pos} {tg : List Nat} {own : List (Str × Nat)} {scope : Scope}
theorem dcomp_read {vs : List Nat} (hv : tg = vs) {σ : L2.St} {H : Hp} {Q : VK} (h : rd W (fDcomp 0 tg sk fsrc fk fv) σ H Q) :
    tDc (rdI W sk fsrc) (gT X.K tg) (rdT W.nox fun ρ => .ok true ρ) (rd W.nox fk) (rd W.nox fv) vs σ H Q := by
  subst hv
  obtain ⟨G, ρ, l, en, p⟩ := h
  refine ⟨G, ρ, l, en, Post.step p l en fun os ρ1 e1 G1 H1 s1 l1 p1 us rs => ?_⟩
  cases hi : itemsOf sk (looks os ρ1) with
  | none => rw [hi] at p1; exact False.elim p1
  | some items =>
    rw [hi] at p1
    simp only at p1
    refine ⟨items, rfl, fun J S hS wk L hL => ?_⟩
    have hlen := items_len s1.le (rs.tops s1.env) hi
    obtain ⟨G2, aw⟩ := away_ok (hide := false) en s1 l1 rs
    have af : away false os ρ1 = fzs os ρ1 := rfl
    cases hr : dcompF 0 (fun d ρ => bindT tg d (wipeS tg ρ)) (fKv fk fv) items [] (fzs os ρ1) with
    | bad => rw [hr] at p1; exact False.elim p1
    | exc x ρ9 => rw [hr] at p1; exact False.elim p1
    | ok dsf ρf =>
      rw [hr] at p1
      replace p1 : Post W σ ρ G H (.ok (.own (.dct 0 dsf)) (backS tg (fzs os ρ1) ρf)) (fun o ρ' G' H' => ∀ v, OpdR H σ ρ' G' H' v o → Q v H') := p1
      obtain ⟨aMono, aLe, aEnv, aFwd, aOff, aBack, aBle⟩ := aw
      have ag : ∀ ρx, again false os ρ1 ρx = ρx := fun _ => rfl
      rw [af] at aEnv aFwd aOff aBack aBle
      generalize fzs os ρ1 = ρs at *
      let σw := wipe σ tg
      have hs : ∀ j, inTg tg j = false → σw[j]? = σ[j]? := fun j hj => by
        show (wipe σ tg)[j]? = _
        rw [wipe_get, if_neg (fun z => by rw [inTg_mem.mpr z] at hj; cases hj)]
      have hl : σw.length = σ.length := wipe_length σ tg
      have hG2L : G2 L = none := by
        cases q : G2 L with
        | none => rfl
        | some w => exact absurd hL (rd_some (aLe L w q).1)
      have e0 : EnvR G2 H1 σw (wipeS tg ρs) := (hid_wipe tg ρs).env hs hl aEnv
      refine ⟨fun i m Hc => m = items.length - i ∧ i ≤ items.length ∧ ∃ ρi Gi kks uus accD, dcompF 0 (fun d ρ => bindT tg d (wipeS tg ρ)) (fKv fk fv) (items.drop i) accD ρi = .ok dsf ρf ∧ ρi.length = ρs.length ∧ Stp σw (wipeS tg ρs) G2 H1 σw (wipeS tg ρi) Gi (mask Hc L) ∧
        Hc L = some (.dK (List.zip kks uus)) ∧ Reps Gi uus (accD.map (·.2)) ∧ accD.map (fun p => keyOf p.1) = kks.map some ∧ accD.length ≤ i ∧ Gi L = none ∧ EnvLe (wipeS tg ρs) (wipeS tg ρi), ⟨items.length, by simp, Nat.zero_le _, ρs, G2, [], [], [], by rw [List.drop_zero]; exact hr, rfl, ?_, upd_same, .nil, rfl, Nat.zero_le _, hG2L, EnvLe.refl _⟩, ?_⟩
      · rw [mask_upd, mask_none hL]
        exact Stp.refl aLe e0
      · rintro i m Hc ⟨rfl, hin, ρi, Gi, kks, uus, accD, hcomp, hρl, st, hLc, rv, hkm, hacc, hGL, le0⟩
        have agree : ∀ a, S a → Hc a = H1 a := fun a ha => by
          obtain ⟨h1, h2⟩ := hS a ha
          have ne : a ≠ L := fun z => by subst z; exact h2 hL
          cases q : H1 a with
          | none => exact absurd q h2
          | some o =>
            have := st.keep a o q (fun mu => aOff a h1 ((hid_wipe tg ρs).mu hs mu))
            rw [mask_ne ne] at this
            exact this
        by_cases hlt : i < items.length
        · right
          have hd : items[i]? = some items[i] := List.getElem?_eq_getElem hlt
          refine ⟨wk.go i hlt Hc agree, fun H' => ∃ ρi Gi kks uus accD, dcompF 0 (fun d ρ => bindT tg d (wipeS tg ρ)) (fKv fk fv) (items.drop (i + 1)) accD ρi = .ok dsf ρf ∧ ρi.length = ρs.length ∧ Stp σw (wipeS tg ρs) G2 H1 σw (wipeS tg ρi) Gi (mask H' L) ∧
            H' L = some (.dK (List.zip kks uus)) ∧ Reps Gi uus (accD.map (·.2)) ∧ accD.map (fun p => keyOf p.1) = kks.map some ∧ accD.length ≤ i + 1 ∧ Gi L = none ∧ EnvLe (wipeS tg ρs) (wipeS tg ρi), fun H' hH' => ⟨items.length - (i + 1), by omega, rfl, hlt, hH'⟩, fun x H' hy => ?_⟩
          rw [List.drop_eq_getElem_cons hlt] at hcomp
          obtain ⟨ρa, oa, ρb, ob, ρc, hb, hka, hvb, hkey, hroom, hrest⟩ := dcompF_cons hcomp
          have leC : Le Gi Hc := unmask_le st.le
          have eC : EnvR Gi Hc σw (wipeS tg ρi) := unmask_env st.env
          have nL : ¬ Mu σw (wipeS tg ρi) L := mask_nomu st.env
          obtain ⟨G', nw, rx⟩ := wk.yld i _ hd Gi Hc x H' (aMono.trans st.mono) leC agree hy
          have st1 : Stp σw (wipeS tg ρi) Gi Hc σw (wipeS tg ρi) G' H' := nw.stp eC
          refine bind_step (σ := σw) (ρ := wipeS tg ρi) (G := Gi) (H := Hc) X.K hb rx st1 fun σ2 st2 off on l2 => ?_
          have w2 : wipe σ2 tg = wipe (wipe σ tg) tg := wipe_same l2 fun j hj => by
            refine (off j (by cases z : inTg tg j with | false => rfl | true => exact absurd (inTg_mem.mp z) hj)).1.trans ?_
            show (wipe σ tg)[j]? = _
            rw [wipe_get (wipe σ tg), if_neg hj]
          have w3 : wipe (wipe σ tg) tg = wipe σ tg := wipe_same (wipe_length σ tg) fun j hj => rfl
          refine ⟨w2.trans w3, ?_⟩
          have hidA : Hid (inTg tg) ρa (wipeS tg ρi) := by
            have L1 := st2.env.len
            have L2 := eC.len
            refine ⟨L2.symm.trans (l2.symm.trans L1), (hid_wipe tg ρi).out, fun j hj => ((off j hj).2).symm⟩
          have fin : ∀ {ρz : Env} {Gz Hz : Hp}, Stp σ2 ρa G' H' σ2 ρz Gz Hz → EnvLe ρa ρz →
              ρz.length = ρs.length ∧ Stp σw (wipeS tg ρs) G2 H1 σw (wipeS tg ρz) Gz (mask Hz L) ∧ Hz L = some (.dK (List.zip kks uus)) ∧ Mo Gi Gz ∧ Gz L = none ∧ EnvLe (wipeS tg ρs) (wipeS tg ρz) := fun {ρz Gz Hz} sz lz => by
            have b1 : Stp σw (wipeS tg ρi) G' H' σw (wipeS tg ρz) Gz Hz := Hid.both hidA (hid_wipe tg ρz) (fun j hj => ((off j hj).1).symm) l2.symm on sz
            have b2 := st1.trans b1
            obtain ⟨o1, o2⟩ := stp_offK (fun _ z => by cases z) b2 hGL nL hLc
            refine ⟨?_, st.trans (mask_stpK (fun _ z => by cases z) b2 hGL nL hLc), o1, b2.mono, o2, le0.trans (hid_le hidA (hid_wipe tg ρz) lz)⟩
            have q1 := sz.env.len
            have q2 := st2.env.len
            have q3 := eC.len
            have q4 := (hid_wipe tg ρi).len
            exact q1.symm.trans (l2.trans (q3.trans (q4.trans hρl)))
          refine ⟨G', ρa, st2.le, st2.env, fun G3 H3 s3 l3 => ?_⟩
          simp only [↓reduceIte]
          refine ⟨G3, ρa, s3.le, s3.env, ?_⟩
          rw [hka]
          intro G4 H4 s4 l4 y ry
          refine ⟨G4, ρb, s4.le, s4.env, ?_⟩
          rw [hvb]
          intro G5 H5 s5 l5 z rz
          have ty : Top G5 H5 y (look oa ρc) := OpdR.seen s3.env s4 l4 ry s5 l5
          obtain ⟨G6, m6, r6, s6, le6, _⟩ := fz_one s5 s4.env l5 (opd_f rz)
          obtain ⟨f1, f2, f3, f4, f5, f6⟩ := fin (s3.trans (s4.trans s6)) (l3.trans (l4.trans (l5.trans le6)))
          have rk := key_rep ty hkey
          obtain ⟨key, hkk⟩ := key0_of (show key0 (look oa ρc) = true by simpa [keyK] using hkey)
          have hy := rk.key hkk
          obtain ⟨ks', us', g1, g2, g3⟩ := putK_zip (kf := keyOf) (G := G6) eqD_key0 hkk r6 (rv.mono f4) hkm
          refine ⟨_, key, hy, f3, ?_, fz ob ρc, G6, ks', us', dput accD (look oa ρc) (look ob ρc), hrest, f1, ?_, by rw [upd_same, g1], g2, g3, ?_, f5, f6⟩
          · rw [dct_len rv hkm, ← line_eq]; omega
          · rw [mask_upd]; exact f2
          · have := dput_len accD (look oa ρc) (look ob ρc); omega
        · left
          have e : i = items.length := by omega
          subst e
          refine ⟨wk.stop Hc agree, ?_⟩
          rw [List.drop_length, dcompF] at hcomp
          cases hcomp
          have len0 := aEnv.len
          have b1 : Stp σ ρs G2 H1 σ (backS tg ρs ρf) Gi (mask Hc L) := by
            refine (hid_wipe tg ρs).show aEnv hs st hl.symm (fun _ _ => rfl) (fun j hj => (hs j hj).symm) ?_ (fun j hj => ?_) (fun j hj => ?_)
            · rw [(getS_back tg ρs ρf 0).1, (hid_wipe tg ρf).len]
            · rw [(getS_back tg ρs ρf j).2 hρl.symm, if_pos hj]
            · rw [(getS_back tg ρs ρf j).2 hρl.symm, if_neg (by rw [hj]; decide), (hid_wipe tg ρf).same j hj]
          have b2 := aBack σ (backS tg ρs ρf) Gi (mask Hc L) b1 rfl (fun _ _ _ => rfl)
          rw [ag] at b2
          have n1 := New.mine b2.le (mask_at Hc L) (.dK (List.zip kks uus))
          rw [upd_mask hLc] at n1
          have b3 := b2.trans (n1.stp b2.env)
          refine p1 Gi Hc b3 ?_ _ ⟨L, rfl, ?_, hGL, .dct0 hLc rv hkm (by omega)⟩
          · have z9 := aBle (backS tg ρs ρf) ?_ (fun j => ?_)
            · rw [ag] at z9; exact z9
            · rw [(getS_back tg ρs ρf 0).1, hρl]
              have z1 := s1.env.len
              omega
            · rw [(getS_back tg ρs ρf j).2 hρl.symm]
              by_cases q : inTg tg j = true
              · rw [if_pos q]; exact SlLe.refl _
              · rw [if_neg q]
                have z := le0 j
                rw [(hid_wipe tg ρs).same j (by simpa using q), (hid_wipe tg ρf).same j (by simpa using q)] at z
                exact z
          · cases q : H L with
            | none => rfl
            | some w => obtain ⟨w', hw'⟩ := s1.there L w q; rw [hL] at hw'; cases hw'
theorem d_dcomp (hc : X.calm = true) (hN : X.N.Nodup) (hi : PI X tgE iter (rdI W sk fsrc)) (ok : BlkOk X.N X.env.scope scope own) (hown : own.map (·.2) = tg)
    (hg : ∀ (s : Shared) (H : Hp) (C : Addr) (cl : List (Str × Addr)) (fp : List Addr), PG (X.blk s H scope (compEnvC scope cl C X.env) fp) tgE (gT X.K tg))
    (ht : ∀ (s : Shared) (H : Hp) (C : Addr) (cl : List (Str × Addr)) (fp : List Addr), PTs (X.blk s H scope (compEnvC scope cl C X.env) fp) ifs (rdT W.nox fun ρ => .ok true ρ))
    (hk : ∀ (s : Shared) (H : Hp) (C : Addr) (cl : List (Str × Addr)) (fp : List Addr), PE (X.blk s H scope (compEnvC scope cl C X.env) fp) kx (rd W.nox fk))
    (he : ∀ (s : Shared) (H : Hp) (C : Addr) (cl : List (Str × Addr)) (fp : List Addr), PE (X.blk s H scope (compEnvC scope cl C X.env) fp) vx (rd W.nox fv)) (hset : notSet iter = true) :
    PE X (.DictComp kx vx [⟨tgE, iter, ifs, 0⟩] scope pos) (rd W (fDcomp 0 tg sk fsrc fk fv)) :=
  (pe_dc hc hN hi ok hg ht hk he (fs_of hset X.env)).imp fun σ H Q h => dcomp_read hown.symm h
end
end RR

/-! A35: new dicts. -/
namespace RR
open PySem L2
def fDict (kind : Nat) (fs : Env → Res (List Opd)) : Env → Res Opd := fun ρ => (fs ρ).bind fun os ρ1 => match pairsOf (looks os ρ1) with
    | none => .bad
    | some ps => if ps.all (fun p => keyK kind p.1) ∧ ps.length ≤ 15 then .ok (.own (.dct kind (dputs [] ps))) (fzs os ρ1) else .bad
section
variable {X : Cx} {W : XW} {pos : Pos}
theorem d_dict0 : PE X (.Dict [] [] pos) (rd W (fDict 0 fNil)) := by
  refine pe_dnewK.imp fun σ H Q h => ?_
  obtain ⟨G, ρ, l, en, p⟩ := h
  intro a ha
  have n := New.mine l ha (.dK [])
  exact p _ _ (n.stp en) (EnvLe.refl _) _ ⟨a, rfl, ha, Le.none l ha, .dct0 (ks := []) (us := []) upd_same .nil rfl (Nat.zero_le _)⟩
theorem d_dict1 : PE X (.Dict [] [] pos) (rd W (fDict 1 fNil)) := by
  refine pe_dnewT.imp fun σ H Q h => ?_
  obtain ⟨G, ρ, l, en, p⟩ := h
  intro a ha
  have n := New.mine l ha (.dT [])
  exact p _ _ (n.stp en) (EnvLe.refl _) _ ⟨a, rfl, ha, Le.none l ha, .dct1 (ks := []) (us := []) upd_same .nil rfl (Nat.zero_le _)⟩
end
end RR

/-! A36: name = {.. for ..}. -/
namespace RR
open PySem L2 PySem.Spec PyProof.Rows
section
variable {X : Cx} {W : XW} {fix : Fix} {pos : Pos}
theorem rr_setDc {i : Nat} {y : Str} {py spos : Pos} {kx vx tgE iter : Expr} {ifs : List Expr} {scope : Scope} {own : List (Str × Nat)} {wi : TI} {g : TG} {tt : TT} {tk tv : TE} (hc : X.calm = true) (hN : X.N.Nodup) (hy : X.N[i]? = some y) (hyl : X.env.scope.names.lookup y = some .local)
    (hsw : swapsWith (.DictComp kx vx [⟨tgE, iter, ifs, 0⟩] scope pos) (some (.Name y py)) spos.line X.env = pure true) (hi : PI X tgE iter wi) (ok : BlkOk X.N X.env.scope scope own)
    (hg : ∀ (s : Shared) (H : Hp) (C : Addr) (cl : List (Str × Addr)) (fp : List Addr), PG (X.blk s H scope (compEnvC scope cl C X.env) fp) tgE g)
    (ht : ∀ (s : Shared) (H : Hp) (C : Addr) (cl : List (Str × Addr)) (fp : List Addr), PTs (X.blk s H scope (compEnvC scope cl C X.env) fp) ifs tt)
    (hk : ∀ (s : Shared) (H : Hp) (C : Addr) (cl : List (Str × Addr)) (fp : List Addr), PE (X.blk s H scope (compEnvC scope cl C X.env) fp) kx tk)
    (he : ∀ (s : Shared) (H : Hp) (C : Addr) (cl : List (Str × Addr)) (fp : List Addr), PE (X.blk s H scope (compEnvC scope cl C X.env) fp) vx tv) (hs : ∀ x, foldedSetIterable iter X.env x = pure x) :
    PS X (.Assign [.Name y py] (.DictComp kx vx [⟨tgE, iter, ifs, 0⟩] scope pos) spos) (tAsg (tDc wi g tt tk tv (own.map (·.2))) (gName i)) := by
  refine ⟨fun pins s σ H D I q => ?_⟩
  rw [exec_Assign_Name_used _ _ _ _ hsw]
  refine wpAny_bind (wpAny_standAt (wpAny_bind ?_))
  show wpAny _ X.A (do let _ ← comprehension (.DictComp kx vx [⟨tgE, iter, ifs, 0⟩] scope pos) scope X.env (firstIterPos [⟨tgE, iter, ifs, 0⟩] pos) newDict false (eval iter X.env) (some (assign (.Name y py) X.env))) _ _ s
  have q' : tDc wi g tt tk tv (own.map (·.2)) σ H (fun x H1 => gName i x σ H1 D.nx) := q
  refine wpAny_bind (thn (dc_core (Qf := fun _ t => SP X pins D .next t) hc hN I hi ok hg ht hk he hs q' fun L C t m Hz Iz hq hn hf => ?_) fun _ t hz => wpAny_pure (wpAny_pure hz))
  show wpAny _ _ (assign (.Name y py) X.env (.ref L)) _ _ _
  obtain ⟨f0, f1, f2, f3, f4, f5⟩ := hf
  refine wpAny_assign_Name (store_ok2 (v := V.ref L) Iz hN hy (.inl hyl) rfl (fun t2 I2 ⟨a, sb, ha⟩ => ?_) (.inr hyl))
  have hCa : C ≠ a := by
    rcases ha with z | z
    · rw [z]; exact f1
    · exact fun e => f4 y a z e.symm
  exact ⟨m, hn.sameBut sb hCa, fun h3 sb3 => ⟨_, Hz, I2.turned (t' := t2.toks) (fun b o hb e => (sb3.2 b hb).trans e) f0 f1 f3 f4 f5, hq⟩⟩
theorem sw_trueD {kx vx : Expr} {gs : List Comprehension} {scope : Scope} {py : Pos} {y : Str} {l : Nat} {env : PySem.Env} (hk : env.scope.kind = .function) (hy : env.scope.names.lookup y = some .local) (hl : (py.line == pos.line) = true)
    (ha : (scope.names.any fun (n, k) => n == y && (k == .local || k == .cell)) = false) : swapsWith (.DictComp kx vx gs scope pos) (some (.Name y py)) l env = pure true := by
  have ky : env.kindOf y = some .local := hy
  have hb : env.blockKind = .function := by unfold Env.blockKind; rw [hk]; rfl
  unfold swapsWith
  simp only [hb, ky, ha, Expr.pos, hl]
  rfl
theorem s_asgDC {i : Nat} {x : Str} {px lpos : Pos} {tgE iter kx vx : Expr} {ifs : List Expr} {scope : Scope} {own : List (Str × Nat)} {sk : SK} {fsrc : Env → Res (List Opd)} {fk fv : Env → Res Opd} {tg : List Nat} (hc : X.calm = true) (hN : X.N.Nodup)
    (hx : X.N[i]? = some x) (hxl : X.env.scope.names.lookup x = some .local) (hsw : swapsWith (.DictComp kx vx [⟨tgE, iter, ifs, 0⟩] scope lpos) (some (.Name x px)) pos.line X.env = pure true) (hi : PI X tgE iter (rdI W sk fsrc)) (ok : BlkOk X.N X.env.scope scope own) (hown : own.map (·.2) = tg)
    (hg : ∀ (s : Shared) (H : Hp) (C : Addr) (cl : List (Str × Addr)) (fp : List Addr), PG (X.blk s H scope (compEnvC scope cl C X.env) fp) tgE (gT X.K tg))
    (ht : ∀ (s : Shared) (H : Hp) (C : Addr) (cl : List (Str × Addr)) (fp : List Addr), PTs (X.blk s H scope (compEnvC scope cl C X.env) fp) ifs (rdT W.nox fun ρ => .ok true ρ))
    (hk : ∀ (s : Shared) (H : Hp) (C : Addr) (cl : List (Str × Addr)) (fp : List Addr), PE (X.blk s H scope (compEnvC scope cl C X.env) fp) kx (rd W.nox fk))
    (he : ∀ (s : Shared) (H : Hp) (C : Addr) (cl : List (Str × Addr)) (fp : List Addr), PE (X.blk s H scope (compEnvC scope cl C X.env) fp) vx (rd W.nox fv)) (hset : notSet iter = true) (hfix : fix i = false) :
    PS X (.Assign [.Name x px] (.DictComp kx vx [⟨tgE, iter, ifs, 0⟩] scope lpos) pos) (rdS W fix fun ρ => (fDcomp 0 tg sk fsrc fk fv ρ).out fun o ρ1 => .nx (putO i o ρ1)) := by
  refine (rr_setDc hc hN hx hxl hsw hi ok hg ht hk he (fs_of hset X.env)).imp fun D σ H q => ?_
  obtain ⟨G, ρ, l, en, p⟩ := q
  refine dcomp_read (X := X) (W := W) hown.symm ⟨G, ρ, l, en, PostS.outR p (Stp.refl l en) fun o ρ1 G1 H1 _ s1 l1 p1 v r => ?_⟩
  exact put_step hfix l en s1 l1 r p1
end
end RR

/-! A25: the check that a term of the small language is an expression of the text; what it gives. -/
namespace RR
open PySem L2

/-- what the module's names stand for -/
structure Tab where
  blt : List Str
  fns : List (Str × Nat)
  csts : List (Str × (Int ⊕ S))
  excs : List (Str × Nat)

def glC (sc : Scope) (x : Str) : Bool := decide (sc.names.lookup x = some .globalImplicit)
def visC (sc : Scope) (x : Str) : Bool := match sc.names.lookup x with | some .local => true | some .cell => true | some .free => true | _ => false
def locC (sc : Scope) (x : Str) : Bool := match sc.names.lookup x with | some .local => true | some .cell => true | _ => false
def notDbg (x : Str) : Bool := !(x == ("__debug__" : Str))
def notCd (x : Str) : Bool := !(x == ("__classdict__" : Str))
def varC (N : List Str) (sc : Scope) (i : Nat) (x : Str) : Bool := decide (N[i]? = some x) && visC sc x && notDbg x && notCd x
/-- a built-in name -/
def bltC (T : Tab) (sc : Scope) (x y : Str) : Bool := decide (x = y) && decide (x ∈ T.blt) && glC sc x
def opB (op : B2) (o : Operator) : Bool := match op, o with
  | .add, .Add => true | .sub, .Sub => true | .mul, .Mult => true | .fdiv, .FloorDiv => true | .mod, .Mod => true | .pow, .Pow => true | _, _ => false
theorem opB_eq {op : B2} {o : Operator} (h : opB op o = true) : o = opOf op := by cases op <;> cases o <;> first | rfl | cases h
def opCB (op : C2) (o : CmpOp) : Bool := match op, o with
  | .eq, .Eq => true | .ne, .NotEq => true | .lt, .Lt => true | .le, .LtE => true | .gt, .Gt => true | .ge, .GtE => true | .isin, .In => true | .notin, .NotIn => true | .is, .Is => true | .isnot, .IsNot => true | _, _ => false
theorem opCB_eq {op : C2} {o : CmpOp} (h : opCB op o = true) : o = opC op := by cases op <;> cases o <;> first | rfl | cases h

/-- the targets of a loop -/
def namesC (N : List Str) (sc : Scope) (fn : Str → Bool) : List Nat → List Expr → Bool
  | [], [] => true
  | i :: is, e :: es => (match e with | .Name x _ => decide (N[i]? = some x) && locC sc x && (fn x || decide (sc.names.lookup x = some .local)) | _ => false) && namesC N sc fn is es
  | _, _ => false
def tgC (N : List Str) (sc : Scope) (fn : Str → Bool) (tg : List Nat) (e : Expr) : Bool :=
  match e with
  | .Name x p => namesC N sc fn tg [.Name x p]
  | .Tuple es _ _ => decide (2 ≤ tg.length) && namesC N sc fn tg es
  | _ => false
def ownOf (N : List Str) (tg : List Nat) : List (Str × Nat) := tg.map fun i => ((N[i]?).getD (Str.ofString ""), i)
def fnBlk (scope : Scope) : Str → Bool := fun x => scope.names.lookup x == some .cell
def isTup : Expr → Bool
  | .Tuple _ _ _ => true
  | _ => false

/-- how a built-in is written -/
inductive BW where | fn (x : Str) | ty (x : Str) | isa (T : Str) | join | rng (x : Str) | sset (x : Str) | sum | no
def bw : Bi → BW
  | .len => .fn "len" | .sorted => .fn "sorted" | .all => .fn "all" | .any => .fn "any" | .min2 => .fn "min" | .max2 => .fn "max"
  | .list => .ty "list" | .tuple => .ty "tuple" | .int1 => .ty "int"
  | .isint => .isa "int" | .isbool => .isa "bool" | .isstr => .isa "str" | .istuple => .isa "tuple" | .islist => .isa "list"
  | .join => .join | .listrange => .rng "list" | .tuplerange => .rng "tuple"
  | .sortedset => .sset "sorted" | .lenset => .sset "len" | .sum2 => .sum
  | _ => .no

/-- the second one is a display -/
def lstSnd : List E → Bool
  | [_, .lst _] => true
  | _ => false
def cNon (x : Expr) : Bool := match x with | .Constant .none _ _ => true | _ => false
def cBl (b : Bool) (x : Expr) : Bool := match x with | .Constant (.bool k) _ _ => decide (b = k) | _ => false
def cInt (T : Tab) (sc : Scope) (i : Int) (x : Expr) : Bool := match x with | .Constant (.int j) _ _ => decide (i = j) | .Name y _ => glC sc y && notDbg y && (match T.csts.lookup y with | some (.inl j) => decide (i = j) | _ => false) | _ => false
def cStr (T : Tab) (sc : Scope) (s : S) (x : Expr) : Bool := match x with | .Constant (.str t) _ _ => decide (toStr s = t) | .Name y _ => glC sc y && notDbg y && (match T.csts.lookup y with | some (.inr t) => decide (s = t) | _ => false) | _ => false
section
variable (T : Tab) (N : List Str)
mutual
def chkE : Scope → E → Expr → Bool
  | _, .non, x => cNon x
  | _, .bl b, x => cBl b x
  | sc, .int i, x => cInt T sc i x
  | sc, .str s, x => decide (s.length ≤ LINE) && okS s && cStr T sc s x
  | sc, .var i, x => (match x with | .Name y _ => varC N sc i y | _ => false)
  | sc, .tup es, x => decide (es.length ≤ LINE) && (match x with | .Tuple xs _ _ => chkL sc es xs | _ => false)
  | sc, .lst es, x => decide (es.length ≤ LINE) && (match x with | .List xs _ => chkL sc es xs | _ => false)
  | _, .dict kind es, x => (match es, x with | [], .Dict [] [] _ => decide (kind ≤ 1) | _, _ => false)
  | sc, .bin op a b, x => (match x with | .BinOp y o z _ => opB op o && chkE sc a y && chkE sc b z | _ => false)
  | sc, .neg a, x => (match x with | .UnaryOp o y _ => (match o with | .USub => chkE sc a y | _ => false) | _ => false)
  | sc, .not a, x => (match x with | .UnaryOp o y _ => (match o with | .Not => chkE sc a y | _ => false) | _ => false)
  | sc, .and a b, x => (match x with | .BoolOp o ys _ => (match o, ys with | .And, [y, z] => chkE sc a y && chkE sc b z | .And, y :: z :: w :: r => chkE sc a y && chkB false sc b (z :: w :: r) | _, _ => false) | _ => false)
  | sc, .or a b, x => (match x with | .BoolOp o ys _ => (match o, ys with | .Or, [y, z] => chkE sc a y && chkE sc b z | .Or, y :: z :: w :: r => chkE sc a y && chkB true sc b (z :: w :: r) | _, _ => false) | _ => false)
  | sc, .ifx c a b, x => (match x with | .IfExp w y z _ => chkT sc c w && chkE sc a y && chkE sc b z | _ => false)
  | sc, .cmp op a b, x => (match x with | .Compare y [o] [z] _ => opCB op o && chkE sc a y && chkE sc b z && notSet z | _ => false)
  | sc, .chain o1 o2 a b c, x => (match x with | .Compare y [p, q] [z, w] _ => opCB o1 p && opCB o2 q && chkE sc a y && chkE sc b z && chkE sc c w && notSet z && notSet w | _ => false)
  | sc, .sub a i, x => (match x with | .Subscript y z _ => chkE sc a y && chkE sc i z && notSlice z | _ => false)
  | sc, .slice a lo hi, x => (match x with | .Subscript y (.Slice l h none _) _ => chkE sc a y && chkO sc lo l && chkO sc hi h | _ => false)
  | sc, .rev a, x => (match x with | .Subscript y (.Slice none none (some (.UnaryOp .USub (.Constant (.int k) _ _) _)) _) _ => decide (k = 1) && chkE sc a y | _ => false)
  | sc, .bi f es, x => (match bw f with
      | .fn y => (match x with | .Call (.Name z _) (w :: ws) [] _ => bltC T sc z y && chkL sc es (w :: ws) && (w :: ws).all notStar | _ => false)
      | .ty y => (match x with | .Call (.Name z _) (w :: ws) [] _ => bltC T sc z y && chkL sc es (w :: ws) && (w :: ws).all notStar | _ => false)
      | .isa y => (match x with | .Call (.Name z _) [w, .Name t _] [] _ => bltC T sc z "isinstance" && bltC T sc t y && chkL sc es [w] && notStar w | _ => false)
      | .join => (match x with
          | .Call (.Attribute (.Constant (.str t) _ _) m ap) [w] [] p => decide (m = Str.ofString "join") && (ap.endLine == p.line) && notStar w && chkJ sc t es w
          | _ => false)
      | .rng y => (match x with | .Call (.Name z _) [.Call (.Name r _) [w] [] _] [] _ => bltC T sc z y && bltC T sc r "range" && chkL sc es [w] && notStar w | _ => false)
      | .sset y => (match x with | .Call (.Name z _) [.Call (.Name r _) [w] [] _] [] _ => bltC T sc z y && bltC T sc r "set" && chkL sc es [w] && notStar w | _ => false)
      | .sum => (match x with | .Call (.Name z _) [w, v] [] _ => bltC T sc z "sum" && chkL sc es [w, v] && notStar w && notStar v && lstSnd es | _ => false)
      | .no => false)
  | sc, .call _ f es, x => (match x with
      | .Call (.Name y _) xs [] _ => glC sc y && notDbg y && decide (T.fns.lookup y = some f) && chkL sc es xs && xs.all notStar
      | _ => false)
  | sc, .append i e, x => (match x with | .Call (.Attribute (.Name y _) m ap) [w] [] p => decide (m = Str.ofString "append") && varC N sc i y && chkE sc e w && notStar w && (ap.endLine == p.line) | _ => false)
  | sc, .pop i, x => (match x with | .Call (.Attribute (.Name y _) m ap) [] [] p => decide (m = Str.ofString "pop") && varC N sc i y && (ap.endLine == p.line) | _ => false)
  | sc, .popAt i e, x => (match x with | .Call (.Attribute (.Name y _) m ap) [w] [] p => decide (m = Str.ofString "pop") && varC N sc i y && chkE sc e w && notStar w && (ap.endLine == p.line) | _ => false)
  | sc, .insert i a b, x => (match x with | .Call (.Attribute (.Name y _) m ap) [w, v] [] p => decide (m = Str.ofString "insert") && varC N sc i y && chkE sc a w && chkE sc b v && notStar w && notStar v && (ap.endLine == p.line) | _ => false)
  | sc, .reverse i, x => (match x with | .Call (.Attribute (.Name y _) m ap) [] [] p => decide (m = Str.ofString "reverse") && varC N sc i y && (ap.endLine == p.line) | _ => false)
  | _, .remove _ _, _ => false
  | sc, .comp _ elt tg sk src cond, x => (match x with
      | .ListComp w [⟨t, it, ifs, k⟩] scope _ => decide (k = 0) && blkC N sc scope (ownOf N tg) && notSet it && chkI sc sk src t it && tgC N (relS scope sc) (fnBlk scope) tg t && chkE (relS scope sc) elt w && chkC (relS scope sc) cond ifs
      | _ => false)
  | _, .comp2 _ _ _ _ _ _ _, _ => false
  | sc, .dcomp kind k v tg sk src, x => (match x with
      | .DictComp kx vx [⟨t, it, ifs, a⟩] scope _ => decide (a = 0) && decide (kind = 0) && ifs.isEmpty && blkC N sc scope (ownOf N tg) && notSet it && chkI sc sk src t it && tgC N (relS scope sc) (fnBlk scope) tg t && chkE (relS scope sc) k kx && chkE (relS scope sc) v vx
      | _ => false)
/-- a text constant, then what is joined -/
def chkJ : Scope → Str → List E → Expr → Bool
  | _, _, [], _ => false
  | sc, t, a :: es, w => (match a with | .str s => decide (toStr s = t) && decide (s.length ≤ LINE) && okS s | _ => false) && chkL sc es [w]
def chkL : Scope → List E → List Expr → Bool
  | _, [], xs => (match xs with | [] => true | _ => false)
  | sc, e :: es, xs => (match xs with | y :: ys => chkE sc e y && notStar y && chkL sc es ys | _ => false)
def chkO : Scope → List E → Option Expr → Bool
  | _, [], x => (match x with | none => true | _ => false)
  | sc, e :: es, x => (match es, x with | [], some y => chkE sc e y | _, _ => false)
def chkC : Scope → List E → List Expr → Bool
  | _, [], xs => (match xs with | [] => true | _ => false)
  | sc, e :: es, xs => (match es, xs with | [], [y] => chkT sc e y | _, _ => false)
def chkB : Bool → Scope → E → List Expr → Bool
  | o, sc, .and a b, ys => !o && (match ys with | [y, z] => chkE sc a y && chkE sc b z | y :: z :: w :: r => chkE sc a y && chkB false sc b (z :: w :: r) | _ => false)
  | o, sc, .or a b, ys => o && (match ys with | [y, z] => chkE sc a y && chkE sc b z | y :: z :: w :: r => chkE sc a y && chkB true sc b (z :: w :: r) | _ => false)
  | _, _, _, _ => false
/-- as a test -/
def chkT : Scope → E → Expr → Bool
  | sc, .not a, x => (match x with | .UnaryOp o y _ => (match o with | .Not => chkT sc a y | _ => false) | _ => false)
  | sc, .and a b, x => (match x with | .BoolOp o ys _ => (match o, ys with | .And, [y, z] => chkT sc a y && chkT sc b z | .And, y :: z :: w :: r => chkT sc a y && chkTB false sc b (z :: w :: r) | _, _ => false) | _ => false)
  | sc, .or a b, x => (match x with | .BoolOp o ys _ => (match o, ys with | .Or, [y, z] => chkT sc a y && chkT sc b z | .Or, y :: z :: w :: r => chkT sc a y && chkTB true sc b (z :: w :: r) | _, _ => false) | _ => false)
  | sc, .cmp op a b, x => (match x with | .Compare y [o] [z] _ => opCB op o && chkE sc a y && chkE sc b z && notSet z | _ => false)
  | sc, .chain o1 o2 a b c, x => (match x with | .Compare y [p, q] [z, w] _ => opCB o1 p && opCB o2 q && chkE sc a y && chkE sc b z && chkE sc c w && notSet z && notSet w | _ => false)
  | sc, .call l f es, x => plainTest x && (match x with
      | .Call (.Name y _) xs [] _ => glC sc y && notDbg y && decide (T.fns.lookup y = some f) && chkL sc es xs && xs.all notStar
      | _ => false)
  | sc, .bi f es, x => plainTest x && (match bw f with
      | .fn y => (match x with | .Call (.Name z _) (w :: ws) [] _ => bltC T sc z y && chkL sc es (w :: ws) && (w :: ws).all notStar | _ => false)
      | .isa y => (match x with | .Call (.Name z _) [w, .Name t _] [] _ => bltC T sc z "isinstance" && bltC T sc t y && chkL sc es [w] && notStar w | _ => false)
      | _ => false)
  | sc, .var i, x => (match x with | .Name y _ => varC N sc i y | _ => false)
  | _, .bl b, x => cBl b x
  | _, _, _ => false
def chkTB : Bool → Scope → E → List Expr → Bool
  | o, sc, .and a b, ys => !o && (match ys with | [y, z] => chkT sc a y && chkT sc b z | y :: z :: w :: r => chkT sc a y && chkTB false sc b (z :: w :: r) | _ => false)
  | o, sc, .or a b, ys => o && (match ys with | [y, z] => chkT sc a y && chkT sc b z | y :: z :: w :: r => chkT sc a y && chkTB true sc b (z :: w :: r) | _ => false)
  | _, _, _, _ => false
/-- what is walked -/
def chkI : Scope → SK → List E → Expr → Expr → Bool
  | _, _, [], _, _ => false
  | sc, sk, e :: es, t, it => (match sk with
      | .it => (match es with | [] => chkE sc e it | _ => false)
      | .range => (match it with
          | .Call (.Name z _) xs [] _ => bltC T sc z "range" && (match es, xs with | [], [y] => chkE sc e y && notStar y | _, [y, w] => chkE sc e y && notStar y && chkL sc es [w] && notStar w | _, _ => false)
          | _ => false)
      | .enum => isTup t && (match it with
          | .Call (.Name z _) [y] [] _ => bltC T sc z "enumerate" && chkE sc e y && notStar y && chkL sc es []
          | _ => false)
      | .zip => isTup t && (match it with
          | .Call (.Name z _) [y, w] [] _ => bltC T sc z "zip" && chkE sc e y && notStar y && chkL sc es [w] && notStar w
          | _ => false)
      | .items => false)
end
end
end RR

/-! A26: the check is sound (1): equations, names, targets, contexts. -/
namespace RR
open PySem L2

structure CtxE (X : Cx) (T : Tab) (N : List Str) (sc : Scope) (W : XW) (Φ : Calls) : Prop where
  calm : X.calm = true
  hN : X.N = N
  nd : N.Nodup
  sc : X.env.scope = sc
  un : X.A.units + 65 < cLine
  no : ∀ x ∈ T.blt, X.mg x = none
  fn : ∀ x f, T.fns.lookup x = some f → FnG X W.xc x (Φ.run f)
  cst : ∀ x c, T.csts.lookup x = some c → ∃ v u, X.mg x = some u ∧ RelV v u ∧ ∀ G, Rep G v (match c with | .inl i => .int i | .inr s => .str s)
  pass : Passes (L2.CX X.prog X.w) X W.E

section
variable {X : Cx} {T : Tab} {N : List Str} {sc : Scope} {W : XW} {Φ : Calls}
theorem blkC_kind {scope : Scope} {own : List (Str × Nat)} (h : blkC N sc scope own = true) : scope.kind = .function := (blkOk_by h).kind
theorem CtxE.blk (c : CtxE X T N sc W Φ) (s : Shared) (H : Hp) (scope : Scope) (C : Addr) (cl : List (Str × Addr)) (fp : List Addr) : CtxE (X.blk s H scope (compEnvC scope cl C X.env) fp) T N (relS scope sc) W.nox Φ where
  calm := c.calm
  hN := c.hN
  nd := c.nd
  sc := by rw [← c.sc]; rfl
  un := c.un
  no := c.no
  fn := fun x f h => ⟨(c.fn x f h).ex⟩
  cst := c.cst
  pass := passL
theorem vis_of {x : Str} (c : CtxE X T N sc W Φ) (h : visC sc x = true) : Vis X.env.scope x := by
  rw [c.sc]
  unfold visC at h
  unfold Vis
  split at h
  · exact .inl (by assumption)
  · exact .inr (.inl (by assumption))
  · exact .inr (.inr (by assumption))
  · cases h
theorem loc_of {x : Str} (c : CtxE X T N sc W Φ) (h : locC sc x = true) : L2.Loc X.env.scope x := by
  rw [c.sc]
  unfold locC at h
  unfold L2.Loc
  split at h
  · exact .inl (by assumption)
  · exact .inr (by assumption)
  · cases h
theorem dbg_of {x : Str} (h : notDbg x = true) : (x == ("__debug__" : Str)) = false := by simpa [notDbg] using h
theorem cd_of {x : Str} (h : notCd x = true) : (x == ("__classdict__" : Str)) = false := by simpa [notCd] using h
theorem gl_of {x : Str} (c : CtxE X T N sc W Φ) (h : glC sc x = true) : Gl X x := by
  show X.env.scope.names.lookup x = _
  rw [c.sc]
  exact of_decide_eq_true h
theorem var_of {i : Nat} {x : Str} (c : CtxE X T N sc W Φ) (h : varC N sc i x = true) : VarOk X i x := by
  simp only [varC, Bool.and_eq_true, decide_eq_true_eq] at h
  obtain ⟨⟨⟨h1, h2⟩, h3⟩, h4⟩ := h
  exact ⟨by rw [c.hN]; exact h1, vis_of c h2, dbg_of h3, cd_of h4⟩
theorem blt_of {x y : Str} (c : CtxE X T N sc W Φ) (h : bltC T sc x y = true) : x = y ∧ X.mg y = none ∧ Gl X y := by
  simp only [bltC, Bool.and_eq_true, decide_eq_true_eq] at h
  obtain ⟨⟨rfl, h2⟩, h3⟩ := h
  exact ⟨rfl, c.no _ h2, gl_of c h3⟩

/-! targets -/
theorem names_pg {fn : Str → Bool} (c : CtxE X T N sc W Φ) (hf : ∀ x, fn x = true → X.fn x = true) : ∀ {is : List Nat} {es : List Expr}, namesC N sc fn is es = true →
    PGs X es (gNames is) ∧ is.length = es.length ∧ (assignEach es X.env).length = es.length ∧ (assignEach es X.env).findIdx? (·.1) = none
  | [], [], _ => ⟨pgs_nil, rfl, rfl, rfl⟩
  | [], _ :: _, h => by simp [namesC] at h
  | _ :: _, [], h => by simp [namesC] at h
  | i :: is, e :: es, h => by
    simp only [namesC, Bool.and_eq_true] at h
    obtain ⟨h1, h2⟩ := h
    split at h1
    · rename_i x p
      simp only [Bool.and_eq_true, Bool.or_eq_true, decide_eq_true_eq] at h1
      obtain ⟨⟨a1, a2⟩, a3⟩ := h1
      obtain ⟨b1, b2, b3, b4⟩ := names_pg c hf h2
      have g : PG X (.Name x p) (gName i) := pg_name (by rw [c.hN]; exact c.nd) (by rw [c.hN]; exact a1) (loc_of c a2) (by
        rcases a3 with a3 | a3
        · exact .inl (hf x a3)
        · exact .inr (by rw [c.sc]; exact a3))
      refine ⟨pgs_cons g b1 rfl, by simp [b2], ?_, ?_⟩
      · show ((false, assign (.Name x p) X.env) :: assignEach es X.env).length = _
        rw [List.length_cons, b3]; rfl
      · show ((false, assign (.Name x p) X.env) :: assignEach es X.env).findIdx? (·.1) = none
        rw [List.findIdx?_cons]
        simp [b4]
    · cases h1
theorem tg_pg {fn : Str → Bool} {tg : List Nat} {e : Expr} (c : CtxE X T N sc W Φ) (hf : ∀ x, fn x = true → X.fn x = true) (h : tgC N sc fn tg e = true) : PG X e (gT X.K tg) := by
  unfold tgC at h
  split at h
  · rename_i x p
    obtain ⟨b1, b2, _⟩ := names_pg c hf h
    match tg, b2 with
    | [i], _ =>
      simp only [namesC, Bool.and_eq_true, Bool.or_eq_true, decide_eq_true_eq] at h
      obtain ⟨⟨⟨a1, a2⟩, a3⟩, _⟩ := h
      exact pg_name (by rw [c.hN]; exact c.nd) (by rw [c.hN]; exact a1) (loc_of c a2) (by
        rcases a3 with a3 | a3
        · exact .inl (hf x a3)
        · exact .inr (by rw [c.sc]; exact a3))
  · rename_i es k p
    rw [Bool.and_eq_true, decide_eq_true_eq] at h
    obtain ⟨h1, h2⟩ := h
    obtain ⟨b1, b2, b3, b4⟩ := names_pg c hf h2
    match tg, h1 with
    | i :: j :: r, _ =>
      show PG X _ (gTup X.K (i :: j :: r).length (gNames (i :: j :: r)))
      exact pg_tup c.calm b1 (by rw [b3, b2]) b4
  · cases h
theorem own_snd (tg : List Nat) : (ownOf N tg).map (·.2) = tg := by
  simp [ownOf, List.map_map, Function.comp_def]

/-! equations -/
theorem ev_tup {es : List E} : evE Φ (.tup es) = fTup (evL Φ es) := by funext ρ; rw [evE]; rfl
theorem ev_lst {es : List E} : evE Φ (.lst es) = fLst (evL Φ es) := by funext ρ; rw [evE]; rfl
theorem ev_bin {op : B2} {a b : E} : evE Φ (.bin op a b) = rd2 (evE Φ a) (evE Φ b) (bin2 op) := by funext ρ; rw [evE]; rfl
theorem ev_neg {a : E} : evE Φ (.neg a) = fNeg (evE Φ a) := by funext ρ; rw [evE]; rfl
theorem ev_not {a : E} : evE Φ (.not a) = fNot (evE Φ a) := by funext ρ; rw [evE]; rfl
theorem ev_and {a b : E} : evE Φ (.and a b) = fAnd (evE Φ a) (evE Φ b) := by funext ρ; rw [evE]; rfl
theorem ev_or {a b : E} : evE Φ (.or a b) = fOr (evE Φ a) (evE Φ b) := by funext ρ; rw [evE]; rfl
theorem ev_ifx {c a b : E} : evE Φ (.ifx c a b) = fIf (evE Φ c) (evE Φ a) (evE Φ b) := by funext ρ; rw [evE]; rfl
theorem ev_cmp {op : C2} {a b : E} : evE Φ (.cmp op a b) = fCmp op (evE Φ a) (evE Φ b) := by funext ρ; rw [evE]; rfl
theorem ev_chain {o1 o2 : C2} {a b c : E} : evE Φ (.chain o1 o2 a b c) = fChain o1 o2 (evE Φ a) (evE Φ b) (evE Φ c) := by funext ρ; rw [evE]; rfl
theorem ev_sub {a b : E} : evE Φ (.sub a b) = rd2 (evE Φ a) (evE Φ b) (fun x y => (sub2 x y).map .val) := by funext ρ; rw [evE]; rfl
theorem ev_slice {a : E} {lo hi : List E} : evE Φ (.slice a lo hi) = fSlice (evE Φ a) (evI Φ lo) (evI Φ hi) := by funext ρ; rw [evE]; rfl
theorem ev_rev {a : E} : evE Φ (.rev a) = fRev (evE Φ a) := by funext ρ; rw [evE]; rfl
theorem ev_bi {f : Bi} {es : List E} : evE Φ (.bi f es) = fBi (biD f) (evL Φ es) := by funext ρ; rw [evE]; rfl
theorem ev_call {l : Bool} {f : Nat} {es : List E} : evE Φ (.call l f es) = fCall Φ l f (evL Φ es) := by funext ρ; rw [evE]; rfl
theorem ev_append {i : Nat} {e : E} : evE Φ (.append i e) = fAppend i (evE Φ e) := by funext ρ; rw [evE]; rfl
theorem ev_pop {i : Nat} : evE Φ (.pop i) = fPop i := by funext ρ; rw [evE]; rfl
theorem ev_popAt {i : Nat} {e : E} : evE Φ (.popAt i e) = fPopAt i (evE Φ e) := by funext ρ; rw [evE]; rfl
theorem ev_insert {i : Nat} {a b : E} : evE Φ (.insert i a b) = fInsert i (evE Φ a) (evE Φ b) := by funext ρ; rw [evE]; rfl
theorem ev_reverse {i : Nat} : evE Φ (.reverse i) = fReverse i := by funext ρ; rw [evE]; rfl
theorem ev_comp {hide : Bool} {elt : E} {tg : List Nat} {sk : SK} {src cond : List E} : evE Φ (.comp hide elt tg sk src cond) = fComp hide tg sk (evL Φ src) (evC Φ cond) (evE Φ elt) := by funext ρ; rw [evE]; rfl
theorem ev_var {i : Nat} : evE Φ (.var i) = fVar i := by funext ρ; rw [evE]; rfl
theorem evL_nil : evL Φ [] = fNil := by funext ρ; rw [evL]; rfl
theorem evL_cons {e : E} {es : List E} : evL Φ (e :: es) = fCons (evE Φ e) (evL Φ es) := by funext ρ; rw [evL]; rfl
theorem evI_nil : evI Φ [] = fun ρ => .ok [] ρ := by funext ρ; rw [evI]
theorem evI_one {e : E} : evI Φ [e] = fI1 (evE Φ e) := by
  funext ρ
  rw [evI]
  simp only [evI_nil]
  rfl
theorem evC_nil : evC Φ [] = fun ρ => .ok true ρ := by funext ρ; rw [evC]
theorem evC_one {e : E} : evC Φ [e] = fun ρ => boolR (evE Φ e ρ) := by
  funext ρ
  rw [evC]
  simp only [evC_nil]
  cases boolR (evE Φ e ρ) with
  | bad => rfl
  | exc x ρ1 => rfl
  | ok b ρ1 => cases b <;> rfl
/-- of one argument -/
theorem bi_one {f : Bi} {e : E} : fBi (biD f) (evL Φ [e]) = fBi1 f (evE Φ e) := by
  funext ρ
  rw [evL_cons, evL_nil]
  show ((evE Φ e ρ).bind fun o ρ1 => ((fNil ρ1).bind fun os ρ2 => .ok (o :: os) ρ2)).bind _ = (evE Φ e ρ).bind _
  generalize evE Φ e ρ = r
  cases r <;> rfl
theorem bi_join {s : S} {e : E} : fBi (biD .join) (evL Φ [.str s, e]) = fJoin s (evE Φ e) := by
  funext ρ
  rw [evL_cons, evL_cons, evL_nil]
  have h : evE Φ (.str s) ρ = .ok (.val (.str s)) ρ := by rw [evE]
  show ((evE Φ (.str s) ρ).bind fun o ρ1 => (((evE Φ e ρ1).bind fun o ρ1 => ((fNil ρ1).bind fun os ρ2 => .ok (o :: os) ρ2)).bind fun os ρ2 => .ok (o :: os) ρ2)).bind _ = (evE Φ e ρ).bind _
  rw [h]
  show (((evE Φ e ρ).bind fun o ρ1 => ((fNil ρ1).bind fun os ρ2 => .ok (o :: os) ρ2)).bind fun os ρ2 => .ok (_ :: os) ρ2).bind _ = _
  generalize evE Φ e ρ = r
  cases r <;> rfl
theorem _root_.L2.PTs.imp {X : Cx} {ifs : List Expr} {t t' : TT} (h : PTs X ifs t) (f : ∀ σ H Q, t' σ H Q → t σ H Q) : PTs X ifs t' := ⟨fun pins s σ H Q I q => h.run pins s σ H Q I (f σ H Q q)⟩
theorem ts_nil : PTs X [] (rdT W fun ρ => .ok true ρ) := pts_nil.imp fun σ H Q h => by
  obtain ⟨G, ρ, l, en, p⟩ := h
  exact p G H (Stp.refl l en) (EnvLe.refl _)
end
end RR

/-! A27: the check is sound (2): expressions. -/
namespace RR
open PySem L2

section
variable {T : Tab} {N : List Str} {Φ : Calls}
theorem bw_fn {f : Bi} {y : Str} (h : bw f = .fn y) {X : Cx} (hc : X.calm = true) (hu : X.A.units + 65 < cLine) : ∃ id, CallR X (.builtin id) (rC (biD f)) ∧ bootBuiltins y = some (.builtin id) ∧ y ≠ "__name__" ∧ (y == ("__debug__" : Str)) = false := by
  cases f <;> simp only [bw] at h <;> cases h
  · exact ⟨"len", c_len, rfl, by decide, by decide⟩
  · exact ⟨"sorted", c_sorted hu, rfl, by decide, by decide⟩
  · exact ⟨"min", c_minD hc, rfl, by decide, by decide⟩
  · exact ⟨"max", c_maxD hc, rfl, by decide, by decide⟩
  · exact ⟨"all", c_allD hc, rfl, by decide, by decide⟩
  · exact ⟨"any", c_anyD hc, rfl, by decide, by decide⟩
theorem bw_ty {f : Bi} {y : Str} (h : bw f = .ty y) {X : Cx} (hc : X.calm = true) : ∃ id, CallR X (.type id) (rC (biD f)) ∧ bootBuiltins y = some (.type id) ∧ y ≠ "__name__" ∧ (y == ("__debug__" : Str)) = false := by
  cases f <;> simp only [bw] at h <;> cases h
  · exact ⟨"list", c_list hc, rfl, by decide, by decide⟩
  · exact ⟨"tuple", c_tuple, rfl, by decide, by decide⟩
  · exact ⟨"int", c_int1, rfl, by decide, by decide⟩
theorem bw_isa {f : Bi} {y : Str} (h : bw f = .isa y) : isIsa f = true ∧ bootBuiltins y = some (.type (isaOf f)) ∧ y ≠ "__name__" ∧ (y == ("__debug__" : Str)) = false := by
  cases f <;> simp only [bw] at h <;> cases h
  all_goals exact ⟨rfl, rfl, by decide, by decide⟩
theorem bw_rng {f : Bi} {y : Str} (h : bw f = .rng y) : (f = .listrange ∧ y = "list") ∨ (f = .tuplerange ∧ y = "tuple") := by
  cases f <;> simp only [bw] at h <;> cases h
  · exact .inl ⟨rfl, rfl⟩
  · exact .inr ⟨rfl, rfl⟩
theorem bw_sset {f : Bi} {y : Str} (h : bw f = .sset y) : (f = .sortedset ∧ y = "sorted") ∨ (f = .lenset ∧ y = "len") := by
  cases f <;> simp only [bw] at h <;> cases h
  · exact .inl ⟨rfl, rfl⟩
  · exact .inr ⟨rfl, rfl⟩
theorem bw_sum {f : Bi} (h : bw f = .sum) : f = .sum2 := by cases f <;> simp only [bw] at h <;> first | rfl | cases h
theorem bw_join {f : Bi} (h : bw f = .join) : f = .join := by cases f <;> simp only [bw] at h <;> first | rfl | cases h
theorem chkL_one {sc : Scope} {es : List E} {w : Expr} (h : chkL T N sc es [w] = true) : ∃ e, es = [e] ∧ chkE T N sc e w = true ∧ notStar w = true := by
  match es, h with
  | [], h => simp [chkL] at h
  | [e], h => simp only [chkL, Bool.and_eq_true] at h; exact ⟨e, rfl, h.1.1, h.1.2⟩
  | e :: f :: r, h => simp [chkL] at h
theorem chkL_nil {sc : Scope} {es : List E} (h : chkL T N sc es [] = true) : es = [] := by
  match es, h with
  | [], h => rfl
  | e :: r, h => simp [chkL] at h

theorem ev_dict {kind : Nat} {es : List E} : evE Φ (.dict kind es) = fDict kind (evL Φ es) := by funext ρ; rw [evE]; rfl
theorem ev_dcomp {kind : Nat} {k v : E} {tg : List Nat} {sk : SK} {src : List E} : evE Φ (.dcomp kind k v tg sk src) = fDcomp kind tg sk (evL Φ src) (evE Φ k) (evE Φ v) := by funext ρ; rw [evE]; rfl
theorem ev_c0 : evC Φ [] = fun ρ => .ok true ρ := by funext ρ; rw [evC]
theorem lst_snd {es : List E} {ρ ρ' : Env} {os : List Opd} (h : lstSnd es = true) (q : evL Φ es ρ = .ok os ρ') : ∃ o d, os = [o, .own d] := by
  match es, h with
  | [a, .lst r], _ =>
    simp only [evL, evE] at q
    cases h1 : evE Φ a ρ with
    | bad => rw [h1] at q; cases q
    | exc x ρ1 => rw [h1] at q; cases q
    | ok o1 ρ1 =>
      rw [h1] at q
      simp only [Res.bind] at q
      cases h2 : evL Φ r ρ1 with
      | bad => rw [h2] at q; cases q
      | exc x ρ2 => rw [h2] at q; cases q
      | ok os2 ρ2 =>
        rw [h2] at q
        simp only [Res.bind] at q
        cases q
        exact ⟨_, _, rfl⟩

mutual
theorem chkE_ok : ∀ (ir : E) (sc : Scope) (x : Expr) (X : Cx) (W : XW), CtxE X T N sc W Φ → chkE T N sc ir x = true → PE X x (rd W (evE Φ ir))
  | .non, sc, x, X, W, c, h => by
    replace h : cNon x = true := h
    unfold cNon at h; split at h
    · have e : evE Φ .non = fun ρ => .ok (.val .non) ρ := by funext ρ; rw [evE]
      rw [e]; exact d_non
    · cases h
  | .bl b, sc, x, X, W, c, h => by
    replace h : cBl b x = true := h
    unfold cBl at h; split at h
    · have e := of_decide_eq_true h
      subst e
      have e : evE Φ (.bl b) = fun ρ => .ok (.val (.bl b)) ρ := by funext ρ; rw [evE]
      rw [e]; exact d_bl
    · cases h
  | .int i, sc, x, X, W, c, h => by
    have e : evE Φ (.int i) = fun ρ => .ok (.val (.int i)) ρ := by funext ρ; rw [evE]
    rw [e]
    replace h : cInt T sc i x = true := h
    unfold cInt at h; split at h
    · have e := of_decide_eq_true h
      subst e
      exact d_int
    · rename_i y p
      simp only [Bool.and_eq_true] at h
      obtain ⟨⟨h1, h2⟩, h3⟩ := h
      split at h3
      · rename_i j hl
        have e := of_decide_eq_true h3
        subst e
        obtain ⟨v, u, a1, a2, a3⟩ := c.cst y _ hl
        exact d_glob (gl_of c h1) a1 a2 a3 (dbg_of h2)
      · cases h3
    · cases h
  | .str s, sc, x, X, W, c, h => by
    have e : evE Φ (.str s) = fun ρ => .ok (.val (.str s)) ρ := by funext ρ; rw [evE]
    rw [e]
    replace h : (decide (s.length ≤ LINE) && okS s && cStr T sc s x) = true := h
    rw [Bool.and_eq_true, Bool.and_eq_true, decide_eq_true_eq] at h
    obtain ⟨⟨z1, z2⟩, h⟩ := h
    unfold cStr at h; split at h
    · have e := of_decide_eq_true h
      subst e
      exact d_str z1 z2
    · rename_i y p
      simp only [Bool.and_eq_true] at h
      obtain ⟨⟨h1, h2⟩, h3⟩ := h
      split at h3
      · rename_i j hl
        have e := of_decide_eq_true h3
        subst e
        obtain ⟨v, u, a1, a2, a3⟩ := c.cst y _ hl
        exact d_glob (gl_of c h1) a1 a2 a3 (dbg_of h2)
      · cases h3
    · cases h
  | .var i, sc, x, X, W, c, h => by
    unfold chkE at h; split at h
    · rw [ev_var]
      have v := var_of c h
      exact d_var v.hN v.hv v.hd v.hcd
    · cases h
  | .tup es, sc, x, X, W, c, h => by
    unfold chkE at h
    rw [Bool.and_eq_true, decide_eq_true_eq] at h
    obtain ⟨hl, h⟩ := h
    split at h
    · rw [ev_tup]
      obtain ⟨a, b, _⟩ := chkL_ok es sc _ X W c h
      exact d_tup a fun ρ os ρ' e => by rw [evL_len e]; exact hl
    · cases h
  | .lst es, sc, x, X, W, c, h => by
    unfold chkE at h
    rw [Bool.and_eq_true, decide_eq_true_eq] at h
    obtain ⟨hl, h⟩ := h
    split at h
    · rw [ev_lst]
      obtain ⟨a, b, _⟩ := chkL_ok es sc _ X W c h
      exact d_lst a fun ρ os ρ' e => by rw [evL_len e]; exact hl
    · cases h
  | .dict kind es, sc, x, X, W, c, h => by
    unfold chkE at h; split at h
    · have hk := of_decide_eq_true h
      rw [ev_dict, evL_nil]
      match kind, hk with
      | 0, _ => exact d_dict0
      | 1, _ => exact d_dict1
    · cases h
  | .bin op a b, sc, x, X, W, c, h => by
    unfold chkE at h; split at h
    · simp only [Bool.and_eq_true] at h
      obtain ⟨⟨h1, h2⟩, h3⟩ := h
      rw [opB_eq h1, ev_bin]
      exact d_bin (chkE_ok a sc _ X W c h2) (chkE_ok b sc _ X W c h3)
    · cases h
  | .neg a, sc, x, X, W, c, h => by
    unfold chkE at h; split at h
    · split at h
      · rw [ev_neg]; exact d_neg (chkE_ok a sc _ X W c h)
      · cases h
    · cases h
  | .not a, sc, x, X, W, c, h => by
    unfold chkE at h; split at h
    · split at h
      · rw [ev_not]; exact d_not (chkE_ok a sc _ X W c h)
      · cases h
    · cases h
  | .and a b, sc, x, X, W, c, h => by
    unfold chkE at h; split at h
    · split at h
      · rw [Bool.and_eq_true] at h
        rw [ev_and]; exact d_and (chkE_ok a sc _ X W c h.1) (pe_one (chkE_ok b sc _ X W c h.2))
      · rw [Bool.and_eq_true] at h
        rw [ev_and]; exact d_and (chkE_ok a sc _ X W c h.1) (chkB_ok b false sc _ _ X W c h.2)
      · cases h
    · cases h
  | .or a b, sc, x, X, W, c, h => by
    unfold chkE at h; split at h
    · split at h
      · rw [Bool.and_eq_true] at h
        rw [ev_or]; exact d_or (chkE_ok a sc _ X W c h.1) (pe_one (chkE_ok b sc _ X W c h.2))
      · rw [Bool.and_eq_true] at h
        rw [ev_or]; exact d_or (chkE_ok a sc _ X W c h.1) (chkB_ok b true sc _ _ X W c h.2)
      · cases h
    · cases h
  | .ifx k a b, sc, x, X, W, c, h => by
    unfold chkE at h; split at h
    · simp only [Bool.and_eq_true] at h
      obtain ⟨⟨h1, h2⟩, h3⟩ := h
      rw [ev_ifx]
      exact d_ifx (chkT_ok k sc _ X W c h1) (chkE_ok a sc _ X W c h2) (chkE_ok b sc _ X W c h3)
    · cases h
  | .cmp op a b, sc, x, X, W, c, h => by
    unfold chkE at h; split at h
    · simp only [Bool.and_eq_true] at h
      obtain ⟨⟨⟨h1, h2⟩, h3⟩, h4⟩ := h
      rw [opCB_eq h1, ev_cmp]
      exact d_cmp c.un (chkE_ok a sc _ X W c h2) (chkE_ok b sc _ X W c h3) h4
    · cases h
  | .chain o1 o2 a b d, sc, x, X, W, c, h => by
    unfold chkE at h; split at h
    · simp only [Bool.and_eq_true] at h
      obtain ⟨⟨⟨⟨⟨⟨h1, h2⟩, h3⟩, h4⟩, h5⟩, h6⟩, h7⟩ := h
      rw [opCB_eq h1, opCB_eq h2, ev_chain]
      exact d_chain c.un (chkE_ok a sc _ X W c h3) (chkE_ok b sc _ X W c h4) (chkE_ok d sc _ X W c h5) h6 h7
    · cases h
  | .sub a i, sc, x, X, W, c, h => by
    unfold chkE at h; split at h
    · simp only [Bool.and_eq_true] at h
      obtain ⟨⟨h1, h2⟩, h3⟩ := h
      rw [ev_sub]
      exact d_sub (Nat.lt_of_le_of_lt (by omega) c.un) (chkE_ok a sc _ X W c h1) (chkE_ok i sc _ X W c h2) (ix_of h3)
    · cases h
  | .slice a lo hi, sc, x, X, W, c, h => by
    unfold chkE at h; split at h
    · simp only [Bool.and_eq_true] at h
      obtain ⟨⟨h1, h2⟩, h3⟩ := h
      rw [ev_slice]
      exact d_slice (chkE_ok a sc _ X W c h1) (chkO_ok lo sc _ X W c h2) (chkO_ok hi sc _ X W c h3)
    · cases h
  | .rev a, sc, x, X, W, c, h => by
    unfold chkE at h; split at h
    · rw [Bool.and_eq_true, decide_eq_true_eq] at h
      obtain ⟨rfl, h⟩ := h
      rw [ev_rev]
      exact d_rev (chkE_ok a sc _ X W c h)
    · cases h
  | .bi f es, sc, x, X, W, c, h => by
    unfold chkE at h
    rw [ev_bi]
    split at h
    · rename_i y hb
      split at h
      · simp only [Bool.and_eq_true] at h
        obtain ⟨⟨h1, h2⟩, h3⟩ := h
        obtain ⟨rfl, hm, hg⟩ := blt_of c h1
        obtain ⟨id, k1, k2, k3, k4⟩ := bw_fn hb (X := X) c.calm c.un
        exact d_bif k1 hg hm k2 (chkL_ok es sc _ X W c h2).1 (by simpa using h3) k3 k4
      · cases h
    · rename_i y hb
      split at h
      · simp only [Bool.and_eq_true] at h
        obtain ⟨⟨h1, h2⟩, h3⟩ := h
        obtain ⟨rfl, hm, hg⟩ := blt_of c h1
        obtain ⟨id, k1, k2, k3, k4⟩ := bw_ty hb (X := X) c.calm
        exact d_bit k1 hg hm k2 (chkL_ok es sc _ X W c h2).1 (by simpa using h3) k3 k4
      · cases h
    · rename_i y hb
      split at h
      · simp only [Bool.and_eq_true] at h
        obtain ⟨⟨⟨h1, h2⟩, h3⟩, h4⟩ := h
        obtain ⟨rfl, hm, hg⟩ := blt_of c h1
        obtain ⟨rfl, hm2, hg2⟩ := blt_of c h2
        obtain ⟨k1, k2, k3, k4⟩ := bw_isa hb
        have pl := (chkL_ok es sc _ X W c h3).2.2.2
        obtain ⟨e, he, h5, _⟩ := chkL_one h3
        have pe := pl e [] _ [] he rfl
        clear pl
        subst he
        rw [bi_one]
        exact d_isa k1 hg hm hg2 hm2 k2 k3 k4 pe h4
      · cases h
    · rename_i hb
      have := bw_join hb
      subst this
      split at h
      · simp only [Bool.and_eq_true, decide_eq_true_eq] at h
        obtain ⟨⟨⟨rfl, h2⟩, h3⟩, h4⟩ := h
        obtain ⟨s, e, rfl, rfl, z1, z2, h5⟩ := chkJ_ok es sc _ _ X W c h4
        rw [bi_join]
        exact d_join z1 z2 h5 h3 h2
      · cases h
    · rename_i y hb
      split at h
      · simp only [Bool.and_eq_true] at h
        obtain ⟨⟨⟨h1, h2⟩, h3⟩, h4⟩ := h
        obtain ⟨rfl, hm, hg⟩ := blt_of c h1
        obtain ⟨rfl, hm2, hg2⟩ := blt_of c h2
        have pl := (chkL_ok es sc _ X W c h3).2.2.2
        obtain ⟨e, he, h5, _⟩ := chkL_one h3
        have pe := pl e [] _ [] he rfl
        clear pl
        subst he
        rw [bi_one]
        rcases bw_rng hb with ⟨rfl, rfl⟩ | ⟨rfl, rfl⟩
        · exact d_listRg c.calm hg hm hg2 hm2 pe h4
        · exact d_tupRg c.calm hg hm hg2 hm2 pe h4
      · cases h
    · rename_i y hb
      split at h
      · simp only [Bool.and_eq_true] at h
        obtain ⟨⟨⟨h1, h2⟩, h3⟩, h4⟩ := h
        obtain ⟨rfl, hm, hg⟩ := blt_of c h1
        obtain ⟨rfl, hm2, hg2⟩ := blt_of c h2
        have pl := (chkL_ok es sc _ X W c h3).2.2.2
        obtain ⟨e, he, h5, _⟩ := chkL_one h3
        have pe := pl e [] _ [] he rfl
        clear pl
        subst he
        rw [bi_one]
        rcases bw_sset hb with ⟨rfl, rfl⟩ | ⟨rfl, rfl⟩
        · exact d_sset c.calm hg hm hg2 hm2 pe h4
        · exact d_lset c.calm hg hm hg2 hm2 pe h4
      · cases h
    · rename_i hb
      have := bw_sum hb
      subst this
      split at h
      · simp only [Bool.and_eq_true] at h
        obtain ⟨⟨⟨⟨h1, h2⟩, h3⟩, h4⟩, h5⟩ := h
        obtain ⟨rfl, hm, hg⟩ := blt_of c h1
        exact d_sum2 c.calm hg hm (chkL_ok es sc _ X W c h2).1 (fun ρ os ρ' q => lst_snd h5 q) h3 h4
      · cases h
    · cases h
  | .call l f es, sc, x, X, W, c, h => by
    unfold chkE at h; split at h
    · rename_i y p xs p2
      simp only [Bool.and_eq_true, decide_eq_true_eq] at h
      obtain ⟨⟨⟨⟨h1, h2⟩, h3⟩, h4⟩, h5⟩ := h
      rw [ev_call]
      cases xs with
      | nil =>
        have := chkL_nil h4
        subst this
        rw [evL_nil]
        exact d_call0 (c.fn y f h3) c.pass (gl_of c h1) (dbg_of h2)
      | cons w ws => exact d_call (c.fn y f h3) c.pass (gl_of c h1) (chkL_ok es sc _ X W c h4).1 h5 (dbg_of h2)
    · cases h
  | .append i e, sc, x, X, W, c, h => by
    unfold chkE at h; split at h
    · simp only [Bool.and_eq_true, decide_eq_true_eq] at h
      obtain ⟨⟨⟨⟨rfl, h2⟩, h3⟩, h4⟩, h5⟩ := h
      rw [ev_append]
      exact d_append (var_of c h2) (chkE_ok e sc _ X W c h3) h4 h5
    · cases h
  | .pop i, sc, x, X, W, c, h => by
    unfold chkE at h; split at h
    · simp only [Bool.and_eq_true, decide_eq_true_eq] at h
      obtain ⟨⟨rfl, h2⟩, h3⟩ := h
      rw [ev_pop]
      exact d_pop (var_of c h2) h3
    · cases h
  | .popAt i e, sc, x, X, W, c, h => by
    unfold chkE at h; split at h
    · simp only [Bool.and_eq_true, decide_eq_true_eq] at h
      obtain ⟨⟨⟨⟨rfl, h2⟩, h3⟩, h4⟩, h5⟩ := h
      rw [ev_popAt]
      exact d_popAt (var_of c h2) (chkE_ok e sc _ X W c h3) h4 h5
    · cases h
  | .remove _ _, sc, x, X, W, c, h => by unfold chkE at h; cases h
  | .insert i a b, sc, x, X, W, c, h => by
    unfold chkE at h; split at h
    · simp only [Bool.and_eq_true, decide_eq_true_eq] at h
      obtain ⟨⟨⟨⟨⟨⟨rfl, h2⟩, h3⟩, h4⟩, h5⟩, h6⟩, h7⟩ := h
      rw [ev_insert]
      exact d_insert (var_of c h2) (chkE_ok a sc _ X W c h3) (chkE_ok b sc _ X W c h4) h5 h6 h7
    · cases h
  | .reverse i, sc, x, X, W, c, h => by
    unfold chkE at h; split at h
    · simp only [Bool.and_eq_true, decide_eq_true_eq] at h
      obtain ⟨⟨rfl, h2⟩, h3⟩ := h
      rw [ev_reverse]
      exact d_reverse (var_of c h2) h3
    · cases h
  | .comp hide elt tg sk src cond, sc, x, X, W, c, h => by
    unfold chkE at h; split at h
    · rename_i w t it ifs k scope p
      simp only [Bool.and_eq_true, decide_eq_true_eq] at h
      obtain ⟨⟨⟨⟨⟨⟨rfl, h2⟩, h3⟩, h4⟩, h5⟩, h6⟩, h7⟩ := h
      rw [ev_comp]
      refine d_comp c.calm (by rw [c.hN]; exact c.nd) (chkI_ok src sk sc t it X W c h4) (own := ownOf N tg) (by rw [c.hN, c.sc]; exact blkOk_by h2) (own_snd tg) (fun s H C cl fp => ?_) (fun s H C cl fp => ?_) (fun s H C cl fp => ?_) h3
      · exact tg_pg (c.blk s H scope C cl fp) (fun x hx => hx) h5
      · exact chkC_ok cond _ _ _ _ (c.blk s H scope C cl fp) h7
      · exact chkE_ok elt _ _ _ _ (c.blk s H scope C cl fp) h6
    · cases h
  | .comp2 _ _ _ _ _ _ _, sc, x, X, W, c, h => by unfold chkE at h; cases h
  | .dcomp kind k v tg sk src, sc, x, X, W, c, h => by
    unfold chkE at h; split at h
    · rename_i kx vx t it ifs a scope p
      simp only [Bool.and_eq_true, decide_eq_true_eq] at h
      obtain ⟨⟨⟨⟨⟨⟨⟨⟨rfl, rfl⟩, h3⟩, h4⟩, h5⟩, h6⟩, h7⟩, h8⟩, h9⟩ := h
      rw [ev_dcomp]
      have hi : ifs = [] := by simpa using h3
      subst hi
      refine d_dcomp c.calm (by rw [c.hN]; exact c.nd) (chkI_ok src sk sc t it X W c h6) (own := ownOf N tg) (by rw [c.hN, c.sc]; exact blkOk_by h4) (own_snd tg) (fun s H C cl fp => ?_) (fun s H C cl fp => ?_) (fun s H C cl fp => ?_) (fun s H C cl fp => ?_) h5
      · exact tg_pg (c.blk s H scope C cl fp) (fun x hx => hx) h7
      · exact ts_nil
      · exact chkE_ok k _ _ _ _ (c.blk s H scope C cl fp) h8
      · exact chkE_ok v _ _ _ _ (c.blk s H scope C cl fp) h9
    · cases h
theorem chkJ_ok : ∀ (es : List E) (sc : Scope) (t : Str) (w : Expr) (X : Cx) (W : XW), CtxE X T N sc W Φ → chkJ T N sc t es w = true → ∃ s e, es = [.str s, e] ∧ t = toStr s ∧ s.length ≤ LINE ∧ okS s = true ∧ PE X w (rd W (evE Φ e))
  | [], sc, t, w, X, W, c, h => by unfold chkJ at h; cases h
  | a :: es, sc, t, w, X, W, c, h => by
    unfold chkJ at h
    rw [Bool.and_eq_true] at h
    obtain ⟨h1, h2⟩ := h
    have pl := (chkL_ok es sc _ X W c h2).2.2.2
    split at h1
    · rename_i s
      simp only [Bool.and_eq_true, decide_eq_true_eq] at h1
      obtain ⟨⟨z0, z1⟩, z2⟩ := h1
      obtain ⟨e, he, _⟩ := chkL_one h2
      exact ⟨s, e, by rw [he], z0.symm, z1, z2, pl e [] w [] he rfl⟩
    · cases h1
theorem chkL_ok : ∀ (es : List E) (sc : Scope) (xs : List Expr) (X : Cx) (W : XW), CtxE X T N sc W Φ → chkL T N sc es xs = true → PA X xs (rdA W (evL Φ es)) ∧ xs.all notStar = true ∧ xs.length = es.length ∧ ∀ e r y ys, es = e :: r → xs = y :: ys → PE X y (rd W (evE Φ e))
  | [], sc, xs, X, W, c, h => by
    unfold chkL at h; split at h
    · rw [evL_nil]; exact ⟨a_nil, rfl, rfl, fun e r y ys h => by cases h⟩
    · cases h
  | e :: es, sc, xs, X, W, c, h => by
    unfold chkL at h; split at h
    · simp only [Bool.and_eq_true] at h
      obtain ⟨⟨h1, h2⟩, h3⟩ := h
      obtain ⟨a, b, d, _⟩ := chkL_ok es sc _ X W c h3
      have p := chkE_ok e sc _ X W c h1
      rw [evL_cons]
      exact ⟨a_cons p a h2, by rw [List.all_cons, h2, b]; rfl, by simp [d], fun e' r y ys q1 q2 => by cases q1; cases q2; exact p⟩
    · cases h
theorem chkO_ok : ∀ (es : List E) (sc : Scope) (x : Option Expr) (X : Cx) (W : XW), CtxE X T N sc W Φ → chkO T N sc es x = true → PO X x (rdO W (evI Φ es))
  | [], sc, x, X, W, c, h => by
    unfold chkO at h; split at h
    · rw [evI_nil]; exact o_none
    · cases h
  | e :: es, sc, x, X, W, c, h => by
    unfold chkO at h; split at h
    · rw [evI_one]; exact o_some (chkE_ok e sc _ X W c h)
    · cases h
theorem chkC_ok : ∀ (es : List E) (sc : Scope) (xs : List Expr) (X : Cx) (W : XW), CtxE X T N sc W Φ → chkC T N sc es xs = true → PTs X xs (rdT W (evC Φ es))
  | [], sc, xs, X, W, c, h => by
    unfold chkC at h; split at h
    · rw [evC_nil]; exact ts_nil
    · cases h
  | e :: es, sc, xs, X, W, c, h => by
    unfold chkC at h; split at h
    · rw [evC_one]; exact pts_one (chkT_ok e sc _ X W c h)
    · cases h
theorem chkB_ok : ∀ (ir : E) (o : Bool) (sc : Scope) (ys : List Expr) (pos : Pos) (X : Cx) (W : XW), CtxE X T N sc W Φ → chkB T N o sc ir ys = true → PE X (.BoolOp (if o then .Or else .And) ys pos) (rd W (evE Φ ir))
  | .and a b, o, sc, ys, pos, X, W, c, h => by
    unfold chkB at h
    rw [Bool.and_eq_true] at h
    obtain ⟨ho, h⟩ := h
    have : o = false := by simpa using ho
    subst this
    split at h
    · rw [Bool.and_eq_true] at h
      rw [ev_and]; exact d_and (chkE_ok a sc _ X W c h.1) (pe_one (chkE_ok b sc _ X W c h.2))
    · rw [Bool.and_eq_true] at h
      rw [ev_and]; exact d_and (chkE_ok a sc _ X W c h.1) (chkB_ok b false sc _ _ X W c h.2)
    · cases h
  | .or a b, o, sc, ys, pos, X, W, c, h => by
    unfold chkB at h
    rw [Bool.and_eq_true] at h
    obtain ⟨ho, h⟩ := h
    subst ho
    split at h
    · rw [Bool.and_eq_true] at h
      rw [ev_or]; exact d_or (chkE_ok a sc _ X W c h.1) (pe_one (chkE_ok b sc _ X W c h.2))
    · rw [Bool.and_eq_true] at h
      rw [ev_or]; exact d_or (chkE_ok a sc _ X W c h.1) (chkB_ok b true sc _ _ X W c h.2)
    · cases h
  | .non, o, sc, ys, pos, X, W, c, h => by simp [chkB] at h
  | .bl _, o, sc, ys, pos, X, W, c, h => by simp [chkB] at h
  | .int _, o, sc, ys, pos, X, W, c, h => by simp [chkB] at h
  | .str _, o, sc, ys, pos, X, W, c, h => by simp [chkB] at h
  | .var _, o, sc, ys, pos, X, W, c, h => by simp [chkB] at h
  | .tup _, o, sc, ys, pos, X, W, c, h => by simp [chkB] at h
  | .lst _, o, sc, ys, pos, X, W, c, h => by simp [chkB] at h
  | .dict _ _, o, sc, ys, pos, X, W, c, h => by simp [chkB] at h
  | .bin _ _ _, o, sc, ys, pos, X, W, c, h => by simp [chkB] at h
  | .neg _, o, sc, ys, pos, X, W, c, h => by simp [chkB] at h
  | .not _, o, sc, ys, pos, X, W, c, h => by simp [chkB] at h
  | .ifx _ _ _, o, sc, ys, pos, X, W, c, h => by simp [chkB] at h
  | .cmp _ _ _, o, sc, ys, pos, X, W, c, h => by simp [chkB] at h
  | .chain _ _ _ _ _, o, sc, ys, pos, X, W, c, h => by simp [chkB] at h
  | .sub _ _, o, sc, ys, pos, X, W, c, h => by simp [chkB] at h
  | .slice _ _ _, o, sc, ys, pos, X, W, c, h => by simp [chkB] at h
  | .rev _, o, sc, ys, pos, X, W, c, h => by simp [chkB] at h
  | .bi _ _, o, sc, ys, pos, X, W, c, h => by simp [chkB] at h
  | .call _ _ _, o, sc, ys, pos, X, W, c, h => by simp [chkB] at h
  | .append _ _, o, sc, ys, pos, X, W, c, h => by simp [chkB] at h
  | .pop _, o, sc, ys, pos, X, W, c, h => by simp [chkB] at h
  | .popAt _ _, o, sc, ys, pos, X, W, c, h => by simp [chkB] at h
  | .remove _ _, o, sc, ys, pos, X, W, c, h => by simp [chkB] at h
  | .insert _ _ _, o, sc, ys, pos, X, W, c, h => by simp [chkB] at h
  | .reverse _, o, sc, ys, pos, X, W, c, h => by simp [chkB] at h
  | .comp _ _ _ _ _ _, o, sc, ys, pos, X, W, c, h => by simp [chkB] at h
  | .comp2 _ _ _ _ _ _ _, o, sc, ys, pos, X, W, c, h => by simp [chkB] at h
  | .dcomp _ _ _ _ _ _, o, sc, ys, pos, X, W, c, h => by simp [chkB] at h
theorem chkT_ok : ∀ (ir : E) (sc : Scope) (x : Expr) (X : Cx) (W : XW), CtxE X T N sc W Φ → chkT T N sc ir x = true → PT X x (rdT W fun ρ => boolR (evE Φ ir ρ))
  | .not a, sc, x, X, W, c, h => by
    unfold chkT at h; split at h
    · split at h
      · rw [ev_not]
        have e : (fun ρ => boolR (fNot (evE Φ a) ρ)) = tNotR (fun ρ => boolR (evE Φ a ρ)) := funext fun ρ => boolR_not _ ρ
        rw [e]
        exact t_not (chkT_ok a sc _ X W c h)
      · cases h
    · cases h
  | .and a b, sc, x, X, W, c, h => by
    have e : (fun ρ => boolR (fAnd (evE Φ a) (evE Φ b) ρ)) = tAndR (fun ρ => boolR (evE Φ a ρ)) (fun ρ => boolR (evE Φ b ρ)) := funext fun ρ => boolR_and _ _ ρ
    unfold chkT at h; split at h
    · split at h
      · rw [Bool.and_eq_true] at h
        rw [ev_and, e]; exact (t_and (chkT_ok a sc _ X W c h.1) (pw_and1 (chkT_ok b sc _ X W c h.2))).pt
      · rw [Bool.and_eq_true] at h
        rw [ev_and, e]; exact (t_and (chkT_ok a sc _ X W c h.1) (chkTB_ok b false sc _ _ X W c h.2)).pt
      · cases h
    · cases h
  | .or a b, sc, x, X, W, c, h => by
    have e : (fun ρ => boolR (fOr (evE Φ a) (evE Φ b) ρ)) = tOrR (fun ρ => boolR (evE Φ a ρ)) (fun ρ => boolR (evE Φ b ρ)) := funext fun ρ => boolR_or _ _ ρ
    unfold chkT at h; split at h
    · split at h
      · rw [Bool.and_eq_true] at h
        rw [ev_or, e]; exact (t_or (chkT_ok a sc _ X W c h.1) (pw_or1 (chkT_ok b sc _ X W c h.2))).pt
      · rw [Bool.and_eq_true] at h
        rw [ev_or, e]; exact (t_or (chkT_ok a sc _ X W c h.1) (chkTB_ok b true sc _ _ X W c h.2)).pt
      · cases h
    · cases h
  | .cmp op a b, sc, x, X, W, c, h => by
    unfold chkT at h; split at h
    · simp only [Bool.and_eq_true] at h
      obtain ⟨⟨⟨h1, h2⟩, h3⟩, h4⟩ := h
      rw [opCB_eq h1, ev_cmp]
      exact t_cmp c.un (chkE_ok a sc _ X W c h2) (chkE_ok b sc _ X W c h3) h4
    · cases h
  | .chain o1 o2 a b d, sc, x, X, W, c, h => by
    unfold chkT at h; split at h
    · simp only [Bool.and_eq_true] at h
      obtain ⟨⟨⟨⟨⟨⟨h1, h2⟩, h3⟩, h4⟩, h5⟩, h6⟩, h7⟩ := h
      rw [opCB_eq h1, opCB_eq h2, ev_chain]
      exact t_chain c.un (chkE_ok a sc _ X W c h3) (chkE_ok b sc _ X W c h4) (chkE_ok d sc _ X W c h5) h6 h7
    · cases h
  | .call l f es, sc, x, X, W, c, h => by
    unfold chkT at h
    rw [Bool.and_eq_true] at h
    obtain ⟨hp, h⟩ := h
    refine rd_test ?_ (test_of hp X.env)
    split at h
    · rename_i y p xs p2
      simp only [Bool.and_eq_true, decide_eq_true_eq] at h
      obtain ⟨⟨⟨⟨h1, h2⟩, h3⟩, h4⟩, h5⟩ := h
      rw [ev_call]
      cases xs with
      | nil =>
        have := chkL_nil h4
        subst this
        rw [evL_nil]
        exact d_call0 (c.fn y f h3) c.pass (gl_of c h1) (dbg_of h2)
      | cons w ws => exact d_call (c.fn y f h3) c.pass (gl_of c h1) (chkL_ok es sc _ X W c h4).1 h5 (dbg_of h2)
    · cases h
  | .bi f es, sc, x, X, W, c, h => by
    unfold chkT at h
    rw [Bool.and_eq_true] at h
    obtain ⟨hp, h⟩ := h
    refine rd_test ?_ (test_of hp X.env)
    rw [ev_bi]
    split at h
    · rename_i y hb
      split at h
      · simp only [Bool.and_eq_true] at h
        obtain ⟨⟨h1, h2⟩, h3⟩ := h
        obtain ⟨rfl, hm, hg⟩ := blt_of c h1
        obtain ⟨id, k1, k2, k3, k4⟩ := bw_fn hb (X := X) c.calm c.un
        exact d_bif k1 hg hm k2 (chkL_ok es sc _ X W c h2).1 (by simpa using h3) k3 k4
      · cases h
    · rename_i y hb
      split at h
      · simp only [Bool.and_eq_true] at h
        obtain ⟨⟨⟨h1, h2⟩, h3⟩, h4⟩ := h
        obtain ⟨rfl, hm, hg⟩ := blt_of c h1
        obtain ⟨rfl, hm2, hg2⟩ := blt_of c h2
        obtain ⟨k1, k2, k3, k4⟩ := bw_isa hb
        have pl := (chkL_ok es sc _ X W c h3).2.2.2
        obtain ⟨e, he, h5, _⟩ := chkL_one h3
        have pe := pl e [] _ [] he rfl
        clear pl
        subst he
        rw [bi_one]
        exact d_isa k1 hg hm hg2 hm2 k2 k3 k4 pe h4
      · cases h
    · cases h
  | .var i, sc, x, X, W, c, h => by
    unfold chkT at h; split at h
    · refine rd_test ?_ (test_of rfl X.env)
      rw [ev_var]
      have v := var_of c h
      exact d_var v.hN v.hv v.hd v.hcd
    · cases h
  | .bl b, sc, x, X, W, c, h => by
    replace h : cBl b x = true := h
    unfold cBl at h; split at h
    · refine rd_test ?_ (test_of rfl X.env)
      have e := of_decide_eq_true h
      subst e
      have e : evE Φ (.bl b) = fun ρ => .ok (.val (.bl b)) ρ := by funext ρ; rw [evE]
      rw [e]; exact d_bl
    · cases h
  | .non, sc, x, X, W, c, h => by simp [chkT] at h
  | .int _, sc, x, X, W, c, h => by simp [chkT] at h
  | .str _, sc, x, X, W, c, h => by simp [chkT] at h
  | .tup _, sc, x, X, W, c, h => by simp [chkT] at h
  | .lst _, sc, x, X, W, c, h => by simp [chkT] at h
  | .dict _ _, sc, x, X, W, c, h => by simp [chkT] at h
  | .bin _ _ _, sc, x, X, W, c, h => by simp [chkT] at h
  | .neg _, sc, x, X, W, c, h => by simp [chkT] at h
  | .ifx _ _ _, sc, x, X, W, c, h => by simp [chkT] at h
  | .sub _ _, sc, x, X, W, c, h => by simp [chkT] at h
  | .slice _ _ _, sc, x, X, W, c, h => by simp [chkT] at h
  | .rev _, sc, x, X, W, c, h => by simp [chkT] at h
  | .append _ _, sc, x, X, W, c, h => by simp [chkT] at h
  | .pop _, sc, x, X, W, c, h => by simp [chkT] at h
  | .popAt _ _, sc, x, X, W, c, h => by simp [chkT] at h
  | .remove _ _, sc, x, X, W, c, h => by simp [chkT] at h
  | .insert _ _ _, sc, x, X, W, c, h => by simp [chkT] at h
  | .reverse _, sc, x, X, W, c, h => by simp [chkT] at h
  | .comp _ _ _ _ _ _, sc, x, X, W, c, h => by simp [chkT] at h
  | .comp2 _ _ _ _ _ _ _, sc, x, X, W, c, h => by simp [chkT] at h
  | .dcomp _ _ _ _ _ _, sc, x, X, W, c, h => by simp [chkT] at h
theorem chkTB_ok : ∀ (ir : E) (o : Bool) (sc : Scope) (ys : List Expr) (pos : Pos) (X : Cx) (W : XW), CtxE X T N sc W Φ → chkTB T N o sc ir ys = true → PW X (.BoolOp (if o then .Or else .And) ys pos) (rdT W fun ρ => boolR (evE Φ ir ρ))
  | .and a b, o, sc, ys, pos, X, W, c, h => by
    have e : (fun ρ => boolR (fAnd (evE Φ a) (evE Φ b) ρ)) = tAndR (fun ρ => boolR (evE Φ a ρ)) (fun ρ => boolR (evE Φ b ρ)) := funext fun ρ => boolR_and _ _ ρ
    unfold chkTB at h
    rw [Bool.and_eq_true] at h
    obtain ⟨ho, h⟩ := h
    have : o = false := by simpa using ho
    subst this
    split at h
    · rw [Bool.and_eq_true] at h
      rw [ev_and, e]; exact t_and (chkT_ok a sc _ X W c h.1) (pw_and1 (chkT_ok b sc _ X W c h.2))
    · rw [Bool.and_eq_true] at h
      rw [ev_and, e]; exact t_and (chkT_ok a sc _ X W c h.1) (chkTB_ok b false sc _ _ X W c h.2)
    · cases h
  | .or a b, o, sc, ys, pos, X, W, c, h => by
    have e : (fun ρ => boolR (fOr (evE Φ a) (evE Φ b) ρ)) = tOrR (fun ρ => boolR (evE Φ a ρ)) (fun ρ => boolR (evE Φ b ρ)) := funext fun ρ => boolR_or _ _ ρ
    unfold chkTB at h
    rw [Bool.and_eq_true] at h
    obtain ⟨ho, h⟩ := h
    subst ho
    split at h
    · rw [Bool.and_eq_true] at h
      rw [ev_or, e]; exact t_or (chkT_ok a sc _ X W c h.1) (pw_or1 (chkT_ok b sc _ X W c h.2))
    · rw [Bool.and_eq_true] at h
      rw [ev_or, e]; exact t_or (chkT_ok a sc _ X W c h.1) (chkTB_ok b true sc _ _ X W c h.2)
    · cases h
  | .non, o, sc, ys, pos, X, W, c, h => by simp [chkTB] at h
  | .bl _, o, sc, ys, pos, X, W, c, h => by simp [chkTB] at h
  | .int _, o, sc, ys, pos, X, W, c, h => by simp [chkTB] at h
  | .str _, o, sc, ys, pos, X, W, c, h => by simp [chkTB] at h
  | .var _, o, sc, ys, pos, X, W, c, h => by simp [chkTB] at h
  | .tup _, o, sc, ys, pos, X, W, c, h => by simp [chkTB] at h
  | .lst _, o, sc, ys, pos, X, W, c, h => by simp [chkTB] at h
  | .dict _ _, o, sc, ys, pos, X, W, c, h => by simp [chkTB] at h
  | .bin _ _ _, o, sc, ys, pos, X, W, c, h => by simp [chkTB] at h
  | .neg _, o, sc, ys, pos, X, W, c, h => by simp [chkTB] at h
  | .not _, o, sc, ys, pos, X, W, c, h => by simp [chkTB] at h
  | .ifx _ _ _, o, sc, ys, pos, X, W, c, h => by simp [chkTB] at h
  | .cmp _ _ _, o, sc, ys, pos, X, W, c, h => by simp [chkTB] at h
  | .chain _ _ _ _ _, o, sc, ys, pos, X, W, c, h => by simp [chkTB] at h
  | .sub _ _, o, sc, ys, pos, X, W, c, h => by simp [chkTB] at h
  | .slice _ _ _, o, sc, ys, pos, X, W, c, h => by simp [chkTB] at h
  | .rev _, o, sc, ys, pos, X, W, c, h => by simp [chkTB] at h
  | .bi _ _, o, sc, ys, pos, X, W, c, h => by simp [chkTB] at h
  | .call _ _ _, o, sc, ys, pos, X, W, c, h => by simp [chkTB] at h
  | .append _ _, o, sc, ys, pos, X, W, c, h => by simp [chkTB] at h
  | .pop _, o, sc, ys, pos, X, W, c, h => by simp [chkTB] at h
  | .popAt _ _, o, sc, ys, pos, X, W, c, h => by simp [chkTB] at h
  | .remove _ _, o, sc, ys, pos, X, W, c, h => by simp [chkTB] at h
  | .insert _ _ _, o, sc, ys, pos, X, W, c, h => by simp [chkTB] at h
  | .reverse _, o, sc, ys, pos, X, W, c, h => by simp [chkTB] at h
  | .comp _ _ _ _ _ _, o, sc, ys, pos, X, W, c, h => by simp [chkTB] at h
  | .comp2 _ _ _ _ _ _ _, o, sc, ys, pos, X, W, c, h => by simp [chkTB] at h
  | .dcomp _ _ _ _ _ _, o, sc, ys, pos, X, W, c, h => by simp [chkTB] at h
theorem chkI_ok : ∀ (src : List E) (sk : SK) (sc : Scope) (t it : Expr) (X : Cx) (W : XW), CtxE X T N sc W Φ → chkI T N sc sk src t it = true → PI X t it (rdI W sk (evL Φ src))
  | [], sk, sc, t, it, X, W, c, h => by unfold chkI at h; cases h
  | e :: es, sk, sc, t, it, X, W, c, h => by
    unfold chkI at h
    split at h
    · split at h
      · rw [evL_cons, evL_nil]
        exact i_any (chkE_ok e sc _ X W c h)
      · cases h
    · split at h
      · rw [Bool.and_eq_true] at h
        obtain ⟨h1, h⟩ := h
        obtain ⟨rfl, hm, hg⟩ := blt_of c h1
        split at h
        · rw [Bool.and_eq_true] at h
          rw [evL_cons, evL_nil]
          exact i_rng1 hg hm (chkE_ok e sc _ X W c h.1) h.2
        · simp only [Bool.and_eq_true] at h
          obtain ⟨⟨⟨h2, h3⟩, h4⟩, h5⟩ := h
          obtain ⟨a, b, d, _⟩ := chkL_ok es sc _ X W c h4
          refine i_rng2 hg hm (fs := evL Φ (e :: es)) (by rw [evL_cons]; exact a_cons (chkE_ok e sc _ X W c h2) a h3) h3 h5 fun ρ os ρ' q => ?_
          rw [evL_len q, List.length_cons, ← d]; rfl
        · cases h
      · cases h
    · rw [Bool.and_eq_true] at h
      obtain ⟨ht, h⟩ := h
      split at h
      · simp only [Bool.and_eq_true] at h
        obtain ⟨⟨⟨h1, h2⟩, h3⟩, h4⟩ := h
        obtain ⟨rfl, hm, hg⟩ := blt_of c h1
        obtain ⟨a, b, d, _⟩ := chkL_ok es sc _ X W c h4
        cases t <;> first
          | (exact i_enum hg hm (by rw [evL_cons]; exact a_cons (chkE_ok e sc _ X W c h2) a h3) h3)
          | cases ht
      · cases h
    · rw [Bool.and_eq_true] at h
      obtain ⟨ht, h⟩ := h
      split at h
      · simp only [Bool.and_eq_true] at h
        obtain ⟨⟨⟨⟨h1, h2⟩, h3⟩, h4⟩, h5⟩ := h
        obtain ⟨rfl, hm, hg⟩ := blt_of c h1
        obtain ⟨a, b, d, _⟩ := chkL_ok es sc _ X W c h4
        cases t <;> first
          | (exact i_zip hg hm (by rw [evL_cons]; exact a_cons (chkE_ok e sc _ X W c h2) a h3) h3 h5)
          | cases ht
      · cases h
    · cases h
end
end
end RR

/-! A28: statements: the check, and what it gives. -/
namespace RR
open PySem L2

/-! ### stores of tuples -/
theorem sole_tup {ts : List Expr} {k : Nat} {p : Pos} (v : Expr) (l : Nat) (env : PySem.Env) : swapsWithSole [.Tuple ts k p] v l env = pure false := by
  cases v <;> rfl
theorem sole_sub {a b : Expr} {p : Pos} (v : Expr) (l : Nat) (env : PySem.Env) : swapsWithSole [.Subscript a b p] v l env = pure false := by
  cases v <;> rfl
theorem swap_sub {a b : Expr} {p : Pos} (v : Expr) (env : PySem.Env) : swappedStores [.Subscript a b p] v env = pure none := by
  cases v <;> rfl
theorem swap_not {ts : List Expr} {k : Nat} {p : Pos} {v : Expr} (h : isTup v = false) (env : PySem.Env) : swappedStores [.Tuple ts k p] v env = pure none := by
  cases v <;> first | rfl | cases h
def lineOf (ts : List Expr) : Nat := (ts.head?.map (·.pos.line)).getD 0
def swapNames (sc : Scope) (ts : List Expr) : List Str := ts.filterMap fun
    | .Name id pos => if sc.names.lookup id == some .local && pos.line == lineOf ts then some id else none
    | _ => none
def swapNone (sc : Scope) (ts vs : List Expr) : Bool := !(ts.length == 2 || ts.length == 3) || vs.length != ts.length || (swapNames sc ts).length != ts.length
theorem blockKind_of {env : PySem.Env} (hk : env.scope.kind = .function) : env.blockKind = .function := by unfold PySem.Env.blockKind; rw [hk]; rfl
theorem swap_none {env : PySem.Env} {ts vs : List Expr} {k k2 : Nat} {p p2 : Pos} (hk : env.scope.kind = .function) (h : swapNone env.scope ts vs = true) : swappedStores [.Tuple ts k p] (.Tuple vs k2 p2) env = pure none := by
  unfold swappedStores
  simp only [swapNone, Bool.or_eq_true] at h
  have hb : (env.blockKind != .function) = false := by rw [blockKind_of hk]; rfl
  simp only [hb, Bool.or_false]
  have hn : (List.filterMap (fun x => match x with | Expr.Name id pos => if env.kindOf id == some NameKind.local && pos.line == (Option.map (fun x => x.pos.line) ts.head?).getD 0 then some id else none | x => none) ts) = swapNames env.scope ts := rfl
  rcases h with h | h
  · have h' : (!(ts.length == 2 || ts.length == 3) || vs.length != ts.length) = true := by simpa using h
    rw [if_pos h']
  · split
    · rfl
    · split
      · rfl
      · have h2 : ((swapNames env.scope ts).length != ts.length) = true := h
        rw [if_pos]
        rw [Bool.or_eq_true]
        exact .inl h2
theorem swap_two {env : PySem.Env} {x y : Str} {px py p p2 : Pos} {k k2 : Nat} {a b : Expr} (hk : env.scope.kind = .function) (hx : env.scope.names.lookup x = some .local) (hy : env.scope.names.lookup y = some .local) (hne : x ≠ y) (hl : (px.line == py.line) = true)
    (ha : notStar a = true) (hb : notStar b = true) (hf : ([a, b] : List Expr).all (foldedForSure 8) = false) (hc : ([a, b] : List Expr).all (constantsAlone 8) = false) :
    swappedStores [.Tuple [.Name x px, .Name y py] k p] (.Tuple [a, b] k2 p2) env = pure (some [x, y]) := by
  unfold swappedStores
  have hbk : (env.blockKind != .function) = false := by rw [blockKind_of hk]; rfl
  have kx : env.kindOf x = some .local := hx
  have ky : env.kindOf y = some .local := hy
  have e1 : (py.line == px.line) = true := by rw [beq_iff_eq] at hl ⊢; exact hl.symm
  have fa : ∀ e : Expr, notStar e = true → (match e with | .Starred _ _ => true | _ => false) = false := fun e h => by cases e <;> first | rfl | cases h
  have hst : ([a, b] : List Expr).any (fun x => match x with | .Starred _ _ => true | _ => false) = false := by
    simp only [List.any_cons, List.any_nil, fa a ha, fa b hb, Bool.or_false]
  have hd : ([x, y] : List Str).eraseDups.length = 2 := by
    have : (y == x) = false := by simpa using fun z => hne z.symm
    simp [List.eraseDups_cons, List.filter, this]
  have c1 : (env.kindOf x == some NameKind.local && px.line == px.line) = true := by rw [kx]; simp
  have c2 : (env.kindOf y == some NameKind.local && py.line == px.line) = true := by rw [ky, e1]; rfl
  simp only [hbk]
  rw [if_neg (by intro z; cases z), if_neg (by intro z; exact absurd (hst.symm.trans z) (by decide))]
  generalize hns : List.filterMap _ [Expr.Name x px, Expr.Name y py] = ns
  have hn : ns = [x, y] := by
    rw [← hns]
    refine (List.filterMap_cons_some (b := x) ?_).trans ?_
    · exact if_pos c1
    · refine congrArg (x :: ·) ((List.filterMap_cons_some (b := y) ?_).trans ?_)
      · exact if_pos c2
      · rfl
  subst hn
  rw [if_neg (by rw [hd]; intro z; cases z), hf, hc]
  rfl

/-! ### the check -/
def isVarE : E → Bool
  | .var _ => true
  | _ => false
def varsE : List E → Nat → Bool
  | [], _ => false
  | e :: es, j => (match e with | .var i => i == j | _ => false) || varsE es j
def fixFor (fix : Fix) (hide : Bool) (src : List E) : Fix := fun j => fix j || (hide && varsE src j)
def noneFix (fix : Fix) (is : List Nat) : Bool := is.all fun j => !fix j
/-- stored by a swap -/
def swC (sc : Scope) (x : Str) (px : Pos) (v : Expr) : Bool := match v with
  | .ListComp _ _ scope p => decide (sc.names.lookup x = some .local) && (px.line == p.line) && !(scope.names.any fun (n, k) => n == x && (k == .local || k == .cell))
  | .DictComp _ _ _ scope p => decide (sc.names.lookup x = some .local) && (px.line == p.line) && !(scope.names.any fun (n, k) => n == x && (k == .local || k == .cell))
  | _ => false
def notDS (v : Expr) : Bool := match v with
  | .SetComp _ _ _ _ => false
  | _ => true
section
variable (T : Tab) (N : List Str) (sc : Scope)
def chkCmp (e : E) (v : Expr) : Bool := match v with
  | .ListComp w [⟨t, it, ifs, k⟩] scope _ => (match e with
      | .comp _ elt tg sk src cond => decide (k = 0) && blkC N sc scope (ownOf N tg) && notSet it && chkI T N sc sk src t it && tgC N (relS scope sc) (fnBlk scope) tg t && chkE T N (relS scope sc) elt w && chkC T N (relS scope sc) cond ifs
      | _ => false)
  | .DictComp kx vx [⟨t, it, ifs, a⟩] scope _ => (match e with
      | .dcomp kind k v tg sk src => decide (a = 0) && decide (kind = 0) && ifs.isEmpty && blkC N sc scope (ownOf N tg) && notSet it && chkI T N sc sk src t it && tgC N (relS scope sc) (fnBlk scope) tg t && chkE T N (relS scope sc) k kx && chkE T N (relS scope sc) v vx
      | _ => false)
  | _ => false
mutual
def chkS : Fix → St → Stmt → Bool
  | _, .ret e, s => (match s with | .Return (some x) _ => chkE T N sc e x | .Return none _ => (match e with | .non => true | _ => false) | _ => false)
  | fix, .asg i e, s => !fix i && (match s with | .Assign [.Name x px] v _ => decide (N[i]? = some x) && locC sc x && (if swC sc x px v then chkCmp T N sc e v else notDS v && chkE T N sc e v) | _ => false)
  | fix, .unp is e, s => noneFix fix is && (match s with | .Assign [.Tuple ts k p] v _ => tgC N sc (fun _ => true) is (.Tuple ts k p) && (match v with | .Tuple vs _ _ => swapNone sc ts vs | _ => true) && chkE T N sc e v | _ => false)
  | fix, .par is es, s => noneFix fix is && ((match s with
      | .Assign [.Tuple ts k p] (.Tuple vs _ _) _ => decide (2 ≤ is.length) && decide is.Nodup && decide (es.length ≤ LINE) && tgC N sc (fun _ => true) is (.Tuple ts k p) && swapNone sc ts vs && chkL T N sc es vs
      | _ => false) || (match is, s with
      | [i, j], .Assign [.Tuple [.Name x px, .Name y py] _ _] (.Tuple [a, b] _ _) _ => decide (N[i]? = some x) && decide (N[j]? = some y) && decide (i ≠ j) && decide (x ≠ y) && decide (sc.names.lookup x = some .local) && decide (sc.names.lookup y = some .local) && (px.line == py.line) &&
          !(([a, b] : List Expr).all (foldedForSure 8)) && !(([a, b] : List Expr).all (constantsAlone 8)) && chkL T N sc es [a, b]
      | _, _ => false))
  | _, .setit i k v, s => (match s with | .Assign [.Subscript (.Name x _) y _] w _ => varC N sc i x && chkE T N sc v w && chkE T N sc k y && notSlice y | _ => false)
  | _, .set2 _ _ _ _ _, _ => false
  | fix, .aug op i e, s => !fix i && (match s with | .AugAssign (.Name x _) o y _ => opB op o && decide (N[i]? = some x) && locC sc x && chkE T N sc e y | _ => false)
  | fix, .ite c a b, s => (match s with | .If t x y _ => chkT T N sc c t && chkSs fix a x && chkSs fix b y | _ => false)
  | fix, .for hide tg sk src body, s => (match s with
      | .For t it bd [] _ => notSet it && chkI T N sc sk src t it && tgC N sc (fun _ => true) tg t && noneFix (fixFor fix hide src) tg && (!hide || src.all isVarE) && chkSs (fixFor fix hide src) body bd
      | _ => false)
  | fix, .while c body, s => (match s with | .While t bd [] _ => chkT T N sc c t && chkSs fix body bd | _ => false)
  | _, .expr e, s => (match s with | .Expr x _ => notComp x && chkE T N sc e x | _ => false)
  | _, .raise c es, s => (match es, s with
      | [.str _], .Raise (some (.Call (.Name x _) [.Constant (.str _) _ _] [] _)) none _ => decide (T.excs.lookup x = some c) && glC sc x && notDbg x
      | _, _ => false)
def chkSs : Fix → List St → List Stmt → Bool
  | _, [], s => (match s with | [] => true | _ => false)
  | fix, a :: r, s => (match s with | x :: y => chkS fix a x && chkSs fix r y | _ => false)
end
end

/-! ### sound -/
structure CtxS (X : Cx) (T : Tab) (N : List Str) (sc : Scope) (W : XW) (Φ : Calls) : Prop extends CtxE X T N sc W Φ where
  own : PassesOwn (model X.prog X.w) X.A X.env X.xe
  takes : Takes X fun cls d _ H => W.E cls d H
  exc : ∀ x c, T.excs.lookup x = some c → ExcG X W.xc x c
  fnt : ∀ x, X.fn x = true
  kd : X.env.scope.kind = .function
theorem inTg_none {fix : Fix} {is : List Nat} (h : noneFix fix is = true) : ∀ j, inTg is j = true → fix j = false := fun j hj => by
  have := List.all_eq_true.mp h j (inTg_mem.mp hj)
  simpa using this
theorem vars_pl {Φ : Calls} : ∀ {src : List E} {ρ ρ1 : Env} {os : List Opd}, src.all isVarE = true → evL Φ src ρ = .ok os ρ1 → ∀ j, inPl os j = true → varsE src j = true
  | [], ρ, ρ1, os, _, h, j, hj => by
    rw [evL] at h; cases h; simp [inPl] at hj
  | e :: es, ρ, ρ1, os, hv, h, j, hj => by
    rw [List.all_cons, Bool.and_eq_true] at hv
    cases e with
    | var i =>
      rw [evL] at h
      have hi : ∀ {o ρ2}, evE Φ (.var i) ρ = .ok o ρ2 → inPl [o] j = true → i = j := fun {o ρ2} q w => by
        rw [evE] at q
        split at q
        · cases q; simp [inPl] at w
        · cases q; simpa [inPl] using w
        · cases q
      cases q : evE Φ (.var i) ρ with
      | bad => rw [q] at h; cases h
      | exc x ρ2 => rw [q] at h; cases h
      | ok o ρ2 =>
        rw [q] at h
        simp only [Res.bind] at h
        cases q2 : evL Φ es ρ2 with
        | bad => rw [q2] at h; cases h
        | exc x ρ3 => rw [q2] at h; cases h
        | ok os2 ρ3 =>
          rw [q2] at h
          cases h
          have hj' : (inPl [o] j || inPl os2 j) = true := by
            have : inPl (o :: os2) j = (inPl [o] j || inPl os2 j) := by simp [inPl]
            rw [← this]; exact hj
          rw [Bool.or_eq_true] at hj'
          show ((i == j) || varsE es j) = true
          rcases hj' with w | w
          · have := hi q w
            subst this; simp
          · rw [vars_pl hv.2 q2 j w]; simp
    | _ => cases hv.1
section
variable {T : Tab} {N : List Str} {sc : Scope} {Φ : Calls} {X : Cx} {W : XW}
theorem es_ret {e : E} : evS Φ (.ret e) = fun ρ => (evE Φ e ρ).out fun o ρ1 => .ret o ρ1 := by funext ρ; rw [evS]
theorem es_asg {i : Nat} {e : E} : evS Φ (.asg i e) = fun ρ => (evE Φ e ρ).out fun o ρ1 => .nx (putO i o ρ1) := by funext ρ; rw [evS]
theorem es_unp {is : List Nat} {e : E} : evS Φ (.unp is e) = fun ρ => (evE Φ e ρ).out fun o ρ1 => outO (match look o ρ1 with | .tup ds => bindT is (.tup ds) ρ1 | _ => none) := by funext ρ; rw [evS] <;> rfl
theorem es_par {is : List Nat} {es : List E} : evS Φ (.par is es) = fun ρ => (evL Φ es ρ).out fun os ρ1 => outO (putOs is (os.map (unpl ρ1)) (fzs os ρ1)) := by funext ρ; rw [evS]
theorem es_setit {i : Nat} {k v : E} : evS Φ (.setit i k v) = fun ρ => (evE Φ v ρ).out fun o ρ1 => if ownAt ρ1 i then (evE Φ k ρ1).out fun x ρ2 => outO (setO (fz o ρ2) i (look x ρ2) (look o ρ2)) else .bad := by funext ρ; rw [evS]
theorem es_aug {op : B2} {i : Nat} {e : E} : evS Φ (.aug op i e) = fun ρ => (match getS ρ i with | .non => .bad | _ => (evE Φ e ρ).out fun o ρ1 => outO (augO op ρ1 i o)) := by
  funext ρ
  rw [evS] <;> (cases getS ρ i <;> rfl)
theorem es_ite {c : E} {a b : List St} : evS Φ (.ite c a b) = fun ρ => (boolR (evE Φ c ρ)).out fun k ρ1 => if k then evSs Φ a ρ1 else evSs Φ b ρ1 := by funext ρ; rw [evS]
theorem es_for {hide : Bool} {tg : List Nat} {sk : SK} {src : List E} {body : List St} : evS Φ (.for hide tg sk src body) = fFor hide tg sk (evL Φ src) (evSs Φ body) := by funext ρ; rw [evS] <;> rfl
theorem es_while {c : E} {body : List St} : evS Φ (.while c body) = fun ρ => whF (fun ρ => boolR (evE Φ c ρ)) (evSs Φ body) TURNS ρ := by funext ρ; rw [evS]
theorem es_expr {e : E} : evS Φ (.expr e) = fun ρ => (evE Φ e ρ).out fun _ ρ1 => .nx ρ1 := by funext ρ; rw [evS]
theorem es_raise {c : Nat} {s : S} : evS Φ (.raise c [.str s]) = fun ρ => .exc ⟨c, .non⟩ ρ := by
  funext ρ
  rw [evS, evL_cons, evL_nil]
  have h : evE Φ (.str s) ρ = .ok (.val (.str s)) ρ := by rw [evE]
  show ((evE Φ (.str s) ρ).bind fun o ρ1 => ((fNil ρ1).bind fun os ρ2 => .ok (o :: os) ρ2)).out _ = _
  rw [h]
  rfl
theorem ess_nil : evSs Φ [] = fun ρ => .nx ρ := by funext ρ; rw [evSs]
theorem ess_cons {s : St} {ss : List St} : evSs Φ (s :: ss) = fun ρ => (evS Φ s ρ).bind (evSs Φ ss) := by funext ρ; rw [evSs]
theorem sw_not {x : Str} {px p : Pos} {v : Expr} (c : CtxS X T N sc W Φ) (h : swC sc x px v = false) (hd : notDS v = true) : swapsWith v (some (.Name x px)) p.line X.env = pure false := by
  cases v with
  | ListComp elt gs scope lp =>
    have hb : X.env.blockKind = .function := blockKind_of c.kd
    have hk : X.env.kindOf x = sc.names.lookup x := by show X.env.scope.names.lookup x = _; rw [c.sc]
    unfold swapsWith
    unfold swC at h
    simp only [hb, hk, Expr.pos]
    have e : (decide (sc.names.lookup x = some .local) && (px.line == lp.line) && !(scope.names.any fun (n, k) => n == x && (k == .local || k == .cell))) = false := h
    have e2 : (sc.names.lookup x == some NameKind.local) = decide (sc.names.lookup x = some .local) := by
      cases q : decide (sc.names.lookup x = some .local) with
      | true => simpa using q
      | false => simpa using q
    show (pure (ScopeKind.function == .function && sc.names.lookup x == some .local && px.line == lp.line && !(scope.names.any fun (n, k) => n == x && (k == .local || k == .cell))) : Sem Bool) = pure false
    rw [e2]
    have e3 : (ScopeKind.function == ScopeKind.function) = true := rfl
    rw [e3, Bool.true_and, e]
  | DictComp kx vx gs scope lp =>
    have hb : X.env.blockKind = .function := blockKind_of c.kd
    have hk : X.env.kindOf x = sc.names.lookup x := by show X.env.scope.names.lookup x = _; rw [c.sc]
    unfold swapsWith
    unfold swC at h
    simp only [hb, hk, Expr.pos]
    have e : (decide (sc.names.lookup x = some .local) && (px.line == lp.line) && !(scope.names.any fun (n, k) => n == x && (k == .local || k == .cell))) = false := h
    have e2 : (sc.names.lookup x == some NameKind.local) = decide (sc.names.lookup x = some .local) := by
      cases q : decide (sc.names.lookup x = some .local) with
      | true => simpa using q
      | false => simpa using q
    show (pure (ScopeKind.function == .function && sc.names.lookup x == some .local && px.line == lp.line && !(scope.names.any fun (n, k) => n == x && (k == .local || k == .cell))) : Sem Bool) = pure false
    rw [e2]
    have e3 : (ScopeKind.function == ScopeKind.function) = true := rfl
    rw [e3, Bool.true_and, e]
  | SetComp _ _ _ _ => cases hd
  | _ => rfl
mutual
theorem chkS_ok : ∀ (ir : St) (fix : Fix) (s : Stmt), CtxS X T N sc W Φ → chkS T N sc fix ir s = true → PS X s (rdS W fix (evS Φ ir))
  | .ret e, fix, s, c, h => by
    unfold chkS at h
    split at h
    · rw [es_ret]; exact s_ret (chkE_ok e sc _ X W c.toCtxE h)
    · split at h
      · have e : evS Φ (.ret .non) = fun ρ => .ret (.val .non) ρ := by
          rw [es_ret]; funext ρ; rw [evE]; rfl
        rw [e]; exact s_retN
      · cases h
    · cases h
  | .asg i e, fix, s, c, h => by
    unfold chkS at h
    rw [Bool.and_eq_true] at h
    obtain ⟨hf, h⟩ := h
    have hf : fix i = false := by simpa using hf
    split at h
    · rename_i x px v p
      simp only [Bool.and_eq_true, decide_eq_true_eq] at h
      obtain ⟨⟨h1, h2⟩, h3⟩ := h
      rw [es_asg]
      split at h3
      · rename_i hsw
        unfold chkCmp at h3
        split at h3
        · rename_i w t it ifs k scope lp
          split at h3
          · rename_i hide elt tg sk src cond
            simp only [Bool.and_eq_true, decide_eq_true_eq] at h3
            obtain ⟨⟨⟨⟨⟨⟨rfl, g2⟩, g3⟩, g4⟩, g5⟩, g6⟩, g7⟩ := h3
            have hsw' : (decide (sc.names.lookup x = some .local) && (px.line == lp.line) && !(scope.names.any fun (n, k) => n == x && (k == .local || k == .cell))) = true := hsw
            simp only [Bool.and_eq_true, decide_eq_true_eq] at hsw'
            obtain ⟨⟨w1, w2⟩, w3⟩ := hsw'
            rw [ev_comp]
            refine s_asgC c.calm (by rw [c.hN]; exact c.nd) (by rw [c.hN]; exact h1) (by rw [c.sc]; exact w1) (sw_true c.kd (by rw [c.sc]; exact w1) w2 (by simpa using w3)) (chkI_ok src sk sc t it X W c.toCtxE g4) (own := ownOf N tg) (by rw [c.hN, c.sc]; exact blkOk_by g2) (own_snd tg) (fun s H C cl fp => ?_) (fun s H C cl fp => ?_) (fun s H C cl fp => ?_) g3 hf
            · exact tg_pg (c.toCtxE.blk s H scope C cl fp) (fun x hx => hx) g5
            · exact chkC_ok cond _ _ _ _ (c.toCtxE.blk s H scope C cl fp) g7
            · exact chkE_ok elt _ _ _ _ (c.toCtxE.blk s H scope C cl fp) g6
          · cases h3
        · rename_i kx vx t it ifs a scope lp
          split at h3
          · rename_i kind k v tg sk src
            simp only [Bool.and_eq_true, decide_eq_true_eq] at h3
            obtain ⟨⟨⟨⟨⟨⟨⟨⟨rfl, rfl⟩, g3⟩, g4⟩, g5⟩, g6⟩, g7⟩, g8⟩, g9⟩ := h3
            have hsw' : (decide (sc.names.lookup x = some .local) && (px.line == lp.line) && !(scope.names.any fun (n, k) => n == x && (k == .local || k == .cell))) = true := hsw
            simp only [Bool.and_eq_true, decide_eq_true_eq] at hsw'
            obtain ⟨⟨w1, w2⟩, w3⟩ := hsw'
            have hi : ifs = [] := by simpa using g3
            subst hi
            rw [ev_dcomp]
            refine s_asgDC c.calm (by rw [c.hN]; exact c.nd) (by rw [c.hN]; exact h1) (by rw [c.sc]; exact w1) (sw_trueD c.kd (by rw [c.sc]; exact w1) w2 (by simpa using w3)) (chkI_ok src sk sc t it X W c.toCtxE g6) (own := ownOf N tg) (by rw [c.hN, c.sc]; exact blkOk_by g4) (own_snd tg) (fun s H C cl fp => ?_) (fun s H C cl fp => ?_) (fun s H C cl fp => ?_) (fun s H C cl fp => ?_) g5 hf
            · exact tg_pg (c.toCtxE.blk s H scope C cl fp) (fun x hx => hx) g7
            · rw [← ev_c0 (Φ := Φ)]
              exact chkC_ok [] _ _ _ _ (c.toCtxE.blk s H scope C cl fp) (by unfold chkC; rfl)
            · exact chkE_ok k _ _ _ _ (c.toCtxE.blk s H scope C cl fp) g8
            · exact chkE_ok v _ _ _ _ (c.toCtxE.blk s H scope C cl fp) g9
          · cases h3
        · cases h3
      · rename_i hsw
        rw [Bool.and_eq_true] at h3
        exact s_asg (by rw [c.hN]; exact c.nd) ⟨by rw [c.hN]; exact h1, loc_of c.toCtxE h2, .inl (c.fnt x)⟩ (chkE_ok e sc _ X W c.toCtxE h3.2) (sw_not c (by simpa using hsw) h3.1) hf
    · cases h
  | .unp is e, fix, s, c, h => by
    unfold chkS at h
    rw [Bool.and_eq_true] at h
    obtain ⟨hf, h⟩ := h
    split at h
    · rename_i ts k p v p2
      simp only [Bool.and_eq_true] at h
      obtain ⟨⟨h1, h2⟩, h3⟩ := h
      rw [es_unp]
      refine s_unp (chkE_ok e sc _ X W c.toCtxE h3) (tg_pg c.toCtxE (fun x _ => c.fnt x) h1) (sole_tup _ _ _) ?_ rfl (inTg_none hf)
      split at h2
      · exact swap_none c.kd (by rw [c.sc]; exact h2)
      · rename_i hv
        refine swap_not ?_ _
        cases v <;> first | rfl | exact absurd rfl (hv _ _ _)
    · cases h
  | .par is es, fix, s, c, h => by
    unfold chkS at h
    rw [Bool.and_eq_true] at h
    obtain ⟨hf, h⟩ := h
    rw [Bool.or_eq_true] at h
    rcases h with h | h
    · split at h
      · simp only [Bool.and_eq_true, decide_eq_true_eq] at h
        obtain ⟨⟨⟨⟨⟨h1, h2⟩, h3⟩, h4⟩, h5⟩, h6⟩ := h
        rw [es_par]
        exact s_parT h1 h2 (chkL_ok es sc _ X W c.toCtxE h6).1 (tg_pg c.toCtxE (fun x _ => c.fnt x) h4) (fun ρ os ρ' q => by rw [evL_len q]; exact h3) (sole_tup _ _ _) (swap_none c.kd (by rw [c.sc]; exact h5)) rfl (inTg_none hf)
      · cases h
    split at h
    · simp only [Bool.and_eq_true, decide_eq_true_eq] at h
      obtain ⟨⟨⟨⟨⟨⟨⟨⟨⟨h1, h2⟩, h3⟩, h4⟩, h5⟩, h6⟩, h7⟩, h8⟩, h9⟩, h10⟩ := h
      rw [es_par]
      obtain ⟨pl, ns, nl, _⟩ := chkL_ok es sc _ X W c.toCtxE h10
      have hi := inTg_none hf
      simp only [List.all_cons, List.all_nil, Bool.and_true, Bool.and_eq_true] at ns
      refine s_par2 c.calm (by rw [c.hN]; exact c.nd) (by rw [c.hN]; exact h1) (by rw [c.hN]; exact h2) h3 (by rw [c.sc]; exact h5) (by rw [c.sc]; exact h6) pl (fun ρ os ρ' q => by rw [evL_len q, ← nl]; rfl)
        (swap_two c.kd (by rw [c.sc]; exact h5) (by rw [c.sc]; exact h6) h4 h7 ns.1 ns.2 (by simpa only [Bool.not_eq_true'] using h8) (by simpa only [Bool.not_eq_true'] using h9)) (hi _ (by simp [inTg])) (hi _ (by simp [inTg]))
    · cases h
  | .setit i k v, fix, s, c, h => by
    unfold chkS at h
    split at h
    · simp only [Bool.and_eq_true] at h
      obtain ⟨⟨⟨h1, h2⟩, h3⟩, h4⟩ := h
      rw [es_setit]
      exact s_setit (Nat.lt_of_le_of_lt (by omega) c.un) (var_of c.toCtxE h1) (chkE_ok v sc _ X W c.toCtxE h2) (chkE_ok k sc _ X W c.toCtxE h3) h4 (sole_sub _ _ _) (swap_sub _ _)
    · cases h
  | .set2 _ _ _ _ _, fix, s, c, h => by unfold chkS at h; cases h
  | .aug op i e, fix, s, c, h => by
    unfold chkS at h
    rw [Bool.and_eq_true] at h
    obtain ⟨hf, h⟩ := h
    split at h
    · simp only [Bool.and_eq_true, decide_eq_true_eq] at h
      obtain ⟨⟨⟨h1, h2⟩, h3⟩, h4⟩ := h
      rw [es_aug, opB_eq h1]
      exact s_aug (by rw [c.hN]; exact c.nd) ⟨by rw [c.hN]; exact h2, loc_of c.toCtxE h3, .inl (c.fnt _)⟩ (chkE_ok e sc _ X W c.toCtxE h4) (by simpa using hf)
    · cases h
  | .ite k a b, fix, s, c, h => by
    unfold chkS at h
    split at h
    · simp only [Bool.and_eq_true] at h
      obtain ⟨⟨h1, h2⟩, h3⟩ := h
      rw [es_ite]
      exact s_ite (chkT_ok k sc _ X W c.toCtxE h1) (chkSs_ok a fix _ c h2) (chkSs_ok b fix _ c h3)
    · cases h
  | .for hide tg sk src body, fix, s, c, h => by
    unfold chkS at h
    split at h
    · simp only [Bool.and_eq_true] at h
      obtain ⟨⟨⟨⟨⟨h1, h2⟩, h3⟩, h4⟩, h5⟩, h6⟩ := h
      rw [es_for]
      refine s_for c.own c.calm (chkI_ok src sk sc _ _ X W c.toCtxE h2) (tg_pg c.toCtxE (fun x _ => c.fnt x) h3) (chkSs_ok body _ _ c h6) h1 (fun j hj => ?_) (inTg_none h4) (fun hh ρ os ρ1 q j hj => ?_)
      · show (fix j || _) = true
        rw [hj]; rfl
      · subst hh
        rw [Bool.or_eq_true] at h5
        rcases h5 with z | z
        · cases z
        · show (fix j || (true && varsE src j)) = true
          rw [vars_pl z q j hj]; simp
    · cases h
  | .while k body, fix, s, c, h => by
    unfold chkS at h
    split at h
    · rw [Bool.and_eq_true] at h
      rw [es_while]
      exact s_while c.own (chkT_ok k sc _ X W c.toCtxE h.1) (chkSs_ok body fix _ c h.2)
    · cases h
  | .expr e, fix, s, c, h => by
    unfold chkS at h
    split at h
    · rw [Bool.and_eq_true] at h
      rw [es_expr]
      exact s_expr (chkE_ok e sc _ X W c.toCtxE h.2) (sw_of h.1 _ _ _)
    · cases h
  | .raise k es, fix, s, c, h => by
    unfold chkS at h
    split at h
    · simp only [Bool.and_eq_true, decide_eq_true_eq] at h
      obtain ⟨⟨h1, h2⟩, h3⟩ := h
      rw [es_raise]
      exact s_raise c.calm c.takes (c.exc _ _ h1) (gl_of c.toCtxE h2) (dbg_of h3)
    · cases h
theorem chkSs_ok : ∀ (ir : List St) (fix : Fix) (s : List Stmt), CtxS X T N sc W Φ → chkSs T N sc fix ir s = true → PSs X s (rdS W fix (evSs Φ ir))
  | [], fix, s, c, h => by
    unfold chkSs at h
    split at h
    · rw [ess_nil]; exact ss_nil
    · cases h
  | a :: r, fix, s, c, h => by
    unfold chkSs at h
    split at h
    · rw [Bool.and_eq_true] at h
      rw [ess_cons]
      exact ss_cons (chkS_ok a fix _ c h.1) (chkSs_ok r fix _ c h.2)
    · cases h
end
end
end RR

/-! A29: all the defs of a text. -/
namespace RR
open PySem L2

/-- a class of exceptions as the top has made it -/
structure ExcK (K : PySem.W.Frag) (mg : Str → Option Value) (xc : XCls) (x : Str) (c : Nat) : Prop where
  ex : ∃ (C : Addr) (bmB : List Value) (B newId initId : String), ExcBaseFacts B newId initId bmB ∧ PySem.W.excIn K C bmB newId = true ∧ mg x = some (.ref C) ∧ PySem.W.keepIn K (.ref C) = true ∧ PySem.W.subIn K (.ref C) (.type "BaseException") = some true ∧ PySem.W.typeIn K (.ref C) = some (.type "type") ∧ xc c = .ref C
/-- what the top has made -/
structure Env1 (K : PySem.W.Frag) (mg : Str → Option Value) (xc : XCls) (T : Tab) : Prop where
  no : ∀ x ∈ T.blt, mg x = none
  cst : ∀ x c, T.csts.lookup x = some c → ∃ v u, mg x = some u ∧ RelV v u ∧ ∀ G, Rep G v (match c with | .inl i => .int i | .inr s => .str s)
  exc : ∀ x c, T.excs.lookup x = some c → ExcK K mg xc x c
/-- a def as the top has made it, and its term -/
structure DefAt (K : PySem.W.Frag) (mg : Str → Option Value) (prog : Nat → Option Fn) (T : Tab) (y : Str) (g : Nat) (st : Stmt) (fa : Addr) (fd : FuncData) (N ps : List Str) : Prop where
  ex : ∃ F qual, prog g = some F ∧ Fun K y qual st fa fd ∧ FnScope N ps (defScope st) ∧ ps.length = F.pars ∧ N.length = F.slots ∧ chkSs T N (defScope st) (ioFix F.io) F.body (defBody st) = true
  mg : mg y = some (.ref fa)
  binds : Binds K fd ps []
section
variable {P : Program} {w : World} {K : PySem.W.Frag} {mg : Str → Option Value} {base : Heap} {xc : XCls} {T : Tab} {prog : Nat → Option Fn}
theorem sp_bad {vs : List V} {H : Hp} {Q : VK} {E : XK} {run : List Sl → CR} (h : spF xc run vs H Q E) (hb : ∀ as, run as = .bad) : False := by
  obtain ⟨G, as, l, r, m⟩ := h
  rw [hb as] at m
  exact m
theorem def_ok (E1 : Env1 K mg xc T) (D : ∀ y g, T.fns.lookup y = some g → ∃ st fa fd N ps, DefAt K mg prog T y g st fa fd N ps) : ∀ (n : Nat) {y : Str} {g : Nat} {st : Stmt} {fa : Addr} {fd : FuncData} {N ps : List Str}, DefAt K mg prog T y g st fa fd N ps →
    FnOk P w K mg base (L2.CX P w) n fa fd ps (spF xc (callAt prog n g))
  | 0, y, g, st, fa, fd, N, ps, d => by
    refine ⟨fun vs H Q E h => (sp_bad h fun as => ?_).elim, fun A outer s H args us vs Q E _ _ _ _ h => (sp_bad h fun as => ?_).elim⟩
    · rw [callAt]
    · rw [callAt]
  | n + 1, y, g, st, fa, fd, N, ps, d => by
    obtain ⟨F, qual, hp, FU, S, hl, hN, hc⟩ := d.ex
    have run : ∀ as, callAt prog (n + 1) g as = runFn (callsOf prog n) F as := fun as => by
      rw [callAt, hp]; rfl
    have run2 : ∀ as, (as.length = F.pars ∧ okSl F.io 0 as = true ∧ runFn (callsOf prog n) F as = endC F.io (evSs (callsOf prog n) F.body (as ++ List.replicate (F.slots - F.pars) .non))) ∨ runFn (callsOf prog n) F as = .bad := fun as => by
      unfold runFn
      by_cases q : as.length = F.pars ∧ okSl F.io 0 as = true
      · rw [if_pos q]; exact .inl ⟨q.1, q.2, rfl⟩
      · rw [if_neg q]; exact .inr rfl
    refine FU.okX S (fun vs H Q E h => ?_) fun cdv A outer s H vs Q E hr h => ?_
    · obtain ⟨G, as, l, r, m⟩ := h
      rw [run] at m
      rcases run2 as with ⟨q, _, _⟩ | q
      · rw [args_len r, q, hl]
      · rw [q] at m; exact False.elim m
    · obtain ⟨G, as, l, r, m⟩ := h
      rw [run] at m
      rcases run2 as with ⟨q1, q2, q3⟩ | q
      · rw [q3] at m
        have hm : N.length = as.length + (F.slots - F.pars) := by
          have : ps.length ≤ N.length := by
            have z := congrArg List.length S.pre
            rw [List.length_take] at z; omega
          omega
        have cx : CtxS (cxOf (L2.CX P w) P w K mg base N qual (defScope st) fa cdv A outer s H E) T N (defScope st) ⟨xc, E⟩ (callsOf prog n) := by
          have tk : Takes (cxOf (L2.CX P w) P w K mg base N qual (defScope st) fa cdv A outer s H E) (fun cls d _ H => E cls d H) := takes_of rfl rfl rfl rfl
          exact {
            calm := rfl, hN := rfl, nd := S.nd, sc := rfl
            un := by
              have h1 := hr.un
              show (A.deeper (PyProof.Rows.envOfC qual (defScope st) s.heap.objs.size fa cdv)).units + 65 < cLine
              omega
            no := E1.no
            fn := fun x f hx => by
              obtain ⟨st', fa', fd', N', ps', d'⟩ := D x f hx
              obtain ⟨F', qual', _, FU', _⟩ := d'.ex
              exact ⟨⟨n, fa', fd', ps', hr, d'.mg, FU'.kp, d'.binds, def_ok E1 D n d'⟩⟩
            cst := E1.cst
            pass := passes_call tk fun _ _ _ _ h => h
            own := passes_of rfl
            takes := tk
            exc := fun x c hx => by
              obtain ⟨C, bmB, B, newId, initId, a1, a2, a3, a4, a5, a6, a7⟩ := (E1.exc x c hx).ex
              exact ⟨⟨C, bmB, B, newId, initId, a1, a2, a3, a4, raises_own a5 a6, a7⟩⟩
            fnt := fun _ => rfl
            kd := S.kind }
        refine ⟨rdS ⟨xc, E⟩ (ioFix F.io) (evSs (callsOf prog n) F.body), chkSs_ok F.body _ _ cx hc, G, as ++ List.replicate (F.slots - F.pars) .non, l, start_env r q2 hm, ?_⟩
        exact body_ok l r q2 hm m
      · rw [q] at m; exact False.elim m
/-- the law's own end -/
theorem law_sp {n lawId : Nat} {H : Hp} {a : Addr} {ns : List Int} {z : D} (hk : ∀ b o, K.lookup b = some o → o.cls ≠ .type "list") (hl : ns.length ≤ LINE) (hS : SqL K H a (ns.map V.int)) (h : callAt prog n lawId [.val (.lst (ns.map D.int))] = .ok (.bl true) false z) :
    spF xc (callAt prog n lawId) [.ref a] H (fun v _ => v = .bl true) fun _ _ _ => False := by
  have hr : Rd H a (.lst (ns.map V.int)) := by
    rcases hS with h | ⟨o, its, m, h1, h2, _⟩
    · exact h
    · exact absurd h2 (hk a o h1)
  refine ⟨fun b => if b = a then some (.lst (ns.map V.int)) else none, [.val (.lst (ns.map D.int))], fun b o hb => ?_, .val (.lst (vs := ns.map V.int) (if_pos rfl) (Reps.ints ns) (by rw [List.length_map]; exact hl)) .nil, ?_⟩
  · by_cases e : b = a
    · subst e
      have hb' := (if_pos rfl).symm.trans hb
      cases hb'
      exact ⟨hr, fun vs z => by cases z⟩
    · have hb' := (if_neg e).symm.trans hb; cases hb'
  · rw [h]
    intro v G' H' _ _ hv
    have : Rep G' v (.bl true) := by simpa using hv
    cases this
    rfl
end
end RR

namespace RR
open PySem L2
def f_slid : Fn := ⟨3, 3, false,
  [.expr (.call true 7 [.var 0, .var 1]),
  .expr (.call true 10 [.var 0, .var 2]),
  .ret (.call true 12 [.var 0, .var 1, .var 2])]⟩ -- 13: 0 house 1 stand 2 row
def c_led_back_1 : E := .comp false (.tup [.var 2, .neg (.var 3)]) [2, 3] .it [.rev (.var 1)] []
def f_led_back : Fn := ⟨4, 2, false,
  [.expr (.call true 5 [.var 0]),
  .expr (.call true 10 [.var 0, .var 1]),
  .ret (c_led_back_1)]⟩ -- 14: 0 house 1 row 2 rail 3 many
def f_is_from : Fn := ⟨3, 3, false,
  [.ret (.and (.bi .isint [.var 0]) (.and (.not (.bi .isbool [.var 0])) (.chain .le .le (.var 1) (.var 0) (.var 2))))]⟩ -- 0: 0 thing 1 low 2 high
def c_are_doors_1 : E := .comp false (.cmp .isin (.var 2) (.str [110, 101, 115, 119])) [2] .it [.var 0] []
def c_are_doors_2 : E := .comp false (.var 1) [1] .it [.str [110, 101, 115, 119]] [.cmp .isin (.var 1) (.var 0)]
def f_are_doors : Fn := ⟨3, 1, false,
  [.ite (.or (.not (.bi .isstr [.var 0])) (.not (.bi .all [c_are_doors_1])))
   [.ret (.bl false)]
   [],
  .ret (.cmp .eq (.var 0) (.bi .join [.str [], c_are_doors_2]))]⟩ -- 1: 0 thing 1 side 2 sign
def f_is_rail : Fn := ⟨3, 3, false,
  [.ite (.or (.not (.bi .istuple [.var 2])) (.or (.cmp .ne (.bi .len [.var 2]) (.int 2)) (.not (.bi .isstr [.sub (.var 2) (.int 0)]))))
   [.ret (.bl false)]
   [],
  .ite (.cmp .eq (.sub (.var 2) (.int 0)) (.str [99, 111, 108]))
   [.ret (.call true 0 [.sub (.var 2) (.int 1), .int 0, .bin .sub (.var 0) (.int 1)])]
   [],
  .ret (.and (.cmp .eq (.sub (.var 2) (.int 0)) (.str [114, 111, 119])) (.call true 0 [.sub (.var 2) (.int 1), .int 0, .bin .sub (.var 1) (.int 1)]))]⟩ -- 2: 0 wide 1 high 2 thing
def c_is_rising_1 : E := .comp false (.cmp .lt (.var 1) (.var 2)) [1, 2] .zip [.var 0, .slice (.var 0) [.int 1] []] []
def f_is_rising : Fn := ⟨3, 1, false,
  [.ret (.bi .all [c_is_rising_1])]⟩ -- 3: 0 things 1 one 2 other
def c_is_house_1 : E := .comp false (.call true 1 [.var 5]) [5] .it [.var 3] []
def c_is_house_2 : E := .comp false (.call true 2 [.var 1, .var 2, .var 6]) [6] .it [.var 4] []
def f_is_house : Fn := ⟨7, 1, false,
  [.ite (.or (.not (.bi .istuple [.var 0])) (.cmp .ne (.bi .len [.var 0]) (.int 4)))
   [.ret (.bl false)]
   [],
  .unp [1, 2, 3, 4] (.var 0),
  .ite (.or (.not (.call true 0 [.var 1, .int 1, .int 6])) (.not (.call true 0 [.var 2, .int 1, .int 6])))
   [.ret (.bl false)]
   [],
  .ite (.or (.not (.bi .istuple [.var 3])) (.or (.cmp .ne (.bi .len [.var 3]) (.bin .mul (.var 1) (.var 2))) (.not (.bi .all [c_is_house_1]))))
   [.ret (.bl false)]
   [],
  .ite (.or (.not (.bi .istuple [.var 4])) (.not (.bi .all [c_is_house_2])))
   [.ret (.bl false)]
   [],
  .ret (.call true 3 [.var 4])]⟩ -- 4: 0 thing 1 wide 2 high 3 doors 4 rails 5 one 6 rail
def f_need_house : Fn := ⟨1, 1, false,
  [.ite (.not (.call true 4 [.var 0]))
   [.raise 1 [.str [110, 111, 32, 104, 111, 117, 115, 101]]]
   []]⟩ -- 5: 0 house
def c_is_standing_1 : E := .comp false (.call true 0 [.var 2, .int 0, .bin .sub (.bi .len [.sub (.var 0) (.int 2)]) (.int 1)]) [2] .it [.var 1] []
def f_is_standing : Fn := ⟨3, 2, false,
  [.ite (.or (.not (.bi .istuple [.var 1])) (.cmp .ne (.bi .len [.var 1]) (.bi .len [.sub (.var 0) (.int 2)])))
   [.ret (.bl false)]
   [],
  .ite (.not (.bi .all [c_is_standing_1]))
   [.ret (.bl false)]
   [],
  .ret (.cmp .eq (.bi .sorted [.var 1]) (.bi .listrange [.bi .len [.var 1]]))]⟩ -- 6: 0 house 1 thing 2 room
def f_need_stand : Fn := ⟨2, 2, false,
  [.expr (.call true 5 [.var 0]),
  .ite (.not (.call true 6 [.var 0, .var 1]))
   [.raise 2 [.str [110, 111, 32, 115, 116, 97, 110, 100]]]
   []]⟩ -- 7: 0 house 1 stand
def c_along_1 : E := .comp false (.bin .add (.bin .mul (.var 2) (.sub (.var 1) (.int 1))) (.var 5)) [5] .range [.var 2] []
def c_along_2 : E := .comp false (.bin .add (.bin .mul (.var 2) (.var 4)) (.sub (.var 1) (.int 1))) [4] .range [.var 3] []
def f_along : Fn := ⟨6, 2, false,
  [.unp [2, 3] (.slice (.var 0) [] [.int 2]),
  .ite (.cmp .eq (.sub (.var 1) (.int 0)) (.str [114, 111, 119]))
   [.ret (c_along_1)]
   [],
  .ret (c_along_2)]⟩ -- 8: 0 house 1 rail 2 wide 3 high 4 y 5 x
def l_is_row_1 : St := .for false [2] .it [.var 1]
   [.ite (.or (.not (.bi .istuple [.var 2])) (.or (.cmp .ne (.bi .len [.var 2]) (.int 2)) (.not (.call true 0 [.sub (.var 2) (.int 1), .neg (.int 1000000000000000000000000000000), .int 1000000000000000000000000000000]))))
     [.ret (.bl false)]
     [],
    .asg 3 (.sub (.var 2) (.int 0)),
    .ite (.or (.not (.bi .istuple [.var 3])) (.or (.cmp .ne (.bi .len [.var 3]) (.int 2)) (.not (.bi .isstr [.sub (.var 3) (.int 0)]))))
     [.ret (.bl false)]
     [],
    .ite (.or (.bi .isbool [.sub (.var 3) (.int 1)]) (.or (.not (.bi .isint [.sub (.var 3) (.int 1)])) (.cmp .notin (.var 3) (.sub (.var 0) (.int 3)))))
     [.ret (.bl false)]
     []]
def f_is_row : Fn := ⟨4, 2, false,
  [.ite (.or (.not (.bi .islist [.var 1])) (.cmp .gt (.bi .len [.var 1]) (.int 30)))
   [.ret (.bl false)]
   [],
  l_is_row_1,
  .ret (.bl true)]⟩ -- 9: 0 house 1 thing 2 slide 3 rail
def f_need_row : Fn := ⟨2, 2, false,
  [.ite (.not (.call true 9 [.var 0, .var 1]))
   [.raise 3 [.str [110, 111, 32, 114, 111, 119]]]
   []]⟩ -- 10: 0 house 1 row
def l_one_slide_1 : St := .for false [6, 7] .enum [.var 4]
   [.setit 5 (.sub (.var 4) (.bin .mod (.bin .add (.var 6) (.var 3)) (.bi .len [.var 4]))) (.sub (.var 1) (.var 7))]
def f_one_slide : Fn := ⟨8, 4, false,
  [.asg 4 (.call false 8 [.var 0, .var 2]),
  .asg 5 (.bi .list [.var 1]),
  l_one_slide_1,
  .ret (.bi .tuple [.var 5])]⟩ -- 11: 0 house 1 stand 2 rail 3 many 4 places 5 found 6 at 7 place
def l_by_row_1 : St := .for false [3, 4] .it [.var 2]
   [.asg 1 (.call true 11 [.var 0, .var 1, .var 3, .var 4])]
def f_by_row : Fn := ⟨5, 3, false,
  [l_by_row_1,
  .ret (.var 1)]⟩ -- 12: 0 house 1 stand 2 row 3 rail 4 many
def c_rounds_of_1 : E := .dcomp 0 (.var 6) (.var 9) [9, 6] .enum [.var 2]
def l_rounds_of_2 : St := .while (.cmp .ne (.sub (.var 3) (.sub (.var 7) (.neg (.int 1)))) (.var 6))
       [.expr (.append 7 (.sub (.var 3) (.sub (.var 7) (.neg (.int 1)))))]
def l_rounds_of_3 : St := .for true [8] .it [.var 7]
       [.setit 5 (.var 8) (.bl true)]
def l_rounds_of_4 : St := .for false [6] .range [.bi .len [.var 2]]
   [.ite (.cmp .notin (.var 6) (.var 5))
     [.asg 7 (.lst [.var 6]),
      l_rounds_of_2,
      l_rounds_of_3,
      .expr (.append 4 (.var 7))]
     []]
def f_rounds_of : Fn := ⟨10, 2, false,
  [.asg 2 (.call true 12 [.var 0, .bi .tuplerange [.bi .len [.sub (.var 0) (.int 2)]], .var 1]),
  .asg 3 (c_rounds_of_1),
  .asg 4 (.lst []),
  .asg 5 (.dict 0 []),
  l_rounds_of_4,
  .ret (.var 4)]⟩ -- 39: 0 house 1 row 2 moved 3 goal 4 found 5 seen 6 place 7 lot 8 one 9 at
def l_slid_often_1 : St := .for false [6, 7] .enum [.var 5]
     [.setit 4 (.sub (.var 5) (.bin .mod (.bin .add (.var 6) (.var 3)) (.bi .len [.var 5]))) (.sub (.var 1) (.var 7))]
def l_slid_often_2 : St := .for false [5] .it [.call false 39 [.var 0, .var 2]]
   [l_slid_often_1]
def f_slid_often : Fn := ⟨8, 4, false,
  [.expr (.call true 7 [.var 0, .var 1]),
  .expr (.call true 10 [.var 0, .var 2]),
  .ite (.not (.call true 0 [.var 3, .neg (.int 1000000000000000000000000000000), .int 1000000000000000000000000000000]))
   [.raise 4 [.str [110, 111, 32, 116, 105, 109, 101, 115]]]
   [],
  .asg 4 (.bi .list [.var 1]),
  l_slid_often_2,
  .ret (.bi .tuple [.var 4])]⟩ -- 40: 0 house 1 stand 2 row 3 times 4 found 5 lot 6 at 7 place
def f_common : Fn := ⟨2, 2, false,
  [.ret (.ifx (.cmp .eq (.var 1) (.int 0)) (.var 0) (.call true 41 [.var 1, .bin .mod (.var 0) (.var 1)]))]⟩ -- 41: 0 one 1 other
def l_again_1 : St := .for false [3] .it [.call false 39 [.var 0, .var 1]]
   [.asg 2 (.bin .fdiv (.bin .mul (.var 2) (.bi .len [.var 3])) (.call true 41 [.var 2, .bi .len [.var 3]]))]
def f_again : Fn := ⟨4, 2, false,
  [.expr (.call true 5 [.var 0]),
  .expr (.call true 10 [.var 0, .var 1]),
  .asg 2 (.int 1),
  l_again_1,
  .ret (.var 2)]⟩ -- 42: 0 house 1 row 2 found 3 lot
def f_law_deck : Fn := ⟨2, 2, false,
  [.ite (.cmp .ge (.var 0) (.bin .pow (.int 10) (.int 18)))
   [.ret (.lst [.bin .sub (.var 0) (.bin .pow (.int 10) (.int 18)), .bin .mod (.var 0) (.int 2147483579), .var 1])]
   [],
  .ret (.lst [.int 0, .bin .mod (.var 0) (.int 2147483579), .var 1])]⟩ -- 15: 0 cell 1 turn
def f_law_pick : Fn := ⟨4, 2, true,
  [.ite (.cmp .gt (.sub (.var 0) (.int 0)) (.int 1))
   [.asg 3 (.bin .mod (.sub (.var 0) (.int 0)) (.var 1)),
    .setit 0 (.int 0) (.bin .fdiv (.sub (.var 0) (.int 0)) (.var 1)),
    .ret (.var 3)]
   [],
  .setit 0 (.int 2) (.bin .add (.sub (.var 0) (.int 2)) (.int 1)),
  .asg 2 (.bin .mod (.bin .pow (.bin .add (.sub (.var 0) (.int 1)) (.bin .mul (.int 15485867) (.sub (.var 0) (.int 2)))) (.int 5)) (.int 2147483647)),
  .asg 3 (.bin .fdiv (.bin .mod (.bin .pow (.bin .add (.var 2) (.bin .mul (.int 7919) (.sub (.var 0) (.int 2)))) (.int 3)) (.int 2147483629)) (.int 32)),
  .ret (.bin .mod (.var 3) (.var 1))]⟩ -- 16: 0 deck 1 size 2 number 3 found
def f_law_whole : Fn := ⟨1, 1, false,
  [.ret (.and (.bi .isint [.var 0]) (.not (.bi .isbool [.var 0])))]⟩ -- 31: 0 thing
def f_law_one : Fn := ⟨2, 2, true,
  [.ret (.sub (.var 1) (.call true 16 [.var 0, .bi .len [.var 1]]))]⟩ -- 17: 0 deck 1 some
def f_law_sort : Fn := ⟨1, 1, false,
  [.ite (.bi .isbool [.var 0])
   [.ret (.int 1)]
   [],
  .ite (.bi .isint [.var 0])
   [.ret (.int 2)]
   [],
  .ite (.bi .isstr [.var 0])
   [.ret (.int 3)]
   [],
  .ite (.bi .islist [.var 0])
   [.ret (.int 4)]
   [],
  .ret (.ifx (.bi .istuple [.var 0]) (.int 5) (.int 6))]⟩ -- 18: 0 thing
def c_law_same_1 : E := .comp false (.var 2) [2, 3] .enum [.var 0] [.not (.call true 19 [.var 3, .sub (.var 1) (.var 2)])]
def f_law_same : Fn := ⟨4, 2, false,
  [.ite (.cmp .ne (.call true 18 [.var 0]) (.call true 18 [.var 1]))
   [.ret (.bl false)]
   [],
  .ite (.and (.cmp .gt (.call true 18 [.var 0]) (.int 3)) (.cmp .lt (.call true 18 [.var 0]) (.int 6)))
   [.ite (.cmp .ne (.bi .len [.var 0]) (.bi .len [.var 1]))
     [.ret (.bl false)]
     [],
    .ret (.cmp .eq (c_law_same_1) (.lst []))]
   [],
  .ret (.cmp .eq (.var 0) (.var 1))]⟩ -- 19: 0 told 1 due 2 k 3 part
def c_law_house_1 : E := .comp false (.var 12) [12] .it [.str [110, 101, 115, 119]] [.cmp .lt (.call true 16 [.var 0, .int 8]) (.var 2)]
def l_law_house_2 : St := .for false [4] .range [.bin .mul (.var 7) (.var 8)]
   [.expr (.append 3 (.bi .join [.str [], c_law_house_1]))]
def c_law_house_3 : E := .comp false (.tup [.str [99, 111, 108], .var 9]) [9] .range [.var 7] []
def c_law_house_4 : E := .comp false (.tup [.str [114, 111, 119], .var 10]) [10] .range [.var 8] []
def c_law_house_5 : E := .comp false (.var 11) [11] .it [.var 5] [.cmp .lt (.call true 16 [.var 0, .int 4]) (.var 6)]
def f_law_house : Fn := ⟨13, 3, true,
  [.unp [7, 8] (.call false 17 [.var 0, .var 1]),
  .asg 3 (.lst []),
  l_law_house_2,
  .asg 5 (.bin .add (c_law_house_3) (c_law_house_4)),
  .asg 6 (.call false 17 [.var 0, .lst [.int 1, .int 2, .int 3, .int 4]]),
  .ret (.tup [.var 7, .var 8, .bi .tuple [.var 3], .bi .tuple [c_law_house_5]])]⟩ -- 20: 0 deck 1 floors 2 thick 3 doors 4 k 5 rails 6 much 7 wide 8 high 9 x 10 y 11 rail 12 side
def f_law_great_floors : Fn := ⟨0, 0, false,
  [.ret (.lst [.tup [.int 3, .int 3], .tup [.int 6, .int 6], .tup [.int 5, .int 3], .tup [.int 4, .int 6], .tup [.int 2, .int 5], .tup [.int 5, .int 5], .tup [.int 1, .int 6], .tup [.int 6, .int 1], .tup [.int 3, .int 4], .tup [.int 2, .int 2]])]⟩ -- 21: 
def l_law_stand_1 : St := .while (.cmp .ne (.var 2) (.lst []))
   [.expr (.append 3 (.popAt 2 (.call true 16 [.var 0, .bi .len [.var 2]])))]
def f_law_stand : Fn := ⟨4, 2, true,
  [.asg 2 (.bi .listrange [.bin .mul (.sub (.var 1) (.int 0)) (.sub (.var 1) (.int 1))]),
  .asg 3 (.lst []),
  l_law_stand_1,
  .ret (.bi .tuple [.var 3])]⟩ -- 22: 0 deck 1 house 2 left 3 found
def c_law_places_1 : E := .comp false (.var 4) [4] .range [.bin .mul (.var 2) (.var 3)] [.cmp .eq (.sub (.var 1) (.int 1)) (.ifx (.cmp .eq (.sub (.var 1) (.int 0)) (.str [99, 111, 108])) (.bin .mod (.var 4) (.var 2)) (.bin .fdiv (.var 4) (.var 2)))]
def f_law_places : Fn := ⟨5, 2, false,
  [.unp [2, 3] (.tup [.sub (.var 0) (.int 0), .sub (.var 0) (.int 1)]),
  .ret (c_law_places_1)]⟩ -- 23: 0 house 1 rail 2 wide 3 high 4 place
def l_law_one_on_1 : St := .for false [5, 6] .enum [.var 3]
   [.setit 4 (.sub (.var 3) (.bin .sub (.bin .add (.var 5) (.int 1)) (.bi .len [.var 3]))) (.sub (.var 1) (.var 6))]
def f_law_one_on : Fn := ⟨7, 3, false,
  [.asg 3 (.call false 23 [.var 0, .var 2]),
  .asg 4 (.bi .list [.var 1]),
  l_law_one_on_1,
  .ret (.bi .tuple [.var 4])]⟩ -- 24: 0 house 1 stand 2 rail 3 places 4 found 5 k 6 place
def l_law_slid_1 : St := .for false [5] .range [.bin .mod (.var 4) (.bi .len [.call false 23 [.var 0, .var 3]])]
     [.asg 1 (.call true 24 [.var 0, .var 1, .var 3])]
def l_law_slid_2 : St := .for false [3, 4] .it [.var 2]
   [l_law_slid_1]
def f_law_slid : Fn := ⟨6, 3, false,
  [l_law_slid_2,
  .ret (.var 1)]⟩ -- 25: 0 house 1 stand 2 row 3 rail 4 many 5 turn
def l_law_row_1 : St := .for false [4] .range [.call true 16 [.var 0, .bin .add (.var 2) (.int 1)]]
   [.ite (.cmp .ne (.sub (.var 1) (.int 3)) (.tup []))
     [.asg 5 (.call false 17 [.var 0, .lst [.int 1, .neg (.int 1), .int 2, .bin .sub (.call true 16 [.var 0, .int 13]) (.int 6), .bin .sub (.bin .pow (.int 10) (.int 30)) (.call true 16 [.var 0, .int 9]), .neg (.bin .pow (.int 10) (.int 30))]]),
      .expr (.append 3 (.tup [.call false 17 [.var 0, .sub (.var 1) (.int 3)], .var 5]))]
     []]
def f_law_row : Fn := ⟨6, 3, true,
  [.asg 3 (.lst []),
  l_law_row_1,
  .ret (.var 3)]⟩ -- 26: 0 deck 1 house 2 most 3 found 4 turn 5 many
def l_law_primes_1 : St := .while (.cmp .gt (.var 0) (.int 1))
   [.ite (.cmp .eq (.bin .mod (.var 0) (.var 2)) (.int 0))
     [.expr (.append 1 (.var 2)),
      .asg 0 (.bin .fdiv (.var 0) (.var 2))]
     [.asg 2 (.bin .add (.var 2) (.int 1))]]
def f_law_primes : Fn := ⟨3, 1, false,
  [.par [1, 2] [.lst [], .int 2],
  l_law_primes_1,
  .ret (.bi .sortedset [.var 1])]⟩ -- 43: 0 number 1 found 2 one
def l_law03_1 : St := .for false [5] .range [.int 9]
     [.ite (.not (.call true 19 [.call true 40 [.var 3, .var 9, .var 10, .var 5], .var 4]))
       [.ret (.bl false)]
       [],
      .ite (.cmp .ne (.call true 40 [.var 3, .var 4, .var 10, .bin .sub (.int 0) (.var 5)]) (.var 9))
       [.ret (.bl false)]
       [],
      .asg 4 (.call true 25 [.var 3, .var 4, .var 10])]
def l_law03_2 : St := .for false [7] .it [.call false 43 [.var 6]]
     [.ite (.cmp .eq (.call true 40 [.var 3, .var 9, .var 10, .bin .fdiv (.var 6) (.var 7)]) (.var 9))
       [.ret (.bl false)]
       []]
def l_law03_3 : St := .for false [8] .range [.int 3]
     [.asg 11 (.call false 17 [.var 2, .lst [.bin .pow (.int 10) (.int 30), .neg (.bin .pow (.int 10) (.int 30)), .bin .mul (.call true 16 [.var 2, .bin .pow (.int 10) (.int 9)]) (.bin .pow (.int 10) (.int 20))]]),
      .asg 12 (.bin .mod (.var 11) (.var 6)),
      .ite (.cmp .ne (.call true 40 [.var 3, .var 9, .var 10, .var 11]) (.call true 40 [.var 3, .var 9, .var 10, .var 12]))
       [.ret (.bl false)]
       [],
      .asg 13 (.call true 16 [.var 2, .int 99]),
      .asg 14 (.call true 40 [.var 3, .call true 40 [.var 3, .var 9, .var 10, .bin .fdiv (.var 11) (.int 2)], .var 10, .var 13]),
      .ite (.cmp .ne (.call true 40 [.var 3, .var 9, .var 10, .bin .add (.bin .fdiv (.var 11) (.int 2)) (.var 13)]) (.var 14))
       [.ret (.bl false)]
       []]
def l_law03_4 : St := .for false [1] .it [.slice (.bin .add (.lst [.int 0]) (.var 0)) [] [.int 10]]
   [.asg 2 (.call false 15 [.var 1, .int 3]),
    .asg 3 (.call false 20 [.var 2, .call false 21 [], .int 3]),
    .par [9, 10] [.call false 22 [.var 2, .var 3], .call false 26 [.var 2, .var 3, .int 9]],
    .asg 4 (.var 9),
    l_law03_1,
    .asg 6 (.call true 42 [.var 3, .var 10]),
    .ite (.or (.not (.call true 31 [.var 6])) (.or (.cmp .lt (.var 6) (.int 1)) (.cmp .ne (.call true 40 [.var 3, .var 9, .var 10, .var 6]) (.var 9))))
     [.ret (.bl false)]
     [],
    l_law03_2,
    l_law03_3]
def f_law03 : Fn := ⟨15, 1, false,
  [l_law03_4,
  .ret (.bl true)]⟩ -- 44: 0 script 1 cell 2 deck 3 house 4 here 5 times 6 many 7 one 8 turn 9 stand 10 row 11 far 12 near 13 less 14 there
def prog (n : Nat) : Option Fn := bif Nat.ble 17 n then (bif Nat.ble 25 n then (bif Nat.ble 40 n then (bif Nat.ble 42 n then (bif Nat.ble 43 n then (bif Nat.ble 44 n then (bif Nat.beq n 44 then some f_law03 else none) else (bif Nat.beq n 43 then some f_law_primes else none)) else (bif Nat.beq n 42 then some f_again else none)) else (bif Nat.ble 41 n then (bif Nat.beq n 41 then some f_common else none) else (bif Nat.beq n 40 then some f_slid_often else none))) else (bif Nat.ble 31 n then (bif Nat.ble 39 n then (bif Nat.beq n 39 then some f_rounds_of else none) else (bif Nat.beq n 31 then some f_law_whole else none)) else (bif Nat.ble 26 n then (bif Nat.beq n 26 then some f_law_row else none) else (bif Nat.beq n 25 then some f_law_slid else none)))) else (bif Nat.ble 21 n then (bif Nat.ble 23 n then (bif Nat.ble 24 n then (bif Nat.beq n 24 then some f_law_one_on else none) else (bif Nat.beq n 23 then some f_law_places else none)) else (bif Nat.ble 22 n then (bif Nat.beq n 22 then some f_law_stand else none) else (bif Nat.beq n 21 then some f_law_great_floors else none))) else (bif Nat.ble 19 n then (bif Nat.ble 20 n then (bif Nat.beq n 20 then some f_law_house else none) else (bif Nat.beq n 19 then some f_law_same else none)) else (bif Nat.ble 18 n then (bif Nat.beq n 18 then some f_law_sort else none) else (bif Nat.beq n 17 then some f_law_one else none))))) else (bif Nat.ble 8 n then (bif Nat.ble 12 n then (bif Nat.ble 14 n then (bif Nat.ble 15 n then (bif Nat.ble 16 n then (bif Nat.beq n 16 then some f_law_pick else none) else (bif Nat.beq n 15 then some f_law_deck else none)) else (bif Nat.beq n 14 then some f_led_back else none)) else (bif Nat.ble 13 n then (bif Nat.beq n 13 then some f_slid else none) else (bif Nat.beq n 12 then some f_by_row else none))) else (bif Nat.ble 10 n then (bif Nat.ble 11 n then (bif Nat.beq n 11 then some f_one_slide else none) else (bif Nat.beq n 10 then some f_need_row else none)) else (bif Nat.ble 9 n then (bif Nat.beq n 9 then some f_is_row else none) else (bif Nat.beq n 8 then some f_along else none)))) else (bif Nat.ble 4 n then (bif Nat.ble 6 n then (bif Nat.ble 7 n then (bif Nat.beq n 7 then some f_need_stand else none) else (bif Nat.beq n 6 then some f_is_standing else none)) else (bif Nat.ble 5 n then (bif Nat.beq n 5 then some f_need_house else none) else (bif Nat.beq n 4 then some f_is_house else none))) else (bif Nat.ble 2 n then (bif Nat.ble 3 n then (bif Nat.beq n 3 then some f_is_rising else none) else (bif Nat.beq n 2 then some f_is_rail else none)) else (bif Nat.ble 1 n then (bif Nat.beq n 1 then some f_are_doors else none) else (bif Nat.beq n 0 then some f_is_from else none)))))
abbrev lawId : Nat := 44
end RR
/-! BC: how a run is stepped, in plain Lean. -/
namespace RR.B
section
variable {Φ : Calls} {ρ ρ1 : Env}
/-! ### equations for simp (comprehensions, loops, calls apart) -/
@[simp] theorem b_bind {α β : Type} (a : α) (ρ : Env) (f : α → Env → Res β) : (Res.ok a ρ).bind f = f a ρ := rfl
@[simp] theorem b_out {α : Type} (a : α) (ρ : Env) (f : α → Env → Out) : (Res.ok a ρ).out f = f a ρ := rfl
@[simp] theorem b_obind (ρ : Env) (f : Env → Out) : (Out.nx ρ).bind f = f ρ := rfl
@[simp] theorem b_obret (o : Opd) (ρ : Env) (f : Env → Out) : (Out.ret o ρ).bind f = .ret o ρ := rfl
@[simp] theorem b_noX {α : Type} (a : α) (ρ : Env) : noX (Res.ok a ρ) = .ok a ρ := rfl
@[simp] theorem b_g0 (s : Sl) (ρ : Env) : getS (s :: ρ) 0 = s := rfl
@[simp] theorem b_gS (s : Sl) (ρ : Env) (n : Nat) : getS (s :: ρ) (n + 1) = getS ρ n := rfl
@[simp] theorem b_s0 (s v : Sl) (ρ : Env) : setS (s :: ρ) 0 v = v :: ρ := rfl
@[simp] theorem b_sS (s v : Sl) (ρ : Env) (n : Nat) : setS (s :: ρ) (n + 1) v = s :: setS ρ n v := rfl
@[simp] theorem b_lv (d : D) (ρ : Env) : look (.val d) ρ = d := rfl
@[simp] theorem b_lo (d : D) (ρ : Env) : look (.own d) ρ = d := rfl
theorem b_lp (i : Nat) (ρ : Env) : look (.pl i) ρ = (match getS ρ i with | .val d => d | .own d => d | .non => .non) := rfl
@[simp] theorem b_ls0 (ρ : Env) : looks [] ρ = [] := rfl
@[simp] theorem b_ls (o : Opd) (os : List Opd) (ρ : Env) : looks (o :: os) ρ = look o ρ :: looks os ρ := rfl
@[simp] theorem b_fv (d : D) (ρ : Env) : fz (.val d) ρ = ρ := rfl
@[simp] theorem b_fo (d : D) (ρ : Env) : fz (.own d) ρ = ρ := rfl
theorem b_fp (i : Nat) (ρ : Env) : fz (.pl i) ρ = (match getS ρ i with | .own d => setS ρ i (.val d) | _ => ρ) := rfl
@[simp] theorem b_fs0 (ρ : Env) : fzs [] ρ = ρ := rfl
@[simp] theorem b_fs (o : Opd) (os : List Opd) (ρ : Env) : fzs (o :: os) ρ = fzs os (fz o ρ) := rfl
@[simp] theorem b_okS {α : Type} (a : α) (ρ : Env) : okO (some a) ρ = .ok a ρ := rfl
@[simp] theorem b_oS (ρ : Env) : outO (some ρ) = .nx ρ := rfl
@[simp] theorem b_non : evE Φ .non ρ = .ok (.val .non) ρ := by rw [evE]
@[simp] theorem b_bl {b : Bool} : evE Φ (.bl b) ρ = .ok (.val (.bl b)) ρ := by rw [evE]
@[simp] theorem b_int {i : Int} : evE Φ (.int i) ρ = .ok (.val (.int i)) ρ := by rw [evE]
@[simp] theorem b_str {s : S} : evE Φ (.str s) ρ = .ok (.val (.str s)) ρ := by rw [evE]
theorem b_var {i : Nat} : evE Φ (.var i) ρ = (match getS ρ i with | .val d => .ok (.val d) ρ | .own _ => .ok (.pl i) ρ | .non => .bad) := by rw [evE] <;> rfl
@[simp] theorem b_tup {es : List E} : evE Φ (.tup es) ρ = (evL Φ es ρ).bind fun os ρ1 => .ok (.val (.tup (looks os ρ1))) (fzs os ρ1) := by rw [evE]
@[simp] theorem b_lst {es : List E} : evE Φ (.lst es) ρ = (evL Φ es ρ).bind fun os ρ1 => .ok (.own (.lst (looks os ρ1))) (fzs os ρ1) := by rw [evE]
@[simp] theorem b_bin {op : B2} {a b : E} : evE Φ (.bin op a b) ρ = (evE Φ a ρ).bind fun x ρ1 => (evE Φ b ρ1).bind fun y ρ2 => okO (bin2 op (look x ρ2) (look y ρ2)) ρ2 := by rw [evE]
@[simp] theorem b_neg {a : E} : evE Φ (.neg a) ρ = (intR (evE Φ a ρ)).bind fun i ρ1 => .ok (.val (.int (-i))) ρ1 := by rw [evE]
@[simp] theorem b_not {a : E} : evE Φ (.not a) ρ = (boolR (evE Φ a ρ)).bind fun b ρ1 => .ok (.val (.bl (!b))) ρ1 := by rw [evE]
@[simp] theorem b_and {a b : E} : evE Φ (.and a b) ρ = (boolR (evE Φ a ρ)).bind fun c ρ1 => if c then (boolR (evE Φ b ρ1)).bind fun k ρ2 => .ok (.val (.bl k)) ρ2 else .ok (.val (.bl false)) ρ1 := by rw [evE]
@[simp] theorem b_or {a b : E} : evE Φ (.or a b) ρ = (boolR (evE Φ a ρ)).bind fun c ρ1 => if c then .ok (.val (.bl true)) ρ1 else (boolR (evE Φ b ρ1)).bind fun k ρ2 => .ok (.val (.bl k)) ρ2 := by rw [evE]
@[simp] theorem b_ifx {c a b : E} : evE Φ (.ifx c a b) ρ = (boolR (evE Φ c ρ)).bind fun k ρ1 => if k then evE Φ a ρ1 else evE Φ b ρ1 := by rw [evE]
@[simp] theorem b_cmp {op : C2} {a b : E} : evE Φ (.cmp op a b) ρ = (evE Φ a ρ).bind fun x ρ1 => (evE Φ b ρ1).bind fun y ρ2 => okO ((cmp2 op (look x ρ2) (look y ρ2)).map blv) ρ2 := by rw [evE]
theorem b_chain {o1 o2 : C2} {a b c : E} : evE Φ (.chain o1 o2 a b c) ρ = (evE Φ a ρ).bind fun x ρ1 => (evE Φ b ρ1).bind fun y ρ2 => match cmp2 o1 (look x ρ2) (look y ρ2) with
    | some true => (evE Φ c ρ2).bind fun z ρ3 => okO ((cmp2 o2 (look y ρ3) (look z ρ3)).map blv) ρ3
    | some false => .ok (.val (.bl false)) ρ2
    | none => .bad := by rw [evE] <;> rfl
@[simp] theorem b_sub {a i : E} : evE Φ (.sub a i) ρ = (evE Φ a ρ).bind fun x ρ1 => (evE Φ i ρ1).bind fun y ρ2 => okO ((sub2 (look x ρ2) (look y ρ2)).map .val) ρ2 := by rw [evE]
@[simp] theorem b_slice {a : E} {lo hi : List E} : evE Φ (.slice a lo hi) ρ = (evE Φ a ρ).bind fun x ρ1 => (evI Φ lo ρ1).bind fun l ρ2 => (evI Φ hi ρ2).bind fun h ρ3 => okO (sliceD (look x ρ3) (optI l) (optI h)) ρ3 := by rw [evE]
@[simp] theorem b_rev {a : E} : evE Φ (.rev a) ρ = (evE Φ a ρ).bind fun x ρ1 => okO (revD (look x ρ1)) ρ1 := by rw [evE]
@[simp] theorem b_bi {f : Bi} {es : List E} : evE Φ (.bi f es) ρ = (evL Φ es ρ).bind fun os ρ1 => okO (biD f (looks os ρ1)) ρ1 := by rw [evE]
@[simp] theorem b_call {l : Bool} {f : Nat} {es : List E} : evE Φ (.call l f es) ρ = (evL Φ es ρ).bind fun os ρ1 => callE Φ l f os ρ1 := by rw [evE]
theorem b_append {i : Nat} {e : E} : evE Φ (.append i e) ρ = if lstAt ρ i then (evE Φ e ρ).bind fun o ρ1 => ownL (fz o ρ1) i fun xs => if xs.length < LINE then some (.non, xs ++ [look o ρ1]) else none else .bad := by rw [evE] <;> rfl
theorem b_popAt {i : Nat} {e : E} : evE Φ (.popAt i e) ρ = if lstAt ρ i then (intR (evE Φ e ρ)).bind fun k ρ1 => ownL ρ1 i fun xs => (ix xs.length k).bind fun j => (xs[j]?).map fun d => (d, xs.eraseIdx j) else .bad := by rw [evE] <;> rfl
@[simp] theorem b_l0 : evL Φ [] ρ = .ok [] ρ := by rw [evL]
@[simp] theorem b_l {e : E} {es : List E} : evL Φ (e :: es) ρ = (evE Φ e ρ).bind fun o ρ1 => (evL Φ es ρ1).bind fun os ρ2 => .ok (o :: os) ρ2 := by rw [evL]
@[simp] theorem b_i0 : evI Φ [] ρ = .ok [] ρ := by rw [evI]
@[simp] theorem b_i {e : E} {es : List E} : evI Φ (e :: es) ρ = (intR (evE Φ e ρ)).bind fun i ρ1 => (evI Φ es ρ1).bind fun is ρ2 => .ok (i :: is) ρ2 := by rw [evI]
@[simp] theorem b_c0 : evC Φ [] ρ = .ok true ρ := by rw [evC]
@[simp] theorem b_c1 {e : E} {es : List E} : evC Φ (e :: es) ρ = (boolR (evE Φ e ρ)).bind fun b ρ1 => if b then evC Φ es ρ1 else .ok false ρ1 := by rw [evC]
@[simp] theorem b_br (b : Bool) (ρ : Env) : boolR (.ok (.val (.bl b)) ρ) = .ok b ρ := rfl
@[simp] theorem b_ir (i : Int) (ρ : Env) : intR (.ok (.val (.int i)) ρ) = .ok i ρ := rfl
@[simp] theorem b_ret {e : E} : evS Φ (.ret e) ρ = (evE Φ e ρ).out fun o ρ1 => .ret o ρ1 := by rw [evS]
@[simp] theorem b_asg {i : Nat} {e : E} : evS Φ (.asg i e) ρ = (evE Φ e ρ).out fun o ρ1 => .nx (putO i o ρ1) := by rw [evS]
@[simp] theorem b_pv (i : Nat) (d : D) (ρ : Env) : putO i (.val d) ρ = setS ρ i (.val d) := rfl
@[simp] theorem b_po (i : Nat) (d : D) (ρ : Env) : putO i (.own d) ρ = setS ρ i (.own d) := rfl
theorem b_aug {op : B2} {i : Nat} {e : E} : evS Φ (.aug op i e) ρ = (match getS ρ i with | .non => .bad | _ => (evE Φ e ρ).out fun o ρ1 => outO (augO op ρ1 i o)) := by rw [evS] <;> rfl
theorem b_unp {is : List Nat} {e : E} : evS Φ (.unp is e) ρ = (evE Φ e ρ).out fun o ρ1 => outO (match look o ρ1 with | .tup ds => bindT is (.tup ds) ρ1 | _ => none) := by rw [evS] <;> rfl
@[simp] theorem b_par {is : List Nat} {es : List E} : evS Φ (.par is es) ρ = (evL Φ es ρ).out fun os ρ1 => outO (putOs is (os.map (unpl ρ1)) (fzs os ρ1)) := by rw [evS]
@[simp] theorem b_setit {i : Nat} {k v : E} : evS Φ (.setit i k v) ρ = (evE Φ v ρ).out fun o ρ1 => if ownAt ρ1 i then (evE Φ k ρ1).out fun x ρ2 => outO (setO (fz o ρ2) i (look x ρ2) (look o ρ2)) else .bad := by rw [evS]
@[simp] theorem b_ite {c : E} {a b : List St} : evS Φ (.ite c a b) ρ = (boolR (evE Φ c ρ)).out fun k ρ1 => if k then evSs Φ a ρ1 else evSs Φ b ρ1 := by rw [evS]
@[simp] theorem b_expr {e : E} : evS Φ (.expr e) ρ = (evE Φ e ρ).out fun _ ρ1 => .nx ρ1 := by rw [evS]
@[simp] theorem b_ss0 : evSs Φ [] ρ = .nx ρ := by rw [evSs]
@[simp] theorem b_ss {s : St} {ss : List St} : evSs Φ (s :: ss) ρ = (evS Φ s ρ).bind fun ρ1 => evSs Φ ss ρ1 := by rw [evSs]
/-- one call -/
theorem call_eq (prog : Nat → Option Fn) (n f : Nat) (as : List Sl) (F : Fn) (h : prog f = some F) (hl : as.length = F.pars) (ok : okSl F.io 0 as = true) :
    callAt prog (n + 1) f as = endC F.io (evSs (callsOf prog n) F.body (as ++ List.replicate (F.slots - F.pars) .non)) := by
  rw [callAt, h]
  show runFn _ F as = _
  unfold runFn
  rw [if_pos ⟨hl, ok⟩]
  rfl
/-- a call of a def that changes nothing -/
theorem callE_val {prog : Nat → Option Fn} {n f : Nat} {lend : Bool} {os : List Opd} {F : Fn} {d z : D} (hp : prog f = some F) (hio : F.io = false) (h : callAt prog n f ((looks os ρ).map .val) = .ok d false z) (hn : lend = true → noref d = true) :
    callE (callsOf prog n) lend f os ρ = .ok (.val d) (if lend then ρ else fzs os ρ) := by
  unfold callE
  have e1 : (callsOf prog n).io f = false := by show (match prog f with | some G => G.io | none => false) = false; rw [hp]; exact hio
  have e2 : (callsOf prog n).run f ((looks os ρ).map .val) = .ok d false z := h
  rw [e1, e2]
  cases lend with
  | true => simp [hn rfl]
  | false => simp
theorem callE_own {prog : Nat → Option Fn} {n f : Nat} {os : List Opd} {F : Fn} {d z : D} (hp : prog f = some F) (hio : F.io = false) (h : callAt prog n f ((looks os ρ).map .val) = .ok d true z) :
    callE (callsOf prog n) false f os ρ = .ok (.own d) (fzs os ρ) := by
  unfold callE
  have e1 : (callsOf prog n).io f = false := by show (match prog f with | some G => G.io | none => false) = false; rw [hp]; exact hio
  have e2 : (callsOf prog n).run f ((looks os ρ).map .val) = .ok d true z := h
  rw [e1, e2]
  simp

/-! ### loops -/
/-- a comprehension's turns: the items that p keeps, each as r says; the rest of the frame by P -/
theorem compF_run {α : Type} {bind : D → Env → Option Env} {test : Env → Res Bool} {elt : Env → Res Opd} (P : Env → Prop) (g : α → D) (p : α → Bool) (r : α → D) : ∀ (l : List α) (acc : List D) (ρ : Env), P ρ →
    (∀ x ∈ l, ∀ ρ, P ρ → ∃ ρ1 ρ2, bind (g x) ρ = some ρ1 ∧ test ρ1 = .ok (p x) ρ2 ∧ (if p x = true then ∃ o ρ3, elt ρ2 = .ok o ρ3 ∧ look o ρ3 = r x ∧ P (fz o ρ3) else P ρ2)) →
    ∃ ρf, P ρf ∧ compF bind test elt (l.map g) acc ρ = .ok (acc ++ (l.filter p).map r) ρf
  | [], acc, ρ, h0, _ => ⟨ρ, h0, by simp [compF]⟩
  | x :: xs, acc, ρ, h0, hs => by
    obtain ⟨ρ1, ρ2, e1, e2, e3⟩ := hs x (List.mem_cons_self ..) ρ h0
    cases hb : p x with
    | true =>
      rw [hb] at e2
      rw [if_pos hb] at e3
      obtain ⟨o, ρ3, e4, e5, e6⟩ := e3
      obtain ⟨ρf, h1, h2⟩ := compF_run P g p r xs (acc ++ [look o ρ3]) (fz o ρ3) e6 (fun y hy => hs y (List.mem_cons_of_mem _ hy))
      refine ⟨ρf, h1, ?_⟩
      rw [e5] at h2
      rw [List.map_cons, compF, e1]
      simp [e2, e4, h2, e5, hb]
    | false =>
      rw [hb] at e2
      rw [if_neg (by rw [hb]; decide)] at e3
      obtain ⟨ρf, h1, h2⟩ := compF_run P g p r xs acc ρ2 e3 (fun y hy => hs y (List.mem_cons_of_mem _ hy))
      refine ⟨ρf, h1, ?_⟩
      rw [List.map_cons, compF, e1]
      simp [e2, h2, hb]
theorem comp_run {α : Type} {hide : Bool} {elt : E} {tg : List Nat} {sk : SK} {src cond : List E} {os : List Opd} {l : List α} {ρ ρ' : Env} (P : Env → Prop) (g : α → D) (p : α → Bool) (r : α → D)
    (hsrc : evL Φ src ρ = .ok os ρ1) (hit : itemsOf sk (looks os ρ1) = some (l.map g)) (h0 : P (away hide os ρ1))
    (hs : ∀ x ∈ l, ∀ ρ, P ρ → ∃ ρ1 ρ2, bindT tg (g x) (wipeS tg ρ) = some ρ1 ∧ evC Φ cond ρ1 = .ok (p x) ρ2 ∧ (if p x = true then ∃ o ρ3, evE Φ elt ρ2 = .ok o ρ3 ∧ look o ρ3 = r x ∧ P (fz o ρ3) else P ρ2))
    (hend : ∀ ρ2, P ρ2 → again hide os ρ1 (backS tg (away hide os ρ1) ρ2) = ρ') : evE Φ (.comp hide elt tg sk src cond) ρ = .ok (.own (.lst ((l.filter p).map r))) ρ' := by
  obtain ⟨ρf, h1, h2⟩ := compF_run (bind := fun d ρ => bindT tg d (wipeS tg ρ)) (test := fun ρ => evC Φ cond ρ) (elt := fun ρ => evE Φ elt ρ) P g p r l [] (away hide os ρ1) h0 hs
  rw [evE, hsrc]
  simp only [b_bind, hit]
  rw [h2]
  simp [hend ρf h1]
/-- .. with no test, the item a frozen thing -/
theorem comp_map {α : Type} {hide : Bool} {elt : E} {tg : List Nat} {sk : SK} {src : List E} {os : List Opd} {l : List α} {ρ ρ' : Env} (P : Env → Prop) (g : α → D) (r : α → D)
    (hsrc : evL Φ src ρ = .ok os ρ1) (hit : itemsOf sk (looks os ρ1) = some (l.map g)) (h0 : P (away hide os ρ1))
    (hs : ∀ x ∈ l, ∀ ρ, P ρ → ∃ ρ1 ρ3, bindT tg (g x) (wipeS tg ρ) = some ρ1 ∧ evE Φ elt ρ1 = .ok (.val (r x)) ρ3 ∧ P ρ3)
    (hend : ∀ ρ2, P ρ2 → again hide os ρ1 (backS tg (away hide os ρ1) ρ2) = ρ') : evE Φ (.comp hide elt tg sk src []) ρ = .ok (.own (.lst (l.map r))) ρ' := by
  have q := comp_run (Φ := Φ) (elt := elt) (tg := tg) (cond := []) P g (fun _ => true) r hsrc hit h0 (fun x hx ρ hp => by
    obtain ⟨ρ1, ρ3, e1, e2, e3⟩ := hs x hx ρ hp
    exact ⟨ρ1, ρ1, e1, by simp, by rw [if_pos rfl]; exact ⟨_, ρ3, e2, rfl, e3⟩⟩) hend
  rw [q, List.filter_eq_self.mpr (fun _ _ => rfl)]
/-- a for loop's turns: I by the items that are left -/
theorem forF_run {bind : D → Env → Option Env} {body : Env → Out} (I : List D → Env → Prop) : ∀ (items : List D) (ρ : Env), I items ρ →
    (∀ x xs ρ, I (x :: xs) ρ → ∃ ρ1 ρ2, bind x ρ = some ρ1 ∧ body ρ1 = .nx ρ2 ∧ I xs ρ2) → ∃ ρf, I [] ρf ∧ forF bind body items ρ = .nx ρf
  | [], ρ, h0, _ => ⟨ρ, h0, by rw [forF]⟩
  | x :: xs, ρ, h0, hs => by
    obtain ⟨ρ1, ρ2, e1, e2, e3⟩ := hs x xs ρ h0
    obtain ⟨ρf, h1, h2⟩ := forF_run I xs ρ2 e3 hs
    exact ⟨ρf, h1, by rw [forF, e1]; simp [e2, h2]⟩
theorem for_run {hide : Bool} {tg : List Nat} {sk : SK} {src : List E} {body : List St} {os : List Opd} {items : List D} {ρ : Env} (I : List D → Env → Prop)
    (hsrc : evL Φ src ρ = .ok os ρ1) (hit : itemsOf sk (looks os ρ1) = some items) (h0 : I items (away hide os ρ1))
    (hs : ∀ x xs ρ, I (x :: xs) ρ → ∃ ρ1 ρ2, bindT tg x ρ = some ρ1 ∧ evSs Φ body ρ1 = .nx ρ2 ∧ I xs ρ2) : ∃ ρf, I [] ρf ∧ evS Φ (.for hide tg sk src body) ρ = .nx (again hide os ρ1 ρf) := by
  obtain ⟨ρf, h1, h2⟩ := forF_run (bind := bindT tg) (body := fun ρ => evSs Φ body ρ) I items (away hide os ρ1) h0 hs
  refine ⟨ρf, h1, ?_⟩
  rw [evS, hsrc]
  simp only [b_out, hit]
  rw [h2]
  simp
end
end RR.B

namespace RR.B
@[simp] theorem k_non : kindD .non = some 0 := rfl
@[simp] theorem k_bl (b : Bool) : kindD (.bl b) = some 1 := rfl
@[simp] theorem k_int (b : Int) : kindD (.int b) = some 2 := rfl
@[simp] theorem k_str (b : S) : kindD (.str b) = some 3 := rfl
@[simp] theorem k_tup (b : List D) : kindD (.tup b) = some 4 := rfl
@[simp] theorem k_lst (b : List D) : kindD (.lst b) = some 5 := rfl
@[simp] theorem i_isint (a : D) : bi1 .isint a = (kindD a).map fun k => blv (k == 1 || k == 2) := rfl
@[simp] theorem i_isbool (a : D) : bi1 .isbool a = (kindD a).map fun k => blv (k == 1) := rfl
@[simp] theorem i_isstr (a : D) : bi1 .isstr a = (kindD a).map fun k => blv (k == 3) := rfl
@[simp] theorem i_istuple (a : D) : bi1 .istuple a = (kindD a).map fun k => blv (k == 4) := rfl
@[simp] theorem i_islist (a : D) : bi1 .islist a = (kindD a).map fun k => blv (k == 5) := rfl
@[simp] theorem i_istl (a : D) : bi1 .istl a = (kindD a).map fun k => blv (k == 4 || k == 5) := rfl
@[simp] theorem i_len_l (xs : List D) : bi1 .len (.lst xs) = some (intv xs.length) := rfl
@[simp] theorem i_len_t (xs : List D) : bi1 .len (.tup xs) = some (intv xs.length) := rfl
@[simp] theorem i_len_s (xs : S) : bi1 .len (.str xs) = some (intv xs.length) := rfl
@[simp] theorem i_list_l (xs : List D) : bi1 .list (.lst xs) = some (.own (.lst xs)) := rfl
@[simp] theorem i_list_t (xs : List D) : bi1 .list (.tup xs) = some (.own (.lst xs)) := rfl
@[simp] theorem i_tup_l (xs : List D) : bi1 .tuple (.lst xs) = some (.val (.tup xs)) := rfl
@[simp] theorem i_tup_t (xs : List D) : bi1 .tuple (.tup xs) = some (.val (.tup xs)) := rfl
@[simp] theorem i_lr (xs : Int) : bi1 .listrange (.int xs) = if near xs then some (.own (.lst (rangeL 0 xs))) else none := rfl
@[simp] theorem i_all (xs : List D) : bi1 .all (.lst xs) = (boolsOf xs).map fun bs => blv (bs.all id) := rfl
@[simp] theorem i_srt_l (xs : List D) : bi1 .sorted (.lst xs) = if sPlain xs then (sortD xs).map fun ys => .own (.lst ys) else none := rfl
@[simp] theorem i_srt_t (xs : List D) : bi1 .sorted (.tup xs) = if sPlain xs then (sortD xs).map fun ys => .own (.lst ys) else none := rfl
@[simp] theorem i_join (s : S) (xs : List D) : bi2 .join (.str s) (.lst xs) = (strsOf xs).bind fun ss => if (joinS s ss).length ≤ 8000000 ∧ s.length ≤ 8000000 then some (.val (.str (joinS s ss))) else none := rfl
@[simp] theorem i_1 (f : Bi) (a : D) : biD f [a] = bi1 f a := rfl
@[simp] theorem i_2 (f : Bi) (a b : D) : biD f [a, b] = bi2 f a b := rfl
theorem s_is_from (n : Nat) (i lo hi : Int) : callAt prog (n + 1) 0 [.val (.int i), .val (.int lo), .val (.int hi)] = .ok (.bl (decide (lo ≤ i) && decide (i ≤ hi))) false .non := by
  rw [call_eq prog n 0 _ f_is_from rfl rfl rfl]
  by_cases h : lo ≤ i <;> simp [f_is_from, b_var, b_chain, blv, cmp2, endC, h, List.replicate]
theorem lent {prog : Nat → Option Fn} {n f : Nat} {os : List Opd} {ρ : Env} {F : Fn} {b : D} (hp : prog f = some F) (hio : F.io = false) (h : callAt prog n f ((looks os ρ).map .val) = .ok b false .non) (hb : noref b = true) : callE (callsOf prog n) true f os ρ = .ok (.val b) ρ := by
  have := callE_val (prog := prog) (n := n) (f := f) (lend := true) (os := os) (ρ := ρ) (F := F) (z := .non) hp hio h (fun _ => hb)
  simpa using this
/-- the call of it, as a lent thing -/
theorem c_is_from (n : Nat) (ρ : Env) (i lo hi : Int) : callE (callsOf prog (n + 1)) true 0 [.val (.int i), .val (.int lo), .val (.int hi)] ρ = .ok (.val (.bl (decide (lo ≤ i) && decide (i ≤ hi)))) ρ := lent rfl rfl (s_is_from n i lo hi) rfl
@[simp] theorem q_str (a b : S) : eqD (.str a) (.str b) = (a == b) := by rw [eqD]
@[simp] theorem q_int (a b : Int) : eqD (.int a) (.int b) = (a == b) := by rw [eqD]
@[simp] theorem q_tup (a b : List D) : eqD (.tup a) (.tup b) = eqDs a b := by rw [eqD]
@[simp] theorem q_lst (a b : List D) : eqD (.lst a) (.lst b) = eqDs a b := by rw [eqD]
@[simp] theorem q_n : eqDs [] [] = true := by rw [eqDs]
@[simp] theorem q_cn (x : D) (xs : List D) : eqDs (x :: xs) [] = false := by rw [eqDs] <;> simp
@[simp] theorem q_nc (x : D) (xs : List D) : eqDs [] (x :: xs) = false := by rw [eqDs] <;> simp
@[simp] theorem q_c (x y : D) (xs ys : List D) : eqDs (x :: xs) (y :: ys) = (eqD x y && eqDs xs ys) := by rw [eqDs]
@[simp] theorem p_non (n : Nat) : plainD n .non = true := by rw [plainD]
@[simp] theorem p_bl (n : Nat) (a : Bool) : plainD n (.bl a) = true := by rw [plainD]
@[simp] theorem p_int (n : Nat) (a : Int) : plainD n (.int a) = true := by rw [plainD]
@[simp] theorem p_str (n : Nat) (a : S) : plainD n (.str a) = true := by rw [plainD]
@[simp] theorem p_tup (n : Nat) (a : List D) : plainD (n + 1) (.tup a) = plainDs n a := by rw [plainD]
@[simp] theorem p_lst (n : Nat) (a : List D) : plainD (n + 1) (.lst a) = plainDs n a := by rw [plainD]
@[simp] theorem p_tupd (a : List D) : plainD deep (.tup a) = plainDs 29 a := by show plainD 30 _ = _; rw [plainD]
@[simp] theorem p_lstd (a : List D) : plainD deep (.lst a) = plainDs 29 a := by show plainD 30 _ = _; rw [plainD]
@[simp] theorem p_n (n : Nat) : plainDs n [] = true := by rw [plainDs]
@[simp] theorem p_c (n : Nat) (x : D) (xs : List D) : plainDs n (x :: xs) = (plainD n x && plainDs n xs) := by rw [plainDs]
def sides : S := [110, 101, 115, 119]
theorem join_one : ∀ (s : S), joinS [] (s.map fun c => [c]) = s
  | [] => rfl
  | [x] => rfl
  | x :: y :: r => by
    have ih := join_one (y :: r)
    rw [List.map_cons] at ih
    simp only [List.map_cons, joinS]
    rw [ih]; rfl
theorem strs_map (s : S) : strsOf (s.map fun c => D.str [c]) = some (s.map fun c => [c]) := by
  induction s with
  | nil => rfl
  | cons x r ih => simp [strsOf, ih]
theorem bools_map {α : Type} (l : List α) (f : α → Bool) : boolsOf (l.map fun x => D.bl (f x)) = some (l.map f) := by
  induction l with
  | nil => rfl
  | cons x r ih => simp [boolsOf, ih]
theorem plains_map {α : Type} (n : Nat) (l : List α) (f : α → D) : plainDs n (l.map f) = l.all fun x => plainD n (f x) := by
  induction l with
  | nil => rfl
  | cons x r ih => simp [plainDs, ih]
mutual
theorem eq_refl' : ∀ (n : Nat) (d : D), plainD n d = true → eqD d d = true
  | n, .non, _ => rfl
  | n, .bl _, _ => by simp [eqD]
  | n, .int _, _ => by simp [eqD]
  | n, .str _, _ => by simp [eqD]
  | 0, .tup _, h => by simp [plainD] at h
  | n + 1, .tup xs, h => by rw [plainD] at h; rw [eqD]; exact eqs_refl' n xs h
  | 0, .lst _, h => by simp [plainD] at h
  | n + 1, .lst xs, h => by rw [plainD] at h; rw [eqD]; exact eqs_refl' n xs h
  | n, .dct _ _, h => by cases n <;> simp [plainD] at h
  | n, .clo _ _, h => by cases n <;> simp [plainD] at h
theorem eqs_refl' : ∀ (n : Nat) (ds : List D), plainDs n ds = true → eqDs ds ds = true
  | n, [], _ => rfl
  | n, x :: xs, h => by
    rw [plainDs, Bool.and_eq_true] at h
    rw [eqDs, eq_refl' n x h.1, eqs_refl' n xs h.2]
    rfl
end
theorem sub_sides (s : S) (h : s.Sublist sides) : sides.filter (fun c => s.contains c) = s ∧ s.all (fun c => sides.contains c) = true ∧ s.length ≤ 4 := by
  simp only [sides, List.sublist_cons_iff, List.sublist_nil] at h
  rcases h with h | ⟨r, rfl, h⟩ <;> rcases h with h | ⟨r, rfl, h⟩ <;> rcases h with h | ⟨r, rfl, h⟩ <;> rcases h with rfl | ⟨r, rfl, rfl⟩ <;> decide
theorem bools_true (k : Nat) : boolsOf (List.replicate k (D.bl true)) = some (List.replicate k true) := by
  induction k with
  | zero => rfl
  | succ k ih => simp [List.replicate_succ, boolsOf, ih]
theorem map_true {α : Type} {l : List α} {f : α → D} (h : ∀ x ∈ l, f x = .bl true) : l.map f = List.replicate l.length (.bl true) := by
  rw [List.map_eq_replicate_iff]
  exact h
theorem e_are_doors_1 (n : Nat) (s : S) (x y : Sl) (hs : s.all (fun c => sides.contains c) = true) : evE (callsOf prog n) c_are_doors_1 [.val (.str s), x, y] = .ok (.own (.lst (List.replicate s.length (.bl true)))) [.val (.str s), x, y] := by
  unfold c_are_doors_1
  rw [← map_true (l := s) (f := fun _ => .bl true) (fun _ _ => rfl)]
  refine comp_map (ρ1 := [.val (.str s), x, y]) (os := [.val (.str s)]) (l := s) (fun ρ => ∃ t, ρ = [.val (.str s), x, t]) (fun c => .str [c]) (fun c => .bl true) (by simp [b_var]) rfl ⟨y, rfl⟩ ?_ ?_
  · rintro c hc ρ ⟨t, rfl⟩
    have hq : c ∈ sides := by simpa using List.all_eq_true.mp hs c hc
    refine ⟨[.val (.str s), x, .val (.str [c])], [.val (.str s), x, .val (.str [c])], rfl, ?_, ⟨_, rfl⟩⟩
    simp only [sides] at hq
    simp only [b_cmp, b_var, b_str, getS, b_bind, b_lv, cmp2, isin, b_okS, Option.map, blv]
    rw [List.contains_iff_mem.mpr hq]
  · rintro ρ ⟨t, rfl⟩
    rfl
theorem e_are_doors_2 (n : Nat) (s : S) (x y : Sl) (hs : sides.filter (fun c => s.contains c) = s) : evE (callsOf prog n) c_are_doors_2 [.val (.str s), x, y] = .ok (.own (.lst (s.map fun c => .str [c]))) [.val (.str s), x, y] := by
  have q : evE (callsOf prog n) c_are_doors_2 [.val (.str s), x, y] = .ok (.own (.lst ((sides.filter fun c => s.contains c).map fun c => .str [c]))) [.val (.str s), x, y] := by
    unfold c_are_doors_2
    refine comp_run (ρ1 := [.val (.str s), x, y]) (os := [.val (.str sides)]) (l := sides) (fun ρ => ∃ t, ρ = [.val (.str s), t, y]) (fun c => .str [c]) _ _ (by simp [sides]) rfl ⟨x, rfl⟩ ?_ ?_
    · rintro c hc ρ ⟨t, rfl⟩
      refine ⟨[.val (.str s), .val (.str [c]), y], [.val (.str s), .val (.str [c]), y], rfl, by by_cases hc : c ∈ s <;> simp [b_var, cmp2, isin, blv, hc], ?_⟩
      split
      · exact ⟨.val (.str [c]), [.val (.str s), .val (.str [c]), y], by simp [b_var], rfl, ⟨_, rfl⟩⟩
      · exact ⟨_, rfl⟩
    · rintro ρ ⟨t, rfl⟩
      rfl
  rw [hs] at q
  exact q
theorem s_are_doors (n : Nat) (s : S) (h : s.Sublist sides) : callAt prog (n + 1) 1 [.val (.str s)] = .ok (.bl true) false .non := by
  obtain ⟨h1, h2, h3⟩ := sub_sides s h
  rw [call_eq prog n 1 _ f_are_doors rfl rfl rfl]
  have h5 : s.length ≤ 8000000 := by omega
  simp [f_are_doors, b_var, blv, cmp2, endC, List.replicate, e_are_doors_1 n s _ _ h2, e_are_doors_2 n s _ _ h1, bools_true, strs_map, join_one, h5, plain2]
theorem c_are_doors (n : Nat) (ρ : Env) (s : S) (hs : s.Sublist sides) : callE (callsOf prog (n + 1)) true 1 [.val (.str s)] ρ = .ok (.val (.bl true)) ρ := lent rfl rfl (s_are_doors n s hs) rfl
/-- a rail: a column or a row -/
def colS : S := [99, 111, 108]
def rowS : S := [114, 111, 119]
def rD (r : Bool × Nat) : D := .tup [.str (if r.1 then rowS else colS), .int r.2]
def allRails (w h : Nat) : List (Bool × Nat) := (List.range w).map (fun x => (false, x)) ++ (List.range h).map (fun y => (true, y))
theorem s_is_rail (n w h : Nat) (r : Bool × Nat) (hr : r.2 < if r.1 then h else w) : callAt prog (n + 2) 2 [.val (.int w), .val (.int h), .val (rD r)] = .ok (.bl true) false .non := by
  rw [call_eq prog (n + 1) 2 _ f_is_rail rfl rfl rfl]
  obtain ⟨b, k⟩ := r
  cases b
  · have hq : (k : Int) ≤ w - 1 := by simp at hr; omega
    simp [f_is_rail, b_var, rD, blv, intv, cmp2, plain2, sub2, ix, colS, rowS, List.replicate, c_is_from, bin2, endC, hq]
  · have hq : (k : Int) ≤ h - 1 := by simp at hr; omega
    simp [f_is_rail, b_var, rD, blv, intv, cmp2, plain2, sub2, ix, colS, rowS, List.replicate, c_is_from, bin2, endC, hq]
theorem c_is_rail (n w h : Nat) (ρ : Env) (r : Bool × Nat) (hr : r.2 < if r.1 then h else w) : callE (callsOf prog (n + 2)) true 2 [.val (.int w), .val (.int h), .val (rD r)] ρ = .ok (.val (.bl true)) ρ := lent rfl rfl (s_is_rail n w h r hr) rfl
/-- one stands before the other -/
def ltR (r t : Bool × Nat) : Bool := ltD (rD r) (rD t)
theorem zip_tl {α β : Type} (f : α → D) : ∀ (x : α) (l : List α), zipL ((x :: l).map f) (l.map f) = ((x :: l).zip l).map fun p => .tup [f p.1, f p.2]
  | x, [] => rfl
  | x, y :: r => by
    have := zip_tl (β := β) f y r
    simp only [List.map_cons, zipL, List.zip_cons_cons] at this ⊢
    rw [this]
end RR.B

namespace RR.B
theorem zip_map {α β : Type} (f : α → D) (g : β → D) : ∀ (l : List α) (m : List β), zipL (l.map f) (m.map g) = (l.zip m).map fun p => .tup [f p.1, g p.2]
  | [], m => by cases m <;> rfl
  | x :: r, [] => rfl
  | x :: r, y :: m => by simp only [List.map_cons, zipL, List.zip_cons_cons, zip_map f g r m]
theorem cut_1 {α : Type} (l : List α) : cut l (some 1) none = l.drop 1 := by
  have e : clip l.length 0 (some 1) = min 1 l.length := by simp [clip]
  unfold cut
  rw [e]
  cases l with
  | nil => rfl
  | cons x r => simp [clip]
theorem pair_zip {α : Type} {R : α → α → Prop} : ∀ (l : List α), l.Pairwise R → ∀ p ∈ l.zip (l.drop 1), R p.1 p.2
  | [], _, p, hp => by simp at hp
  | [x], _, p, hp => by simp at hp
  | x :: y :: r, h, p, hp => by
    rw [List.pairwise_cons] at h
    have hp' : p = (x, y) ∨ p ∈ (y :: r).zip ((y :: r).drop 1) := by
      simpa [List.zip_cons_cons] using hp
    rcases hp' with rfl | hp'
    · exact h.1 y (List.mem_cons_self ..)
    · exact pair_zip (y :: r) h.2 p hp'
theorem e_rising (n : Nat) (rs : List (Bool × Nat)) (x y : Sl) (hr : rs.Pairwise fun a b => ltR a b = true) : evE (callsOf prog n) c_is_rising_1 [.val (.tup (rs.map rD)), x, y] = .ok (.own (.lst (List.replicate (rs.zip (rs.drop 1)).length (.bl true)))) [.val (.tup (rs.map rD)), x, y] := by
  unfold c_is_rising_1
  rw [← map_true (l := rs.zip (rs.drop 1)) (f := fun _ => .bl true) (fun _ _ => rfl)]
  refine comp_map (ρ1 := [.val (.tup (rs.map rD)), x, y]) (os := [.val (.tup (rs.map rD)), .val (.tup ((rs.drop 1).map rD))]) (l := rs.zip (rs.drop 1)) (fun ρ => ∃ s t, ρ = [.val (.tup (rs.map rD)), s, t]) (fun p => .tup [rD p.1, rD p.2]) (fun c => .bl true) (by simp [b_var, sliceD, optI, cut_1, List.map_drop]) (by show some (zipL _ _) = _; rw [zip_map]) ⟨x, y, rfl⟩ ?_ ?_
  · rintro p hp ρ ⟨s, t, rfl⟩
    have hq := pair_zip rs hr p hp
    refine ⟨[.val (.tup (rs.map rD)), .val (rD p.1), .val (rD p.2)], [.val (.tup (rs.map rD)), .val (rD p.1), .val (rD p.2)], rfl, ?_, ⟨_, _, rfl⟩⟩
    have a1 : plain2 (rD p.1) (rD p.2) = true := by simp [plain2, rD]
    have a2 : alikeD (rD p.1) (rD p.2) = true := by simp [alikeD, alikeDs, rD]
    have a3 : isNon (rD p.1) = false := rfl
    have a4 : ltD (rD p.1) (rD p.2) = true := hq
    simp [b_var, getS, cmp2, a1, a2, a3, a4, blv]
  · rintro ρ ⟨s, t, rfl⟩
    rfl
theorem s_is_rising (n : Nat) (rs : List (Bool × Nat)) (hr : rs.Pairwise fun a b => ltR a b = true) : callAt prog (n + 1) 3 [.val (.tup (rs.map rD))] = .ok (.bl true) false .non := by
  rw [call_eq prog n 3 _ f_is_rising rfl rfl rfl]
  simp [f_is_rising, List.replicate, e_rising n rs _ _ hr, bools_true, blv, endC]
theorem c_is_rising (n : Nat) (ρ : Env) (rs : List (Bool × Nat)) (hr : rs.Pairwise fun a b => ltR a b = true) : callE (callsOf prog (n + 1)) true 3 [.val (.tup (rs.map rD))] ρ = .ok (.val (.bl true)) ρ := lent rfl rfl (s_is_rising n rs hr) rfl
/-- a house -/
structure House where
  w : Nat
  h : Nat
  ds : List S
  rs : List (Bool × Nat)
  w1 : 1 ≤ w
  w6 : w ≤ 6
  h1 : 1 ≤ h
  h6 : h ≤ 6
  dl : ds.length = w * h
  dk : ∀ s ∈ ds, s.Sublist sides
  rk : ∀ r ∈ rs, r.2 < if r.1 then h else w
  rp : rs.Pairwise fun a b => ltR a b = true
  rl : rs.length ≤ 12
def House.doors (H : House) : D := .tup (H.ds.map .str)
def House.rails (H : House) : D := .tup (H.rs.map rD)
def House.d (H : House) : D := .tup [.int H.w, .int H.h, H.doors, H.rails]
theorem e_house_1 (n : Nat) (H : House) (a b c e x y : Sl) : evE (callsOf prog (n + 1)) c_is_house_1 [a, b, c, .val H.doors, e, x, y] = .ok (.own (.lst (List.replicate H.ds.length (.bl true)))) [a, b, c, .val H.doors, e, x, y] := by
  unfold c_is_house_1
  rw [← map_true (l := H.ds) (f := fun _ => .bl true) (fun _ _ => rfl)]
  refine comp_map (ρ1 := [a, b, c, .val H.doors, e, x, y]) (os := [.val H.doors]) (l := H.ds) (fun ρ => ∃ t, ρ = [a, b, c, .val H.doors, e, t, y]) (fun c => .str c) (fun c => .bl true) (by simp [b_var]) rfl ⟨x, rfl⟩ ?_ ?_
  · rintro s hs ρ ⟨t, rfl⟩
    refine ⟨[a, b, c, .val H.doors, e, .val (.str s), y], [a, b, c, .val H.doors, e, .val (.str s), y], rfl, ?_, ⟨_, rfl⟩⟩
    simp [b_var, c_are_doors n _ s (H.dk s hs)]
  · rintro ρ ⟨t, rfl⟩
    rfl
theorem e_house_2 (n : Nat) (H : House) (a c x y : Sl) : evE (callsOf prog (n + 2)) c_is_house_2 [a, .val (.int H.w), .val (.int H.h), c, .val H.rails, x, y] = .ok (.own (.lst (List.replicate H.rs.length (.bl true)))) [a, .val (.int H.w), .val (.int H.h), c, .val H.rails, x, y] := by
  unfold c_is_house_2
  rw [← map_true (l := H.rs) (f := fun _ => .bl true) (fun _ _ => rfl)]
  refine comp_map (ρ1 := [a, .val (.int H.w), .val (.int H.h), c, .val H.rails, x, y]) (os := [.val H.rails]) (l := H.rs) (fun ρ => ∃ t, ρ = [a, .val (.int H.w), .val (.int H.h), c, .val H.rails, x, t]) rD (fun c => .bl true) (by simp [b_var]) rfl ⟨y, rfl⟩ ?_ ?_
  · rintro r hs ρ ⟨t, rfl⟩
    refine ⟨[a, .val (.int H.w), .val (.int H.h), c, .val H.rails, x, .val (rD r)], [a, .val (.int H.w), .val (.int H.h), c, .val H.rails, x, .val (rD r)], rfl, ?_, ⟨_, rfl⟩⟩
    simp [b_var, c_is_rail n H.w H.h _ r (H.rk r hs)]
  · rintro ρ ⟨t, rfl⟩
    rfl
theorem fits_nat {k : Nat} (h : k ≤ 1000) : fits (k : Int) = true := by
  unfold fits BIG
  rw [decide_eq_true_eq, Int.natAbs_natCast]
  exact Nat.lt_of_le_of_lt h (by decide)
theorem s_is_house (n : Nat) (H : House) : callAt prog (n + 3) 4 [.val H.d] = .ok (.bl true) false .non := by
  rw [call_eq prog (n + 2) 4 _ f_is_house rfl rfl rfl]
  have hw : (1 : Int) ≤ H.w := by have := H.w1; omega
  have hw6 : (H.w : Int) ≤ 6 := by have := H.w6; omega
  have hh : (1 : Int) ≤ H.h := by have := H.h1; omega
  have hh6 : (H.h : Int) ≤ 6 := by have := H.h6; omega
  have f1 := fits_nat (k := H.w) (by have := H.w6; omega)
  have f2 := fits_nat (k := H.h) (by have := H.h6; omega)
  have hl : (H.ds.length : Int) = H.w * H.h := by rw [H.dl]; simp
  have k1 : kindD H.doors = some 4 := rfl
  have k2 : kindD H.rails = some 4 := rfl
  have k3 : bi1 .len H.doors = some (intv H.ds.length) := by simp [bi1, House.doors]
  have c3 : ∀ ρ, callE (callsOf prog (n + 2)) true 3 [.val H.rails] ρ = .ok (.val (.bl true)) ρ := fun ρ => c_is_rising (n + 1) ρ H.rs H.rp
  simp [f_is_house, b_var, House.d, b_unp, bindT, blv, intv, cmp2, plain2, List.replicate, c_is_from, bin2, endC, hw, hw6, hh, hh6, k1, k2, k3, f1, f2, hl, e_house_1, e_house_2, bools_true, c3]
theorem c_is_house (n : Nat) (ρ : Env) (H : House) : callE (callsOf prog (n + 3)) true 4 [.val H.d] ρ = .ok (.val (.bl true)) ρ := lent rfl rfl (s_is_house n H) rfl
theorem s_need_house (n : Nat) (H : House) : callAt prog (n + 4) 5 [.val H.d] = .ok .non false .non := by
  rw [call_eq prog (n + 3) 5 _ f_need_house rfl rfl rfl]
  simp [f_need_house, b_var, c_is_house, endC]
theorem c_need_house (n : Nat) (ρ : Env) (H : House) : callE (callsOf prog (n + 4)) true 5 [.val H.d] ρ = .ok (.val .non) ρ := lent rfl rfl (s_need_house n H) rfl
end RR.B

namespace RR.B
def iD (k : Nat) : D := .int k
theorem ints_alike (l : List Nat) : sortOk (l.map iD) = true := by
  simp [sortOk, iD, List.all_map, alikeD]
theorem sort_ints (l : List Nat) : sortD (l.map iD) = some ((l.mergeSort fun a b => decide (a ≤ b)).map iD) := by
  unfold sortD
  rw [if_pos (ints_alike l), ← List.map_mergeSort (r := fun a b => decide (a ≤ b))]
  intro a _ b _
  simp [leD, iD, ltD]
  by_cases h : a ≤ b <;> simp [h] <;> omega
theorem sort_perm (l : List Nat) (n : Nat) (h : l.Perm (List.range n)) : l.mergeSort (fun a b => decide (a ≤ b)) = List.range n := by
  refine List.Perm.eq_of_pairwise (le := fun a b => a ≤ b) (fun a b _ _ h1 h2 => Nat.le_antisymm h1 h2) ?_ ?_ ((List.mergeSort_perm _ _).trans h)
  · have := List.pairwise_mergeSort (le := fun a b : Nat => decide (a ≤ b)) (fun a b c h1 h2 => by simp at *; omega) (fun a b => by simp; omega) l
    simpa using this
  · exact List.pairwise_lt_range.imp (fun h => Nat.le_of_lt h)
theorem range_nat (n : Nat) : rangeL 0 n = (List.range n).map iD := by
  unfold rangeL iD
  have : ((n : Int) - 0).toNat = n := by omega
  rw [this]
  simp
theorem plain_ints (n : Nat) (l : List Nat) : plainDs n (l.map iD) = true := by
  rw [plains_map]
  simp [iD]
def stD (st : List Nat) : D := .tup (st.map iD)
def House.n (H : House) : Nat := H.w * H.h
theorem House.n36 (H : House) : H.n ≤ 36 := by
  have := Nat.mul_le_mul H.w6 H.h6
  exact this
theorem e_standing_1 (n : Nat) (H : House) (st : List Nat) (y : Sl) (hs : ∀ k ∈ st, k < H.n) : evE (callsOf prog (n + 1)) c_is_standing_1 [.val H.d, .val (stD st), y] = .ok (.own (.lst (List.replicate st.length (.bl true)))) [.val H.d, .val (stD st), y] := by
  unfold c_is_standing_1
  rw [← map_true (l := st) (f := fun _ => .bl true) (fun _ _ => rfl)]
  refine comp_map (ρ1 := [.val H.d, .val (stD st), y]) (os := [.val (stD st)]) (l := st) (fun ρ => ∃ t, ρ = [.val H.d, .val (stD st), t]) iD (fun c => .bl true) (by simp [b_var]) rfl ⟨y, rfl⟩ ?_ ?_
  · rintro k hk ρ ⟨t, rfl⟩
    refine ⟨[.val H.d, .val (stD st), .val (iD k)], [.val H.d, .val (stD st), .val (iD k)], rfl, ?_, ⟨_, rfl⟩⟩
    have h1 : (k : Int) ≤ H.ds.length - 1 := by have := hs k hk; have := H.dl; unfold House.n at *; omega
    simp [b_var, House.d, House.doors, sub2, ix, bin2, intv, iD, c_is_from, h1]
  · rintro ρ ⟨t, rfl⟩
    rfl
theorem s_is_standing (n : Nat) (H : House) (st : List Nat) (hp : st.Perm (List.range H.n)) : callAt prog (n + 2) 6 [.val H.d, .val (stD st)] = .ok (.bl true) false .non := by
  rw [call_eq prog (n + 1) 6 _ f_is_standing rfl rfl rfl]
  have hl : st.length = H.n := by rw [hp.length_eq]; simp
  have hd : H.ds.length = H.n := H.dl
  have hm : ∀ k ∈ st, k < H.n := fun k hk => by have := (hp.mem_iff (a := k)).mp hk; simpa using this
  have e1 : bi1 .istuple (stD st) = some (blv true) := rfl
  have e2 : bi1 .len (stD st) = some (intv H.n) := by rw [← hl]; simp [stD]
  have e3 : sub2 H.d (.int 2) = some H.doors := rfl
  have e4 : bi1 .len H.doors = some (intv H.n) := by rw [← hd]; simp [House.doors]
  have e5 : bi1 .sorted (stD st) = some (.own (.lst ((List.range H.n).map iD))) := by
    unfold stD
    have hsp : sPlain (st.map iD) = true := plain_ints _ _
    rw [i_srt_t, if_pos hsp, sort_ints, sort_perm st H.n hp]
    rfl
  have e6 : bi1 .listrange (.int H.n) = some (.own (.lst ((List.range H.n).map iD))) := by
    have h36 := H.n36
    rw [i_lr, range_nat, if_pos]
    unfold near
    rw [decide_eq_true_eq, Int.natAbs_natCast]
    omega
  have e7 : plainDs 29 ((List.range H.n).map iD) = true := plain_ints _ _
  have e8 := eqs_refl' 29 _ e7
  simp [f_is_standing, b_var, e1, e2, e3, e4, e5, e6, e7, e8, blv, intv, cmp2, plain2, List.replicate, e_standing_1 n H st _ hm, bools_true, endC]
theorem c_is_standing (n : Nat) (ρ : Env) (H : House) (st : List Nat) (hp : st.Perm (List.range H.n)) : callE (callsOf prog (n + 2)) true 6 [.val H.d, .val (stD st)] ρ = .ok (.val (.bl true)) ρ := lent rfl rfl (s_is_standing n H st hp) rfl
theorem s_need_stand (n : Nat) (H : House) (st : List Nat) (hp : st.Perm (List.range H.n)) : callAt prog (n + 5) 7 [.val H.d, .val (stD st)] = .ok .non false .non := by
  rw [call_eq prog (n + 4) 7 _ f_need_stand rfl rfl rfl]
  simp [f_need_stand, b_var, c_need_house, c_is_standing (n + 2) _ H st hp, endC]
theorem c_need_stand (n : Nat) (ρ : Env) (H : House) (st : List Nat) (hp : st.Perm (List.range H.n)) : callE (callsOf prog (n + 5)) true 7 [.val H.d, .val (stD st)] ρ = .ok (.val .non) ρ := lent rfl rfl (s_need_stand n H st hp) rfl
/-- a rail's places -/
def places (H : House) (r : Bool × Nat) : List Nat := if r.1 then (List.range H.w).map fun x => H.w * r.2 + x else (List.range H.h).map fun y => H.w * y + r.2
theorem near_nat {k : Nat} (h : k ≤ 1000) : near (k : Int) = true := by
  unfold near
  rw [decide_eq_true_eq, Int.natAbs_natCast]
  omega
theorem rk7 (H : House) (r : Bool × Nat) (hr : r.2 < if r.1 then H.h else H.w) : r.2 ≤ 1000 := by
  have := H.w6; have := H.h6
  split at hr <;> omega
theorem sub_r1 (r : Bool × Nat) : sub2 (rD r) (.int 1) = some (.int r.2) := rfl
theorem sub_r0 (r : Bool × Nat) : sub2 (rD r) (.int 0) = some (.str (if r.1 then rowS else colS)) := rfl
theorem e_along_1 (n : Nat) (H : House) (r : Bool × Nat) (x y z : Sl) (h0 : r.1 = true) (hr : r.2 < if r.1 then H.h else H.w) : evE (callsOf prog n) c_along_1 [z, .val (rD r), .val (.int H.w), .val (.int H.h), x, y] = .ok (.own (.lst ((places H r).map iD))) [z, .val (rD r), .val (.int H.w), .val (.int H.h), x, y] := by
  unfold c_along_1 places
  rw [if_pos h0, List.map_map]
  have f1 := fits_nat (k := H.w) (by have := H.w6; omega)
  have f2 := fits_nat (k := r.2) (rk7 H r hr)
  refine comp_map (ρ1 := [z, .val (rD r), .val (.int H.w), .val (.int H.h), x, y]) (os := [.val (.int H.w)]) (l := List.range H.w) (fun ρ => ∃ t, ρ = [z, .val (rD r), .val (.int H.w), .val (.int H.h), x, t]) iD _ (by simp [b_var]) ?_ ⟨y, rfl⟩ ?_ ?_
  · simp only [looks, List.map, look, itemsOf]
    rw [if_pos (near_nat (by have := H.w6; omega)), range_nat]
  · rintro k hk ρ ⟨t, rfl⟩
    refine ⟨[z, .val (rD r), .val (.int H.w), .val (.int H.h), x, .val (iD k)], [z, .val (rD r), .val (.int H.w), .val (.int H.h), x, .val (iD k)], rfl, ?_, ⟨_, rfl⟩⟩
    simp [b_var, sub_r1, bin2, f1, f2, iD]
  · rintro ρ ⟨t, rfl⟩
    rfl
theorem e_along_2 (n : Nat) (H : House) (r : Bool × Nat) (x y z : Sl) (h0 : r.1 = false) : evE (callsOf prog n) c_along_2 [z, .val (rD r), .val (.int H.w), .val (.int H.h), x, y] = .ok (.own (.lst ((places H r).map iD))) [z, .val (rD r), .val (.int H.w), .val (.int H.h), x, y] := by
  unfold c_along_2 places
  rw [if_neg (by rw [h0]; decide), List.map_map]
  have f1 := fits_nat (k := H.w) (by have := H.w6; omega)
  refine comp_map (ρ1 := [z, .val (rD r), .val (.int H.w), .val (.int H.h), x, y]) (os := [.val (.int H.h)]) (l := List.range H.h) (fun ρ => ∃ t, ρ = [z, .val (rD r), .val (.int H.w), .val (.int H.h), t, y]) iD _ (by simp [b_var]) ?_ ⟨x, rfl⟩ ?_ ?_
  · simp only [looks, List.map, look, itemsOf]
    rw [if_pos (near_nat (by have := H.h6; omega)), range_nat]
  · rintro k hk ρ ⟨t, rfl⟩
    have f2 := fits_nat (k := k) (by have := H.h6; simp at hk; omega)
    refine ⟨[z, .val (rD r), .val (.int H.w), .val (.int H.h), .val (iD k), y], [z, .val (rD r), .val (.int H.w), .val (.int H.h), .val (iD k), y], rfl, ?_, ⟨_, rfl⟩⟩
    simp [b_var, sub_r1, bin2, f1, f2, iD]
  · rintro ρ ⟨t, rfl⟩
    rfl
theorem s_along (n : Nat) (H : House) (r : Bool × Nat) (hr : r.2 < if r.1 then H.h else H.w) : callAt prog (n + 1) 8 [.val H.d, .val (rD r)] = .ok (.lst ((places H r).map iD)) true .non := by
  rw [call_eq prog n 8 _ f_along rfl rfl rfl]
  have e1 : sliceD H.d none (some 2) = some (.val (.tup [.int H.w, .int H.h])) := rfl
  cases h0 : r.1
  · simp [f_along, b_var, b_unp, bindT, e1, optI, sub_r0, h0, cmp2, plain2, rowS, colS, blv, List.replicate, e_along_2 n H r _ _ _ h0, endC]
  · simp [f_along, b_var, b_unp, bindT, e1, optI, sub_r0, h0, cmp2, plain2, rowS, colS, blv, List.replicate, e_along_1 n H r _ _ _ h0 hr, endC]
/-- a slide: a rail, how many -/
abbrev Sd := (Bool × Nat) × Int
def sD (s : Sd) : D := .tup [rD s.1, .int s.2]
def rowD (row : List Sd) : D := .lst (row.map sD)
structure RowOk (H : House) (row : List Sd) : Prop where
  len : row.length ≤ 30
  mem : ∀ s ∈ row, s.1 ∈ H.rs
  far : ∀ s ∈ row, -1000000000000000000000000000000 ≤ s.2 ∧ s.2 ≤ 1000000000000000000000000000000
theorem plain_rD (n : Nat) (r : Bool × Nat) : plainD (n + 1) (rD r) = true := by simp [rD]
theorem eq_rD (r t : Bool × Nat) : eqD (rD r) (rD t) = decide (r = t) := by
  obtain ⟨a, b⟩ := r
  obtain ⟨c, d⟩ := t
  cases a <;> cases c <;> simp [rD, rowS, colS] <;> by_cases h : b = d <;> simp [h] <;> omega
theorem isin_rail (H : House) (r : Bool × Nat) (h : r ∈ H.rs) : isin (rD r) H.rails = some true := by
  unfold House.rails
  have e1 : plainD deep (rD r) = true := plain_rD 29 r
  have e2 : plainDs deep (H.rs.map rD) = true := by
    rw [plains_map, List.all_eq_true]
    intro x _
    exact plain_rD 29 x
  have e3 : memD (rD r) (H.rs.map rD) = true := by
    unfold memD
    rw [List.any_map, List.any_eq_true]
    exact ⟨r, h, by simp [eq_rD]⟩
  simp [isin, e1, e2, e3]
theorem l_is_row (n : Nat) (H : House) (row : List Sd) (hr : RowOk H row) (x y : Sl) : ∃ u v, evS (callsOf prog (n + 1)) l_is_row_1 [.val H.d, .val (rowD row), x, y] = .nx [.val H.d, .val (rowD row), u, v] := by
  unfold l_is_row_1
  have q := for_run (Φ := callsOf prog (n + 1)) (ρ := [.val H.d, .val (rowD row), x, y]) (ρ1 := [.val H.d, .val (rowD row), x, y]) (os := [.val (rowD row)]) (items := row.map sD) (hide := false) (tg := [2]) (sk := .it) (src := [.var 1])
    (body := [.ite (.or (.not (.bi .istuple [.var 2])) (.or (.cmp .ne (.bi .len [.var 2]) (.int 2)) (.not (.call true 0 [.sub (.var 2) (.int 1), .neg (.int 1000000000000000000000000000000), .int 1000000000000000000000000000000]))))
     [.ret (.bl false)]
     [],
    .asg 3 (.sub (.var 2) (.int 0)),
    .ite (.or (.not (.bi .istuple [.var 3])) (.or (.cmp .ne (.bi .len [.var 3]) (.int 2)) (.not (.bi .isstr [.sub (.var 3) (.int 0)]))))
     [.ret (.bl false)]
     [],
    .ite (.or (.bi .isbool [.sub (.var 3) (.int 1)]) (.or (.not (.bi .isint [.sub (.var 3) (.int 1)])) (.cmp .notin (.var 3) (.sub (.var 0) (.int 3)))))
     [.ret (.bl false)]
     []])
    (fun items ρ => ∃ rest u v, items = rest.map sD ∧ (∀ s ∈ rest, s ∈ row) ∧ ρ = [.val H.d, .val (rowD row), u, v])
    (by simp [b_var]) rfl ⟨row, x, y, rfl, fun _ h => h, rfl⟩ ?_
  · obtain ⟨ρf, ⟨rest, u, v, h1, h2, rfl⟩, h3⟩ := q
    exact ⟨u, v, h3⟩
  · rintro d ds ρ ⟨rest, u, v, h1, h2, rfl⟩
    cases rest with
    | nil => simp at h1
    | cons s rest =>
      simp only [List.map_cons, List.cons.injEq] at h1
      obtain ⟨rfl, rfl⟩ := h1
      have hs := h2 s (List.mem_cons_self ..)
      obtain ⟨f1, f2⟩ := hr.far s hs
      have e1 := isin_rail H s.1 (hr.mem s hs)
      have e2 : bi1 .istuple (rD s.1) = some (blv true) := rfl
      have e3 : bi1 .len (rD s.1) = some (intv 2) := rfl
      have e4 : sub2 H.d (.int 3) = some H.rails := rfl
      have e5 : sub2 (sD s) (.int 1) = some (.int s.2) := rfl
      have e6 : sub2 (sD s) (.int 0) = some (rD s.1) := rfl
      have e7 : bi1 .istuple (sD s) = some (blv true) := rfl
      have e8 : bi1 .len (sD s) = some (intv 2) := rfl
      refine ⟨[.val H.d, .val (rowD row), .val (sD s), v], [.val H.d, .val (rowD row), .val (sD s), .val (rD s.1)], rfl, ?_, rest, _, _, rfl, fun t ht => h2 t (List.mem_cons_of_mem _ ht), rfl⟩
      simp [b_var, e1, e2, e3, e4, e5, e6, e7, e8, sub_r0, sub_r1, blv, intv, cmp2, plain2, c_is_from, f1, f2]
theorem lt_int (a b : Int) : ltD (.int a) (.int b) = decide (a < b) := by rw [ltD]
theorem alike_int (a b : Int) : alikeD (.int a) (.int b) = true := by rw [alikeD]
theorem s_is_row (n : Nat) (H : House) (row : List Sd) (hr : RowOk H row) : callAt prog (n + 2) 9 [.val H.d, .val (rowD row)] = .ok (.bl true) false .non := by
  rw [call_eq prog (n + 1) 9 _ f_is_row rfl rfl rfl]
  obtain ⟨u, v, e⟩ := l_is_row n H row hr .non .non
  have e1 : bi1 .islist (rowD row) = some (blv true) := rfl
  have e2 : bi1 .len (rowD row) = some (intv row.length) := by simp [rowD]
  have e3 : ¬ (30 : Int) < row.length := by have := hr.len; omega
  simp [f_is_row, b_var, e, e1, e2, blv, intv, cmp2, plain2, alike_int, isNon, lt_int, e3, List.replicate, endC]
theorem s_need_row (n : Nat) (H : House) (row : List Sd) (hr : RowOk H row) : callAt prog (n + 3) 10 [.val H.d, .val (rowD row)] = .ok .non false .non := by
  rw [call_eq prog (n + 2) 10 _ f_need_row rfl rfl rfl]
  have c : ∀ ρ, callE (callsOf prog (n + 2)) true 9 [.val H.d, .val (rowD row)] ρ = .ok (.val (.bl true)) ρ := fun ρ => lent rfl rfl (s_is_row n H row hr) rfl
  simp [f_need_row, b_var, c, endC]
theorem c_need_row (n : Nat) (ρ : Env) (H : House) (row : List Sd) (hr : RowOk H row) : callE (callsOf prog (n + 3)) true 10 [.val H.d, .val (rowD row)] ρ = .ok (.val .non) ρ := lent rfl rfl (s_need_row n H row hr) rfl
end RR.B

namespace RR.B
/-! the slides, in plain Lean -/
def at_ (l : List Nat) (i : Nat) : Nat := l.getD i 0
theorem at_set (l : List Nat) (i j v : Nat) (h : i < l.length) : at_ (l.set i v) j = if i = j then v else at_ l j := by
  unfold at_
  simp only [List.getD_eq_getElem?_getD, List.getElem?_set]
  by_cases e : i = j
  · subst e; simp [h]
  · simp [e]
theorem at_get (l : List Nat) (i : Nat) (h : i < l.length) : l[i]? = some (at_ l i) := by
  unfold at_
  simp [List.getD_eq_getElem?_getD, List.getElem?_eq_getElem h]
theorem at_mem (l : List Nat) (i : Nat) (h : i < l.length) : at_ l i ∈ l := List.mem_of_getElem? (at_get l i h)
theorem mem_at (l : List Nat) (x : Nat) (h : x ∈ l) : ∃ i, i < l.length ∧ at_ l i = x := by
  obtain ⟨i, hi, e⟩ := List.mem_iff_getElem.mp h
  refine ⟨i, hi, ?_⟩
  have := at_get l i hi
  rw [List.getElem?_eq_getElem hi] at this
  rw [← e]
  exact (Option.some.inj this).symm
theorem ext_at (l m : List Nat) (h : l.length = m.length) (e : ∀ i, i < l.length → at_ l i = at_ m i) : l = m := by
  apply List.ext_getElem? 
  intro i
  by_cases hi : i < l.length
  · rw [at_get l i hi, at_get m i (by omega), e i hi]
  · rw [List.getElem?_eq_none (by omega), List.getElem?_eq_none (by omega)]
theorem nodup_at (l : List Nat) (h : l.Nodup) (i j : Nat) (hi : i < l.length) (hj : j < l.length) (e : at_ l i = at_ l j) : i = j := by
  have h1 := at_get l i hi
  have h2 := at_get l j hj
  rw [← e, ← h1] at h2
  exact ((List.getElem?_inj hi h).mp h2.symm)
/-- m places on, around -/
def tn (n : Nat) (m : Int) (i : Nat) : Nat := (((i : Int) + m) % (n : Int)).toNat
theorem tn_lt (n : Nat) (m : Int) (i : Nat) (h : 0 < n) : tn n m i < n := by
  unfold tn
  have := Int.emod_lt_of_pos ((i : Int) + m) (b := n) (by omega)
  have := Int.emod_nonneg ((i : Int) + m) (b := n) (by omega)
  omega
theorem tn_cast (n : Nat) (m : Int) (i : Nat) (h : 0 < n) : (tn n m i : Int) = ((i : Int) + m) % n := by
  unfold tn
  have := Int.emod_nonneg ((i : Int) + m) (b := n) (by omega)
  omega
theorem tn_add (n : Nat) (m k : Int) (i : Nat) (h : 0 < n) : tn n k (tn n m i) = tn n (m + k) i := by
  have e : ((tn n k (tn n m i) : Nat) : Int) = (tn n (m + k) i : Nat) := by
    rw [tn_cast n k _ h, tn_cast n m _ h, tn_cast n _ _ h, Int.emod_add_emod, Int.add_assoc]
  omega
theorem tn_0 (n i : Nat) (h : i < n) : tn n 0 i = i := by
  unfold tn
  rw [Int.add_zero, Int.emod_eq_of_lt (by omega) (by omega)]
  omega
theorem tn_mod (n : Nat) (m : Int) (i : Nat) : tn n (m % n) i = tn n m i := by
  unfold tn
  rw [Int.add_emod_emod]
theorem tn_inj (n : Nat) (m : Int) (i j : Nat) (hi : i < n) (hj : j < n) (e : tn n m i = tn n m j) : i = j := by
  have h := congrArg (tn n (-m)) e
  rw [tn_add n _ _ _ (by omega), tn_add n _ _ _ (by omega), Int.add_right_neg, tn_0 n i hi, tn_0 n j hj] at h
  exact h
/-- res is st, its places pl slid by m -/
structure Slid (pl : List Nat) (m : Int) (st res : List Nat) : Prop where
  len : res.length = st.length
  on : ∀ i, i < pl.length → at_ res (at_ pl (tn pl.length m i)) = at_ st (at_ pl i)
  off : ∀ j, j ∉ pl → at_ res j = at_ st j
theorem Slid.uniq {pl : List Nat} {m : Int} {st a b : List Nat} (h1 : Slid pl m st a) (h2 : Slid pl m st b) : a = b := by
  apply ext_at a b (by rw [h1.len, h2.len])
  intro j _
  by_cases hj : j ∈ pl
  · obtain ⟨k, hk, rfl⟩ := mem_at pl j hj
    have h0 : 0 < pl.length := by omega
    have e : tn pl.length m (tn pl.length (-m) k) = k := by rw [tn_add _ _ _ _ h0, Int.add_left_neg, tn_0 _ _ hk]
    have q1 := h1.on (tn pl.length (-m) k) (tn_lt _ _ _ h0)
    have q2 := h2.on (tn pl.length (-m) k) (tn_lt _ _ _ h0)
    rw [e] at q1 q2
    rw [q1, q2]
  · rw [h1.off j hj, h2.off j hj]
theorem Slid.add {pl : List Nat} {m k : Int} {st a b : List Nat} (h1 : Slid pl m st a) (h2 : Slid pl k a b) : Slid pl (m + k) st b := by
  refine ⟨by rw [h2.len, h1.len], ?_, fun j hj => by rw [h2.off j hj, h1.off j hj]⟩
  intro i hi
  rw [← tn_add _ _ _ _ (by omega), h2.on _ (tn_lt _ _ _ (by omega)), h1.on i hi]
theorem Slid.zero (pl st : List Nat) : Slid pl 0 st st := by
  refine ⟨rfl, ?_, fun _ _ => rfl⟩
  intro i hi
  rw [tn_0 _ _ hi]
theorem Slid.mod {pl : List Nat} {m : Int} {st a : List Nat} : Slid pl (m % pl.length) st a ↔ Slid pl m st a := by
  constructor
  · intro h
    exact ⟨h.len, fun i hi => by have := h.on i hi; rwa [tn_mod] at this, h.off⟩
  · intro h
    exact ⟨h.len, fun i hi => by rw [tn_mod]; exact h.on i hi, h.off⟩
theorem perm_of {l m : List Nat} : l.Nodup → (∀ x ∈ l, x ∈ m) → m.length = l.length → m.Perm l := by
  induction l generalizing m with
  | nil => intro _ _ h; rw [List.length_nil, List.length_eq_zero_iff] at h; rw [h]
  | cons a l ih =>
    intro hn hs hl
    rw [List.nodup_cons] at hn
    have ha := hs a (List.mem_cons_self ..)
    refine (List.perm_cons_erase ha).trans ((ih hn.2 ?_ ?_).cons a)
    · intro x hx
      have hne : x ≠ a := fun e => hn.1 (e ▸ hx)
      exact (List.mem_erase_of_ne hne).mpr (hs x (List.mem_cons_of_mem _ hx))
    · rw [List.length_erase_of_mem ha, hl]; rfl
theorem Slid.perm {pl : List Nat} {m : Int} {st a : List Nat} {n : Nat} (h : Slid pl m st a) (hp : st.Perm (List.range n)) (hb : ∀ p ∈ pl, p < n) : a.Perm (List.range n) := by
  have hl : st.length = n := by rw [hp.length_eq]; simp
  apply perm_of List.nodup_range
  · intro x hx
    have hx' := hp.mem_iff.mpr hx
    obtain ⟨j, hj, rfl⟩ := mem_at st x hx'
    by_cases hm : j ∈ pl
    · obtain ⟨i, hi, rfl⟩ := mem_at pl j hm
      rw [← h.on i hi]
      apply at_mem
      rw [h.len, hl]
      exact hb _ (at_mem _ _ (tn_lt _ _ _ (by omega)))
    · rw [← h.off j hm]
      apply at_mem
      rw [h.len]; exact hj
  · rw [h.len, hl]; simp
/-- the walk over the places, from the k-th on -/
def go (pl st : List Nat) (m : Int) : List Nat → Nat → List Nat → List Nat
  | [], _, f => f
  | p :: r, k, f => go pl st m r (k + 1) (f.set (at_ pl (tn pl.length m k)) (at_ st p))
theorem go_slid (pl st : List Nat) (m : Int) (hn : pl.Nodup) (hb : ∀ p ∈ pl, p < st.length) : ∀ (r : List Nat) (k : Nat) (f : List Nat), pl.drop k = r → k ≤ pl.length → f.length = st.length →
    (∀ i, i < k → at_ f (at_ pl (tn pl.length m i)) = at_ st (at_ pl i)) → (∀ j, j ∉ pl → at_ f j = at_ st j) → Slid pl m st (go pl st m r k f)
  | [], k, f, hd, hk, hl, h1, h2 => by
    have : k = pl.length := by have := List.drop_eq_nil_iff.mp hd; omega
    subst this
    exact ⟨hl, h1, h2⟩
  | p :: r, k, f, hd, hk, hl, h1, h2 => by
    have hk' : k < pl.length := by
      by_cases h : k < pl.length
      · exact h
      · rw [List.drop_eq_nil_iff.mpr (by omega)] at hd; cases hd
    have h0 : 0 < pl.length := by omega
    have hp : p = at_ pl k := by
      have e := List.drop_eq_getElem_cons hk'
      rw [hd] at e
      have e1 := (List.cons.inj e).1
      have e2 := at_get pl k hk'
      rw [List.getElem?_eq_getElem hk'] at e2
      rw [e1]; exact Option.some.inj e2
    have hr : pl.drop (k + 1) = r := by
      have e := List.drop_eq_getElem_cons hk'
      rw [hd] at e
      exact ((List.cons.inj e).2).symm
    have hq : at_ pl (tn pl.length m k) < f.length := by rw [hl]; exact hb _ (at_mem _ _ (tn_lt _ _ _ h0))
    rw [go]
    refine go_slid pl st m hn hb r (k + 1) _ hr (by omega) (by rw [List.length_set, hl]) ?_ ?_
    · intro i hi
      rw [at_set _ _ _ _ hq]
      by_cases e : i = k
      · subst e; rw [if_pos rfl, hp]
      · rw [if_neg, h1 i (by omega)]
        intro e2
        have := nodup_at pl hn _ _ (tn_lt _ _ _ h0) (tn_lt _ _ _ h0) e2
        have := tn_inj _ _ _ _ hk' (by omega) this
        omega
    · intro j hj
      rw [at_set _ _ _ _ hq, if_neg, h2 j hj]
      intro e
      exact hj (e ▸ at_mem _ _ (tn_lt _ _ _ h0))
theorem go_ok (pl st : List Nat) (m : Int) (hn : pl.Nodup) (hb : ∀ p ∈ pl, p < st.length) : Slid pl m st (go pl st m pl 0 st) :=
  go_slid pl st m hn hb pl 0 st rfl (Nat.zero_le _) rfl (fun i hi => absurd hi (Nat.not_lt_zero i)) (fun _ _ => rfl)
end RR.B

namespace RR.B
theorem ix_nat (n i : Nat) (h : i < n) : ix n (i : Int) = some i := by
  unfold ix
  rw [if_pos (by omega), if_pos (by omega)]
  simp
theorem sub_st (st : List Nat) (p : Nat) (h : p < st.length) : sub2 (stD st) (iD p) = some (iD (at_ st p)) := by
  show ((ix (st.map iD).length (p : Int)).bind fun j => (st.map iD)[j]?) = _
  rw [ix_nat _ _ (by rw [List.length_map]; exact h)]
  simp [at_get st p h]
theorem sub_pl (pl : List Nat) (p : Nat) (h : p < pl.length) : sub2 (.lst (pl.map iD)) (.int p) = some (iD (at_ pl p)) := by
  show ((ix (pl.map iD).length (p : Int)).bind fun j => (pl.map iD)[j]?) = _
  rw [ix_nat _ _ (by rw [List.length_map]; exact h)]
  simp [at_get pl p h]
theorem set_pl (f : List Nat) (q v : Nat) (h : q < f.length) : setD (.lst (f.map iD)) (iD q) (iD v) = some (.lst ((f.set q v).map iD)) := by
  show ((ix (f.map iD).length (q : Int)).map fun j => D.lst ((f.map iD).set j (iD v))) = _
  rw [ix_nat _ _ (by rw [List.length_map]; exact h)]
  simp [List.map_set]
def pl_ok (pl st : List Nat) : Prop := ∀ p ∈ pl, p < st.length
theorem drop_next {pl r : List Nat} {p k : Nat} (h : pl.drop k = p :: r) : k < pl.length ∧ p = at_ pl k ∧ pl.drop (k + 1) = r := by
  have hk : k < pl.length := by
    by_cases h' : k < pl.length
    · exact h'
    · rw [List.drop_eq_nil_iff.mpr (by omega)] at h; cases h
  have e := List.drop_eq_getElem_cons hk
  rw [h] at e
  have e1 := (List.cons.inj e).1
  have e2 := at_get pl k hk
  rw [List.getElem?_eq_getElem hk] at e2
  exact ⟨hk, by rw [e1]; exact Option.some.inj e2, (List.cons.inj e).2.symm⟩
theorem l_one_slide (n : Nat) (pl st : List Nat) (m : Int) (hb : pl_ok pl st) (a b u v : Sl) : ∃ u' v', evS (callsOf prog n) l_one_slide_1 [a, .val (stD st), b, .val (.int m), .own (.lst (pl.map iD)), .own (.lst (st.map iD)), u, v]
    = .nx [a, .val (stD st), b, .val (.int m), .val (.lst (pl.map iD)), .own (.lst ((go pl st m pl 0 st).map iD)), u', v'] := by
  unfold l_one_slide_1
  have q := for_run (Φ := callsOf prog n) (ρ := [a, .val (stD st), b, .val (.int m), .own (.lst (pl.map iD)), .own (.lst (st.map iD)), u, v]) (ρ1 := [a, .val (stD st), b, .val (.int m), .own (.lst (pl.map iD)), .own (.lst (st.map iD)), u, v]) (os := [.pl 4]) (items := enumL 0 (pl.map iD)) (hide := false) (tg := [6, 7]) (sk := .enum) (src := [.var 4])
    (body := [.setit 5 (.sub (.var 4) (.bin .mod (.bin .add (.var 6) (.var 3)) (.bi .len [.var 4]))) (.sub (.var 1) (.var 7))])
    (fun items ρ => ∃ k r f u v, items = enumL k (r.map iD) ∧ pl.drop k = r ∧ f.length = st.length ∧ go pl st m r k f = go pl st m pl 0 st ∧ ρ = [a, .val (stD st), b, .val (.int m), .val (.lst (pl.map iD)), .own (.lst (f.map iD)), u, v])
    (by simp [b_var]) rfl ⟨0, pl, st, u, v, rfl, rfl, rfl, rfl, rfl⟩ ?_
  · obtain ⟨ρf, ⟨k, r, f, u', v', h1, h2, h3, h4, rfl⟩, h5⟩ := q
    cases r with
    | nil => rw [go] at h4; exact ⟨u', v', by rw [← h4]; exact h5⟩
    | cons p r => simp [enumL] at h1
  · rintro d ds ρ ⟨k, r, f, u', v', h1, h2, h3, h4, rfl⟩
    cases r with
    | nil => simp [enumL] at h1
    | cons p r =>
      simp only [List.map_cons, enumL, List.cons.injEq] at h1
      obtain ⟨rfl, rfl⟩ := h1
      obtain ⟨hk, hp, hr⟩ := drop_next h2
      have hps : p < st.length := hb p (by rw [hp]; exact at_mem _ _ hk)
      have h0 : 0 < pl.length := by omega
      have ht := tn_lt pl.length m k h0
      have e1 := sub_st st p hps
      have e2 := sub_pl pl (tn pl.length m k) ht
      rw [tn_cast _ _ _ h0] at e2
      have hq : at_ pl (tn pl.length m k) < f.length := by rw [h3]; exact hb _ (at_mem _ _ ht)
      have e3 := set_pl f _ (at_ st p) hq
      rw [go] at h4
      refine ⟨[a, .val (stD st), b, .val (.int m), .val (.lst (pl.map iD)), .own (.lst (f.map iD)), .val (.int k), .val (iD p)], [a, .val (stD st), b, .val (.int m), .val (.lst (pl.map iD)), .own (.lst ((f.set (at_ pl (tn pl.length m k)) (at_ st p)).map iD)), .val (.int k), .val (iD p)], rfl, ?_, k + 1, r, _, _, _, rfl, hr, by rw [List.length_set]; exact h3, h4, rfl⟩
      have h0' : (0 : Int) < pl.length := by omega
      simp [b_var, e1, e2, e3, bin2, intv, h0, ownAt, setO]
def next (H : House) (st : List Nat) (r : Bool × Nat) (m : Int) : List Nat := go (places H r) st m (places H r) 0 st
theorem s_one_slide (n : Nat) (H : House) (st : List Nat) (r : Bool × Nat) (m : Int) (hr : r.2 < if r.1 then H.h else H.w) (hb : pl_ok (places H r) st) : callAt prog (n + 2) 11 [.val H.d, .val (stD st), .val (rD r), .val (.int m)] = .ok (stD (next H st r m)) false .non := by
  rw [call_eq prog (n + 1) 11 _ f_one_slide rfl rfl rfl]
  obtain ⟨u, v, e⟩ := l_one_slide (n + 1) (places H r) st m hb (.val H.d) (.val (rD r)) .non .non
  have c : ∀ ρ, callE (callsOf prog (n + 1)) false 8 [.val H.d, .val (rD r)] ρ = .ok (.own (.lst ((places H r).map iD))) ρ := fun ρ => callE_own (z := .non) (F := f_along) rfl rfl (s_along n H r hr)
  have e1 : bi1 .list (stD st) = some (.own (.lst (st.map iD))) := rfl
  simp [f_one_slide, b_var, c, e, e1, List.replicate, endC]
  rfl
theorem c_one_slide (n : Nat) (ρ : Env) (H : House) (st : List Nat) (r : Bool × Nat) (m : Int) (hr : r.2 < if r.1 then H.h else H.w) (hb : pl_ok (places H r) st) : callE (callsOf prog (n + 2)) true 11 [.val H.d, .val (stD st), .val (rD r), .val (.int m)] ρ = .ok (.val (stD (next H st r m))) ρ := by
  refine lent rfl rfl (s_one_slide n H st r m hr hb) ?_
  unfold stD
  rw [noref]
  generalize next H st r m = l
  induction l with
  | nil => rfl
  | cons x l ih => rw [List.map_cons, norefs, ih]; rfl
theorem noref_st (st : List Nat) : noref (stD st) = true := by
  unfold stD
  rw [noref]
  induction st with
  | nil => rfl
  | cons x l ih => rw [List.map_cons, norefs, ih]; rfl
/-- places: within the house, no two the same -/
theorem places_lt (H : House) (r : Bool × Nat) (hr : r.2 < if r.1 then H.h else H.w) : ∀ p ∈ places H r, p < H.n := by
  intro p hp
  unfold places at hp
  unfold House.n
  split at hp
  · rename_i h
    rw [if_pos h] at hr
    simp only [List.mem_map, List.mem_range] at hp
    obtain ⟨x, hx, rfl⟩ := hp
    have : H.w * (r.2 + 1) ≤ H.w * H.h := Nat.mul_le_mul_left _ hr
    rw [Nat.mul_add, Nat.mul_one] at this
    omega
  · rename_i h
    rw [if_neg h] at hr
    simp only [List.mem_map, List.mem_range] at hp
    obtain ⟨y, hy, rfl⟩ := hp
    have : H.w * (y + 1) ≤ H.w * H.h := Nat.mul_le_mul_left _ hy
    rw [Nat.mul_add, Nat.mul_one] at this
    omega
theorem places_nd (H : House) (r : Bool × Nat) : (places H r).Nodup := by
  unfold places
  have hw := H.w1
  split
  · refine List.Pairwise.map _ (fun a b h => ?_) (List.nodup_range (n := H.w))
    omega
  · refine List.Pairwise.map _ (fun a b h => ?_) (List.nodup_range (n := H.h))
    intro e
    exact h (Nat.eq_of_mul_eq_mul_left (by omega : 0 < H.w) (by omega))
theorem places_pos (H : House) (r : Bool × Nat) : 0 < (places H r).length := by
  have := H.w1; have := H.h1
  unfold places
  split <;> simp <;> omega
theorem next_slid (H : House) (st : List Nat) (r : Bool × Nat) (m : Int) (hr : r.2 < if r.1 then H.h else H.w) (hp : st.Perm (List.range H.n)) : pl_ok (places H r) st ∧ Slid (places H r) m st (next H st r m) ∧ (next H st r m).Perm (List.range H.n) := by
  have hl : st.length = H.n := by rw [hp.length_eq]; simp
  have hb : pl_ok (places H r) st := fun p h => by rw [hl]; exact places_lt H r hr p h
  have hs := go_ok (places H r) st m (places_nd H r) hb
  exact ⟨hb, hs, hs.perm hp (places_lt H r hr)⟩
/-- the slides of a row, one by one -/
def run (H : House) (st : List Nat) : List Sd → List Nat
  | [] => st
  | s :: row => run H (next H st s.1 s.2) row
theorem run_perm (H : House) : ∀ (row : List Sd) (st : List Nat), (∀ s ∈ row, s.1 ∈ H.rs) → st.Perm (List.range H.n) → (run H st row).Perm (List.range H.n)
  | [], st, _, hp => hp
  | s :: row, st, hm, hp => run_perm H row _ (fun t ht => hm t (List.mem_cons_of_mem _ ht)) (next_slid H st s.1 s.2 (H.rk _ (hm s (List.mem_cons_self ..))) hp).2.2
theorem run_app (H : House) : ∀ (a b : List Sd) (st : List Nat), run H st (a ++ b) = run H (run H st a) b
  | [], b, st => rfl
  | s :: a, b, st => by rw [List.cons_append, run, run, run_app H a b]
theorem next_back (H : House) (st : List Nat) (r : Bool × Nat) (m : Int) (hr : r.2 < if r.1 then H.h else H.w) (hp : st.Perm (List.range H.n)) : next H (next H st r m) r (-m) = st := by
  obtain ⟨_, h1, h2⟩ := next_slid H st r m hr hp
  obtain ⟨_, h3, _⟩ := next_slid H _ r (-m) hr h2
  have h4 := h1.add h3
  rw [Int.add_right_neg] at h4
  exact h4.uniq (Slid.zero _ _)
def backR (row : List Sd) : List Sd := row.reverse.map fun s => (s.1, -s.2)
theorem run_back (H : House) : ∀ (row : List Sd) (st : List Nat), (∀ s ∈ row, s.1 ∈ H.rs) → st.Perm (List.range H.n) → run H (run H st row) (backR row) = st
  | [], st, _, _ => rfl
  | s :: row, st, hm, hp => by
    have hr := H.rk _ (hm s (List.mem_cons_self ..))
    have e : backR (s :: row) = backR row ++ [(s.1, -s.2)] := by simp [backR]
    rw [e, run_app]
    show next H (run H (run H (next H st s.1 s.2) row) (backR row)) s.1 (-s.2) = st
    rw [run_back H row _ (fun t ht => hm t (List.mem_cons_of_mem _ ht)) (next_slid H st s.1 s.2 hr hp).2.2]
    exact next_back H st s.1 s.2 hr hp
theorem back_ok (H : House) (row : List Sd) (h : RowOk H row) : RowOk H (backR row) := by
  refine ⟨by simp [backR]; exact h.len, ?_, ?_⟩
  · intro s hs
    simp only [backR, List.mem_map, List.mem_reverse] at hs
    obtain ⟨t, ht, rfl⟩ := hs
    exact h.mem t ht
  · intro s hs
    simp only [backR, List.mem_map, List.mem_reverse] at hs
    obtain ⟨t, ht, rfl⟩ := hs
    have := h.far t ht
    exact ⟨by show _ ≤ -t.2; omega, by show -t.2 ≤ _; omega⟩
end RR.B

namespace RR.B
theorem l_by_row (n : Nat) (H : House) (row : List Sd) (st : List Nat) (hm : ∀ s ∈ row, s.1 ∈ H.rs) (hp : st.Perm (List.range H.n)) (u v : Sl) : ∃ u' v', evS (callsOf prog (n + 2)) l_by_row_1 [.val H.d, .val (stD st), .val (rowD row), u, v]
    = .nx [.val H.d, .val (stD (run H st row)), .val (rowD row), u', v'] := by
  unfold l_by_row_1
  have q := for_run (Φ := callsOf prog (n + 2)) (ρ := [.val H.d, .val (stD st), .val (rowD row), u, v]) (ρ1 := [.val H.d, .val (stD st), .val (rowD row), u, v]) (os := [.val (rowD row)]) (items := row.map sD) (hide := false) (tg := [3, 4]) (sk := .it) (src := [.var 2])
    (body := [.asg 1 (.call true 11 [.var 0, .var 1, .var 3, .var 4])])
    (fun items ρ => ∃ rest st' u v, items = rest.map sD ∧ (∀ s ∈ rest, s.1 ∈ H.rs) ∧ st'.Perm (List.range H.n) ∧ run H st' rest = run H st row ∧ ρ = [.val H.d, .val (stD st'), .val (rowD row), u, v])
    (by simp [b_var]) rfl ⟨row, st, u, v, rfl, hm, hp, rfl, rfl⟩ ?_
  · obtain ⟨ρf, ⟨rest, st', u', v', h1, h2, h3, h4, rfl⟩, h5⟩ := q
    cases rest with
    | nil => rw [run] at h4; exact ⟨u', v', by rw [← h4]; exact h5⟩
    | cons s rest => simp at h1
  · rintro d ds ρ ⟨rest, st', u', v', h1, h2, h3, h4, rfl⟩
    cases rest with
    | nil => simp at h1
    | cons s rest =>
      simp only [List.map_cons, List.cons.injEq] at h1
      obtain ⟨rfl, rfl⟩ := h1
      have hr := H.rk _ (h2 s (List.mem_cons_self ..))
      obtain ⟨g1, g2, g3⟩ := next_slid H st' s.1 s.2 hr h3
      refine ⟨[.val H.d, .val (stD st'), .val (rowD row), .val (rD s.1), .val (.int s.2)], [.val H.d, .val (stD (next H st' s.1 s.2)), .val (rowD row), .val (rD s.1), .val (.int s.2)], rfl, ?_, rest, _, _, _, rfl, fun t ht => h2 t (List.mem_cons_of_mem _ ht), g3, h4, rfl⟩
      simp [b_var, c_one_slide n _ H st' s.1 s.2 hr g1]
theorem s_by_row (n : Nat) (H : House) (row : List Sd) (st : List Nat) (hm : ∀ s ∈ row, s.1 ∈ H.rs) (hp : st.Perm (List.range H.n)) : callAt prog (n + 3) 12 [.val H.d, .val (stD st), .val (rowD row)] = .ok (stD (run H st row)) false .non := by
  rw [call_eq prog (n + 2) 12 _ f_by_row rfl rfl rfl]
  obtain ⟨u, v, e⟩ := l_by_row n H row st hm hp .non .non
  simp [f_by_row, b_var, e, List.replicate, endC]
theorem s_slid (n : Nat) (H : House) (row : List Sd) (st : List Nat) (hr : RowOk H row) (hp : st.Perm (List.range H.n)) : callAt prog (n + 6) 13 [.val H.d, .val (stD st), .val (rowD row)] = .ok (stD (run H st row)) false .non := by
  rw [call_eq prog (n + 5) 13 _ f_slid rfl rfl rfl]
  have c : ∀ ρ, callE (callsOf prog (n + 5)) true 12 [.val H.d, .val (stD st), .val (rowD row)] ρ = .ok (.val (stD (run H st row))) ρ := fun ρ => lent rfl rfl (s_by_row (n + 2) H row st hr.mem hp) (noref_st _)
  have c2 : ∀ ρ, callE (callsOf prog (n + 5)) true 10 [.val H.d, .val (rowD row)] ρ = .ok (.val .non) ρ := fun ρ => c_need_row (n + 2) ρ H row hr
  simp [f_slid, b_var, c, c2, c_need_stand n _ H st hp, endC]
theorem e_led_back (n : Nat) (row : List Sd) (a x y : Sl) : evE (callsOf prog n) c_led_back_1 [a, .val (rowD row), x, y] = .ok (.own (rowD (backR row))) [a, .val (rowD row), x, y] := by
  unfold c_led_back_1 rowD backR
  rw [List.map_map]
  refine comp_map (ρ1 := [a, .val (rowD row), x, y]) (os := [.own (.lst (row.map sD).reverse)]) (l := row.reverse) (fun ρ => ∃ s t, ρ = [a, .val (rowD row), s, t]) sD (sD ∘ fun s => (s.1, -s.2)) ?_ ?_ ⟨x, y, rfl⟩ ?_ ?_
  · simp [b_var, rowD, revD]
  · simp [itemsOf]
  · rintro s hs ρ ⟨u, t, rfl⟩
    refine ⟨[a, .val (rowD row), .val (rD s.1), .val (.int s.2)], [a, .val (rowD row), .val (rD s.1), .val (.int s.2)], rfl, ?_, ⟨_, _, rfl⟩⟩
    simp [b_var, sD]
  · rintro ρ ⟨s, t, rfl⟩
    rfl
theorem s_led_back (n : Nat) (H : House) (row : List Sd) (hr : RowOk H row) : callAt prog (n + 5) 14 [.val H.d, .val (rowD row)] = .ok (rowD (backR row)) true .non := by
  rw [call_eq prog (n + 4) 14 _ f_led_back rfl rfl rfl]
  have c2 : ∀ ρ, callE (callsOf prog (n + 4)) true 10 [.val H.d, .val (rowD row)] ρ = .ok (.val .non) ρ := fun ρ => c_need_row (n + 1) ρ H row hr
  simp [f_led_back, b_var, c_need_house n, c2, e_led_back, List.replicate, endC]
/-! the law's own walk -/
theorem places_all : ((List.range 7).all fun w => (List.range 7).all fun h => (List.range 7).all fun k =>
    (w == 0 || (!decide (k < w) || decide ((List.range (w * h)).filter (fun p => decide (k = p % w)) = (List.range h).map fun y => w * y + k)) &&
    (!decide (k < h) || decide ((List.range (w * h)).filter (fun p => decide (k = p / w)) = (List.range w).map fun x => w * k + x)))) = true := by decide +kernel
theorem places_eq (H : House) (r : Bool × Nat) (hr : r.2 < if r.1 then H.h else H.w) : (List.range H.n).filter (fun p => decide (r.2 = if r.1 then p / H.w else p % H.w)) = places H r := by
  have hw := H.w1; have hw6 := H.w6; have hh6 := H.h6
  have hk : r.2 < 7 := by split at hr <;> omega
  have a1 := List.all_eq_true.mp places_all H.w (by simp; omega)
  have a2 := List.all_eq_true.mp a1 H.h (by simp; omega)
  have a3 := List.all_eq_true.mp a2 r.2 (by simp; omega)
  unfold places House.n
  cases h0 : r.1
  · rw [h0] at hr
    have hr' : r.2 < H.w := hr
    simp [hr', show ¬ H.w = 0 by omega] at a3
    simpa using a3.1
  · rw [h0] at hr
    have hr' : r.2 < H.h := hr
    simp [hr', show ¬ H.w = 0 by omega] at a3
    simpa using a3.2
theorem ite_both {c : Prop} [Decidable c] {P Q : Prop} (hP : P) (hQ : Q) : if c then P else Q := by split <;> assumption
theorem e_law_places (n : Nat) (H : House) (r : Bool × Nat) (a x : Sl) (hr : r.2 < if r.1 then H.h else H.w) : evE (callsOf prog n) c_law_places_1 [a, .val (rD r), .val (.int H.w), .val (.int H.h), x] = .ok (.own (.lst ((places H r).map iD))) [a, .val (rD r), .val (.int H.w), .val (.int H.h), x] := by
  unfold c_law_places_1
  rw [← places_eq H r hr]
  have f1 := fits_nat (k := H.w) (by have := H.w6; omega)
  have f2 := fits_nat (k := H.h) (by have := H.h6; omega)
  have hw : (0 : Int) < H.w := by have := H.w1; omega
  have hn : near ((H.w : Int) * H.h) = true := by have := near_nat (k := H.n) (by have := H.n36; omega); unfold House.n at this; simpa using this
  refine comp_run (ρ1 := [a, .val (rD r), .val (.int H.w), .val (.int H.h), x]) (os := [.val (.int (H.w * H.h))]) (l := List.range H.n) (fun ρ => ∃ t, ρ = [a, .val (rD r), .val (.int H.w), .val (.int H.h), t]) iD _ _ ?_ ?_ ⟨x, rfl⟩ ?_ ?_
  · simp [b_var, bin2, f1, f2]
  · have e := range_nat H.n
    unfold House.n at e
    simp only [looks, List.map, look, itemsOf, hn]
    rw [show ((H.w : Int) * H.h) = ((H.w * H.h : Nat) : Int) by simp, e]
    rfl
  · rintro k hk ρ ⟨t, rfl⟩
    refine ⟨[a, .val (rD r), .val (.int H.w), .val (.int H.h), .val (iD k)], [a, .val (rD r), .val (.int H.w), .val (.int H.h), .val (iD k)], rfl, ?_, ?_⟩
    · have hq1 : ((r.2 : Int) = (k : Int) / H.w) ↔ r.2 = k / H.w := by
        rw [show ((k : Int) / H.w) = ((k / H.w : Nat) : Int) by simp]; omega
      have hq2 : ((r.2 : Int) = (k : Int) % H.w) ↔ r.2 = k % H.w := by
        rw [show ((k : Int) % H.w) = ((k % H.w : Nat) : Int) by simp]; omega
      cases h0 : r.1
      · by_cases hz : r.2 = k % H.w <;> simp [b_var, sub_r0, sub_r1, h0, cmp2, plain2, rowS, colS, blv, bin2, iD, show 0 < H.w from H.w1, f1, hq2, hz]
      · by_cases hz : r.2 = k / H.w <;> simp [b_var, sub_r0, sub_r1, h0, cmp2, plain2, rowS, colS, blv, bin2, iD, show 0 < H.w from H.w1, f1, hq1, hz]
    · exact ite_both ⟨.val (iD k), [a, .val (rD r), .val (.int H.w), .val (.int H.h), .val (iD k)], by simp [b_var], rfl, ⟨_, rfl⟩⟩ ⟨_, rfl⟩
  · rintro ρ ⟨t, rfl⟩
    rfl
theorem s_law_places (n : Nat) (H : House) (r : Bool × Nat) (hr : r.2 < if r.1 then H.h else H.w) : callAt prog (n + 1) 23 [.val H.d, .val (rD r)] = .ok (.lst ((places H r).map iD)) true .non := by
  rw [call_eq prog n 23 _ f_law_places rfl rfl rfl]
  have e0 : sub2 H.d (.int 0) = some (.int H.w) := rfl
  have e1 : sub2 H.d (.int 1) = some (.int H.h) := rfl
  simp [f_law_places, b_var, b_unp, bindT, e0, e1, List.replicate, e_law_places n H r _ _ hr, endC]
end RR.B

namespace RR.B
/-- an index that may count from the end -/
theorem sub_one_on (pl : List Nat) (k : Nat) (h : k < pl.length) : sub2 (.lst (pl.map iD)) (.int ((k : Int) + 1 - pl.length)) = some (iD (at_ pl (tn pl.length 1 k))) := by
  have ht := tn_lt pl.length 1 k (by omega)
  have e : ix (pl.map iD).length ((k : Int) + 1 - pl.length) = some (tn pl.length 1 k) := by
    rw [List.length_map]
    unfold ix tn
    by_cases hk : k + 1 = pl.length
    · rw [if_pos (by omega), if_pos (by omega)]
      rw [show (k : Int) + 1 = pl.length by omega]
      simp
    · rw [if_neg (by omega), if_pos (by omega), Int.emod_eq_of_lt (by omega) (by omega)]
      congr 1
      omega
  show ((ix (pl.map iD).length ((k : Int) + 1 - pl.length)).bind fun j => (pl.map iD)[j]?) = _
  rw [e]
  simp [at_get pl _ ht]
theorem l_law_one_on (n : Nat) (pl st : List Nat) (hb : pl_ok pl st) (a b u v : Sl) : ∃ u' v', evS (callsOf prog n) l_law_one_on_1 [a, .val (stD st), b, .own (.lst (pl.map iD)), .own (.lst (st.map iD)), u, v]
    = .nx [a, .val (stD st), b, .val (.lst (pl.map iD)), .own (.lst ((go pl st 1 pl 0 st).map iD)), u', v'] := by
  unfold l_law_one_on_1
  have q := for_run (Φ := callsOf prog n) (ρ := [a, .val (stD st), b, .own (.lst (pl.map iD)), .own (.lst (st.map iD)), u, v]) (ρ1 := [a, .val (stD st), b, .own (.lst (pl.map iD)), .own (.lst (st.map iD)), u, v]) (os := [.pl 3]) (items := enumL 0 (pl.map iD)) (hide := false) (tg := [5, 6]) (sk := .enum) (src := [.var 3])
    (body := [.setit 4 (.sub (.var 3) (.bin .sub (.bin .add (.var 5) (.int 1)) (.bi .len [.var 3]))) (.sub (.var 1) (.var 6))])
    (fun items ρ => ∃ k r f u v, items = enumL k (r.map iD) ∧ pl.drop k = r ∧ f.length = st.length ∧ go pl st 1 r k f = go pl st 1 pl 0 st ∧ ρ = [a, .val (stD st), b, .val (.lst (pl.map iD)), .own (.lst (f.map iD)), u, v])
    (by simp [b_var]) rfl ⟨0, pl, st, u, v, rfl, rfl, rfl, rfl, rfl⟩ ?_
  · obtain ⟨ρf, ⟨k, r, f, u', v', h1, h2, h3, h4, rfl⟩, h5⟩ := q
    cases r with
    | nil => rw [go] at h4; exact ⟨u', v', by rw [← h4]; exact h5⟩
    | cons p r => simp [enumL] at h1
  · rintro d ds ρ ⟨k, r, f, u', v', h1, h2, h3, h4, rfl⟩
    cases r with
    | nil => simp [enumL] at h1
    | cons p r =>
      simp only [List.map_cons, enumL, List.cons.injEq] at h1
      obtain ⟨rfl, rfl⟩ := h1
      obtain ⟨hk, hp, hr⟩ := drop_next h2
      have hps : p < st.length := hb p (by rw [hp]; exact at_mem _ _ hk)
      have h0 : 0 < pl.length := by omega
      have ht := tn_lt pl.length 1 k h0
      have e1 := sub_st st p hps
      have e2 := sub_one_on pl k hk
      have hq : at_ pl (tn pl.length 1 k) < f.length := by rw [h3]; exact hb _ (at_mem _ _ ht)
      have e3 := set_pl f _ (at_ st p) hq
      rw [go] at h4
      refine ⟨[a, .val (stD st), b, .val (.lst (pl.map iD)), .own (.lst (f.map iD)), .val (.int k), .val (iD p)], [a, .val (stD st), b, .val (.lst (pl.map iD)), .own (.lst ((f.set (at_ pl (tn pl.length 1 k)) (at_ st p)).map iD)), .val (.int k), .val (iD p)], rfl, ?_, k + 1, r, _, _, _, rfl, hr, by rw [List.length_set]; exact h3, h4, rfl⟩
      simp [b_var, e1, e2, e3, bin2, intv, ownAt, setO]
theorem s_law_one_on (n : Nat) (H : House) (st : List Nat) (r : Bool × Nat) (hr : r.2 < if r.1 then H.h else H.w) (hb : pl_ok (places H r) st) : callAt prog (n + 2) 24 [.val H.d, .val (stD st), .val (rD r)] = .ok (stD (next H st r 1)) false .non := by
  rw [call_eq prog (n + 1) 24 _ f_law_one_on rfl rfl rfl]
  obtain ⟨u, v, e⟩ := l_law_one_on (n + 1) (places H r) st hb (.val H.d) (.val (rD r)) .non .non
  have c : ∀ ρ, callE (callsOf prog (n + 1)) false 23 [.val H.d, .val (rD r)] ρ = .ok (.own (.lst ((places H r).map iD))) ρ := fun ρ => callE_own (z := .non) (F := f_law_places) rfl rfl (s_law_places n H r hr)
  have e1 : bi1 .list (stD st) = some (.own (.lst (st.map iD))) := rfl
  simp [f_law_one_on, b_var, c, e, e1, List.replicate, endC]
  rfl
/-- k times one on -/
def ons (H : House) (r : Bool × Nat) : Nat → List Nat → List Nat
  | 0, st => st
  | k + 1, st => ons H r k (next H st r 1)
theorem ons_slid (H : House) (r : Bool × Nat) (hr : r.2 < if r.1 then H.h else H.w) : ∀ (k : Nat) (st : List Nat), st.Perm (List.range H.n) → Slid (places H r) k st (ons H r k st)
  | 0, st, _ => Slid.zero _ _
  | k + 1, st, hp => by
    obtain ⟨_, h1, h2⟩ := next_slid H st r 1 hr hp
    have h3 := h1.add (ons_slid H r hr k _ h2)
    rw [ons, show ((k + 1 : Nat) : Int) = 1 + (k : Int) by omega]
    exact h3
theorem ons_next (H : House) (r : Bool × Nat) (m : Int) (hr : r.2 < if r.1 then H.h else H.w) (st : List Nat) (hp : st.Perm (List.range H.n)) : ons H r (m % (places H r).length).toNat st = next H st r m := by
  have h1 := ons_slid H r hr (m % (places H r).length).toNat st hp
  have h0 := places_pos H r
  have hc : (((m % (places H r).length).toNat : Nat) : Int) = m % (places H r).length := by
    have := Int.emod_nonneg m (b := (places H r).length) (by omega)
    omega
  rw [hc] at h1
  exact (Slid.mod.mp h1).uniq (next_slid H st r m hr hp).2.1
theorem places_len (H : House) (r : Bool × Nat) : (places H r).length ≤ 6 := by
  have := H.w6; have := H.h6
  unfold places
  split <;> simp <;> omega
theorem t_law_slid_1 (n : Nat) (H : House) (r : Bool × Nat) (m : Int) (hr : r.2 < if r.1 then H.h else H.w) (st : List Nat) (hp : st.Perm (List.range H.n)) (b x : Sl) : ∃ x', evS (callsOf prog (n + 2)) RR.l_law_slid_1 [.val H.d, .val (stD st), b, .val (rD r), .val (.int m), x]
    = .nx [.val H.d, .val (stD (next H st r m)), b, .val (rD r), .val (.int m), x'] := by
  unfold RR.l_law_slid_1
  have h0 := places_pos H r
  have h6 := places_len H r
  have hc : (((m % (places H r).length).toNat : Nat) : Int) = m % (places H r).length := by
    have := Int.emod_nonneg m (b := (places H r).length) (by omega)
    omega
  have hlt := Int.emod_lt_of_pos m (b := (places H r).length) (by omega)
  have c : ∀ ρ, callE (callsOf prog (n + 2)) false 23 [.val H.d, .val (rD r)] ρ = .ok (.own (.lst ((places H r).map iD))) ρ := fun ρ => callE_own (z := .non) (F := f_law_places) rfl rfl (s_law_places (n + 1) H r hr)
  have hn : near (m % (places H r).length) = true := by rw [← hc]; exact near_nat (by omega)
  have q := for_run (Φ := callsOf prog (n + 2)) (ρ := [.val H.d, .val (stD st), b, .val (rD r), .val (.int m), x]) (ρ1 := [.val H.d, .val (stD st), b, .val (rD r), .val (.int m), x]) (os := [.val (.int (m % (places H r).length))]) (items := (List.range (m % (places H r).length).toNat).map iD) (hide := false) (tg := [5]) (sk := .range) (src := [.bin .mod (.var 4) (.bi .len [.call false 23 [.var 0, .var 3]])])
    (body := [.asg 1 (.call true 24 [.var 0, .var 1, .var 3])])
    (fun items ρ => ∃ st' x, st'.Perm (List.range H.n) ∧ ons H r items.length st' = ons H r (m % (places H r).length).toNat st ∧ ρ = [.val H.d, .val (stD st'), b, .val (rD r), .val (.int m), x])
    (by simp [b_var, c, bin2, intv, h0]) ?_ ⟨st, x, hp, by simp, rfl⟩ ?_
  · obtain ⟨ρf, ⟨st', x', h1, h2, rfl⟩, h5⟩ := q
    rw [ons_next H r m hr st hp] at h2
    exact ⟨x', by rw [← h2]; exact h5⟩
  · simp only [looks, List.map, look, itemsOf, hn]
    rw [if_pos trivial]
    have := range_nat (m % (places H r).length).toNat
    rw [hc] at this
    rw [this]
  · rintro d ds ρ ⟨st', x', h1, h2, rfl⟩
    obtain ⟨g1, g2, g3⟩ := next_slid H st' r 1 hr h1
    have c2 : ∀ ρ, callE (callsOf prog (n + 2)) true 24 [.val H.d, .val (stD st'), .val (rD r)] ρ = .ok (.val (stD (next H st' r 1))) ρ := fun ρ => lent rfl rfl (s_law_one_on n H st' r hr g1) (noref_st _)
    refine ⟨[.val H.d, .val (stD st'), b, .val (rD r), .val (.int m), .val d], [.val H.d, .val (stD (next H st' r 1)), b, .val (rD r), .val (.int m), .val d], rfl, ?_, _, _, g3, h2, rfl⟩
    simp [b_var, c2]
theorem t_law_slid_2 (n : Nat) (H : House) (row : List Sd) (st : List Nat) (hm : ∀ s ∈ row, s.1 ∈ H.rs) (hp : st.Perm (List.range H.n)) (u v w : Sl) : ∃ u' v' w', evS (callsOf prog (n + 2)) RR.l_law_slid_2 [.val H.d, .val (stD st), .val (rowD row), u, v, w]
    = .nx [.val H.d, .val (stD (run H st row)), .val (rowD row), u', v', w'] := by
  unfold RR.l_law_slid_2
  have q := for_run (Φ := callsOf prog (n + 2)) (ρ := [.val H.d, .val (stD st), .val (rowD row), u, v, w]) (ρ1 := [.val H.d, .val (stD st), .val (rowD row), u, v, w]) (os := [.val (rowD row)]) (items := row.map sD) (hide := false) (tg := [3, 4]) (sk := .it) (src := [.var 2])
    (body := [RR.l_law_slid_1])
    (fun items ρ => ∃ rest st' u v w, items = rest.map sD ∧ (∀ s ∈ rest, s.1 ∈ H.rs) ∧ st'.Perm (List.range H.n) ∧ run H st' rest = run H st row ∧ ρ = [.val H.d, .val (stD st'), .val (rowD row), u, v, w])
    (by simp [b_var]) rfl ⟨row, st, u, v, w, rfl, hm, hp, rfl, rfl⟩ ?_
  · obtain ⟨ρf, ⟨rest, st', u', v', w', h1, h2, h3, h4, rfl⟩, h5⟩ := q
    cases rest with
    | nil => rw [run] at h4; exact ⟨u', v', w', by rw [← h4]; exact h5⟩
    | cons s rest => simp at h1
  · rintro d ds ρ ⟨rest, st', u', v', w', h1, h2, h3, h4, rfl⟩
    cases rest with
    | nil => simp at h1
    | cons s rest =>
      simp only [List.map_cons, List.cons.injEq] at h1
      obtain ⟨rfl, rfl⟩ := h1
      have hr := H.rk _ (h2 s (List.mem_cons_self ..))
      obtain ⟨g1, g2, g3⟩ := next_slid H st' s.1 s.2 hr h3
      obtain ⟨x', e⟩ := t_law_slid_1 n H s.1 s.2 hr st' h3 (.val (rowD row)) w'
      refine ⟨[.val H.d, .val (stD st'), .val (rowD row), .val (rD s.1), .val (.int s.2), w'], [.val H.d, .val (stD (next H st' s.1 s.2)), .val (rowD row), .val (rD s.1), .val (.int s.2), x'], rfl, ?_, rest, _, _, _, _, rfl, fun t ht => h2 t (List.mem_cons_of_mem _ ht), g3, h4, rfl⟩
      simp [e]
theorem s_law_slid (n : Nat) (H : House) (row : List Sd) (st : List Nat) (hm : ∀ s ∈ row, s.1 ∈ H.rs) (hp : st.Perm (List.range H.n)) : callAt prog (n + 3) 25 [.val H.d, .val (stD st), .val (rowD row)] = .ok (stD (run H st row)) false .non := by
  rw [call_eq prog (n + 2) 25 _ f_law_slid rfl rfl rfl]
  obtain ⟨u, v, w, e⟩ := t_law_slid_2 n H row st hm hp .non .non .non
  simp [f_law_slid, b_var, e, List.replicate, endC]
end RR.B

namespace RR.B
/-- a deck, k picks at most from its start -/
def Dk (k : Nat) (d : D) : Prop := ∃ a b c : Int, d = .lst [.int a, .int b, .int c] ∧ 0 ≤ a ∧ 0 ≤ b ∧ b < 2147483579 ∧ 0 ≤ c ∧ c ≤ k
theorem Dk.up {k m : Nat} {d : D} (h : Dk k d) (hm : k ≤ m) : Dk m d := by
  obtain ⟨a, b, c, e, h1, h2, h3, h4, h5⟩ := h
  exact ⟨a, b, c, e, h1, h2, h3, h4, by omega⟩
theorem fits_lt {i : Int} (h0 : 0 ≤ i) (h : i < 18446744073709551616) : fits i = true := by
  unfold fits BIG
  rw [decide_eq_true_eq]
  exact Nat.lt_trans (show i.natAbs < 18446744073709551616 by omega) (by decide)
theorem s_law_pick (n k : Nat) (d : D) (sz : Nat) (hd : Dk k d) (hk : k < 1000000) (h1 : 0 < sz) (h2 : sz ≤ 1000000000000) : ∃ (q : Nat) (d' : D), callAt prog (n + 1) 16 [.own d, .val (.int sz)] = .ok (.int q) false d' ∧ q < sz ∧ Dk (k + 1) d' := by
  obtain ⟨a, b, c, rfl, a0, b0, b1, c0, c1⟩ := hd
  have fs := fits_lt (i := (sz : Int)) (by omega) (by omega)
  have hs : (0 : Int) < sz := by omega
  have e0 : sub2 (.lst [.int a, .int b, .int c]) (.int 0) = some (.int a) := rfl
  have x0 : ∀ v : D, setD (.lst [.int a, .int b, .int c]) (.int 0) v = some (.lst [v, .int b, .int c]) := fun v => rfl
  have x2 : ∀ v : D, setD (.lst [.int a, .int b, .int c]) (.int 2) v = some (.lst [.int a, .int b, v]) := fun v => rfl
  by_cases h : 1 < a
  · have hq := Int.emod_nonneg a (b := sz) (by omega)
    have hl := Int.emod_lt_of_pos a (b := sz) hs
    refine ⟨(a % sz).toNat, .lst [.int (a / sz), .int b, .int c], ?_, by omega, a / sz, b, c, rfl, Int.ediv_nonneg a0 (by omega), b0, b1, c0, by omega⟩
    rw [call_eq prog n 16 _ f_law_pick rfl rfl rfl, show (((a % sz).toNat : Nat) : Int) = a % sz by omega]
    simp [f_law_pick, b_var, b_lp, b_fp, e0, x0, cmp2, plain2, alike_int, isNon, lt_int, h, blv, bin2, fs, h1, List.replicate, ownAt, setO, endC]
  · have e1 : sub2 (.lst [.int a, .int b, .int (c + 1)]) (.int 1) = some (.int b) := rfl
    have e2 : sub2 (.lst [.int a, .int b, .int c]) (.int 2) = some (.int c) := rfl
    have e3 : sub2 (.lst [.int a, .int b, .int (c + 1)]) (.int 2) = some (.int (c + 1)) := rfl
    have fc := fits_lt (i := c + 1) (by omega) (by omega)
    have fk := fits_lt (i := 15485867) (by omega) (by omega)
    have fl := fits_lt (i := 7919) (by omega) (by omega)
    have p1 : (b + 15485867 * (c + 1)).natAbs < 2 ^ 64 := by omega
    generalize hz : (b + 15485867 * (c + 1)) ^ 5 % 2147483647 = z
    have z0 : 0 ≤ z := by rw [← hz]; exact Int.emod_nonneg _ (by omega)
    have z1 : z < 2147483647 := by rw [← hz]; exact Int.emod_lt_of_pos _ (by omega)
    have p2 : (z + 7919 * (c + 1)).natAbs < 2 ^ 64 := by omega
    generalize hy : (z + 7919 * (c + 1)) ^ 3 % 2147483629 / 32 = y
    have hq := Int.emod_nonneg y (b := sz) (by omega)
    have hl := Int.emod_lt_of_pos y (b := sz) hs
    refine ⟨(y % sz).toNat, .lst [.int a, .int b, .int (c + 1)], ?_, by omega, a, b, c + 1, rfl, a0, b0, b1, by omega, by omega⟩
    rw [call_eq prog n 16 _ f_law_pick rfl rfl rfl, show (((y % sz).toNat : Nat) : Int) = y % sz by omega]
    have f32 := fits_lt (i := 32) (by omega) (by omega)
    simp only [Nat.reducePow] at p1 p2
    have t5 : (5 : Int).toNat = 5 := rfl
    have t3 : (3 : Int).toNat = 3 := rfl
    simp [f_law_pick, b_var, b_lp, b_fp, e0, e1, e2, e3, x2, cmp2, plain2, alike_int, isNon, lt_int, h, blv, bin2, fs, fc, fk, fl, f32, p1, p2, t5, t3, hz, hy, h1, List.replicate, ownAt, setO, endC]
/-- a pick from the deck in slot 0 -/
theorem c_pick (n k : Nat) (l : Bool) (d : D) (sz : Nat) (hd : Dk k d) (hk : k < 1000000) (h1 : 0 < sz) (h2 : sz ≤ 1000000000000) (ρ : Env) : ∃ (q : Nat) (d' : D), callE (callsOf prog (n + 1)) l 16 [.pl 0, .val (.int sz)] (.own d :: ρ) = .ok (.val (.int q)) (.own d' :: ρ) ∧ q < sz ∧ Dk (k + 1) d' := by
  obtain ⟨q, d', e, hq, hd'⟩ := s_law_pick n k d sz hd hk h1 h2
  refine ⟨q, d', ?_, hq, hd'⟩
  unfold callE
  have e1 : (callsOf prog (n + 1)).io 16 = true := rfl
  have e2 : (callsOf prog (n + 1)).run 16 [.own d, .val (.int sz)] = .ok (.int q) false d' := e
  rw [e1]
  simp [e2]
theorem sub_nat (xs : List D) (q : Nat) (x : D) (h : xs[q]? = some x) : sub2 (.lst xs) (.int q) = some x ∧ sub2 (.tup xs) (.int q) = some x := by
  have hl : q < xs.length := by
    by_cases h' : q < xs.length
    · exact h'
    · rw [List.getElem?_eq_none (by omega)] at h; cases h
  constructor <;> simp [sub2, ix_nat _ _ hl, h]
/-- one of some -/
theorem s_law_one (n k : Nat) (d s : D) (xs : List D) (hs : s = .lst xs ∨ s = .tup xs) (hd : Dk k d) (hk : k < 1000000) (h1 : 0 < xs.length) (h2 : xs.length ≤ 1000) : ∃ (x d' : D), callAt prog (n + 2) 17 [.own d, .val s] = .ok x false d' ∧ x ∈ xs ∧ Dk (k + 1) d' := by
  obtain ⟨q, d', e, hq, hd'⟩ := c_pick n k true d xs.length hd hk h1 (by omega) [.val s]
  have hx : xs[q]? = some xs[q] := List.getElem?_eq_getElem hq
  obtain ⟨g1, g2⟩ := sub_nat xs q _ hx
  refine ⟨xs[q], d', ?_, List.getElem_mem hq, hd'⟩
  rw [call_eq prog (n + 1) 17 _ f_law_one rfl rfl rfl]
  have hl : bi1 .len s = some (intv xs.length) := by rcases hs with rfl | rfl <;> rfl
  have g : sub2 s (.int q) = some xs[q] := by rcases hs with rfl | rfl <;> assumption
  simp [f_law_one, b_var, b_lp, b_fp, hl, e, g, intv, List.replicate, endC]
theorem c_one (n k : Nat) (d : D) (o : Opd) (xs : List D) (hd : Dk k d) (hk : k < 1000000) (h1 : 0 < xs.length) (h2 : xs.length ≤ 1000) (ρ : Env) (ho : o = .own (.lst xs) ∨ o = .val (.lst xs) ∨ o = .val (.tup xs)) : ∃ (x d' : D), callE (callsOf prog (n + 2)) false 17 [.pl 0, o] (.own d :: ρ) = .ok (.val x) (.own d' :: ρ) ∧ x ∈ xs ∧ Dk (k + 1) d' := by
  obtain ⟨x, d', e, hq, hd'⟩ := s_law_one n k d (look o []) xs (by rcases ho with rfl | rfl | rfl <;> simp) hd hk h1 h2
  refine ⟨x, d', ?_, hq, hd'⟩
  unfold callE
  have e1 : (callsOf prog (n + 2)).io 17 = true := rfl
  rw [e1]
  have e2 : (callsOf prog (n + 2)).run 17 [.own d, .val (look o [])] = .ok x false d' := e
  rcases ho with rfl | rfl | rfl <;> simp at e2 <;> simp [e2]
end RR.B

namespace RR.B
theorem compF_sub {α : Type} {bind : D → Env → Option Env} {test : Env → Res Bool} {elt : Env → Res Opd} (P : Nat → Env → Prop) (g : α → D) (K : Nat) : ∀ (l : List α) (acc : List D) (k : Nat) (ρ : Env), P k ρ → k + l.length ≤ K →
    (∀ x ∈ l, ∀ k ρ, k < K → P k ρ → ∃ ρ1 b ρ2, bind (g x) ρ = some ρ1 ∧ test ρ1 = .ok b ρ2 ∧ (if b = true then ∃ o ρ3, elt ρ2 = .ok o ρ3 ∧ look o ρ3 = g x ∧ P (k + 1) (fz o ρ3) else P (k + 1) ρ2)) →
    ∃ (l' : List α) (ρf : Env), l'.Sublist l ∧ P (k + l.length) ρf ∧ compF bind test elt (l.map g) acc ρ = .ok (acc ++ l'.map g) ρf
  | [], acc, k, ρ, h0, _, _ => ⟨[], ρ, List.Sublist.refl _, h0, by simp [compF]⟩
  | x :: xs, acc, k, ρ, h0, hK, hs => by
    simp only [List.length_cons] at hK
    obtain ⟨ρ1, b, ρ2, e1, e2, e3⟩ := hs x (List.mem_cons_self ..) k ρ (by omega) h0
    cases b with
    | true =>
      rw [if_pos rfl] at e3
      obtain ⟨o, ρ3, e4, e5, e6⟩ := e3
      obtain ⟨l', ρf, h1, h2, h3⟩ := compF_sub P g K xs (acc ++ [look o ρ3]) (k + 1) (fz o ρ3) e6 (by omega) (fun y hy => hs y (List.mem_cons_of_mem _ hy))
      refine ⟨x :: l', ρf, h1.cons₂ x, by rw [List.length_cons, show k + (xs.length + 1) = k + 1 + xs.length by omega]; exact h2, ?_⟩
      rw [List.map_cons, compF, e1]
      rw [e5] at h3
      simp [e2, e4, h3, e5]
    | false =>
      rw [if_neg (by decide)] at e3
      obtain ⟨l', ρf, h1, h2, h3⟩ := compF_sub P g K xs acc (k + 1) ρ2 e3 (by omega) (fun y hy => hs y (List.mem_cons_of_mem _ hy))
      refine ⟨l', ρf, h1.cons x, by rw [List.length_cons, show k + (xs.length + 1) = k + 1 + xs.length by omega]; exact h2, ?_⟩
      rw [List.map_cons, compF, e1]
      simp [e2, h3]
theorem comp_sub {Φ : Calls} {ρ ρ1 : Env} {α : Type} {hide : Bool} {elt : E} {tg : List Nat} {sk : SK} {src cond : List E} {os : List Opd} {l : List α} (P : Nat → Env → Prop) (g : α → D) (k : Nat)
    (hsrc : evL Φ src ρ = .ok os ρ1) (hit : itemsOf sk (looks os ρ1) = some (l.map g)) (h0 : P k (away hide os ρ1))
    (hs : ∀ x ∈ l, ∀ j ρ, j < k + l.length → P j ρ → ∃ ρ1 b ρ2, bindT tg (g x) (wipeS tg ρ) = some ρ1 ∧ evC Φ cond ρ1 = .ok b ρ2 ∧ (if b = true then ∃ o ρ3, evE Φ elt ρ2 = .ok o ρ3 ∧ look o ρ3 = g x ∧ P (j + 1) (fz o ρ3) else P (j + 1) ρ2)) :
    ∃ (l' : List α) (ρf : Env), l'.Sublist l ∧ P (k + l.length) ρf ∧ evE Φ (.comp hide elt tg sk src cond) ρ = .ok (.own (.lst (l'.map g))) (again hide os ρ1 (backS tg (away hide os ρ1) ρf)) := by
  obtain ⟨l', ρf, h1, h2, h3⟩ := compF_sub (bind := fun d ρ => bindT tg d (wipeS tg ρ)) (test := fun ρ => evC Φ cond ρ) (elt := fun ρ => evE Φ elt ρ) P g (k + l.length) l [] k (away hide os ρ1) h0 (Nat.le_refl _) hs
  refine ⟨l', ρf, h1, h2, ?_⟩
  rw [evE, hsrc]
  simp only [b_bind, hit]
  rw [h3]
  simp
/-- the frame of _law_house -/
def hF (tk : Int) (d : D) (a1 a3 a4 a5 a6 a7 a8 a9 a10 a11 a12 : Sl) : Env := [.own d, a1, .val (.int tk), a3, a4, a5, a6, a7, a8, a9, a10, a11, a12]
theorem e_law_house_1 (tk : Int) (n k : Nat) (d : D) (hd : Dk k d) (hk : k + 4 < 1000000) (a1 a3 a4 a5 a6 a7 a8 a9 a10 a11 a12 : Sl) : ∃ (s : S) (d' : D), s.Sublist sides ∧ Dk (k + 4) d' ∧ evE (callsOf prog (n + 1)) c_law_house_1 (hF tk d a1 a3 a4 a5 a6 a7 a8 a9 a10 a11 a12) = .ok (.own (.lst (s.map fun c => .str [c]))) (hF tk d' a1 a3 a4 a5 a6 a7 a8 a9 a10 a11 a12) := by
  unfold c_law_house_1
  obtain ⟨l', ρf, h1, ⟨d', t, h2, rfl⟩, h3⟩ := comp_sub (Φ := callsOf prog (n + 1)) (ρ := hF tk d a1 a3 a4 a5 a6 a7 a8 a9 a10 a11 a12) (ρ1 := hF tk d a1 a3 a4 a5 a6 a7 a8 a9 a10 a11 a12) (hide := false) (elt := .var 12) (tg := [12]) (sk := .it) (src := [.str [110, 101, 115, 119]]) (cond := [.cmp .lt (.call true 16 [.var 0, .int 8]) (.var 2)]) (os := [.val (.str sides)]) (l := sides)
    (fun j ρ => ∃ d t, Dk j d ∧ ρ = hF tk d a1 a3 a4 a5 a6 a7 a8 a9 a10 a11 t) (fun c => .str [c]) k (by simp [sides]) rfl ⟨d, a12, hd, rfl⟩ (by
      rintro c hc j ρ hj ⟨d, t, hd, rfl⟩
      have h4 : sides.length = 4 := rfl
      obtain ⟨q, d', e, hq, hd'⟩ := c_pick n j true d 8 hd (by omega) (by omega) (by omega) [a1, .val (.int tk), a3, a4, a5, a6, a7, a8, a9, a10, a11, .val (.str [c])]
      refine ⟨hF tk d a1 a3 a4 a5 a6 a7 a8 a9 a10 a11 (.val (.str [c])), decide ((q : Int) < tk), hF tk d' a1 a3 a4 a5 a6 a7 a8 a9 a10 a11 (.val (.str [c])), rfl, ?_, ?_⟩
      · have e' : callE (callsOf prog (n + 1)) true 16 [.pl 0, .val (.int 8)] (.own d :: [a1, .val (.int tk), a3, a4, a5, a6, a7, a8, a9, a10, a11, .val (.str [c])]) = _ := e
        by_cases hz : (q : Int) < tk <;> simp [hF, b_var, b_lp, b_fp, e', cmp2, plain2, alike_int, isNon, lt_int, blv, hz]
      · exact ite_both ⟨.val (.str [c]), hF tk d' a1 a3 a4 a5 a6 a7 a8 a9 a10 a11 (.val (.str [c])), by simp [hF, b_var], rfl, d', _, hd', rfl⟩ ⟨d', _, hd', rfl⟩)
  exact ⟨l', d', h1, h2, h3⟩
theorem l_law_house (tk : Int) (n k : Nat) (d : D) (w h : Nat) (hd : Dk k d) (hk : k + 4 * (w * h) < 900000) (hw : w ≤ 6) (hh : h ≤ 6) (a1 a4 a5 a6 a9 a10 a11 a12 : Sl) : ∃ (ds : List S) (d' : D) (v : Sl), ds.length = w * h ∧ (∀ s ∈ ds, s.Sublist sides) ∧ Dk (k + 4 * (w * h)) d' ∧
    evS (callsOf prog (n + 1)) l_law_house_2 (hF tk d a1 (.own (.lst [])) a4 a5 a6 (.val (.int w)) (.val (.int h)) a9 a10 a11 a12) = .nx (hF tk d' a1 (.own (.lst (ds.map .str))) v a5 a6 (.val (.int w)) (.val (.int h)) a9 a10 a11 a12) := by
  unfold l_law_house_2
  have f1 := fits_nat (k := w) (by omega)
  have f2 := fits_nat (k := h) (by omega)
  have h36 : w * h ≤ 36 := Nat.mul_le_mul hw hh
  have hn := near_nat (k := w * h) (by omega)
  have q := for_run (Φ := callsOf prog (n + 1)) (ρ := hF tk d a1 (.own (.lst [])) a4 a5 a6 (.val (.int w)) (.val (.int h)) a9 a10 a11 a12) (ρ1 := hF tk d a1 (.own (.lst [])) a4 a5 a6 (.val (.int w)) (.val (.int h)) a9 a10 a11 a12) (os := [.val (.int ((w * h : Nat) : Int))]) (items := (List.range (w * h)).map iD) (hide := false) (tg := [4]) (sk := .range) (src := [.bin .mul (.var 7) (.var 8)])
    (body := [.expr (.append 3 (.bi .join [.str [], c_law_house_1]))])
    (fun items ρ => ∃ (ds : List S) (d : D) (v : Sl), ds.length + items.length = w * h ∧ (∀ s ∈ ds, s.Sublist sides) ∧ Dk (k + 4 * ds.length) d ∧ ρ = hF tk d a1 (.own (.lst (ds.map .str))) v a5 a6 (.val (.int w)) (.val (.int h)) a9 a10 a11 a12)
    (by simp [hF, b_var, bin2, f1, f2]) ?_ ⟨[], d, a4, by simp, by simp, hd, rfl⟩ ?_
  · obtain ⟨ρf, ⟨ds, d', v, h1, h2, h3, rfl⟩, h5⟩ := q
    simp only [List.length_nil, Nat.add_zero] at h1
    rw [h1] at h3
    exact ⟨ds, d', v, h1, h2, h3, h5⟩
  · simp only [looks, List.map, look, itemsOf, hn]
    rw [if_pos trivial, range_nat]
  · rintro x xs ρ ⟨ds, d, v, h1, h2, h3, rfl⟩
    simp only [List.length_cons] at h1
    obtain ⟨s, d', g1, g2, g3⟩ := e_law_house_1 tk n _ d h3 (by omega) a1 (.own (.lst (ds.map .str))) (.val x) a5 a6 (.val (.int w)) (.val (.int h)) a9 a10 a11 a12
    have h5 : s.length ≤ 8000000 := by have := (sub_sides s g1).2.2; omega
    have hL : ds.length < LINE := by unfold LINE; omega
    refine ⟨hF tk d a1 (.own (.lst (ds.map .str))) (.val x) a5 a6 (.val (.int w)) (.val (.int h)) a9 a10 a11 a12, hF tk d' a1 (.own (.lst ((ds ++ [s]).map .str))) (.val x) a5 a6 (.val (.int w)) (.val (.int h)) a9 a10 a11 a12, rfl, ?_, ds ++ [s], d', _, by simp; omega, ?_, by simp only [List.length_append, List.length_singleton]; exact g2.up (by omega), rfl⟩
    · simp [b_append, g3, strs_map, join_one, h5]
      simp [hF, lstAt, ownL, hL]
    · intro t ht
      rcases List.mem_append.mp ht with ht | ht
      · exact h2 t ht
      · rw [List.mem_singleton.mp ht]; exact g1
end RR.B

namespace RR.B
def rises : List (Bool × Nat) → Bool
  | [] => true
  | r :: l => (l.all fun t => ltR r t) && rises l
theorem rises_ok : ∀ l, rises l = true → l.Pairwise fun a b => ltR a b = true
  | [], _ => List.Pairwise.nil
  | r :: l, h => by
    rw [rises, Bool.and_eq_true, List.all_eq_true] at h
    exact List.Pairwise.cons h.1 (rises_ok l h.2)
theorem rises_all : ((List.range 7).all fun w => (List.range 7).all fun h => rises (allRails w h)) = true := by decide +kernel
theorem rails_pw (w h : Nat) (hw : w ≤ 6) (hh : h ≤ 6) : (allRails w h).Pairwise fun a b => ltR a b = true := by
  have a1 := List.all_eq_true.mp rises_all w (by simp; omega)
  have a2 := List.all_eq_true.mp a1 h (by simp; omega)
  exact rises_ok _ a2
theorem rails_in (w h : Nat) : ∀ r ∈ allRails w h, r.2 < if r.1 then h else w := by
  intro r hr
  unfold allRails at hr
  rcases List.mem_append.mp hr with hr | hr <;> simp only [List.mem_map, List.mem_range] at hr <;> obtain ⟨x, hx, rfl⟩ := hr <;> simpa using hx
theorem e_law_house_3 (tk : Int) (n : Nat) (d : D) (w h : Nat) (hw : w ≤ 6) (a1 a3 a4 a5 a6 a8 a9 a10 a11 a12 : Sl) : evE (callsOf prog n) c_law_house_3 (hF tk d a1 a3 a4 a5 a6 (.val (.int w)) a8 a9 a10 a11 a12) = .ok (.own (.lst ((List.range w).map fun x => rD (false, x)))) (hF tk d a1 a3 a4 a5 a6 (.val (.int w)) a8 a9 a10 a11 a12) := by
  unfold c_law_house_3
  have hn := near_nat (k := w) (by omega)
  refine comp_map (ρ1 := hF tk d a1 a3 a4 a5 a6 (.val (.int w)) a8 a9 a10 a11 a12) (os := [.val (.int w)]) (l := List.range w) (fun ρ => ∃ t, ρ = hF tk d a1 a3 a4 a5 a6 (.val (.int w)) a8 t a10 a11 a12) iD (fun x => rD (false, x)) (by simp [hF, b_var]) ?_ ⟨a9, rfl⟩ ?_ ?_
  · simp only [looks, List.map, look, itemsOf, hn]
    rw [if_pos trivial, range_nat]
  · rintro k hk ρ ⟨t, rfl⟩
    exact ⟨hF tk d a1 a3 a4 a5 a6 (.val (.int w)) a8 (.val (iD k)) a10 a11 a12, hF tk d a1 a3 a4 a5 a6 (.val (.int w)) a8 (.val (iD k)) a10 a11 a12, rfl, by simp [hF, b_var, rD, colS, iD], ⟨_, rfl⟩⟩
  · rintro ρ ⟨t, rfl⟩
    rfl
theorem e_law_house_4 (tk : Int) (n : Nat) (d : D) (w h : Nat) (hh : h ≤ 6) (a1 a3 a4 a5 a6 a7 a9 a10 a11 a12 : Sl) : evE (callsOf prog n) c_law_house_4 (hF tk d a1 a3 a4 a5 a6 a7 (.val (.int h)) a9 a10 a11 a12) = .ok (.own (.lst ((List.range h).map fun x => rD (true, x)))) (hF tk d a1 a3 a4 a5 a6 a7 (.val (.int h)) a9 a10 a11 a12) := by
  unfold c_law_house_4
  have hn := near_nat (k := h) (by omega)
  refine comp_map (ρ1 := hF tk d a1 a3 a4 a5 a6 a7 (.val (.int h)) a9 a10 a11 a12) (os := [.val (.int h)]) (l := List.range h) (fun ρ => ∃ t, ρ = hF tk d a1 a3 a4 a5 a6 a7 (.val (.int h)) a9 t a11 a12) iD (fun x => rD (true, x)) (by simp [hF, b_var]) ?_ ⟨a10, rfl⟩ ?_ ?_
  · simp only [looks, List.map, look, itemsOf, hn]
    rw [if_pos trivial, range_nat]
  · rintro k hk ρ ⟨t, rfl⟩
    exact ⟨hF tk d a1 a3 a4 a5 a6 a7 (.val (.int h)) a9 (.val (iD k)) a11 a12, hF tk d a1 a3 a4 a5 a6 a7 (.val (.int h)) a9 (.val (iD k)) a11 a12, rfl, by simp [hF, b_var, rD, rowS, iD], ⟨_, rfl⟩⟩
  · rintro ρ ⟨t, rfl⟩
    rfl
theorem e_law_house_5 (tk : Int) (n k : Nat) (d : D) (m : Int) (rs : List (Bool × Nat)) (hd : Dk k d) (hk : k + rs.length < 1000000) (a1 a3 a4 a7 a8 a9 a10 a11 a12 : Sl) : ∃ (l' : List (Bool × Nat)) (d' : D), l'.Sublist rs ∧ Dk (k + rs.length) d' ∧ evE (callsOf prog (n + 1)) c_law_house_5 (hF tk d a1 a3 a4 (.own (.lst (rs.map rD))) (.val (.int m)) a7 a8 a9 a10 a11 a12) = .ok (.own (.lst (l'.map rD))) (hF tk d' a1 a3 a4 (.val (.lst (rs.map rD))) (.val (.int m)) a7 a8 a9 a10 a11 a12) := by
  unfold c_law_house_5
  obtain ⟨l', ρf, h1, ⟨d', t, h2, rfl⟩, h3⟩ := comp_sub (Φ := callsOf prog (n + 1)) (ρ := hF tk d a1 a3 a4 (.own (.lst (rs.map rD))) (.val (.int m)) a7 a8 a9 a10 a11 a12) (ρ1 := hF tk d a1 a3 a4 (.own (.lst (rs.map rD))) (.val (.int m)) a7 a8 a9 a10 a11 a12) (hide := false) (elt := .var 11) (tg := [11]) (sk := .it) (src := [.var 5]) (cond := [.cmp .lt (.call true 16 [.var 0, .int 4]) (.var 6)]) (os := [.pl 5]) (l := rs)
    (fun j ρ => ∃ d t, Dk j d ∧ ρ = hF tk d a1 a3 a4 (.val (.lst (rs.map rD))) (.val (.int m)) a7 a8 a9 a10 t a12) rD k (by simp [hF, b_var]) rfl ⟨d, a11, hd, rfl⟩ (by
      rintro r hr j ρ hj ⟨d, t, hd, rfl⟩
      obtain ⟨q, d', e, hq, hd'⟩ := c_pick n j true d 4 hd (by omega) (by omega) (by omega) [a1, .val (.int tk), a3, a4, .val (.lst (rs.map rD)), .val (.int m), a7, a8, a9, a10, .val (rD r), a12]
      refine ⟨hF tk d a1 a3 a4 (.val (.lst (rs.map rD))) (.val (.int m)) a7 a8 a9 a10 (.val (rD r)) a12, decide ((q : Int) < m), hF tk d' a1 a3 a4 (.val (.lst (rs.map rD))) (.val (.int m)) a7 a8 a9 a10 (.val (rD r)) a12, rfl, ?_, ?_⟩
      · have e' : callE (callsOf prog (n + 1)) true 16 [.pl 0, .val (.int 4)] (.own d :: [a1, .val (.int tk), a3, a4, .val (.lst (rs.map rD)), .val (.int m), a7, a8, a9, a10, .val (rD r), a12]) = _ := e
        by_cases hz : (q : Int) < m <;> simp [hF, b_var, b_lp, b_fp, e', cmp2, plain2, alike_int, isNon, lt_int, blv, hz]
      · exact ite_both ⟨.val (rD r), hF tk d' a1 a3 a4 (.val (.lst (rs.map rD))) (.val (.int m)) a7 a8 a9 a10 (.val (rD r)) a12, by simp [hF, b_var], rfl, d', _, hd', rfl⟩ ⟨d', _, hd', rfl⟩)
  exact ⟨l', d', h1, h2, h3⟩
def flD (fl : List (Nat × Nat)) : List D := fl.map fun p => D.tup [iD p.1, iD p.2]
/-- floors: not none, each from one to six -/
structure FlOk (fl : List (Nat × Nat)) : Prop where
  ne : 0 < fl.length
  le : fl.length ≤ 1000
  ok : ∀ p ∈ fl, 1 ≤ p.1 ∧ p.1 ≤ 6 ∧ 1 ≤ p.2 ∧ p.2 ≤ 6
def greatF : List (Nat × Nat) := [(3, 3), (6, 6), (5, 3), (4, 6), (2, 5), (5, 5), (1, 6), (6, 1), (3, 4), (2, 2)]
theorem great_ok : FlOk greatF := ⟨by decide, by decide, by decide⟩
def floors : List D := flD greatF
theorem floor_in (fl : List (Nat × Nat)) (ok : FlOk fl) (x : D) (h : x ∈ flD fl) : ∃ w h : Nat, x = .tup [.int w, .int h] ∧ (w, h) ∈ fl ∧ 1 ≤ w ∧ w ≤ 6 ∧ 1 ≤ h ∧ h ≤ 6 := by
  obtain ⟨p, hp, rfl⟩ := List.mem_map.mp h
  exact ⟨p.1, p.2, rfl, hp, ok.ok p hp⟩
theorem s_law_houseG (fl : List (Nat × Nat)) (tk : Int) (n k : Nat) (d : D) (ok : FlOk fl) (hd : Dk k d) (hk : k < 100000) : ∃ (H : House) (d' : D), (H.w, H.h) ∈ fl ∧ Dk (k + 200) d' ∧ callAt prog (n + 4) 20 [.own d, .val (.lst (flD fl)), .val (.int tk)] = .ok H.d false d' := by
  rw [call_eq prog (n + 3) 20 _ f_law_house rfl rfl rfl]
  obtain ⟨x, d1, e1, hx, hd1⟩ := c_one (n + 1) k d (.val (.lst (flD fl))) (flD fl) hd (by omega) (by have := ok.ne; simpa [flD] using this) (by have := ok.le; simpa [flD] using this) [.val (.lst (flD fl)), .val (.int tk), .non, .non, .non, .non, .non, .non, .non, .non, .non, .non] (Or.inr (Or.inl rfl))
  obtain ⟨w, h, rfl, hwh, w1, w6, h1, h6⟩ := floor_in fl ok x hx
  have h36 : w * h ≤ 36 := Nat.mul_le_mul w6 h6
  obtain ⟨ds, d2, v, dl, dk, hd2, e2⟩ := l_law_house tk (n + 2) (k + 1) d1 w h hd1 (by omega) w6 h6 (.val (.lst (flD fl))) .non .non .non .non .non .non .non
  have e3 := e_law_house_3 tk (n + 3) d2 w h w6 (.val (.lst (flD fl))) (.own (.lst (ds.map .str))) v .non .non (.val (.int h)) .non .non .non .non
  have e4 := e_law_house_4 tk (n + 3) d2 w h h6 (.val (.lst (flD fl))) (.own (.lst (ds.map .str))) v .non .non (.val (.int w)) .non .non .non .non
  have ea : (List.range w).map (fun x => rD (false, x)) ++ (List.range h).map (fun x => rD (true, x)) = (allRails w h).map rD := by
    simp only [allRails, List.map_append, List.map_map]
    rfl
  have la : w + h ≤ LINE := by unfold LINE; omega
  obtain ⟨m, d3, e5, hm, hd3⟩ := c_one (n + 1) _ d2 (.own (.lst [.int 1, .int 2, .int 3, .int 4])) [.int 1, .int 2, .int 3, .int 4] hd2 (by omega) (by decide) (by decide) [.val (.lst (flD fl)), .val (.int tk), .own (.lst (ds.map .str)), v, .own (.lst ((allRails w h).map rD)), .non, .val (.int w), .val (.int h), .non, .non, .non, .non] (Or.inl rfl)
  obtain ⟨mi, rfl⟩ : ∃ mi : Int, m = .int mi := by
    simp only [List.mem_cons, List.not_mem_nil, or_false] at hm
    rcases hm with rfl | rfl | rfl | rfl <;> exact ⟨_, rfl⟩
  have ll : (allRails w h).length = w + h := by simp [allRails]
  obtain ⟨rs, d4, hrs, hd4, e6⟩ := e_law_house_5 tk (n + 2) _ d3 mi (allRails w h) hd3 (by omega) (.val (.lst (flD fl))) (.own (.lst (ds.map .str))) v (.val (.int w)) (.val (.int h)) .non .non .non .non
  refine ⟨⟨w, h, ds, rs, w1, w6, h1, h6, dl, dk, fun r hr => rails_in w h r (hrs.subset hr), (rails_pw w h w6 h6).sublist hrs, by have := hrs.length_le; omega⟩, d4, hwh, hd4.up (by omega), ?_⟩
  simp only [hF] at e2 e3 e4 e6
  simp [f_law_house, b_var, b_lp, b_fp, b_unp, bindT, List.replicate, e1, e2, e3, e4, bin2, la, ea, e5, e6, endC, House.d, House.doors, House.rails]
theorem s_law_house (n k : Nat) (d : D) (hd : Dk k d) (hk : k < 100000) : ∃ (H : House) (d' : D), Dk (k + 200) d' ∧ callAt prog (n + 4) 20 [.own d, .val (.lst floors), .val (.int 3)] = .ok H.d false d' := by
  obtain ⟨H, d', _, h1, h2⟩ := s_law_houseG greatF 3 n k d great_ok hd hk
  exact ⟨H, d', h1, h2⟩
end RR.B

namespace RR.B
theorem whF_run {c : Env → Res Bool} {body : Env → Out} (I : Nat → Env → Prop)
    (ht : ∀ k ρ, I (k + 1) ρ → ∃ ρ1 ρ2, c ρ = .ok true ρ1 ∧ body ρ1 = .nx ρ2 ∧ I k ρ2) (hf : ∀ ρ, I 0 ρ → ∃ ρ1, c ρ = .ok false ρ1 ∧ I 0 ρ1) : ∀ (k fuel : Nat) (ρ : Env), I k ρ → k < fuel → ∃ ρf, I 0 ρf ∧ whF c body fuel ρ = .nx ρf
  | _, 0, _, _, h => absurd h (Nat.not_lt_zero _)
  | 0, f + 1, ρ, h0, _ => by
    obtain ⟨ρ1, e, h⟩ := hf ρ h0
    exact ⟨ρ1, h, by rw [whF, e]; simp⟩
  | k + 1, f + 1, ρ, h0, hl => by
    obtain ⟨ρ1, ρ2, e1, e2, h⟩ := ht k ρ h0
    obtain ⟨ρf, g1, g2⟩ := whF_run I ht hf k f ρ2 h (by omega)
    exact ⟨ρf, g1, by rw [whF, e1]; simp [e2, g2]⟩
theorem er_map {α β : Type} (f : α → β) : ∀ (l : List α) (q : Nat), (l.map f).eraseIdx q = (l.eraseIdx q).map f
  | [], q => rfl
  | x :: l, 0 => rfl
  | x :: l, q + 1 => by rw [List.map_cons, List.eraseIdx_cons_succ, List.eraseIdx_cons_succ, List.map_cons, er_map f l q]
theorem er_perm {α : Type} : ∀ (l : List α) (q : Nat) (x : α), l[q]? = some x → (x :: l.eraseIdx q).Perm l
  | [], q, x, h => by simp at h
  | y :: l, 0, x, h => by simp at h; subst h; exact List.Perm.refl _
  | y :: l, q + 1, x, h => by
    rw [List.eraseIdx_cons_succ]
    exact (List.Perm.swap y x _).trans ((er_perm l q x (by simpa using h)).cons y)
theorem l_law_stand (n k : Nat) (d : D) (H : House) (hd : Dk k d) (hk : k < 900000) : ∃ (st : List Nat) (d' : D) (l : List Nat), st.Perm (List.range H.n) ∧ Dk (k + 36) d' ∧
    evS (callsOf prog (n + 1)) l_law_stand_1 [.own d, .val H.d, .own (.lst ((List.range H.n).map iD)), .own (.lst [])] = .nx [.own d', .val H.d, .own (.lst (l.map iD)), .own (.lst (st.map iD))] := by
  unfold l_law_stand_1
  have h36 := H.n36
  obtain ⟨ρf, ⟨left, found, d', h1, h2, h3, rfl⟩, h5⟩ := whF_run (c := fun ρ => boolR (evE (callsOf prog (n + 1)) (.cmp .ne (.var 2) (.lst [])) ρ)) (body := fun ρ => evSs (callsOf prog (n + 1)) [.expr (.append 3 (.popAt 2 (.call true 16 [.var 0, .bi .len [.var 2]])))] ρ)
    (fun j ρ => ∃ (left found : List Nat) (d : D), left.length = j ∧ (found ++ left).Perm (List.range H.n) ∧ Dk (k + found.length) d ∧ ρ = [.own d, .val H.d, .own (.lst (left.map iD)), .own (.lst (found.map iD))])
    (by
      rintro j ρ ⟨left, found, d, h1, h2, h3, rfl⟩
      have hl := h2.length_eq
      simp only [List.length_append, List.length_range] at hl
      obtain ⟨q, d', e, hq, hd'⟩ := c_pick n _ true d left.length h3 (by omega) (by omega) (by omega) [.val H.d, .own (.lst (left.map iD)), .own (.lst (found.map iD))]
      refine ⟨[.own d, .val H.d, .own (.lst (left.map iD)), .own (.lst (found.map iD))], [.own d', .val H.d, .own (.lst ((left.eraseIdx q).map iD)), .own (.lst ((found ++ [at_ left q]).map iD))], ?_, ?_, left.eraseIdx q, found ++ [at_ left q], d', ?_, ?_, ?_, rfl⟩
      · cases left with
        | nil => simp at h1
        | cons x r => simp [b_var, b_lp, b_fp, cmp2, plain2, plain_ints, blv, iD]
      · have hi : ix left.length (q : Int) = some q := ix_nat _ _ hq
        have hg : left[q]? = some (at_ left q) := at_get left q hq
        have hL : found.length < LINE := by unfold LINE; omega
        simp [b_var, b_lp, b_fp, b_append, b_popAt, lstAt, intv, e, ownL, hi, hg, hL, er_map]
      · rw [List.length_eraseIdx_of_lt hq]; omega
      · refine List.Perm.trans ?_ h2
        rw [List.append_assoc]
        refine List.Perm.append_left _ ?_
        exact er_perm left q _ (at_get left q hq)
      · simp only [List.length_append, List.length_singleton]
        exact hd'.up (by omega))
    (by
      rintro ρ ⟨left, found, d, h1, h2, h3, rfl⟩
      refine ⟨_, ?_, left, found, d, h1, h2, h3, rfl⟩
      rw [List.length_eq_zero_iff] at h1
      subst h1
      simp [b_var, b_lp, b_fp, cmp2, plain2, blv])
    H.n TURNS [.own d, .val H.d, .own (.lst ((List.range H.n).map iD)), .own (.lst [])] ⟨List.range H.n, [], d, by simp, by simp, hd, rfl⟩ (by unfold TURNS; omega)
  have hl := h2.length_eq
  simp only [List.length_append, List.length_range] at hl
  rw [List.length_eq_zero_iff] at h1
  subst h1
  rw [List.append_nil] at h2
  refine ⟨found, d', [], h2, h3.up (by simp at hl; omega), ?_⟩
  rw [evS]
  exact h5
theorem s_law_stand (n k : Nat) (d : D) (H : House) (hd : Dk k d) (hk : k < 900000) : ∃ (st : List Nat) (d' : D), st.Perm (List.range H.n) ∧ Dk (k + 36) d' ∧ callAt prog (n + 2) 22 [.own d, .val H.d] = .ok (stD st) false d' := by
  rw [call_eq prog (n + 1) 22 _ f_law_stand rfl rfl rfl]
  obtain ⟨st, d', l, h1, h2, e⟩ := l_law_stand n k d H hd hk
  refine ⟨st, d', h1, h2, ?_⟩
  have e0 : sub2 H.d (.int 0) = some (.int H.w) := rfl
  have e1 : sub2 H.d (.int 1) = some (.int H.h) := rfl
  have f1 := fits_nat (k := H.w) (by have := H.w6; omega)
  have f2 := fits_nat (k := H.h) (by have := H.h6; omega)
  have hn : near ((H.w : Int) * H.h) = true := by have := near_nat (k := H.n) (by have := H.n36; omega); unfold House.n at this; simpa using this
  have hr : rangeL 0 ((H.w : Int) * H.h) = (List.range H.n).map iD := by rw [← range_nat]; unfold House.n; simp
  simp [f_law_stand, b_var, b_lp, b_fp, e0, e1, bin2, f1, f2, hn, hr, e, List.replicate, endC, stD]
end RR.B

namespace RR.B
theorem s_law_deck (n : Nat) (c : Int) (t0 : Nat) : ∃ d, Dk t0 d ∧ callAt prog (n + 1) 15 [.val (.int c), .val (.int t0)] = .ok d true .non := by
  rw [call_eq prog n 15 _ f_law_deck rfl rfl rfl]
  have t : (18 : Int).toNat = 18 := rfl
  have m0 := Int.emod_nonneg c (b := 2147483579) (by omega)
  have m1 := Int.emod_lt_of_pos c (b := 2147483579) (by omega)
  by_cases h : (1000000000000000000 : Int) ≤ c
  · refine ⟨.lst [.int (c - 1000000000000000000), .int (c % 2147483579), .int t0], ⟨_, _, _, rfl, by omega, m0, m1, by omega, by omega⟩, ?_⟩
    simp [f_law_deck, b_var, bin2, t, cmp2, blv, h, List.replicate, endC]
  · refine ⟨.lst [.int 0, .int (c % 2147483579), .int t0], ⟨_, _, _, rfl, by omega, m0, m1, by omega, by omega⟩, ?_⟩
    simp [f_law_deck, b_var, bin2, t, cmp2, blv, h, List.replicate, endC]
/-- the rails of an item of a row -/
theorem l_law_row (mo : Nat) (hmo : mo ≤ 30) (n k : Nat) (d : D) (H : House) (hd : Dk k d) (hk : k < 100000) (x4 x5 : Sl) : ∃ (row : List Sd) (d' : D) (u v : Sl), RowOk H row ∧ Dk (k + 200) d' ∧
    evS (callsOf prog (n + 2)) l_law_row_1 [.own d, .val H.d, .val (.int mo), .own (.lst []), x4, x5] = .nx [.own d', .val H.d, .val (.int mo), .own (rowD row), u, v] := by
  unfold l_law_row_1
  obtain ⟨m, d0, e0, hm, hd0⟩ := c_pick (n + 1) k true d (mo + 1) hd (by omega) (by omega) (by omega) [.val H.d, .val (.int mo), .own (.lst []), x4, x5]
  rw [show ((mo + 1 : Nat) : Int) = (mo : Int) + 1 by omega] at e0
  have hn := near_nat (k := m) (by omega)
  have q := for_run (Φ := callsOf prog (n + 2)) (ρ := [.own d, .val H.d, .val (.int mo), .own (.lst []), x4, x5]) (ρ1 := [.own d0, .val H.d, .val (.int mo), .own (.lst []), x4, x5]) (os := [.val (.int m)]) (items := (List.range m).map iD) (hide := false) (tg := [4]) (sk := .range) (src := [.call true 16 [.var 0, .bin .add (.var 2) (.int 1)]])
    (body := [.ite (.cmp .ne (.sub (.var 1) (.int 3)) (.tup []))
     [.asg 5 (.call false 17 [.var 0, .lst [.int 1, .neg (.int 1), .int 2, .bin .sub (.call true 16 [.var 0, .int 13]) (.int 6), .bin .sub (.bin .pow (.int 10) (.int 30)) (.call true 16 [.var 0, .int 9]), .neg (.bin .pow (.int 10) (.int 30))]]),
      .expr (.append 3 (.tup [.call false 17 [.var 0, .sub (.var 1) (.int 3)], .var 5]))]
     []])
    (fun items ρ => ∃ (row : List Sd) (d : D) (u v : Sl), row.length + items.length ≤ mo ∧ RowOk H row ∧ Dk (k + 1 + 4 * (mo - items.length)) d ∧ ρ = [.own d, .val H.d, .val (.int mo), .own (rowD row), u, v])
    (by simp [b_var, bin2, e0]) ?_ ⟨[], d0, x4, x5, by simp; omega, ⟨by simp, by simp, by simp⟩, hd0.up (by omega), rfl⟩ ?_
  · obtain ⟨ρf, ⟨row, d', u, v, h1, h2, h3, rfl⟩, h5⟩ := q
    exact ⟨row, d', u, v, h2, h3.up (by simp; omega), h5⟩
  · simp only [looks, List.map, look, itemsOf, hn]
    rw [if_pos trivial, range_nat]
  · rintro x xs ρ ⟨row, d, u, v, h1, h2, h3, rfl⟩
    simp only [List.length_cons] at h1 h3
    have e3 : sub2 H.d (.int 3) = some H.rails := rfl
    have pr : plainD deep H.rails = true := by
      unfold House.rails
      rw [p_tupd, plains_map, List.all_eq_true]
      exact fun r _ => plain_rD 28 r
    cases hrs : H.rs with
    | nil =>
      have e4 : H.rails = .tup [] := by unfold House.rails; rw [hrs]; rfl
      refine ⟨[.own d, .val H.d, .val (.int mo), .own (rowD row), .val x, v], [.own d, .val H.d, .val (.int mo), .own (rowD row), .val x, v], rfl, ?_, row, d, _, _, by omega, h2, h3.up (by omega), rfl⟩
      simp [b_var, e3, e4, cmp2, plain2, blv]
    | cons r0 rs0 =>
      obtain ⟨a, d1, g1, ha, hd1⟩ := c_pick (n + 1) _ true d 13 h3 (by omega) (by omega) (by omega) [.val H.d, .val (.int mo), .own (rowD row), .val x, v]
      obtain ⟨b, d2, g2, hb, hd2⟩ := c_pick (n + 1) _ true d1 9 hd1 (by omega) (by omega) (by omega) [.val H.d, .val (.int mo), .own (rowD row), .val x, v]
      rw [show ((13 : Nat) : Int) = 13 from rfl] at g1
      rw [show ((9 : Nat) : Int) = 9 from rfl] at g2
      obtain ⟨y, d3, g3, hy, hd3⟩ := c_one n _ d2 (.own (.lst [.int 1, .int (-1), .int 2, .int ((a : Int) - 6), .int (1000000000000000000000000000000 - b), .int (-1000000000000000000000000000000)])) [.int 1, .int (-1), .int 2, .int ((a : Int) - 6), .int (1000000000000000000000000000000 - b), .int (-1000000000000000000000000000000)] hd2 (by omega) (by simp) (by simp) [.val H.d, .val (.int mo), .own (rowD row), .val x, v] (Or.inl rfl)
      obtain ⟨mi, rfl, hmi⟩ : ∃ mi : Int, y = .int mi ∧ -1000000000000000000000000000000 ≤ mi ∧ mi ≤ 1000000000000000000000000000000 := by
        simp only [List.mem_cons, List.not_mem_nil, or_false] at hy
        rcases hy with rfl | rfl | rfl | rfl | rfl | rfl <;> exact ⟨_, rfl, by omega, by omega⟩
      obtain ⟨z, d4, g4, hz, hd4⟩ := c_one n _ d3 (.val H.rails) (H.rs.map rD) hd3 (by omega) (by rw [hrs]; simp) (by rw [List.length_map]; have := H.rl; omega) [.val H.d, .val (.int mo), .own (rowD row), .val x, .val (.int mi)] (Or.inr (Or.inr rfl))
      simp only [List.mem_map] at hz
      obtain ⟨r, hr, rfl⟩ := hz
      have t30 : (30 : Int).toNat = 30 := rfl
      have e4 : eqD H.rails (.tup []) = false := by unfold House.rails; rw [hrs]; simp
      have hL : row.length < LINE := by unfold LINE; omega
      refine ⟨[.own d, .val H.d, .val (.int mo), .own (rowD row), .val x, v], [.own d4, .val H.d, .val (.int mo), .own (rowD (row ++ [(r, mi)])), .val x, .val (.int mi)], rfl, ?_, row ++ [(r, mi)], d4, _, _, by simp; omega, ⟨by simp; omega, ?_, ?_⟩, hd4.up (by omega), rfl⟩
      · unfold rowD at g1 g2 g3 g4
        simp [b_var, b_lp, b_fp, e3, e4, pr, cmp2, plain2, blv, bin2, t30, g1, g2, g3, g4, b_append, lstAt, ownL, hL, rowD, sD]
      · intro s hs
        rcases List.mem_append.mp hs with hs | hs
        · exact h2.mem s hs
        · rw [List.mem_singleton.mp hs]; exact hr
      · intro s hs
        rcases List.mem_append.mp hs with hs | hs
        · exact h2.far s hs
        · rw [List.mem_singleton.mp hs]; exact hmi
end RR.B

namespace RR.B
theorem s_law_row (mo : Nat) (hmo : mo ≤ 30) (n k : Nat) (d : D) (H : House) (hd : Dk k d) (hk : k < 100000) : ∃ (row : List Sd) (d' : D), RowOk H row ∧ Dk (k + 200) d' ∧ callAt prog (n + 3) 26 [.own d, .val H.d, .val (.int mo)] = .ok (rowD row) true d' := by
  rw [call_eq prog (n + 2) 26 _ f_law_row rfl rfl rfl]
  obtain ⟨row, d', u, v, h1, h2, e⟩ := l_law_row mo hmo n k d H hd hk .non .non
  refine ⟨row, d', h1, h2, ?_⟩
  simp [f_law_row, b_var, b_lp, e, List.replicate, endC]
theorem q_non : eqD .non .non = true := by rw [eqD]
theorem q_bl (a b : Bool) : eqD (.bl a) (.bl b) = (a == b) := by rw [eqD]
def sortN : D → Int
  | .bl _ => 1
  | .int _ => 2
  | .str _ => 3
  | .lst _ => 4
  | .tup _ => 5
  | _ => 6
theorem s_law_sort (n m : Nat) (d : D) (h : plainD m d = true) : callAt prog (n + 1) 18 [.val d] = .ok (.int (sortN d)) false .non := by
  rw [call_eq prog n 18 _ f_law_sort rfl rfl rfl]
  cases d with
  | non => simp [f_law_sort, b_var, blv, sortN, endC]
  | bl b => simp [f_law_sort, b_var, blv, sortN, endC]
  | int b => simp [f_law_sort, b_var, blv, sortN, endC]
  | str b => simp [f_law_sort, b_var, blv, sortN, endC]
  | tup b => simp [f_law_sort, b_var, blv, sortN, endC]
  | lst b => simp [f_law_sort, b_var, blv, sortN, endC]
  | dct a b => cases m <;> simp [plainD] at h
  | clo a b => cases m <;> simp [plainD] at h
theorem enum_zip : ∀ (xs : List D) (k : Nat), enumL k xs = (xs.zipIdx k).map fun p => .tup [.int p.2, p.1]
  | [], k => rfl
  | x :: xs, k => by rw [enumL, List.zipIdx_cons, List.map_cons, enum_zip xs (k + 1)]
theorem plain_mem : ∀ (m : Nat) (xs : List D), plainDs m xs = true → ∀ x ∈ xs, plainD m x = true
  | m, [], _, x, hx => by simp at hx
  | m, y :: ys, h, x, hx => by
    rw [p_c, Bool.and_eq_true] at h
    rcases List.mem_cons.mp hx with rfl | hx
    · exact h.1
    · exact plain_mem m ys h.2 x hx
theorem e_same (n : Nat) (xs : List D) (d : D) (hd : d = .lst xs ∨ d = .tup xs) (x y : Sl) (h : ∀ z ∈ xs, callAt prog (n + 1) 19 [.val z, .val z] = .ok (.bl true) false .non) : evE (callsOf prog (n + 1)) c_law_same_1 [.val d, .val d, x, y] = .ok (.own (.lst [])) [.val d, .val d, x, y] := by
  unfold c_law_same_1
  have q := comp_run (Φ := callsOf prog (n + 1)) (elt := .var 2) (ρ := [.val d, .val d, x, y]) (ρ1 := [.val d, .val d, x, y]) (ρ' := [.val d, .val d, x, y]) (hide := false) (tg := [2, 3]) (sk := .enum) (src := [.var 0]) (cond := [.not (.call true 19 [.var 3, .sub (.var 1) (.var 2)])]) (os := [.val d]) (l := xs.zipIdx) (fun ρ => ∃ s t, ρ = [.val d, .val d, s, t]) (fun p => .tup [.int p.2, p.1]) (fun _ => false) (fun _ => .non) (by simp [b_var]) (by rw [← enum_zip]; rcases hd with rfl | rfl <;> rfl) ⟨x, y, rfl⟩ (by
      rintro ⟨z, i⟩ hz ρ ⟨s, t, rfl⟩
      have hg := List.mem_zipIdx_iff_getElem?.mp hz
      have hm : z ∈ xs := List.mem_of_getElem? hg
      obtain ⟨g1, g2⟩ := sub_nat xs i z hg
      have g : sub2 d (.int i) = some z := by rcases hd with rfl | rfl <;> assumption
      have c : ∀ ρ, callE (callsOf prog (n + 1)) true 19 [.val z, .val z] ρ = .ok (.val (.bl true)) ρ := fun ρ => lent (F := f_law_same) rfl rfl (h z hm) rfl
      refine ⟨[.val d, .val d, .val (.int i), .val z], [.val d, .val d, .val (.int i), .val z], rfl, by simp [b_var, g, c], ?_⟩
      rw [if_neg (by decide)]
      exact ⟨_, _, rfl⟩) (by
      rintro ρ ⟨s, t, rfl⟩
      rfl)
  rw [q, List.filter_eq_nil_iff.mpr (by simp)]
  rfl
theorem s_law_same : ∀ (m n : Nat) (d : D), plainD m d = true → callAt prog (n + m + 2) 19 [.val d, .val d] = .ok (.bl true) false .non := by
  intro m
  induction m with
  | zero =>
    intro n d h
    have s := s_law_sort n 0 d h
    have c : ∀ ρ, callE (callsOf prog (n + 1)) true 18 [.val d] ρ = .ok (.val (.int (sortN d))) ρ := fun ρ => lent (F := f_law_sort) rfl rfl s rfl
    rw [call_eq prog (n + 1) 19 _ f_law_same rfl rfl rfl]
    cases d with
    | tup _ => simp [plainD] at h
    | lst _ => simp [plainD] at h
    | dct _ _ => simp [plainD] at h
    | clo _ _ => simp [plainD] at h
    | non => simp [f_law_same, b_var, c, sortN, cmp2, plain2, alike_int, isNon, lt_int, blv, endC, q_non, q_bl]
    | bl b => simp [f_law_same, b_var, c, sortN, cmp2, plain2, alike_int, isNon, lt_int, blv, endC, q_non, q_bl]
    | int b => simp [f_law_same, b_var, c, sortN, cmp2, plain2, alike_int, isNon, lt_int, blv, endC]
    | str b => simp [f_law_same, b_var, c, sortN, cmp2, plain2, alike_int, isNon, lt_int, blv, endC]
  | succ m ih =>
    intro n d h
    have s := s_law_sort (n + m + 1) (m + 1) d h
    have c : ∀ ρ, callE (callsOf prog (n + m + 1 + 1)) true 18 [.val d] ρ = .ok (.val (.int (sortN d))) ρ := fun ρ => lent (F := f_law_sort) rfl rfl s rfl
    rw [show n + (m + 1) + 2 = (n + m + 1 + 1) + 1 by omega, call_eq prog (n + m + 1 + 1) 19 _ f_law_same rfl rfl rfl]
    cases d with
    | dct _ _ => simp [plainD] at h
    | clo _ _ => simp [plainD] at h
    | non => simp [f_law_same, b_var, c, sortN, cmp2, plain2, alike_int, isNon, lt_int, blv, endC, q_non, q_bl]
    | bl b => simp [f_law_same, b_var, c, sortN, cmp2, plain2, alike_int, isNon, lt_int, blv, endC, q_non, q_bl]
    | int b => simp [f_law_same, b_var, c, sortN, cmp2, plain2, alike_int, isNon, lt_int, blv, endC]
    | str b => simp [f_law_same, b_var, c, sortN, cmp2, plain2, alike_int, isNon, lt_int, blv, endC]
    | tup xs =>
      rw [p_tup] at h
      have e := e_same (n + m + 1) xs _ (Or.inr rfl) .non .non (fun z hz => ih n z (plain_mem m xs h z hz))
      simp [f_law_same, b_var, c, sortN, cmp2, plain2, alike_int, isNon, lt_int, blv, intv, e, List.replicate, endC]
    | lst xs =>
      rw [p_lst] at h
      have e := e_same (n + m + 1) xs _ (Or.inl rfl) .non .non (fun z hz => ih n z (plain_mem m xs h z hz))
      simp [f_law_same, b_var, c, sortN, cmp2, plain2, alike_int, isNon, lt_int, blv, intv, e, List.replicate, endC]
end RR.B

/-! BD: comprehensions, loops: shorter words. -/
namespace RR.B
section
variable {Φ : Calls} {ρ ρ1 : Env}
theorem setS_setS (ρ : Env) (i : Nat) (a b : Sl) : setS (setS ρ i a) i b = setS ρ i b := by
  induction ρ generalizing i with
  | nil => rfl
  | cons x ρ ih => cases i with
    | zero => rfl
    | succ i => simp [ih]
theorem setS_getS (ρ : Env) (i : Nat) : setS ρ i (getS ρ i) = ρ := by
  induction ρ generalizing i with
  | nil => rfl
  | cons x ρ ih => cases i with
    | zero => rfl
    | succ i => simp [ih]
theorem setS_comm (ρ : Env) (i j : Nat) (a b : Sl) (h : i ≠ j) : setS (setS ρ i a) j b = setS (setS ρ j b) i a := by
  induction ρ generalizing i j with
  | nil => rfl
  | cons x ρ ih => cases i with
    | zero => cases j with
      | zero => exact absurd rfl h
      | succ j => simp
    | succ i => cases j with
      | zero => simp
      | succ j => simp [ih i j (by omega)]
theorem getS_setS_ne (ρ : Env) (i j : Nat) (a : Sl) (h : i ≠ j) : getS (setS ρ i a) j = getS ρ j := by
  induction ρ generalizing i j with
  | nil => rfl
  | cons x ρ ih => cases i with
    | zero => cases j with
      | zero => exact absurd rfl h
      | succ j => simp
    | succ i => cases j with
      | zero => simp
      | succ j => simp [ih i j (by omega)]
/-- a comprehension over one name -/
theorem comp1 {α : Type} {hide : Bool} {elt : E} {i : Nat} {sk : SK} {src cond : List E} {os : List Opd} (l : List α) (g : α → D) (p : α → Bool) (r : α → D)
    (hsrc : evL Φ src ρ = .ok os ρ1) (hit : itemsOf sk (looks os ρ1) = some (l.map g))
    (hc : ∀ x ∈ l, evC Φ cond (setS (away hide os ρ1) i (.val (g x))) = .ok (p x) (setS (away hide os ρ1) i (.val (g x))))
    (he : ∀ x ∈ l, p x = true → ∃ o, evE Φ elt (setS (away hide os ρ1) i (.val (g x))) = .ok o (setS (away hide os ρ1) i (.val (g x))) ∧ isPl o = false ∧ look o [] = r x) :
    evE Φ (.comp hide elt [i] sk src cond) ρ = .ok (.own (.lst ((l.filter p).map r))) (again hide os ρ1 (away hide os ρ1)) := by
  refine comp_run (fun ρ' => ∃ s, ρ' = setS (away hide os ρ1) i s) g p r hsrc hit ⟨getS (away hide os ρ1) i, (setS_getS _ _).symm⟩ ?_ ?_
  · rintro x hx ρ' ⟨s, rfl⟩
    refine ⟨setS (away hide os ρ1) i (.val (g x)), _, by simp [wipeS, bindT, setS_setS], hc x hx, ?_⟩
    split
    · rename_i hp
      obtain ⟨o, e1, e2, e3⟩ := he x hx hp
      refine ⟨o, _, e1, ?_, ⟨.val (g x), ?_⟩⟩
      · cases o with
        | val d => exact e3
        | own d => exact e3
        | pl j => cases e2
      · cases o with
        | val d => rfl
        | own d => rfl
        | pl j => cases e2
    · exact ⟨_, rfl⟩
  · rintro ρ2 ⟨s, rfl⟩
    simp [backS, setS_setS, setS_getS]
theorem comp1v {α : Type} {hide : Bool} {elt : E} {i : Nat} {sk : SK} {src cond : List E} {os : List Opd} (l : List α) (g : α → D) (p : α → Bool) (r : α → D)
    (hsrc : evL Φ src ρ = .ok os ρ1) (hit : itemsOf sk (looks os ρ1) = some (l.map g))
    (hc : ∀ x ∈ l, evC Φ cond (setS (away hide os ρ1) i (.val (g x))) = .ok (p x) (setS (away hide os ρ1) i (.val (g x))))
    (he : ∀ x ∈ l, p x = true → evE Φ elt (setS (away hide os ρ1) i (.val (g x))) = .ok (.val (r x)) (setS (away hide os ρ1) i (.val (g x)))) :
    evE Φ (.comp hide elt [i] sk src cond) ρ = .ok (.own (.lst ((l.filter p).map r))) (again hide os ρ1 (away hide os ρ1)) :=
  comp1 l g p r hsrc hit hc fun x hx hp => ⟨_, he x hx hp, rfl, rfl⟩
theorem comp1m {α : Type} {hide : Bool} {elt : E} {i : Nat} {sk : SK} {src : List E} {os : List Opd} (l : List α) (g : α → D) (r : α → D)
    (hsrc : evL Φ src ρ = .ok os ρ1) (hit : itemsOf sk (looks os ρ1) = some (l.map g))
    (he : ∀ x ∈ l, evE Φ elt (setS (away hide os ρ1) i (.val (g x))) = .ok (.val (r x)) (setS (away hide os ρ1) i (.val (g x)))) :
    evE Φ (.comp hide elt [i] sk src []) ρ = .ok (.own (.lst (l.map r))) (again hide os ρ1 (away hide os ρ1)) := by
  have q := comp1v (Φ := Φ) (elt := elt) (i := i) (cond := []) l g (fun _ => true) r hsrc hit (fun x hx => by simp) (fun x hx _ => he x hx)
  rw [q, List.filter_eq_self.mpr (fun _ _ => rfl)]
/-- .. of two names -/
theorem comp2n {α : Type} {hide : Bool} {elt : E} {i j : Nat} {sk : SK} {src cond : List E} {os : List Opd} (l : List α) (g1 g2 : α → D) (p : α → Bool) (r : α → D) (hij : i ≠ j)
    (hsrc : evL Φ src ρ = .ok os ρ1) (hit : itemsOf sk (looks os ρ1) = some (l.map fun x => .tup [g1 x, g2 x]))
    (hc : ∀ x ∈ l, evC Φ cond (setS (setS (away hide os ρ1) i (.val (g1 x))) j (.val (g2 x))) = .ok (p x) (setS (setS (away hide os ρ1) i (.val (g1 x))) j (.val (g2 x))))
    (he : ∀ x ∈ l, p x = true → ∃ o, evE Φ elt (setS (setS (away hide os ρ1) i (.val (g1 x))) j (.val (g2 x))) = .ok o (setS (setS (away hide os ρ1) i (.val (g1 x))) j (.val (g2 x))) ∧ isPl o = false ∧ look o [] = r x) :
    evE Φ (.comp hide elt [i, j] sk src cond) ρ = .ok (.own (.lst ((l.filter p).map r))) (again hide os ρ1 (away hide os ρ1)) := by
  have sw : ∀ ρ' a b c d, setS (setS (setS (setS ρ' i a) j b) i c) j d = setS (setS ρ' i c) j d := fun ρ' a b c d => by
    rw [setS_comm (setS ρ' i a) j i b c (fun e => hij e.symm), setS_setS, setS_setS]
  refine comp_run (fun ρ' => ∃ s t, ρ' = setS (setS (away hide os ρ1) i s) j t) (fun x => .tup [g1 x, g2 x]) p r hsrc hit ⟨getS (away hide os ρ1) i, getS (away hide os ρ1) j, by simp [setS_getS]⟩ ?_ ?_
  · rintro x hx ρ' ⟨s, t, rfl⟩
    refine ⟨setS (setS (away hide os ρ1) i (.val (g1 x))) j (.val (g2 x)), _, by simp [wipeS, bindT, sw], hc x hx, ?_⟩
    split
    · rename_i hp
      obtain ⟨o, e1, e2, e3⟩ := he x hx hp
      refine ⟨o, _, e1, ?_, ⟨.val (g1 x), .val (g2 x), ?_⟩⟩
      · cases o with
        | val d => exact e3
        | own d => exact e3
        | pl j => cases e2
      · cases o with
        | val d => rfl
        | own d => rfl
        | pl j => cases e2
    · exact ⟨_, _, rfl⟩
  · rintro ρ2 ⟨s, t, rfl⟩
    simp [backS, sw, setS_getS]
/-- a for loop: a state that is folded; junk beside it -/
theorem forF_fold {α σ J : Type} {bind : D → Env → Option Env} {body : Env → Out} (E : σ → J → Env) (f : σ → α → σ) (g : α → D) (P : List α → σ → Prop) : ∀ (l : List α) (s : σ) (j : J), P l s →
    (∀ x xs s j, P (x :: xs) s → ∃ ρ1 j', bind (g x) (E s j) = some ρ1 ∧ body ρ1 = .nx (E (f s x) j') ∧ P xs (f s x)) → ∃ j', P [] (l.foldl f s) ∧ forF bind body (l.map g) (E s j) = .nx (E (l.foldl f s) j')
  | [], s, j, h0, _ => ⟨j, h0, by simp [forF]⟩
  | x :: xs, s, j, h0, hs => by
    obtain ⟨ρ1, j1, e1, e2, e3⟩ := hs x xs s j h0
    obtain ⟨j2, h1, h2⟩ := forF_fold E f g P xs (f s x) j1 e3 hs
    exact ⟨j2, h1, by rw [List.map_cons, forF, e1]; simp [e2, h2]⟩
theorem for_fold {α σ J : Type} {hide : Bool} {tg : List Nat} {sk : SK} {src : List E} {body : List St} {os : List Opd} (E : σ → J → Env) (f : σ → α → σ) (g : α → D) (P : List α → σ → Prop) (l : List α) (s : σ) (j : J)
    (hsrc : evL Φ src ρ = .ok os ρ1) (hit : itemsOf sk (looks os ρ1) = some (l.map g)) (he : away hide os ρ1 = E s j) (h0 : P l s)
    (hs : ∀ x xs s j, P (x :: xs) s → ∃ ρ1 j', bindT tg (g x) (E s j) = some ρ1 ∧ evSs Φ body ρ1 = .nx (E (f s x) j') ∧ P xs (f s x)) :
    ∃ j', P [] (l.foldl f s) ∧ evS Φ (.for hide tg sk src body) ρ = .nx (again hide os ρ1 (E (l.foldl f s) j')) := by
  obtain ⟨j', h1, h2⟩ := forF_fold (bind := bindT tg) (body := fun ρ => evSs Φ body ρ) E f g P l s j h0 hs
  refine ⟨j', h1, ?_⟩
  rw [evS, hsrc]
  simp only [b_out, hit]
  rw [he, h2]
  simp
/-- a while loop: an invariant, a measure -/
theorem while_run {σ J : Type} {c : E} {body : List St} (E : σ → J → Env) (P : σ → Prop) (m : σ → Nat)
    (hs : ∀ s j, P s → (∃ j', boolR (evE Φ c (E s j)) = .ok false (E s j')) ∨ ∃ ρ1 s' j', boolR (evE Φ c (E s j)) = .ok true ρ1 ∧ evSs Φ body ρ1 = .nx (E s' j') ∧ P s' ∧ m s' < m s) :
    ∀ (s : σ) (j : J), P s → m s < TURNS → ∃ s' j' j'', P s' ∧ boolR (evE Φ c (E s' j'')) = .ok false (E s' j') ∧ evS Φ (.while c body) (E s j) = .nx (E s' j') := by
  have go : ∀ (n : Nat) (s : σ) (j : J), P s → m s < n → ∃ s' j' j'', P s' ∧ boolR (evE Φ c (E s' j'')) = .ok false (E s' j') ∧ whF (fun ρ => boolR (evE Φ c ρ)) (fun ρ => evSs Φ body ρ) n (E s j) = .nx (E s' j') := by
    intro n
    induction n with
    | zero => intro s j _ h; omega
    | succ n ih =>
      intro s j hP hm
      rcases hs s j hP with ⟨j', e⟩ | ⟨ρ1, s', j', e1, e2, e3, e4⟩
      · exact ⟨s, j', j, hP, e, by rw [whF, e]; simp⟩
      · obtain ⟨s2, j2, j3, h1, h2, h3⟩ := ih s' j' e3 (by omega)
        refine ⟨s2, j2, j3, h1, h2, ?_⟩
        rw [whF, e1]
        simp [e2, h3]
  intro s j hP hm
  obtain ⟨s', j', j'', h1, h2, h3⟩ := go TURNS s j hP hm
  exact ⟨s', j', j'', h1, h2, by rw [evS]; exact h3⟩
/-- a while loop of known turns -/
theorem while_turn {c : E} {body : List St} {ρ2 ρ3 : Env} {n : Nat} (h1 : boolR (evE Φ c ρ) = .ok true ρ2) (h2 : evSs Φ body ρ2 = .nx ρ3) :
    whF (fun ρ => boolR (evE Φ c ρ)) (fun ρ => evSs Φ body ρ) (n + 1) ρ = whF (fun ρ => boolR (evE Φ c ρ)) (fun ρ => evSs Φ body ρ) n ρ3 := by
  rw [whF, h1]; simp [h2]
theorem while_end {c : E} {body : List St} {ρ2 : Env} {n : Nat} (h1 : boolR (evE Φ c ρ) = .ok false ρ2) :
    whF (fun ρ => boolR (evE Φ c ρ)) (fun ρ => evSs Φ body ρ) (n + 1) ρ = .nx ρ2 := by
  rw [whF, h1]; simp
end
end RR.B

namespace RR.B
/-- the calls of the law -/
theorem io_call (f : Nat) (F : Fn) (l : Bool) (os : List Opd) (d d' z : D) (own : Bool) (i : Nat) (hp : prog f = some F) (hio : F.io = true) (ρ : Env) (hi : getS ρ i = .own d) (hz : fzs os ρ = ρ) (h : callAt prog 39 f (.own d :: (looks os ρ).map .val) = .ok z own d') :
    callE (callsOf prog 39) l f (.pl i :: os) ρ = .ok (if own then .own z else .val z) (setS ρ i (.own d')) := by
  unfold callE
  have e1 : (callsOf prog 39).io f = true := by show (match prog f with | some G => G.io | none => false) = true; rw [hp]; exact hio
  have e2 : (callsOf prog 39).run f (.own d :: (looks os ρ).map .val) = .ok z own d' := h
  rw [e1]
  simp [hi, hz, e2]
theorem plain_row (row : List Sd) : plainD 29 (rowD row) = true := by
  unfold rowD
  rw [p_lst, plains_map, List.all_eq_true]
  intro s _
  simp [sD, rD]
theorem plain_st (st : List Nat) : plainD 29 (stD st) = true := by
  unfold stD
  rw [p_tup, plain_ints]
theorem cut_to {α : Type} (l : List α) (k : Nat) (h : k ≤ l.length) : cut l none (some (k : Int)) = l.take k := by
  have e : clip l.length l.length (some (k : Int)) = k := by
    show (if (k : Int) < 0 then (max ((k : Int) + l.length) 0).toNat else min (k : Int).toNat l.length) = k
    rw [if_neg (by omega)]
    omega
  unfold cut
  rw [e]
  simp [clip]
theorem cut_from {α : Type} (l : List α) (k : Nat) (h : k ≤ l.length) : cut l (some (k : Int)) none = l.drop k := by
  have e : clip l.length 0 (some (k : Int)) = k := by
    show (if (k : Int) < 0 then (max ((k : Int) + l.length) 0).toNat else min (k : Int).toNat l.length) = k
    rw [if_neg (by omega)]
    omega
  unfold cut
  rw [e]
  have e2 : clip l.length l.length none = l.length := rfl
  rw [e2, List.take_of_length_le (by simp)]
theorem row_take (H : House) (row : List Sd) (k : Nat) (h : RowOk H row) : RowOk H (row.take k) :=
  ⟨by have := h.len; simp; omega, fun s hs => h.mem s (List.mem_of_mem_take hs), fun s hs => h.far s (List.mem_of_mem_take hs)⟩
theorem row_drop (H : House) (row : List Sd) (k : Nat) (h : RowOk H row) : RowOk H (row.drop k) :=
  ⟨by have := h.len; simp; omega, fun s hs => h.mem s (List.mem_of_mem_drop hs), fun s hs => h.far s (List.mem_of_mem_drop hs)⟩
theorem f_slid_call (H : House) (st : List Nat) (row : List Sd) (hr : RowOk H row) (hp : st.Perm (List.range H.n)) (os : List Opd) (ρ : Env) (h : looks os ρ = [H.d, stD st, rowD row]) : callE (callsOf prog 39) true 13 os ρ = .ok (.val (stD (run H st row))) ρ :=
  lent (F := f_slid) rfl rfl (by rw [h]; exact s_slid 33 H row st hr hp) (noref_st _)
theorem f_law_slid_call (H : House) (st : List Nat) (row : List Sd) (hr : RowOk H row) (hp : st.Perm (List.range H.n)) (os : List Opd) (ρ : Env) (h : looks os ρ = [H.d, stD st, rowD row]) : callE (callsOf prog 39) true 25 os ρ = .ok (.val (stD (run H st row))) ρ :=
  lent (F := f_law_slid) rfl rfl (by rw [h]; exact s_law_slid 36 H row st hr.mem hp) (noref_st _)
theorem f_same_call (d : D) (hd : plainD 29 d = true) (os : List Opd) (ρ : Env) (h : looks os ρ = [d, d]) : callE (callsOf prog 39) true 19 os ρ = .ok (.val (.bl true)) ρ :=
  lent (F := f_law_same) rfl rfl (by rw [h]; exact s_law_same 29 8 d hd) rfl
end RR.B

/-! K03a: rows done often: the plain facts. -/
namespace RR.B
theorem at_map (f : Nat → Nat) (l : List Nat) (i : Nat) (h : i < l.length) : at_ (l.map f) i = f (at_ l i) := by
  unfold at_
  rw [List.getD_eq_getElem?_getD, List.getD_eq_getElem?_getD, List.getElem?_map, List.getElem?_eq_getElem h]
  rfl
theorem at_range (n i : Nat) (h : i < n) : at_ (List.range n) i = i := by
  unfold at_
  rw [List.getD_eq_getElem?_getD, List.getElem?_range h]
  rfl
/-- a row does the same to every stand -/
theorem next_map (H : House) (M st : List Nat) (r : Bool × Nat) (m : Int) (hr : r.2 < if r.1 then H.h else H.w) (hM : M.Perm (List.range H.n)) (hf : (M.map (at_ st)).Perm (List.range H.n)) : next H (M.map (at_ st)) r m = (next H M r m).map (at_ st) := by
  obtain ⟨b1, s1, p1⟩ := next_slid H M r m hr hM
  obtain ⟨b2, s2, p2⟩ := next_slid H _ r m hr hf
  have lM : M.length = H.n := by rw [hM.length_eq]; simp
  refine Slid.uniq s2 ⟨by rw [List.length_map, s1.len, List.length_map], fun i hi => ?_, fun j hj => ?_⟩
  · have h0 : 0 < (places H r).length := by omega
    have q1 : at_ (places H r) (tn (places H r).length m i) < (next H M r m).length := by rw [s1.len, lM]; exact places_lt H r hr _ (at_mem _ _ (tn_lt _ _ _ h0))
    have q2 : at_ (places H r) i < M.length := by rw [lM]; exact places_lt H r hr _ (at_mem _ _ hi)
    rw [at_map _ _ _ q1, s1.on i hi, at_map _ _ _ q2]
  · by_cases h : j < H.n
    · rw [at_map _ _ _ (by rw [s1.len, lM]; exact h), at_map _ _ _ (by rw [lM]; exact h), s1.off j hj]
    · unfold at_
      rw [List.getD_eq_getElem?_getD, List.getD_eq_getElem?_getD, List.getElem?_eq_none (by rw [List.length_map, s1.len, lM]; omega), List.getElem?_eq_none (by rw [List.length_map, lM]; omega)]
theorem run_map (H : House) (st : List Nat) : ∀ (row : List Sd) (M : List Nat), (∀ s ∈ row, s.1 ∈ H.rs) → M.Perm (List.range H.n) → (∀ N : List Nat, N.Perm (List.range H.n) → (N.map (at_ st)).Perm (List.range H.n)) → run H (M.map (at_ st)) row = (run H M row).map (at_ st)
  | [], M, _, _, _ => rfl
  | s :: row, M, hm, hM, hf => by
    have hr := H.rk _ (hm s (List.mem_cons_self ..))
    rw [run, run, next_map H M st s.1 s.2 hr hM (hf M hM)]
    exact run_map H st row _ (fun t ht => hm t (List.mem_cons_of_mem _ ht)) (next_slid H M s.1 s.2 hr hM).2.2 hf
theorem map_id (st : List Nat) (n : Nat) (h : st.length = n) : (List.range n).map (at_ st) = st := by
  apply ext_at
  · simp [h]
  · intro i hi
    simp at hi
    rw [at_map _ _ _ (by simpa using hi), at_range _ _ hi]
theorem run_by (H : House) (st : List Nat) (row : List Sd) (hm : ∀ s ∈ row, s.1 ∈ H.rs) (hp : st.Perm (List.range H.n)) : run H st row = (run H (List.range H.n) row).map (at_ st) := by
  have hl : st.length = H.n := by rw [hp.length_eq]; simp
  have h := run_map H st row (List.range H.n) hm (List.Perm.refl _) (fun N hN => by
    have := (hN.map (at_ st))
    rw [map_id st H.n hl] at this
    exact this.trans hp)
  rw [map_id st H.n hl] at h
  exact h
/-- rounds of a change: each on its round goes to the next place -/
structure Rounds (n : Nat) (M : List Nat) (R : List (List Nat)) : Prop where
  perm : R.flatten.Perm (List.range n)
  nxt : ∀ l ∈ R, ∀ k, k < l.length → at_ M (at_ l (tn l.length 1 k)) = at_ l k
  pos : ∀ l ∈ R, 0 < l.length
/-- t times -/
structure Oft (R : List (List Nat)) (t : Int) (st res : List Nat) : Prop where
  len : res.length = st.length
  on : ∀ l ∈ R, ∀ k, k < l.length → at_ res (at_ l (tn l.length t k)) = at_ st (at_ l k)
section
variable {n : Nat} {M : List Nat} {R : List (List Nat)}
theorem Rounds.at (h : Rounds n M R) {j : Nat} (hj : j < n) : ∃ l ∈ R, ∃ k, k < l.length ∧ at_ l k = j := by
  have : j ∈ R.flatten := h.perm.mem_iff.mpr (by simpa using hj)
  obtain ⟨l, hl, hjl⟩ := List.mem_flatten.mp this
  obtain ⟨k, hk, e⟩ := mem_at l j hjl
  exact ⟨l, hl, k, hk, e⟩
theorem Rounds.lt (h : Rounds n M R) {l : List Nat} (hl : l ∈ R) {k : Nat} (hk : k < l.length) : at_ l k < n := by
  have : at_ l k ∈ R.flatten := List.mem_flatten.mpr ⟨l, hl, at_mem _ _ hk⟩
  simpa using h.perm.mem_iff.mp this
theorem Oft.uniq (h : Rounds n M R) {t : Int} {st a b : List Nat} (hs : st.length = n) (h1 : Oft R t st a) (h2 : Oft R t st b) : a = b := by
  apply ext_at a b (by rw [h1.len, h2.len])
  intro j hj
  rw [h1.len, hs] at hj
  obtain ⟨l, hl, k, hk, rfl⟩ := h.at hj
  have h0 : 0 < l.length := by omega
  have e : tn l.length t (tn l.length (-t) k) = k := by rw [tn_add _ _ _ _ h0, Int.add_left_neg, tn_0 _ _ hk]
  have q1 := h1.on l hl (tn l.length (-t) k) (tn_lt _ _ _ h0)
  have q2 := h2.on l hl (tn l.length (-t) k) (tn_lt _ _ _ h0)
  rw [e] at q1 q2
  rw [q1, q2]
theorem Oft.add {t u : Int} {st a b : List Nat} (h1 : Oft R t st a) (h2 : Oft R u a b) : Oft R (t + u) st b := by
  refine ⟨by rw [h2.len, h1.len], fun l hl k hk => ?_⟩
  have h0 : 0 < l.length := by omega
  rw [← tn_add _ _ _ _ h0, h2.on l hl _ (tn_lt _ _ _ h0), h1.on l hl k hk]
theorem Oft.zero (st : List Nat) : Oft R 0 st st := ⟨rfl, fun l hl k hk => by rw [tn_0 _ _ hk]⟩
theorem Oft.mod {t m : Int} {st a : List Nat} (hm : ∀ l ∈ R, ((l.length : Nat) : Int) ∣ m) (h : Oft R (t % m) st a) : Oft R t st a := by
  refine ⟨h.len, fun l hl k hk => ?_⟩
  have e : tn l.length t k = tn l.length (t % m) k := by
    unfold tn
    have hd := hm l hl
    have : ((k : Int) + t) % l.length = ((k : Int) + t % m) % l.length := by
      rw [Int.add_emod, Int.add_emod (k : Int) (t % m), Int.emod_emod_of_dvd t hd]
    rw [this]
  rw [e]; exact h.on l hl k hk
/-- once is the row itself -/
theorem Oft.once (h : Rounds n M R) {st : List Nat} (hM : M.length = n) (hs : st.length = n) : Oft R 1 st (M.map (at_ st)) := by
  refine ⟨by rw [List.length_map, hM, hs], fun l hl k hk => ?_⟩
  have h0 : 0 < l.length := by omega
  rw [at_map _ _ _ (by rw [hM]; exact h.lt hl (tn_lt _ _ _ h0)), h.nxt l hl k hk]
/-- where all is as it was, each round is gone whole -/
theorem Oft.whole (h : Rounds n M R) {t : Int} {st : List Nat} (hp : st.Perm (List.range n)) (ho : Oft R t st st) : ∀ l ∈ R, ((l.length : Nat) : Int) ∣ t := by
  intro l hl
  have h0 := h.pos l hl
  have nd : st.Nodup := hp.nodup_iff.mpr List.nodup_range
  have ls : st.length = n := by rw [hp.length_eq]; simp
  have q := ho.on l hl 0 h0
  have e := nodup_at st nd _ _ (by rw [ls]; exact h.lt hl (tn_lt _ _ _ h0)) (by rw [ls]; exact h.lt hl h0) q
  have ndl : l.Nodup := by
    have : R.flatten.Nodup := h.perm.nodup_iff.mpr List.nodup_range
    exact (List.pairwise_flatten.mp this).1 l hl
  have e2 := nodup_at l ndl _ _ (tn_lt _ _ _ h0) h0 e
  have c := tn_cast l.length t 0 h0
  rw [e2] at c
  simp at c
  exact Int.dvd_of_emod_eq_zero c.symm
theorem Oft.of_whole {t : Int} (st : List Nat) (hd : ∀ l ∈ R, ((l.length : Nat) : Int) ∣ t) : Oft R t st st := by
  refine ⟨rfl, fun l hl k hk => ?_⟩
  have e : tn l.length t k = k := by
    have h0 : 0 < l.length := by omega
    unfold tn
    have : ((k : Int) + t) % l.length = k := by
      rw [Int.add_emod, Int.emod_eq_zero_of_dvd (hd l hl), Int.add_zero, Int.emod_emod_of_dvd _ (Int.dvd_refl _), Int.emod_eq_of_lt (by omega) (by omega)]
    rw [this]; simp
  rw [e]
end
end RR.B

/-! BF: sorted things, sets, rails that cross: plain facts. -/
namespace RR.B
@[simp] theorem b_awayF (os : List Opd) (ρ : Env) : away false os ρ = fzs os ρ := rfl
@[simp] theorem b_againF (os : List Opd) (a b : Env) : again false os a b = b := rfl
theorem plain_rails (n : Nat) (l : List (Bool × Nat)) : plainDs (n + 1) (l.map rD) = true := by
  rw [plains_map, List.all_eq_true]
  exact fun r _ => plain_rD n r
theorem eq_iD (a b : Nat) : eqD (iD a) (iD b) = decide (a = b) := by
  unfold iD
  rw [q_int]
  by_cases h : a = b <;> simp [h] <;> omega
theorem isin_ints (p : Nat) (P : List Nat) : isin (iD p) (.lst (P.map iD)) = some (P.contains p) := by
  have e1 : plainD deep (iD p) = true := p_int _ _
  have e2 : plainDs deep (P.map iD) = true := plain_ints _ _
  have e3 : memD (iD p) (P.map iD) = P.contains p := by
    unfold memD
    rw [List.any_map]
    induction P with
    | nil => rfl
    | cons x P ih =>
      rw [List.any_cons, List.contains_cons]
      have ih' := ih (plain_ints _ _)
      rw [ih']
      show (eqD (iD x) (iD p) || _) = _
      rw [eq_iD]
      by_cases h : x = p
      · subst h; simp
      · have h' : ¬ p = x := fun e => h e.symm
        simp [h, h']
  simp [isin, e1, e2, e3]
theorem isin_intsT (p : Nat) (P : List Nat) : isin (iD p) (.tup (P.map iD)) = some (P.contains p) := isin_ints p P
theorem isin_rails (p : Bool × Nat) (P : List (Bool × Nat)) : isin (rD p) (.lst (P.map rD)) = some (P.contains p) := by
  have e1 : plainD deep (rD p) = true := plain_rD 29 p
  have e2 : plainDs deep (P.map rD) = true := plain_rails 29 _
  have e3 : memD (rD p) (P.map rD) = P.contains p := by
    unfold memD
    rw [List.any_map]
    clear e2
    induction P with
    | nil => rfl
    | cons x P ih =>
      rw [List.any_cons, List.contains_cons, ih]
      show (eqD (rD x) (rD p) || _) = _
      rw [eq_rD]
      by_cases h : x = p
      · subst h; simp
      · have h' : ¬ p = x := fun e => h e.symm
        simp [h, h']
  simp [isin, e1, e2, e3]
theorem isin_railsT (p : Bool × Nat) (P : List (Bool × Nat)) : isin (rD p) (.tup (P.map rD)) = some (P.contains p) := isin_rails p P
theorem eqs_nil {α : Type} (f : α → D) (l : List α) : eqD (.lst (l.map f)) (.lst []) = l.isEmpty := by
  cases l <;> simp
theorem eqs_rails (a b : List (Bool × Nat)) : eqDs (a.map rD) (b.map rD) = decide (a = b) := by
  induction a generalizing b with
  | nil => cases b <;> simp
  | cons x a ih =>
    cases b with
    | nil => simp
    | cons y b =>
      simp only [List.map_cons, q_c, eq_rD, ih]
      by_cases h : x = y <;> by_cases h2 : a = b <;> simp [h, h2]
theorem eqs_ints (a b : List Nat) : eqDs (a.map iD) (b.map iD) = decide (a = b) := by
  induction a generalizing b with
  | nil => cases b <;> simp
  | cons x a ih =>
    cases b with
    | nil => simp
    | cons y b =>
      simp only [List.map_cons, q_c, eq_iD, ih]
      by_cases h : x = y <;> by_cases h2 : a = b <;> simp [h, h2]

/-! ### sorted(set(..)) of ints -/
theorem nub_mem : ∀ (l : List Int) (x : Int), x ∈ nubI l ↔ x ∈ l
  | [], x => by simp [nubI]
  | y :: l, x => by
    rw [nubI]
    split
    · rename_i h
      rw [nub_mem l x]
      constructor
      · exact fun h => List.mem_cons_of_mem _ h
      · intro h'
        rcases List.mem_cons.mp h' with rfl | h'
        · simpa using h
        · exact h'
    · rw [List.mem_cons, List.mem_cons, nub_mem l x]
theorem nub_nd : ∀ l : List Int, (nubI l).Nodup
  | [] => List.Pairwise.nil
  | y :: l => by
    rw [nubI]
    split
    · exact nub_nd l
    · rename_i h
      exact List.nodup_cons.mpr ⟨fun h' => h (by simpa using (nub_mem l y).mp h'), nub_nd l⟩
theorem intsOf_map (l : List Nat) : intsOf (l.map iD) = some (l.map fun (k : Nat) => (k : Int)) := by
  induction l with
  | nil => rfl
  | cons x l ih => rw [List.map_cons, iD, intsOf, ih]; rfl
theorem key_ints (l : List Nat) : keyDs (l.map iD) = true := by
  induction l with
  | nil => rfl
  | cons x l ih => rw [List.map_cons, keyDs, ih]; rfl
theorem sort_uniq (l m : List Nat) (hm : m.Pairwise (· < ·)) (hp : l.Perm m) : l.mergeSort (fun a b => decide (a ≤ b)) = m := by
  refine List.Perm.eq_of_pairwise (le := fun a b => a ≤ b) (fun a b _ _ h1 h2 => Nat.le_antisymm h1 h2) ?_ ?_ ((List.mergeSort_perm _ _).trans hp)
  · have := List.pairwise_mergeSort (le := fun a b : Nat => decide (a ≤ b)) (fun a b c h1 h2 => by simp at *; omega) (fun a b => by simp; omega) l
    simpa using this
  · exact hm.imp (fun h => Nat.le_of_lt h)
theorem ints_nd {m : List Nat} (hm : m.Pairwise (· < ·)) : (m.map fun (k : Nat) => (k : Int)).Nodup := by
  refine List.Pairwise.map _ (fun a b h => ?_) hm
  omega
theorem nub_perm (l m : List Nat) (hm : m.Pairwise (· < ·)) (he : ∀ x, x ∈ l ↔ x ∈ m) : (nubI (l.map fun (k : Nat) => (k : Int))).Perm (m.map fun (k : Nat) => (k : Int)) := by
  refine (List.perm_ext_iff_of_nodup (nub_nd _) (ints_nd hm)).mpr fun x => ?_
  rw [nub_mem, List.mem_map, List.mem_map]
  constructor
  · rintro ⟨k, h, rfl⟩; exact ⟨k, (he k).mp h, rfl⟩
  · rintro ⟨k, h, rfl⟩; exact ⟨k, (he k).mpr h, rfl⟩
theorem sset_ints (l m : List Nat) (hm : m.Pairwise (· < ·)) (he : ∀ x, x ∈ l ↔ x ∈ m) (hl : l.length ≤ 4000) (h64 : m.length < 64) : bi1 .sortedset (.lst (l.map iD)) = some (.own (.lst (m.map iD))) := by
  have hp := nub_perm l m hm he
  have e : sortI (nubI (l.map fun (k : Nat) => (k : Int))) = m.map fun (k : Nat) => (k : Int) := by
    refine List.Perm.eq_of_pairwise (le := fun a b => a ≤ b) (fun a b _ _ h1 h2 => Int.le_antisymm h1 h2) ?_ ?_ ((List.mergeSort_perm _ _).trans hp)
    · have := List.pairwise_mergeSort (le := fun a b : Int => decide (a ≤ b)) (fun a b c h1 h2 => by simp at *; omega) (fun a b => by simp; omega) (nubI (l.map fun (k : Nat) => (k : Int)))
      unfold sortI
      simpa using this
    · exact List.Pairwise.map _ (fun a b h => by omega) hm
  show ((intsOf (l.map iD)).bind fun ns => if ns.length ≤ 4000 ∧ (nubI ns).length < 64 then some (Opd.own (.lst ((sortI (nubI ns)).map .int))) else none) = _
  rw [intsOf_map]
  simp only [Option.bind_some]
  rw [if_pos ⟨by rw [List.length_map]; exact hl, by rw [hp.length_eq, List.length_map]; exact h64⟩, e, List.map_map]
  rfl
theorem lset_ints (l m : List Nat) (hm : m.Pairwise (· < ·)) (he : ∀ x, x ∈ l ↔ x ∈ m) (hl : l.length ≤ 4000) : bi1 .lenset (.lst (l.map iD)) = some (intv m.length) := by
  have hp := nub_perm l m hm he
  show ((intsOf (l.map iD)).bind fun ns => if ns.length ≤ 4000 then some (intv (nubI ns).length) else none) = _
  rw [intsOf_map]
  simp only [Option.bind_some]
  rw [if_pos (by rw [List.length_map]; exact hl), hp.length_eq, List.length_map]
@[simp] theorem i_any (xs : List D) : bi1 .any (.lst xs) = (boolsOf xs).map fun bs => blv (bs.any id) := rfl

/-! ### rails, their order -/
theorem ltR_iff (a b : Bool × Nat) : ltR a b = true ↔ (a.1 = b.1 ∧ a.2 < b.2) ∨ (a.1 = false ∧ b.1 = true) := by
  obtain ⟨x, i⟩ := a
  obtain ⟨y, j⟩ := b
  unfold ltR rD
  rw [ltD]
  cases x <;> cases y <;> simp [ltDs, rowS, colS, ltD, ltS, lt_int] <;> omega
theorem ltR_trans {a b c : Bool × Nat} (h1 : ltR a b = true) (h2 : ltR b c = true) : ltR a c = true := by
  rw [ltR_iff] at *
  rcases h1 with ⟨e1, l1⟩ | ⟨e1, l1⟩ <;> rcases h2 with ⟨e2, l2⟩ | ⟨e2, l2⟩
  · exact .inl ⟨e1.trans e2, by omega⟩
  · exact .inr ⟨e1.trans e2, l2⟩
  · exact .inr ⟨e1, e2 ▸ l1⟩
  · rw [l1] at e2; cases e2
theorem ltR_irr (a : Bool × Nat) : ltR a a = false := by
  cases h : ltR a a with
  | false => rfl
  | true =>
    rw [ltR_iff] at h
    rcases h with ⟨_, h⟩ | ⟨h1, h2⟩
    · omega
    · rw [h1] at h2; cases h2
theorem ltR_tot (a b : Bool × Nat) (h : a ≠ b) : ltR a b = true ∨ ltR b a = true := by
  rw [ltR_iff, ltR_iff]
  obtain ⟨x, i⟩ := a
  obtain ⟨y, j⟩ := b
  cases x <;> cases y <;> simp at h ⊢ <;> omega
theorem rises_nd {l : List (Bool × Nat)} (h : l.Pairwise fun a b => ltR a b = true) : l.Nodup := h.imp fun h e => by
  subst e; rw [ltR_irr] at h; cases h
theorem rails_sortOk (l : List (Bool × Nat)) : sortOk (l.map rD) = true := by
  unfold sortOk
  rw [Bool.and_eq_true]
  constructor
  · rw [List.all_map, List.all_eq_true]
    intro x _
    show ((l.map rD).all fun y => alikeD (rD x) y) = true
    rw [List.all_map, List.all_eq_true]
    intro y _
    simp [rD, alikeD, alikeDs]
  · rw [Bool.or_eq_true]
    left
    rw [List.all_map, List.all_eq_true]
    intro x _
    rfl
theorem sort_rails (l R : List (Bool × Nat)) (hR : R.Pairwise fun a b => ltR a b = true) (hp : l.Perm R) : sortD (l.map rD) = some (R.map rD) := by
  unfold sortD
  rw [if_pos (rails_sortOk l), ← List.map_mergeSort (r := fun a b => !ltR b a)]
  · congr 2
    refine List.Perm.eq_of_pairwise (le := fun a b => (!ltR b a) = true) (fun a b _ _ h1 h2 => ?_) ?_ ?_ ((List.mergeSort_perm _ _).trans hp)
    · refine Decidable.byContradiction fun h => ?_
      simp only [Bool.not_eq_true'] at h1 h2
      rcases ltR_tot a b h with h | h
      · rw [h2] at h; cases h
      · rw [h1] at h; cases h
    · exact List.pairwise_mergeSort (le := fun a b => !ltR b a) (fun a b c h1 h2 => by
        simp only [Bool.not_eq_true'] at *
        refine Decidable.byContradiction fun h => ?_
        have h : ltR c a = true := by simpa using h
        by_cases e : a = b
        · subst e; rw [h2] at h; cases h
        · rcases ltR_tot a b e with q | q
          · rw [ltR_trans h q] at h2; cases h2
          · rw [h1] at q; cases q) (fun a b => by
        cases q : ltR b a with
        | false => rfl
        | true =>
          cases q2 : ltR a b with
          | false => rfl
          | true => have := ltR_trans q q2; rw [ltR_irr] at this; cases this) l
    · exact hR.imp fun {a b} h => by
        cases q : ltR b a with
        | true => have := ltR_trans h q; rw [ltR_irr] at this; cases this
        | false => rfl
  · intro a _ b _
    rfl
end RR.B

/-! K03b: dicts by numbers; the rounds. -/
namespace RR.B
section
variable {Φ : Calls} {ρ ρ1 : Env}
theorem b_dict {kind : Nat} {es : List E} : evE Φ (.dict kind es) ρ = (evL Φ es ρ).bind fun os ρ1 => match pairsOf (looks os ρ1) with
    | none => .bad
    | some ps => if ps.all (fun p => keyK kind p.1) ∧ ps.length ≤ 15 then .ok (.own (.dct kind (dputs [] ps))) (fzs os ρ1) else .bad := by rw [evE] <;> rfl
def kvD {α : Type} (fk : α → Nat) (fv : α → D) (l : List α) : List (D × D) := l.map fun x => (iD (fk x), fv x)
theorem dhas_map {α : Type} (fk : α → Nat) (fv : α → D) (l : List α) (p : Nat) : dhas (kvD fk fv l) (iD p) = (l.map fk).contains p := by
  induction l with
  | nil => rfl
  | cons x l ih =>
    unfold dhas kvD at ih ⊢
    rw [List.map_cons, List.any_cons, ih, List.map_cons, List.contains_cons]
    show (eqD (iD (fk x)) (iD p) || _) = _
    rw [eq_iD]
    by_cases h : fk x = p
    · subst h; simp
    · have h' : ¬ p = fk x := fun e => h e.symm
      simp [h, h']
theorem dget_map {α : Type} (fk : α → Nat) (fv : α → D) (l : List α) (x : α) (h : x ∈ l) (inj : ∀ y ∈ l, fk y = fk x → y = x) : dget (kvD fk fv l) (iD (fk x)) = some (fv x) := by
  induction l with
  | nil => cases h
  | cons y l ih =>
    unfold dget kvD at ih ⊢
    rw [List.map_cons, List.find?_cons]
    show Option.map _ (match eqD (iD (fk y)) (iD (fk x)) with | true => _ | false => _) = _
    rw [eq_iD]
    by_cases e : fk y = fk x
    · rw [inj y (List.mem_cons_self ..) e]; simp
    · have hx : x ∈ l := by
        rcases List.mem_cons.mp h with rfl | h
        · exact absurd rfl e
        · exact h
      simp only [e, decide_false]
      exact ih hx fun z hz => inj z (List.mem_cons_of_mem _ hz)
theorem dput_map {α : Type} (fk : α → Nat) (fv : α → D) (l : List α) (x : α) (h : fk x ∉ l.map fk) : dput (kvD fk fv l) (iD (fk x)) (fv x) = kvD fk fv (l ++ [x]) := by
  unfold dput
  rw [dhas_map, if_neg (by simpa using h)]
  simp [kvD]
theorem key_iD (p : Nat) : keyK 0 (iD p) = true := rfl
theorem dcompF_run {α : Type} {bind : D → Env → Option Env} {kv : Env → Res (D × D)} (P : Env → Prop) (g : α → D) (fk : α → Nat) (fv : α → D) : ∀ (l acc : List α) (ρ : Env), P ρ → ((acc ++ l).map fk).Nodup → acc.length + l.length ≤ LINE →
    (∀ x ∈ l, ∀ ρ, P ρ → ∃ ρ1 ρ2, bind (g x) ρ = some ρ1 ∧ kv ρ1 = .ok (iD (fk x), fv x) ρ2 ∧ P ρ2) → ∃ ρf, P ρf ∧ dcompF 0 bind kv (l.map g) (kvD fk fv acc) ρ = .ok (kvD fk fv (acc ++ l)) ρf
  | [], acc, ρ, h0, _, _, _ => ⟨ρ, h0, by simp [dcompF]⟩
  | x :: l, acc, ρ, h0, nd, hl, hs => by
    obtain ⟨ρ1, ρ2, e1, e2, e3⟩ := hs x (List.mem_cons_self ..) ρ h0
    obtain ⟨ρf, h1, h2⟩ := dcompF_run P g fk fv l (acc ++ [x]) ρ2 e3 (by simpa using nd) (by simp at hl ⊢; omega) (fun y hy => hs y (List.mem_cons_of_mem _ hy))
    refine ⟨ρf, h1, ?_⟩
    have hx : fk x ∉ acc.map fk := fun h => by
      rw [List.map_append, List.nodup_append] at nd
      exact nd.2.2 _ h _ (by simp) rfl
    have hlen : (kvD fk fv acc).length < LINE := by simp [kvD] at hl ⊢; omega
    rw [List.map_cons, dcompF, e1]
    simp only [e2, b_bind, key_iD, hlen, and_self, if_true]
    rw [dput_map fk fv acc x hx, h2]
    simp
theorem dcomp2n {α : Type} {i j : Nat} {k v : E} {sk : SK} {src : List E} {os : List Opd} (l : List α) (g1 g2 : α → D) (fk : α → Nat) (fv : α → D) (hij : i ≠ j) (nd : (l.map fk).Nodup) (hl : l.length ≤ LINE)
    (hsrc : evL Φ src ρ = .ok os ρ1) (hit : itemsOf sk (looks os ρ1) = some (l.map fun x => .tup [g1 x, g2 x]))
    (hk : ∀ x ∈ l, evE Φ k (setS (setS (fzs os ρ1) i (.val (g1 x))) j (.val (g2 x))) = .ok (.val (iD (fk x))) (setS (setS (fzs os ρ1) i (.val (g1 x))) j (.val (g2 x))))
    (hv : ∀ x ∈ l, evE Φ v (setS (setS (fzs os ρ1) i (.val (g1 x))) j (.val (g2 x))) = .ok (.val (fv x)) (setS (setS (fzs os ρ1) i (.val (g1 x))) j (.val (g2 x)))) :
    evE Φ (.dcomp 0 k v [i, j] sk src) ρ = .ok (.own (.dct 0 (kvD fk fv l))) (fzs os ρ1) := by
  have sw : ∀ ρ' a b c d, setS (setS (setS (setS ρ' i a) j b) i c) j d = setS (setS ρ' i c) j d := fun ρ' a b c d => by
    rw [setS_comm (setS ρ' i a) j i b c (fun e => hij e.symm), setS_setS, setS_setS]
  obtain ⟨ρf, ⟨s, t, rfl⟩, h2⟩ := dcompF_run (bind := fun d ρ => bindT [i, j] d (wipeS [i, j] ρ)) (kv := fun ρ => (evE Φ k ρ).bind fun x ρ2 => (evE Φ v ρ2).bind fun y ρ3 => .ok (look x ρ3, look y ρ3) (fz y ρ3)) (fun ρ' => ∃ s t, ρ' = setS (setS (fzs os ρ1) i s) j t) (fun x => .tup [g1 x, g2 x]) fk fv l [] (fzs os ρ1)
    ⟨getS (fzs os ρ1) i, getS (fzs os ρ1) j, by simp [setS_getS]⟩ (by simpa using nd) (by simpa using hl) (by
      rintro x hx ρ' ⟨s, t, rfl⟩
      refine ⟨setS (setS (fzs os ρ1) i (.val (g1 x))) j (.val (g2 x)), setS (setS (fzs os ρ1) i (.val (g1 x))) j (.val (g2 x)), by simp [wipeS, bindT, sw], by simp [hk x hx, hv x hx], ⟨_, _, rfl⟩⟩)
  rw [evE, hsrc]
  simp only [b_bind, hit]
  have h2' : dcompF 0 (fun d ρ => bindT [i, j] d (wipeS [i, j] ρ)) (fun ρ => (evE Φ k ρ).bind fun x ρ2 => (evE Φ v ρ2).bind fun y ρ3 => .ok (look x ρ3, look y ρ3) (fz y ρ3)) (l.map fun x => .tup [g1 x, g2 x]) [] (fzs os ρ1) = _ := h2
  rw [h2']
  simp [backS, sw, setS_getS]
end
/-! ### the rounds -/
def pos_ (M : List Nat) (p : Nat) : Nat := M.idxOf p
theorem pos_at {M : List Nat} {p : Nat} (h : p ∈ M) : pos_ M p < M.length ∧ at_ M (pos_ M p) = p := by
  have hl := List.idxOf_lt_length_of_mem h
  refine ⟨hl, ?_⟩
  have := List.getElem_idxOf hl
  have e : M[List.idxOf p M]? = some (at_ M (pos_ M p)) := at_get M (pos_ M p) hl
  rw [List.getElem?_eq_getElem hl] at e
  rw [← Option.some.inj e]; exact this
theorem at_pos {M : List Nat} (nd : M.Nodup) {i : Nat} (h : i < M.length) : pos_ M (at_ M i) = i := by
  obtain ⟨h1, h2⟩ := pos_at (at_mem M i h)
  exact nodup_at M nd _ _ h1 h h2
def goalD (M : List Nat) : D := .dct 0 (kvD (at_ M) iD (List.range M.length))
theorem sub_goal (M : List Nat) (nd : M.Nodup) (p : Nat) (h : p ∈ M) : sub2 (goalD M) (iD p) = some (iD (pos_ M p)) := by
  obtain ⟨h1, h2⟩ := pos_at h
  show (if keyK 0 (iD p) then dget (kvD (at_ M) iD (List.range M.length)) (iD p) else none) = _
  rw [key_iD, if_pos rfl]
  have := dget_map (at_ M) iD (List.range M.length) (pos_ M p) (by simpa using h1) (fun y hy e => nodup_at M nd _ _ (by simpa using hy) h1 e)
  rw [h2] at this
  exact this
theorem e_rounds_1 (n : Nat) (M : List Nat) (nd : M.Nodup) (h36 : M.length ≤ 36) (x0 x1 x3 x4 x5 x6 x7 x8 x9 : Sl) : evE (callsOf prog n) c_rounds_of_1 [x0, x1, .val (stD M), x3, x4, x5, x6, x7, x8, x9] = .ok (.own (goalD M)) [x0, x1, .val (stD M), x3, x4, x5, x6, x7, x8, x9] := by
  unfold c_rounds_of_1 goalD
  have e : (List.range M.length).map (at_ M) = M := by
    apply ext_at
    · simp
    · intro i hi
      simp at hi
      rw [at_map _ _ _ (by simpa using hi), at_range _ _ hi]
  exact dcomp2n (ρ1 := [x0, x1, .val (stD M), x3, x4, x5, x6, x7, x8, x9]) (os := [.val (stD M)]) (List.range M.length) iD (fun i => iD (at_ M i)) (at_ M) iD (by decide) (by rw [e]; exact nd) (by simp; unfold LINE; omega) (by simp [b_var]) (by
    show some (enumL 0 (M.map iD)) = _
    rw [enum_zip]
    congr 1
    apply List.ext_getElem?
    intro i
    rw [List.getElem?_map, List.getElem?_map, List.getElem?_zipIdx, List.getElem?_map]
    by_cases h : i < M.length
    · rw [at_get M i h, List.getElem?_range h]
      simp [iD]
    · rw [List.getElem?_eq_none (by omega), List.getElem?_eq_none (by simp; omega)]
      rfl) (fun x _ => by simp [b_var]) (fun x _ => by simp [b_var])
theorem len_le_sub : ∀ {l m : List Nat}, l.Nodup → (∀ x ∈ l, x ∈ m) → l.length ≤ m.length
  | [], m, _, _ => by simp
  | x :: l, m, h, hs => by
    have hx := hs x (List.mem_cons_self ..)
    have hn := List.nodup_cons.mp h
    have := len_le_sub (l := l) (m := m.erase x) hn.2 (fun y hy => by
      have hyx : y ≠ x := fun e => hn.1 (by rw [← e]; exact hy)
      exact (List.mem_erase_of_ne hyx).mpr (hs y (List.mem_cons_of_mem _ hy)))
    rw [List.length_erase_of_mem hx] at this
    have := List.length_pos_of_mem hx
    simp only [List.length_cons]; omega
/-- one after the other from p -/
structure Chain (M : List Nat) (p : Nat) (lot : List Nat) : Prop where
  pos : 0 < lot.length
  first : at_ lot 0 = p
  nd : lot.Nodup
  mem : ∀ x ∈ lot, x ∈ M
  nxt : ∀ i, i + 1 < lot.length → at_ lot (i + 1) = pos_ M (at_ lot i)
theorem at_app1 (l : List Nat) (x i : Nat) (h : i < l.length) : at_ (l ++ [x]) i = at_ l i := by
  unfold at_
  rw [List.getD_eq_getElem?_getD, List.getD_eq_getElem?_getD, List.getElem?_append_left h]
theorem at_app2 (l : List Nat) (x : Nat) : at_ (l ++ [x]) l.length = x := by
  unfold at_
  rw [List.getD_eq_getElem?_getD, List.getElem?_append_right (Nat.le_refl _)]
  simp
theorem Chain.step {M : List Nat} {p : Nat} {lot : List Nat} {n : Nat} (hM : M.Perm (List.range n)) (c : Chain M p lot) (h : pos_ M (at_ lot (lot.length - 1)) ≠ p) : Chain M p (lot ++ [pos_ M (at_ lot (lot.length - 1))]) := by
  have nd : M.Nodup := hM.nodup_iff.mpr List.nodup_range
  have ln : M.length = n := by rw [hM.length_eq]; simp
  have hp := c.pos
  have last := at_mem lot (lot.length - 1) (by omega)
  obtain ⟨h1, h2⟩ := pos_at (c.mem _ last)
  refine ⟨by simp, by rw [at_app1 _ _ _ hp, c.first], ?_, ?_, ?_⟩
  · rw [List.nodup_append]
    refine ⟨c.nd, List.pairwise_singleton _ _, fun a ha b hb e => ?_⟩
    rw [List.mem_singleton.mp hb] at e
    subst e
    obtain ⟨i, hi, e⟩ := mem_at lot _ ha
    cases i with
    | zero => rw [c.first] at e; exact h e.symm
    | succ i =>
      rw [c.nxt i hi] at e
      obtain ⟨h3, h4⟩ := pos_at (c.mem _ (at_mem lot i (by omega)))
      have := congrArg (at_ M) e
      rw [h4, h2] at this
      have := nodup_at lot c.nd _ _ (by omega) (by omega) this
      omega
  · intro x hx
    rcases List.mem_append.mp hx with hx | hx
    · exact c.mem x hx
    · rw [List.mem_singleton.mp hx, hM.mem_iff, List.mem_range, ← ln]; exact h1
  · intro i hi
    simp only [List.length_append, List.length_singleton] at hi
    by_cases h3 : i + 1 < lot.length
    · rw [at_app1 _ _ _ h3, at_app1 _ _ _ (by omega), c.nxt i h3]
    · have e : i + 1 = lot.length := by omega
      rw [e, at_app2, at_app1 _ _ _ (by omega)]
      congr 2
      omega
/-- .. and round -/
def Round (M : List Nat) (lot : List Nat) : Prop := 0 < lot.length ∧ (∀ x ∈ lot, x ∈ M) ∧ lot.Nodup ∧ ∀ k, k < lot.length → at_ lot (tn lot.length 1 k) = pos_ M (at_ lot k)
theorem Chain.round {M : List Nat} {p : Nat} {lot : List Nat} (c : Chain M p lot) (h : pos_ M (at_ lot (lot.length - 1)) = p) : Round M lot := by
  refine ⟨c.pos, c.mem, c.nd, fun k hk => ?_⟩
  by_cases h3 : k + 1 < lot.length
  · have e : tn lot.length 1 k = k + 1 := by
      unfold tn
      rw [Int.emod_eq_of_lt (by omega) (by omega)]; omega
    rw [e, c.nxt k h3]
  · have e : tn lot.length 1 k = 0 := by
      unfold tn
      have : ((k : Int) + 1) = lot.length := by omega
      rw [this, Int.emod_self]; rfl
    rw [e, c.first, ← h]
    congr 2
    omega
theorem last_lot (lot : List Nat) (h : 0 < lot.length) : sub2 (.lst (lot.map iD)) (.int (-1)) = some (iD (at_ lot (lot.length - 1))) := by
  have hi : ix lot.length (-1) = some (lot.length - 1) := by
    unfold ix
    rw [if_neg (by omega), if_pos (by omega)]
    congr 1
    omega
  show ((ix (lot.map iD).length (-1)).bind fun j => (lot.map iD)[j]?) = _
  rw [List.length_map, hi]
  simp only [Option.bind_some, List.getElem?_map, at_get lot (lot.length - 1) (by omega)]
  rfl
theorem ne_int3 (a b : Nat) : cmp2 .ne (iD a) (iD b) = some (!decide (a = b)) := by
  have e := eq_iD a b
  have h1 : plainD deep (iD a) = true := p_int _ _
  have h2 : plainD deep (iD b) = true := p_int _ _
  simp only [cmp2, plain2, h1, h2, e]
  simp
theorem t_rounds_2 (n : Nat) (M : List Nat) (w : Nat) (hM : M.Perm (List.range w)) (h36 : w ≤ 36) (p : Nat) (hp : p ∈ M) (x0 x1 x4 x5 x8 x9 : Sl) : ∃ lot, Round M lot ∧ at_ lot 0 = p ∧
    evS (callsOf prog n) l_rounds_of_2 [x0, x1, .val (stD M), .own (goalD M), x4, x5, .val (iD p), .own (.lst ([p].map iD)), x8, x9] = .nx [x0, x1, .val (stD M), .own (goalD M), x4, x5, .val (iD p), .own (.lst (lot.map iD)), x8, x9] := by
  unfold l_rounds_of_2
  have nd : M.Nodup := hM.nodup_iff.mpr List.nodup_range
  have ln : M.length = w := by rw [hM.length_eq]; simp
  have bound : ∀ lot, Chain M p lot → lot.length ≤ 36 := fun lot c => by
    have := len_le_sub c.nd c.mem
    omega
  have ev : ∀ lot, Chain M p lot → evE (callsOf prog n) (.sub (.var 3) (.sub (.var 7) (.neg (.int 1)))) [x0, x1, .val (stD M), .own (goalD M), x4, x5, .val (iD p), .own (.lst (lot.map iD)), x8, x9] = .ok (.val (iD (pos_ M (at_ lot (lot.length - 1))))) [x0, x1, .val (stD M), .own (goalD M), x4, x5, .val (iD p), .own (.lst (lot.map iD)), x8, x9] := fun lot c => by
    have e1 := last_lot lot c.pos
    have e2 := sub_goal M nd _ (c.mem _ (at_mem lot (lot.length - 1) (by have := c.pos; omega)))
    simp [b_var, b_lp, e1, e2]
  obtain ⟨lot, j, j', c, g2, g3⟩ := while_run (Φ := callsOf prog n) (c := .cmp .ne (.sub (.var 3) (.sub (.var 7) (.neg (.int 1)))) (.var 6)) (body := [.expr (.append 7 (.sub (.var 3) (.sub (.var 7) (.neg (.int 1)))))])
    (fun (lot : List Nat) (_ : Unit) => [x0, x1, .val (stD M), .own (goalD M), x4, x5, .val (iD p), .own (.lst (lot.map iD)), x8, x9])
    (fun lot => Chain M p lot) (fun lot => 36 - lot.length) (by
      intro lot _ c
      have e := ev lot c
      have e2 := ne_int3 (pos_ M (at_ lot (lot.length - 1))) p
      by_cases h : pos_ M (at_ lot (lot.length - 1)) = p
      · left
        rw [h] at e e2
        exact ⟨(), by rw [b_cmp, e]; simp [b_var, e2, blv]⟩
      · right
        have c2 := c.step hM h
        have b2 := bound _ c2
        have hl : lot.length < LINE := by have := bound _ c; unfold LINE; omega
        refine ⟨_, lot ++ [pos_ M (at_ lot (lot.length - 1))], (), by rw [b_cmp, e]; simp [b_var, e2, blv, h]; rfl, ?_, c2, by simp at b2 ⊢; omega⟩
        simp [-b_sub, b_append, lstAt, e, ownL, hl])
    [p] () ⟨by simp, rfl, List.pairwise_singleton _ _, by simpa using hp, by simp⟩ (by unfold TURNS; simp)
  refine ⟨lot, c.round ?_, c.first, g3⟩
  have e := ev lot c
  have e2 := ne_int3 (pos_ M (at_ lot (lot.length - 1))) p
  rw [b_cmp, e] at g2
  simp [b_var, e2, blv] at g2
  exact g2
end RR.B

/-! K03c: the rounds (2). -/
namespace RR.B
def seenD (S : List Nat) : D := .dct 0 (kvD id (fun _ => .bl true) S)
theorem seen_in (S : List Nat) (p : Nat) : isin (iD p) (seenD S) = some (S.contains p) := by
  show (if keyK 0 (iD p) then some (dhas (kvD id (fun _ => .bl true) S) (iD p)) else none) = _
  rw [key_iD, if_pos rfl, dhas_map, List.map_id]
theorem seen_put (S : List Nat) (p : Nat) (h : p ∉ S) (hl : S.length < LINE) : setD (seenD S) (iD p) (.bl true) = some (seenD (S ++ [p])) := by
  show (if keyK 0 (iD p) ∧ (kvD id (fun _ => D.bl true) S).length < LINE then some (D.dct 0 (dput (kvD id (fun _ => .bl true) S) (iD p) (.bl true))) else none) = _
  rw [if_pos ⟨key_iD p, by simpa [kvD] using hl⟩]
  have := dput_map (id : Nat → Nat) (fun _ => D.bl true) S p (by simpa using h)
  rw [show iD p = iD (id p) from rfl, this]
  rfl
theorem t_rounds_3 (n : Nat) (lot S : List Nat) (nd : (S ++ lot).Nodup) (hl : S.length + lot.length ≤ 36) (x0 x1 x2 x3 x4 x6 x8 x9 : Sl) : ∃ y8, evS (callsOf prog n) l_rounds_of_3 [x0, x1, x2, x3, x4, .own (seenD S), x6, .own (.lst (lot.map iD)), x8, x9] = .nx [x0, x1, x2, x3, x4, .own (seenD (S ++ lot)), x6, .own (.lst (lot.map iD)), y8, x9] := by
  unfold l_rounds_of_3
  obtain ⟨j, _, h4⟩ := for_fold (Φ := callsOf prog n) (ρ := [x0, x1, x2, x3, x4, .own (seenD S), x6, .own (.lst (lot.map iD)), x8, x9]) (ρ1 := [x0, x1, x2, x3, x4, .own (seenD S), x6, .own (.lst (lot.map iD)), x8, x9]) (hide := true) (tg := [8]) (sk := .it) (src := [.var 7]) (os := [.pl 7]) (body := [.setit 5 (.var 8) (.bl true)])
    (fun (S : List Nat) (j : Sl) => [x0, x1, x2, x3, x4, .own (seenD S), x6, .non, j, x9]) (fun S x => S ++ [x]) iD (fun l S => (S ++ l).Nodup ∧ S.length + l.length ≤ 36) lot S x8 (by simp [b_var]) rfl rfl ⟨nd, hl⟩ (by
      rintro x l S j ⟨h1, h2⟩
      simp only [List.length_cons] at h2
      have hx : x ∉ S := fun h => by
        rw [List.nodup_append] at h1
        exact h1.2.2 x h x (by simp) rfl
      have e := seen_put S x hx (by unfold LINE; omega)
      refine ⟨_, .val (iD x), rfl, by simp [b_var, ownAt, setO, e], by simpa using h1, by simp; omega⟩)
  have e : ∀ (l S : List Nat), l.foldl (fun S x => S ++ [x]) S = S ++ l := fun l => by
    induction l with
    | nil => intro S; simp
    | cons x l ih => intro S; rw [List.foldl_cons, ih]; simp
  rw [e] at h4
  exact ⟨j, h4⟩
/-- a part of the rounds -/
structure GoodR (M : List Nat) (R : List (List Nat)) : Prop where
  nd : R.flatten.Nodup
  round : ∀ l ∈ R, Round M l
theorem GoodR.back {M : List Nat} {R : List (List Nat)} (g : GoodR M R) {y : Nat} (h : y ∈ R.flatten) : ∃ x ∈ R.flatten, pos_ M x = y := by
  obtain ⟨l, hl, hy⟩ := List.mem_flatten.mp h
  obtain ⟨h0, _, _, h3⟩ := g.round l hl
  obtain ⟨k, hk, rfl⟩ := mem_at l y hy
  have e : tn l.length 1 (tn l.length (-1) k) = k := by rw [tn_add _ _ _ _ h0, Int.add_left_neg, tn_0 _ _ hk]
  have q := h3 (tn l.length (-1) k) (tn_lt _ _ _ h0)
  rw [e] at q
  exact ⟨_, List.mem_flatten.mpr ⟨l, hl, at_mem _ _ (tn_lt _ _ _ h0)⟩, q.symm⟩
theorem GoodR.add {M : List Nat} {R : List (List Nat)} {n : Nat} (hM : M.Perm (List.range n)) (g : GoodR M R) {lot : List Nat} (r : Round M lot) (h : at_ lot 0 ∉ R.flatten) : GoodR M (R ++ [lot]) := by
  obtain ⟨h0, h1, h2, h3⟩ := r
  have nd : M.Nodup := hM.nodup_iff.mpr List.nodup_range
  have out : ∀ i, i < lot.length → at_ lot i ∉ R.flatten := fun i => by
    induction i with
    | zero => exact fun _ => h
    | succ i ih =>
      intro hi hy
      have hi' := ih (by omega)
      have e : tn lot.length 1 i = i + 1 := by
        unfold tn
        rw [Int.emod_eq_of_lt (by omega) (by omega)]; omega
      have q := h3 i (by omega)
      rw [e] at q
      obtain ⟨x, hx, ex⟩ := g.back hy
      rw [q] at ex
      have xm : x ∈ M := by
        obtain ⟨l, hl, hxl⟩ := List.mem_flatten.mp hx
        exact (g.round l hl).2.1 x hxl
      have im : at_ lot i ∈ M := h1 _ (at_mem _ _ (by omega))
      have := congrArg (at_ M) ex
      rw [(pos_at xm).2, (pos_at im).2] at this
      exact hi' (this ▸ hx)
  refine ⟨?_, fun l hl => ?_⟩
  · rw [List.flatten_append, List.nodup_append]
    refine ⟨g.nd, by simpa using h2, fun a ha b hb e => ?_⟩
    subst e
    obtain ⟨i, hi, rfl⟩ := mem_at lot a (by simpa using hb)
    exact out i hi ha
  · rcases List.mem_append.mp hl with hl | hl
    · exact g.round l hl
    · rw [List.mem_singleton.mp hl]; exact ⟨h0, h1, h2, h3⟩
def rnD (R : List (List Nat)) : D := .lst (R.map fun l => .lst (l.map iD))
theorem t_rounds_4 (n : Nat) (M : List Nat) (w : Nat) (hM : M.Perm (List.range w)) (h36 : w ≤ 36) (x0 x1 x6 x7 x8 x9 : Sl) : ∃ R y6 y7 y8, GoodR M R ∧ (∀ x, x < w → x ∈ R.flatten) ∧
    evS (callsOf prog n) l_rounds_of_4 [x0, x1, .val (stD M), .own (goalD M), .own (.lst []), .own (.dct 0 []), x6, x7, x8, x9] = .nx [x0, x1, .val (stD M), .own (goalD M), .own (rnD R), .own (seenD R.flatten), y6, y7, y8, x9] := by
  unfold l_rounds_of_4
  have ln : M.length = w := by rw [hM.length_eq]; simp
  have e1 : bi1 .len (stD M) = some (intv w) := by rw [← ln]; simp [stD]
  have hn := near_nat (k := w) (by omega)
  have flen : ∀ R, GoodR M R → R.flatten.length ≤ 36 := fun R g => by
    have : ∀ x ∈ R.flatten, x ∈ M := fun x hx => by
      obtain ⟨l, hl, hxl⟩ := List.mem_flatten.mp hx
      exact (g.round l hl).2.1 x hxl
    have := len_le_sub g.nd this
    omega
  obtain ⟨ρf, ⟨l, R, y6, y7, y8, h1, g, h2, _, rfl⟩, e⟩ := for_run (Φ := callsOf prog n) (ρ := [x0, x1, .val (stD M), .own (goalD M), .own (.lst []), .own (.dct 0 []), x6, x7, x8, x9]) (ρ1 := [x0, x1, .val (stD M), .own (goalD M), .own (.lst []), .own (.dct 0 []), x6, x7, x8, x9]) (hide := false) (tg := [6]) (sk := .range) (src := [.bi .len [.var 2]]) (os := [.val (.int w)]) (items := (List.range w).map iD)
    (body := [.ite (.cmp .notin (.var 6) (.var 5)) [.asg 7 (.lst [.var 6]), l_rounds_of_2, l_rounds_of_3, .expr (.append 4 (.var 7))] []])
    (fun items ρ => ∃ (l : List Nat) (R : List (List Nat)) (y6 y7 y8 : Sl), items = l.map iD ∧ GoodR M R ∧ (∀ x, x < w → x ∉ l → x ∈ R.flatten) ∧ (∀ x ∈ l, x < w) ∧ ρ = [x0, x1, .val (stD M), .own (goalD M), .own (rnD R), .own (seenD R.flatten), y6, y7, y8, x9])
    (by simp [b_var, e1, intv]) (by simp only [looks, List.map, look, itemsOf, hn]; rw [if_pos trivial, range_nat]) ⟨List.range w, [], x6, x7, x8, rfl, ⟨List.Pairwise.nil, by simp⟩, fun x hx hn => absurd (by simpa using hx) hn, fun x hx => by simpa using hx, rfl⟩ (by
      rintro d ds ρ ⟨l, R, y6, y7, y8, h1, g, h2, h3, rfl⟩
      cases l with
      | nil => simp at h1
      | cons p l =>
        simp only [List.map_cons, List.cons.injEq] at h1
        obtain ⟨rfl, rfl⟩ := h1
        have hpw := h3 p (List.mem_cons_self ..)
        have hpM : p ∈ M := by rw [hM.mem_iff]; simpa using hpw
        have e5 := seen_in R.flatten p
        by_cases hin : p ∈ R.flatten
        · rw [List.contains_iff_mem.mpr hin] at e5
          refine ⟨_, _, rfl, by simp [b_var, b_lp, cmp2, e5, blv], l, R, .val (iD p), y7, y8, rfl, g, fun x hx hxl => ?_, fun x hx => h3 x (List.mem_cons_of_mem _ hx), rfl⟩
          by_cases hxp : x = p
          · subst hxp; exact hin
          · exact h2 x hx (fun hm => by rcases List.mem_cons.mp hm with h | h; exact hxp h; exact hxl h)
        · have ec : R.flatten.contains p = false := by simpa using hin
          rw [ec] at e5
          obtain ⟨lot, r, hf, t2⟩ := t_rounds_2 n M w hM h36 p hpM x0 x1 (.own (rnD R)) (.own (seenD R.flatten)) y8 x9
          have g2 := g.add hM r (by rw [hf]; exact hin)
          have fl := flen _ g2
          have nd2 := g2.nd
          simp only [List.flatten_append, List.flatten_cons, List.flatten_nil, List.append_nil] at fl nd2
          obtain ⟨z8, t3⟩ := t_rounds_3 n lot R.flatten nd2 (by simpa using fl) x0 x1 (.val (stD M)) (.own (goalD M)) (.own (rnD R)) (.val (iD p)) y8 x9
          have hL : R.length < LINE := by
            have : R.length ≤ R.flatten.length := by
              have : ∀ (Q : List (List Nat)), (∀ l ∈ Q, 0 < l.length) → Q.length ≤ Q.flatten.length := fun Q => by
                induction Q with
                | nil => intro _; simp
                | cons q Q ih =>
                  intro hq
                  have := ih fun l hl => hq l (List.mem_cons_of_mem _ hl)
                  have := hq q (List.mem_cons_self ..)
                  simp only [List.flatten_cons, List.length_append, List.length_cons]; omega
              exact this R fun l hl => (g.round l hl).1
            simp only [List.length_append] at fl
            unfold LINE; omega
          refine ⟨_, _, rfl, ?_, l, R ++ [lot], .val (iD p), .val (.lst (lot.map iD)), z8, rfl, g2, fun x hx hxl => ?_, fun x hx => h3 x (List.mem_cons_of_mem _ hx), rfl⟩
          · simp only [List.map_cons, List.map_nil] at t2
            simp [b_var, b_lp, b_fp, cmp2, e5, blv, t2, t3, b_append]
            simp [rnD, lstAt, ownL, hL]
          · by_cases hxp : x = p
            · subst hxp
              rw [List.flatten_append]
              refine List.mem_append_right _ ?_
              rw [← hf]
              simpa using at_mem lot 0 r.1
            · rw [List.flatten_append]
              exact List.mem_append_left _ (h2 x hx (fun hm => by rcases List.mem_cons.mp hm with h | h; exact hxp h; exact hxl h)))
  have hl : l = [] := by simpa using h1.symm
  subst hl
  exact ⟨R, y6, y7, y8, g, fun x hx => h2 x hx (by simp), e⟩
theorem good_rounds {M : List Nat} {R : List (List Nat)} {n : Nat} (hM : M.Perm (List.range n)) (g : GoodR M R) (h : ∀ x, x < n → x ∈ R.flatten) : Rounds n M R := by
  have hm : ∀ x ∈ R.flatten, x ∈ M := fun x hx => by
    obtain ⟨l, hl, hxl⟩ := List.mem_flatten.mp hx
    exact (g.round l hl).2.1 x hxl
  refine ⟨(List.perm_ext_iff_of_nodup g.nd List.nodup_range).mpr fun x => ⟨fun hx => hM.mem_iff.mp (hm x hx), fun hx => h x (by simpa using hx)⟩, fun l hl k hk => ?_, fun l hl => (g.round l hl).1⟩
  obtain ⟨h0, h1, h2, h3⟩ := g.round l hl
  rw [h3 k hk]
  exact (pos_at (h1 _ (at_mem _ _ hk))).2
/-- rounds of a row -/
theorem s_rounds (n : Nat) (H : House) (row : List Sd) (hm : ∀ s ∈ row, s.1 ∈ H.rs) : ∃ R, Rounds H.n (run H (List.range H.n) row) R ∧ callAt prog (n + 4) 39 [.val H.d, .val (rowD row)] = .ok (rnD R) true .non := by
  rw [call_eq prog (n + 3) 39 _ f_rounds_of rfl rfl rfl]
  have hM := run_perm H row (List.range H.n) hm (List.Perm.refl _)
  have h36 := H.n36
  have e12 : ∀ ρ, callE (callsOf prog (n + 3)) true 12 [.val H.d, .val (stD (List.range H.n)), .val (rowD row)] ρ = .ok (.val (stD (run H (List.range H.n) row))) ρ := fun ρ => lent (F := f_by_row) rfl rfl (s_by_row n H row (List.range H.n) hm (List.Perm.refl _)) (noref_st _)
  have e2 : sub2 H.d (.int 2) = some H.doors := rfl
  have e3 : bi1 .len H.doors = some (intv H.n) := by
    have hd : H.ds.length = H.n := H.dl
    rw [← hd]; simp [House.doors]
  have e4 : bi1 .tuplerange (.int H.n) = some (.val (stD (List.range H.n))) := by
    have hn := near_nat (k := H.n) (by omega)
    show (if near (H.n : Int) then some (Opd.val (.tup (rangeL 0 H.n))) else none) = _
    rw [hn, if_pos rfl, range_nat]
    rfl
  have lM : (run H (List.range H.n) row).length = H.n := by rw [hM.length_eq]; simp
  have e5 := e_rounds_1 (n + 3) (run H (List.range H.n) row) (hM.nodup_iff.mpr List.nodup_range) (by omega) (.val H.d) (.val (rowD row)) .non .non .non .non .non .non .non
  obtain ⟨R, y6, y7, y8, g, h, e6⟩ := t_rounds_4 (n + 3) (run H (List.range H.n) row) H.n hM h36 (.val H.d) (.val (rowD row)) .non .non .non .non
  refine ⟨R, good_rounds hM g h, ?_⟩
  simp [f_rounds_of, List.replicate, b_var, b_lp, e2, e3, intv, e4, e12, e5, b_dict, pairsOf, dputs, e6, endC]
end RR.B

/-! K03d: often; the greatest common divisor; again; primes. -/
namespace RR.B
theorem go_on (pl st : List Nat) (m : Int) (hn : pl.Nodup) : ∀ (r : List Nat) (k : Nat) (f : List Nat), pl.drop k = r → k ≤ pl.length → (∀ p ∈ pl, p < f.length) → (∀ i, i < k → at_ f (at_ pl (tn pl.length m i)) = at_ st (at_ pl i)) →
    (go pl st m r k f).length = f.length ∧ (∀ i, i < pl.length → at_ (go pl st m r k f) (at_ pl (tn pl.length m i)) = at_ st (at_ pl i)) ∧ ∀ j, j ∉ pl → at_ (go pl st m r k f) j = at_ f j
  | [], k, f, hd, hk, hb, h1 => by
    have : k = pl.length := by have := List.drop_eq_nil_iff.mp hd; omega
    subst this
    exact ⟨rfl, h1, fun _ _ => rfl⟩
  | p :: r, k, f, hd, hk, hb, h1 => by
    obtain ⟨hk', hp, hr⟩ := drop_next hd
    have h0 : 0 < pl.length := by omega
    have hq : at_ pl (tn pl.length m k) < f.length := hb _ (at_mem _ _ (tn_lt _ _ _ h0))
    rw [go]
    obtain ⟨g1, g2, g3⟩ := go_on pl st m hn r (k + 1) (f.set (at_ pl (tn pl.length m k)) (at_ st p)) hr (by omega) (by rw [List.length_set]; exact hb) (by
      intro i hi
      rw [at_set _ _ _ _ hq]
      by_cases e : i = k
      · subst e; rw [if_pos rfl, hp]
      · rw [if_neg, h1 i (by omega)]
        intro e2
        have := nodup_at pl hn _ _ (tn_lt _ _ _ h0) (tn_lt _ _ _ h0) e2
        have := tn_inj _ _ _ _ hk' (by omega) this
        omega)
    refine ⟨by rw [g1, List.length_set], g2, fun j hj => ?_⟩
    rw [g3 j hj, at_set _ _ _ _ hq, if_neg]
    intro e
    exact hj (e ▸ at_mem _ _ (tn_lt _ _ _ h0))
theorem t_often_1 (n : Nat) (pl st f : List Nat) (m : Int) (hb : ∀ p ∈ pl, p < f.length) (hs : ∀ p ∈ pl, p < st.length) (a b u v : Sl) : ∃ u' v', evS (callsOf prog n) l_slid_often_1 [a, .val (stD st), b, .val (.int m), .own (.lst (f.map iD)), .val (.lst (pl.map iD)), u, v]
    = .nx [a, .val (stD st), b, .val (.int m), .own (.lst ((go pl st m pl 0 f).map iD)), .val (.lst (pl.map iD)), u', v'] := by
  unfold l_slid_often_1
  obtain ⟨ρf, ⟨k, r, g, u', v', h1, h2, h3, h4, rfl⟩, h5⟩ := for_run (Φ := callsOf prog n) (ρ := [a, .val (stD st), b, .val (.int m), .own (.lst (f.map iD)), .val (.lst (pl.map iD)), u, v]) (ρ1 := [a, .val (stD st), b, .val (.int m), .own (.lst (f.map iD)), .val (.lst (pl.map iD)), u, v]) (os := [.val (.lst (pl.map iD))]) (items := enumL 0 (pl.map iD)) (hide := false) (tg := [6, 7]) (sk := .enum) (src := [.var 5])
    (body := [.setit 4 (.sub (.var 5) (.bin .mod (.bin .add (.var 6) (.var 3)) (.bi .len [.var 5]))) (.sub (.var 1) (.var 7))])
    (fun items ρ => ∃ k r g u v, items = enumL k (r.map iD) ∧ pl.drop k = r ∧ g.length = f.length ∧ go pl st m r k g = go pl st m pl 0 f ∧ ρ = [a, .val (stD st), b, .val (.int m), .own (.lst (g.map iD)), .val (.lst (pl.map iD)), u, v])
    (by simp [b_var]) rfl ⟨0, pl, f, u, v, rfl, rfl, rfl, rfl, rfl⟩ (by
      rintro d ds ρ ⟨k, r, g, u', v', h1, h2, h3, h4, rfl⟩
      cases r with
      | nil => simp [enumL] at h1
      | cons p r =>
        simp only [List.map_cons, enumL, List.cons.injEq] at h1
        obtain ⟨rfl, rfl⟩ := h1
        obtain ⟨hk, hp, hr⟩ := drop_next h2
        have hps : p < st.length := hs p (by rw [hp]; exact at_mem _ _ hk)
        have h0 : 0 < pl.length := by omega
        have ht := tn_lt pl.length m k h0
        have e1 := sub_st st p hps
        have e2 := sub_pl pl (tn pl.length m k) ht
        rw [tn_cast _ _ _ h0] at e2
        have hq : at_ pl (tn pl.length m k) < g.length := by rw [h3]; exact hb _ (at_mem _ _ ht)
        have e3 := set_pl g _ (at_ st p) hq
        rw [go] at h4
        refine ⟨[a, .val (stD st), b, .val (.int m), .own (.lst (g.map iD)), .val (.lst (pl.map iD)), .val (.int k), .val (iD p)], [a, .val (stD st), b, .val (.int m), .own (.lst ((g.set (at_ pl (tn pl.length m k)) (at_ st p)).map iD)), .val (.lst (pl.map iD)), .val (.int k), .val (iD p)], rfl, ?_, k + 1, r, _, _, _, rfl, hr, by rw [List.length_set]; exact h3, h4, rfl⟩
        have h0' : (0 : Int) < pl.length := by omega
        simp [b_var, e1, e2, e3, bin2, intv, h0, ownAt, setO])
  cases r with
  | nil => rw [go] at h4; exact ⟨u', v', by rw [← h4]; exact h5⟩
  | cons p r => simp [enumL] at h1
theorem t_often_2 (n : Nat) (H : House) (R : List (List Nat)) (M : List Nat) (hR : Rounds H.n M R) (st : List Nat) (m : Int) (hs : st.length = H.n) (c : D) (cR : callE (callsOf prog n) false 39 [.val H.d, .val c] [.val H.d, .val (stD st), .val c, .val (.int m), .own (.lst (st.map iD)), .non, .non, .non] = .ok (.own (rnD R)) [.val H.d, .val (stD st), .val c, .val (.int m), .own (.lst (st.map iD)), .non, .non, .non]) :
    ∃ res u5 u6 u7, Oft R m st res ∧ evS (callsOf prog n) l_slid_often_2 [.val H.d, .val (stD st), .val c, .val (.int m), .own (.lst (st.map iD)), .non, .non, .non]
    = .nx [.val H.d, .val (stD st), .val c, .val (.int m), .own (.lst (res.map iD)), u5, u6, u7] := by
  unfold l_slid_often_2
  have lt : ∀ l ∈ R, ∀ p ∈ l, p < H.n := fun l hl p hp => by
    obtain ⟨k, hk, rfl⟩ := mem_at l p hp
    exact hR.lt hl hk
  have ndf : R.flatten.Nodup := hR.perm.nodup_iff.mpr List.nodup_range
  obtain ⟨ρf, ⟨Q, P, g, u5, u6, u7, h1, h2, h3, h4, rfl⟩, h5⟩ := for_run (Φ := callsOf prog n) (ρ := [.val H.d, .val (stD st), .val c, .val (.int m), .own (.lst (st.map iD)), .non, .non, .non]) (ρ1 := [.val H.d, .val (stD st), .val c, .val (.int m), .own (.lst (st.map iD)), .non, .non, .non]) (os := [.own (rnD R)]) (items := R.map fun l => .lst (l.map iD)) (hide := false) (tg := [5]) (sk := .it) (src := [.call false 39 [.var 0, .var 2]])
    (body := [l_slid_often_1])
    (fun items ρ => ∃ (Q P : List (List Nat)) (g : List Nat) (u5 u6 u7 : Sl), items = Q.map (fun l => .lst (l.map iD)) ∧ P ++ Q = R ∧ g.length = H.n ∧ (∀ l ∈ P, ∀ k, k < l.length → at_ g (at_ l (tn l.length m k)) = at_ st (at_ l k)) ∧ ρ = [.val H.d, .val (stD st), .val c, .val (.int m), .own (.lst (g.map iD)), u5, u6, u7])
    (by simp [b_var, cR]) rfl ⟨R, [], st, .non, .non, .non, rfl, rfl, hs, by simp, rfl⟩ (by
      rintro d ds ρ ⟨Q, P, g, u5, u6, u7, h1, h2, h3, h4, rfl⟩
      cases Q with
      | nil => simp at h1
      | cons l Q =>
        simp only [List.map_cons, List.cons.injEq] at h1
        obtain ⟨rfl, rfl⟩ := h1
        have hl : l ∈ R := by rw [← h2]; simp
        have ndl : l.Nodup := (List.pairwise_flatten.mp ndf).1 l hl
        obtain ⟨u', v', e⟩ := t_often_1 n l st g m (fun p hp => by rw [h3]; exact lt l hl p hp) (fun p hp => by rw [hs]; exact lt l hl p hp) (.val H.d) (.val c) u6 u7
        obtain ⟨g1, g2, g3⟩ := go_on l st m ndl l 0 g rfl (Nat.zero_le _) (fun p hp => by rw [h3]; exact lt l hl p hp) (fun i hi => absurd hi (Nat.not_lt_zero i))
        refine ⟨[.val H.d, .val (stD st), .val c, .val (.int m), .own (.lst (g.map iD)), .val (.lst (l.map iD)), u6, u7], [.val H.d, .val (stD st), .val c, .val (.int m), .own (.lst ((go l st m l 0 g).map iD)), .val (.lst (l.map iD)), u', v'], rfl, (by simp only [b_ss, b_ss0, e, b_obind]), Q, P ++ [l], _, _, _, _, rfl, by rw [← h2]; simp, by rw [g1, h3], fun l' hl' k hk => ?_, rfl⟩
        rcases List.mem_append.mp hl' with hl' | hl'
        · have h0 : 0 < l'.length := by omega
          have hn : at_ l' (tn l'.length m k) ∉ l := fun hm => by
            rw [← h2, List.flatten_append, List.nodup_append] at ndf
            exact ndf.2.2 _ (List.mem_flatten.mpr ⟨l', hl', at_mem _ _ (tn_lt _ _ _ h0)⟩) _ (List.mem_flatten.mpr ⟨l, List.mem_cons_self .., hm⟩) rfl
          rw [g3 _ hn]
          exact h4 l' hl' k hk
        · rw [List.mem_singleton.mp hl'] at hk ⊢
          exact g2 k hk)
  have hq : Q = [] := by simpa using h1.symm
  subst hq
  rw [List.append_nil] at h2
  subst h2
  exact ⟨g, u5, u6, u7, ⟨by rw [h3, hs], h4⟩, h5⟩
theorem s_often (H : House) (R : List (List Nat)) (M : List Nat) (hR : Rounds H.n M R) (st : List Nat) (row : List Sd) (m : Int) (hr : RowOk H row) (hp : st.Perm (List.range H.n)) (h1 : -1000000000000000000000000000000 ≤ m) (h2 : m ≤ 1000000000000000000000000000000)
    (eR : callAt prog 38 39 [.val H.d, .val (rowD row)] = .ok (rnD R) true .non) : ∃ res, Oft R m st res ∧ callAt prog 39 40 [.val H.d, .val (stD st), .val (rowD row), .val (.int m)] = .ok (stD res) false .non := by
  rw [call_eq prog 38 40 _ f_slid_often rfl rfl rfl]
  have hs : st.length = H.n := by rw [hp.length_eq]; simp
  have cR : ∀ ρ, callE (callsOf prog 38) false 39 [.val H.d, .val (rowD row)] ρ = .ok (.own (rnD R)) ρ := fun ρ => by
    have := callE_own (prog := prog) (n := 38) (f := 39) (os := [.val H.d, .val (rowD row)]) (ρ := ρ) (F := f_rounds_of) (z := .non) rfl rfl eR
    simpa using this
  obtain ⟨res, u5, u6, u7, ho, e⟩ := t_often_2 38 H R M hR st m hs (rowD row) (cR _)
  refine ⟨res, ho, ?_⟩
  have c7 := fun ρ => c_need_stand 33 ρ H st hp
  have c10 := fun ρ => c_need_row 35 ρ H row hr
  have c0 := fun ρ => c_is_from 37 ρ m (-1000000000000000000000000000000) 1000000000000000000000000000000
  have e1 : bi1 .list (stD st) = some (.own (.lst (st.map iD))) := rfl
  simp [f_slid_often, List.replicate, b_var, b_lp, c7, c10, c0, h1, h2, e1, e, endC]
  rfl
/-! ### the greatest common divisor, again -/
theorem s_common : ∀ (fuel a b : Nat), b < fuel → callAt prog fuel 41 [.val (.int a), .val (.int b)] = .ok (.int (Nat.gcd a b : Nat)) false .non
  | 0, a, b, h => absurd h (Nat.not_lt_zero _)
  | fuel + 1, a, b, h => by
    rw [call_eq prog fuel 41 _ f_common rfl rfl rfl]
    by_cases hb : b = 0
    · subst hb
      simp [f_common, b_var, cmp2, plain2, blv, endC]
    · have ih := s_common fuel b (a % b) (by have := Nat.mod_lt a (by omega : 0 < b); omega)
      have c : ∀ ρ, callE (callsOf prog fuel) true 41 [.val (.int b), .val (.int ((a : Int) % b))] ρ = .ok (.val (.int (Nat.gcd b (a % b) : Nat))) ρ := fun ρ => lent (F := f_common) rfl rfl (by rw [show (a : Int) % b = ((a % b : Nat) : Int) by omega]; exact ih) rfl
      have hb' : (0 : Int) < b := by omega
      have hb2 : 0 < b := by omega
      have e : Nat.gcd b (a % b) = Nat.gcd a b := by rw [Nat.gcd_comm a b, Nat.gcd_rec b a, Nat.gcd_comm]
      rw [e] at c
      simp [f_common, b_var, cmp2, plain2, blv, hb, bin2, hb', hb2, c, endC]
theorem fits36 {k : Nat} (h : k ≤ 36 ^ 36) : fits (k : Int) = true := by
  unfold fits BIG
  rw [decide_eq_true_eq, Int.natAbs_natCast]
  exact Nat.lt_of_le_of_lt h (by decide +kernel)
def manyR (R : List (List Nat)) : Nat := R.foldl (fun m l => Nat.lcm m l.length) 1
theorem many_props : ∀ (R : List (List Nat)) (m : Nat), (m ∣ R.foldl (fun m l => Nat.lcm m l.length) m) ∧ (∀ l ∈ R, l.length ∣ R.foldl (fun m l => Nat.lcm m l.length) m) ∧ (∀ d, m ∣ d → (∀ l ∈ R, l.length ∣ d) → R.foldl (fun m l => Nat.lcm m l.length) m ∣ d) ∧
    ((∀ l ∈ R, 0 < l.length) → 0 < m → 0 < R.foldl (fun m l => Nat.lcm m l.length) m) ∧ (∀ N, Nat.Coprime N m → (∀ l ∈ R, Nat.Coprime N l.length) → Nat.Coprime N (R.foldl (fun m l => Nat.lcm m l.length) m))
  | [], m => ⟨Nat.dvd_refl _, by simp, fun d h _ => h, fun _ h => h, fun N h _ => h⟩
  | l :: R, m => by
    obtain ⟨h1, h2, h3, h4, h5⟩ := many_props R (Nat.lcm m l.length)
    refine ⟨Nat.dvd_trans (Nat.dvd_lcm_left m l.length) h1, fun l' hl' => ?_, fun d hd hl => h3 d (Nat.lcm_dvd hd (hl l (List.mem_cons_self ..))) fun x hx => hl x (List.mem_cons_of_mem _ hx), fun hp hm => h4 (fun x hx => hp x (List.mem_cons_of_mem _ hx)) (Nat.lcm_pos hm (hp l (List.mem_cons_self ..))), fun N hN hl => h5 N ?_ fun x hx => hl x (List.mem_cons_of_mem _ hx)⟩
    · rcases List.mem_cons.mp hl' with rfl | hl'
      · exact Nat.dvd_trans (Nat.dvd_lcm_right m l'.length) h1
      · exact h2 l' hl'
    · exact Nat.Coprime.coprime_dvd_right (Nat.lcm_dvd_mul m l.length) (Nat.Coprime.mul_right hN (hl l (List.mem_cons_self ..)))
theorem many_smooth (R : List (List Nat)) (hR : ∀ l ∈ R, 0 < l.length ∧ l.length ≤ 36) (N : Nat) (h : N ∣ manyR R) (h1 : 1 < N) : ∃ d, 2 ≤ d ∧ d ≤ 36 ∧ d ∣ N := by
  obtain ⟨_, _, _, _, h5⟩ := many_props R 1
  refine Classical.byContradiction fun hno => ?_
  have hc : Nat.Coprime N (manyR R) := h5 N (Nat.coprime_one_right N) fun l hl => by
    refine Decidable.byContradiction fun hg => ?_
    have hg' : Nat.gcd N l.length ≠ 1 := hg
    have h0 : 0 < Nat.gcd N l.length := Nat.gcd_pos_of_pos_left _ (by omega)
    have := Nat.gcd_le_right (n := l.length) N (hR l hl).1
    exact hno ⟨Nat.gcd N l.length, by omega, Nat.le_trans this (hR l hl).2, Nat.gcd_dvd_left _ _⟩
  have : Nat.gcd N (manyR R) = N := Nat.gcd_eq_left h
  unfold Nat.Coprime at hc
  omega
end RR.B

/-! K03e: again, and the primes. -/
namespace RR.B
theorem lcm_le2 (a l s : Nat) (h : a ≤ 2 ^ s) : Nat.lcm a l ≤ 2 ^ (s + l) := by
  have h1 : Nat.lcm a l ≤ a * l := by
    unfold Nat.lcm
    exact Nat.div_le_self _ _
  have h2 : l ≤ 2 ^ l := Nat.le_of_lt Nat.lt_two_pow_self
  have h3 := Nat.mul_le_mul h h2
  rw [Nat.pow_add]
  omega
theorem t_again_1 (n : Nat) (hn : 36 < n) (H : House) (R : List (List Nat)) (hp : ∀ l ∈ R, 0 < l.length) (hs : (R.flatten).length ≤ 36) (c : D) (cR : callE (callsOf prog n) false 39 [.val H.d, .val c] [.val H.d, .val c, .val (.int 1), .non] = .ok (.own (rnD R)) [.val H.d, .val c, .val (.int 1), .non]) :
    ∃ u, evS (callsOf prog n) l_again_1 [.val H.d, .val c, .val (.int 1), .non] = .nx [.val H.d, .val c, .val (.int (manyR R : Nat)), u] ∧ manyR R ≤ 2 ^ 36 := by
  unfold l_again_1
  obtain ⟨ρf, ⟨Q, m, s, u, h1, h2, h3, h4, h5, rfl⟩, h6⟩ := for_run (Φ := callsOf prog n) (ρ := [.val H.d, .val c, .val (.int 1), .non]) (ρ1 := [.val H.d, .val c, .val (.int 1), .non]) (os := [.own (rnD R)]) (items := R.map fun l => .lst (l.map iD)) (hide := false) (tg := [3]) (sk := .it) (src := [.call false 39 [.var 0, .var 1]])
    (body := [.asg 2 (.bin .fdiv (.bin .mul (.var 2) (.bi .len [.var 3])) (.call true 41 [.var 2, .bi .len [.var 3]]))])
    (fun items ρ => ∃ (Q : List (List Nat)) (m s : Nat) (u : Sl), items = Q.map (fun l => .lst (l.map iD)) ∧ Q.foldl (fun m l => Nat.lcm m l.length) m = manyR R ∧ m ≤ 2 ^ s ∧ s + Q.flatten.length ≤ 36 ∧ (0 < m ∧ ∀ l ∈ Q, 0 < l.length) ∧ ρ = [.val H.d, .val c, .val (.int (m : Nat)), u])
    (by simp [b_var, cR]) rfl ⟨R, 1, 0, .non, rfl, rfl, Nat.le_refl _, by omega, ⟨by decide, hp⟩, rfl⟩ (by
      rintro d ds ρ ⟨Q, m, s, u, h1, h2, h3, h4, h5, rfl⟩
      cases Q with
      | nil => simp at h1
      | cons l Q =>
        simp only [List.map_cons, List.cons.injEq] at h1
        obtain ⟨rfl, rfl⟩ := h1
        obtain ⟨h5, h7⟩ := h5
        have hl := h7 l (List.mem_cons_self ..)
        rw [List.flatten_cons, List.length_append] at h4
        have ec : callAt prog n 41 [.val (.int m), .val (.int (l.length : Nat))] = .ok (.int (Nat.gcd m l.length : Nat)) false .non := s_common n m l.length (by omega)
        have c41 : ∀ ρ, callE (callsOf prog n) true 41 [.val (.int m), .val (.int (l.length : Nat))] ρ = .ok (.val (.int (Nat.gcd m l.length : Nat))) ρ := fun ρ => lent (F := f_common) rfl rfl ec rfl
        have h0 : 0 < Nat.gcd m l.length := Nat.gcd_pos_of_pos_left _ h5
        have hg : Nat.gcd m l.length ≤ 36 := Nat.le_trans (Nat.gcd_le_right _ hl) (by omega)
        have hm : m ≤ 2 ^ 36 := Nat.le_trans h3 (Nat.pow_le_pow_right (by decide) (by omega))
        have f1 : fits (m : Int) = true := fits36 (Nat.le_trans hm (by decide))
        have f2 : fits (l.length : Int) = true := fits36 (Nat.le_trans (show l.length ≤ 36 by omega) (by decide))
        have f3 : fits ((Nat.gcd m l.length : Nat) : Int) = true := fits36 (Nat.le_trans hg (by decide))
        have h0' : (0 : Int) < ((Nat.gcd m l.length : Nat) : Int) := by omega
        have el : ((m : Int) * (l.length : Int)) / ((Nat.gcd m l.length : Nat) : Int) = ((Nat.lcm m l.length : Nat) : Int) := by
          unfold Nat.lcm
          rw [Int.natCast_ediv, Int.natCast_mul]
        refine ⟨[.val H.d, .val c, .val (.int (m : Nat)), .val (.lst (l.map iD))], [.val H.d, .val c, .val (.int (Nat.lcm m l.length : Nat)), .val (.lst (l.map iD))], rfl, ?_, Q, _, s + l.length, _, rfl, h2, lcm_le2 _ _ _ h3, by omega, ⟨Nat.lcm_pos h5 hl, fun x hx => h7 x (List.mem_cons_of_mem _ hx)⟩, rfl⟩
        simp [b_var, intv, c41, bin2, f1, f2, f3, h5, el])
  have hq : Q = [] := by simpa using h1.symm
  subst hq
  have hm : m = manyR R := h2
  subst hm
  exact ⟨u, h6, Nat.le_trans h3 (Nat.pow_le_pow_right (by decide) (by simpa using h4))⟩
theorem s_again (H : House) (R : List (List Nat)) (M : List Nat) (hR : Rounds H.n M R) (h36 : H.n ≤ 36) (row : List Sd) (hr : RowOk H row)
    (eR : callAt prog 38 39 [.val H.d, .val (rowD row)] = .ok (rnD R) true .non) : manyR R ≤ 2 ^ 36 ∧ callAt prog 39 42 [.val H.d, .val (rowD row)] = .ok (.int (manyR R : Nat)) false .non := by
  rw [call_eq prog 38 42 _ f_again rfl rfl rfl]
  have cR : ∀ ρ, callE (callsOf prog 38) false 39 [.val H.d, .val (rowD row)] ρ = .ok (.own (rnD R)) ρ := fun ρ => by
    have := callE_own (prog := prog) (n := 38) (f := 39) (os := [.val H.d, .val (rowD row)]) (ρ := ρ) (F := f_rounds_of) (z := .non) rfl rfl eR
    simpa using this
  obtain ⟨u, e, hm⟩ := t_again_1 38 (by decide) H R hR.pos (by rw [hR.perm.length_eq, List.length_range]; exact h36) (rowD row) (cR _)
  refine ⟨hm, ?_⟩
  have c5 := fun ρ => c_need_house 34 ρ H
  have c10 := fun ρ => c_need_row 35 ρ H row hr
  simp [f_again, List.replicate, b_var, b_lp, c5, c10, e, endC]
/-! ### the primes of a number -/
theorem gtI (a b : Int) : cmp2 .gt (.int a) (.int b) = some (decide (b < a)) := by
  simp [cmp2, alike_int, lt_int, isNon, plain2]
theorem eqI (a b : Int) : cmp2 .eq (.int a) (.int b) = some (decide (a = b)) := by
  simp [cmp2, plain2]
  rfl
structure PrS (many N o : Nat) (f : List Nat) : Prop where
  pos : 0 < N
  dv : N ∣ many
  two : 2 ≤ o
  no : ∀ d, 2 ≤ d → d < o → ¬ d ∣ N
  fd : ∀ p ∈ f, 2 ≤ p ∧ p ≤ 36 ∧ p ∣ many
theorem t_primes (n : Nat) (R : List (List Nat)) (hR : ∀ l ∈ R, 0 < l.length ∧ l.length ≤ 36) (hm : manyR R ≤ 2 ^ 36) (h0 : 0 < manyR R) :
    ∃ (f : List Nat) (x o : Sl), (∀ p ∈ f, 2 ≤ p ∧ p ≤ 36 ∧ p ∣ manyR R) ∧ f.length ≤ 36 ∧ evS (callsOf prog n) l_law_primes_1 [.val (iD (manyR R)), .own (.lst []), .val (.int 2)] = .nx [x, .own (.lst (f.map iD)), o] := by
  unfold l_law_primes_1
  obtain ⟨⟨N, o, f⟩, j', j'', ⟨h1, h2, h3⟩, he, h4⟩ := while_run (Φ := callsOf prog n) (c := .cmp .gt (.var 0) (.int 1))
    (body := [.ite (.cmp .eq (.bin .mod (.var 0) (.var 2)) (.int 0))
     [.expr (.append 1 (.var 2)),
      .asg 0 (.bin .fdiv (.var 0) (.var 2))]
     [.asg 2 (.bin .add (.var 2) (.int 1))]]) (σ := Nat × Nat × List Nat) (J := Unit)
    (fun s _ => [.val (iD s.1), .own (.lst (s.2.2.map iD)), .val (iD s.2.1)])
    (fun s => PrS (manyR R) s.1 s.2.1 s.2.2 ∧ s.1 * 2 ^ s.2.2.length ≤ 2 ^ 36 ∧ s.2.1 ≤ 37) (fun s => (37 - s.2.1) + (36 - s.2.2.length)) (by
      rintro ⟨N, o, f⟩ j ⟨hp, hs, ho⟩
      have hp : PrS (manyR R) N o f := hp
      have hs : N * 2 ^ f.length ≤ 2 ^ 36 := hs
      have ho : o ≤ 37 := ho
      by_cases hN : N ≤ 1
      · refine .inl ⟨(), ?_⟩
        simp [b_var, gtI, eqI, blv, iD]
        omega
      · obtain ⟨d, d1, d2, d3⟩ := many_smooth R hR N hp.dv (by omega)
        have hod : o ≤ d := Nat.le_of_not_lt fun h => hp.no d d1 h d3
        have ho2 := hp.two
        have o0 : 0 < o := by omega
        have lf : f.length < 36 := by
          have : 2 ^ (f.length + 1) ≤ 2 ^ 36 := by
            rw [Nat.pow_succ, Nat.mul_comm]
            exact Nat.le_trans (Nat.mul_le_mul_right _ (by omega)) hs
          have := (Nat.pow_le_pow_iff_right (by decide)).mp this
          omega
        have hlt : (1 : Int) < (N : Nat) := by omega
        have fo : fits (o : Int) = true := fits36 (Nat.le_trans (show o ≤ 36 by omega) (by decide))
        right
        by_cases hd : o ∣ N
        · obtain ⟨c, hc⟩ := hd
          have hc0 : 0 < c := by
            rcases Nat.eq_zero_or_pos c with h | h
            · subst h; have := hp.pos; omega
            · exact h
          have hdiv : (N : Int) / (o : Int) = ((c : Nat) : Int) := by
            rw [hc, Int.natCast_mul]; exact Int.mul_ediv_cancel_left _ (by omega)
          have hmod : (N : Int) % (o : Int) = 0 := by rw [hc, Int.natCast_mul]; exact Int.mul_emod_right _ _
          refine ⟨_, (c, o, f ++ [o]), (), by simp [b_var, gtI, eqI, blv, iD, hlt]; rfl, ?_, ⟨⟨hc0, Nat.dvd_trans ⟨o, by rw [hc, Nat.mul_comm]⟩ hp.dv, ho2, fun e e1 e2 e3 => hp.no e e1 e2 (Nat.dvd_trans e3 ⟨o, by rw [hc, Nat.mul_comm]⟩), fun p hpm => ?_⟩, ?_, ho⟩, ?_⟩
          · simp [b_var, b_append, lstAt, ownL, LINE, bin2, gtI, eqI, blv, iD, o0, hmod, hdiv, fo, show f.length < 16777216 by omega]
          · rcases List.mem_append.mp hpm with h | h
            · exact hp.fd p h
            · rw [List.mem_singleton.mp h]
              exact ⟨ho2, by omega, Nat.dvd_trans ⟨c, hc⟩ hp.dv⟩
          · show c * 2 ^ (f ++ [o]).length ≤ 2 ^ 36
            refine Nat.le_trans ?_ hs
            rw [List.length_append, List.length_singleton, Nat.pow_succ, hc]
            have : c * (2 ^ f.length * 2) = (2 * c) * 2 ^ f.length := by rw [Nat.mul_comm (2 ^ f.length) 2, ← Nat.mul_assoc, Nat.mul_comm c 2]
            rw [this]
            exact Nat.mul_le_mul_right _ (Nat.mul_le_mul_right _ ho2)
          · show (37 - o) + (36 - (f ++ [o]).length) < (37 - o) + (36 - f.length)
            rw [List.length_append, List.length_singleton]
            omega
        · have hne : ¬ ((N : Int) % (o : Int) = 0) := fun h => hd (Int.natCast_dvd_natCast.mp (Int.dvd_of_emod_eq_zero h))
          have : o ≠ d := fun h => hd (h ▸ d3)
          refine ⟨_, (N, o + 1, f), (), by simp [b_var, gtI, eqI, blv, iD, hlt]; rfl, ?_, ⟨⟨hp.pos, hp.dv, Nat.le_succ_of_le ho2, fun e e1 e2 e3 => ?_, hp.fd⟩, hs, by show o + 1 ≤ 37; omega⟩, ?_⟩
          · simp [b_var, bin2, gtI, eqI, blv, iD, o0, hne]
          · by_cases h : e = o
            · exact hd (h ▸ e3)
            · exact hp.no e e1 (by have e2 : e < o + 1 := e2; omega) e3
          · show (37 - (o + 1)) + (36 - f.length) < (37 - o) + (36 - f.length)
            omega) (manyR R, 2, []) () ⟨⟨h0, Nat.dvd_refl _, Nat.le_refl _, fun d h1 h2 => absurd (show d < 2 from h2) (by omega), fun p h => absurd h (by simp)⟩, by simpa using hm, show (2 : Nat) ≤ 37 by decide⟩ (show (37 - 2) + (36 - 0) < TURNS by decide)
  refine ⟨f, _, _, h1.fd, ?_, h4⟩
  have h1p : 0 < N := h1.pos
  have h2 : N * 2 ^ f.length ≤ 2 ^ 36 := h2
  have : 2 ^ f.length ≤ 2 ^ 36 := Nat.le_trans (Nat.le_trans (Nat.le_of_eq (Nat.one_mul _).symm) (Nat.mul_le_mul_right _ h1p)) h2
  exact (Nat.pow_le_pow_iff_right (by decide)).mp this
end RR.B

/-! K03f: the law of k03, its loops. -/
namespace RR.B
theorem Oft.perm {H : House} {R : List (List Nat)} {M st res : List Nat} {m : Int} (hR : Rounds H.n M R) (hp : st.Perm (List.range H.n)) (h : Oft R m st res) : res.Perm (List.range H.n) := by
  refine (perm_of (hp.nodup_iff.mpr List.nodup_range) (fun x hx => ?_) h.len).trans hp
  obtain ⟨j, hj, rfl⟩ := mem_at st x hx
  have ls : st.length = H.n := by rw [hp.length_eq]; simp
  obtain ⟨l, hl, k, hk, rfl⟩ := hR.at (by rw [← ls]; exact hj)
  rw [← h.on l hl k hk]
  exact at_mem _ _ (by rw [h.len, ls]; exact hR.lt hl (tn_lt _ _ _ (by omega)))
theorem ft (H : House) (R : List (List Nat)) (M : List Nat) (hR : Rounds H.n M R) (row : List Sd) (hr : RowOk H row) (eR : callAt prog 38 39 [.val H.d, .val (rowD row)] = .ok (rnD R) true .non)
    (st : List Nat) (m : Int) (hp : st.Perm (List.range H.n)) (h1 : -1000000000000000000000000000000 ≤ m) (h2 : m ≤ 1000000000000000000000000000000) :
    ∃ res, Oft R m st res ∧ res.Perm (List.range H.n) ∧ ∀ os ρ, looks os ρ = [H.d, stD st, rowD row, .int m] → callE (callsOf prog 39) true 40 os ρ = .ok (.val (stD res)) ρ := by
  obtain ⟨res, ho, e⟩ := s_often H R M hR st row m hr hp h1 h2 eR
  refine ⟨res, ho, ho.perm hR hp, fun os ρ hl => lent (F := f_slid_often) rfl rfl (by rw [hl]; exact e) (noref_st _)⟩
theorem st_ne (a : List Nat) : cmp2 .ne (stD a) (stD a) = some false := by
  have := eq_refl' 29 _ (plain_st a)
  have pp : plainD deep (stD a) = true := by unfold stD; rw [p_tupd, plain_ints]
  simp [cmp2, plain2, pp, this]
theorem st_eqd (a b : List Nat) (h : a ≠ b) : cmp2 .eq (stD a) (stD b) = some false := by
  have p : ∀ l : List Nat, plainD deep (stD l) = true := fun l => by unfold stD; rw [p_tupd, plain_ints]
  have : eqD (stD a) (stD b) = false := by
    unfold stD
    rw [q_tup, eqs_ints]
    simpa using h
  simp [cmp2, plain2, p, this]
section
variable {H : House} {R : List (List Nat)} {M : List Nat} {row : List Sd}
theorem t_law03_1 (hR : Rounds H.n M R) (hM : M = run H (List.range H.n) row) (hr : RowOk H row) (eR : callAt prog 38 39 [.val H.d, .val (rowD row)] = .ok (rnD R) true .non) (st : List Nat) (hp : st.Perm (List.range H.n)) (x0 x1 x2 x5 x6 x7 x8 x11 x12 x13 x14 : Sl) : ∃ y4 y5,
    evS (callsOf prog 39) RR.l_law03_1 [x0, x1, x2, .val H.d, .val (stD st), x5, x6, x7, x8, .val (stD st), .own (rowD row), x11, x12, x13, x14] = .nx [x0, x1, x2, .val H.d, y4, y5, x6, x7, x8, .val (stD st), .own (rowD row), x11, x12, x13, x14] := by
  unfold RR.l_law03_1
  have ls : st.length = H.n := by rw [hp.length_eq]; simp
  obtain ⟨ρf, ⟨k, here, y5, h1, h2, h3, rfl⟩, e⟩ := for_run (Φ := callsOf prog 39) (ρ := [x0, x1, x2, .val H.d, .val (stD st), x5, x6, x7, x8, .val (stD st), .own (rowD row), x11, x12, x13, x14]) (ρ1 := [x0, x1, x2, .val H.d, .val (stD st), x5, x6, x7, x8, .val (stD st), .own (rowD row), x11, x12, x13, x14]) (hide := false) (tg := [5]) (sk := .range) (src := [.int 9]) (os := [.val (.int 9)]) (items := (List.range 9).map iD)
    (body := [.ite (.not (.call true 19 [.call true 40 [.var 3, .var 9, .var 10, .var 5], .var 4]))
       [.ret (.bl false)]
       [],
      .ite (.cmp .ne (.call true 40 [.var 3, .var 4, .var 10, .bin .sub (.int 0) (.var 5)]) (.var 9))
       [.ret (.bl false)]
       [],
      .asg 4 (.call true 25 [.var 3, .var 4, .var 10])])
    (fun items ρ => ∃ (k : Nat) (here : List Nat) (y5 : Sl), items = ((List.range 9).drop k).map iD ∧ Oft R (k : Int) st here ∧ here.Perm (List.range H.n) ∧ ρ = [x0, x1, x2, .val H.d, .val (stD here), y5, x6, x7, x8, .val (stD st), .own (rowD row), x11, x12, x13, x14])
    (by simp) rfl ⟨0, st, x5, rfl, Oft.zero st, hp, rfl⟩ (by
      rintro d ds ρ ⟨k, here, y5, h1, h2, h3, rfl⟩
      have hk : k < 9 := Decidable.byContradiction fun h => by
        rw [List.drop_eq_nil_of_le (by simp; omega)] at h1
        cases h1
      rw [List.drop_eq_getElem_cons (by simpa using hk), List.map_cons, List.getElem_range] at h1
      injection h1 with h1 h1'
      subst h1 h1'
      have lh : here.length = H.n := by rw [h3.length_eq]; simp
      obtain ⟨r1, o1, p1, c1⟩ := ft H R M hR row hr eR st k hp (by omega) (by omega)
      obtain ⟨r2, o2, p2, c2⟩ := ft H R M hR row hr eR here (0 - (k : Int)) h3 (by omega) (by omega)
      have e1 := Oft.uniq hR ls o1 h2
      subst e1
      have e2 : r2 = st := by
        have := Oft.add h2 o2
        rw [show (k : Int) + (0 - (k : Int)) = 0 by omega] at this
        exact Oft.uniq hR ls this (Oft.zero st)
      subst e2
      have o3 := Oft.once hR (by rw [hM]; have := (run_perm H row _ hr.mem (List.Perm.refl _)).length_eq; simpa using this) lh
      rw [hM, ← run_by H r1 row hr.mem h3] at o3
      have s6 := f_law_slid_call H r1 row hr h3
      have m1 := f_same_call _ (plain_st r1)
      have z1 : callE (callsOf prog 39) true 40 [.val H.d, .val (stD r2), .pl 10, .val (iD k)] [x0, x1, x2, .val H.d, .val (stD r1), .val (iD k), x6, x7, x8, .val (stD r2), .own (rowD row), x11, x12, x13, x14] = .ok (.val (stD r1)) [x0, x1, x2, .val H.d, .val (stD r1), .val (iD k), x6, x7, x8, .val (stD r2), .own (rowD row), x11, x12, x13, x14] := c1 _ _ rfl
      have z2 : callE (callsOf prog 39) true 40 [.val H.d, .val (stD r1), .pl 10, .val (.int (0 - (k : Int)))] [x0, x1, x2, .val H.d, .val (stD r1), .val (iD k), x6, x7, x8, .val (stD r2), .own (rowD row), x11, x12, x13, x14] = .ok (.val (stD r2)) [x0, x1, x2, .val H.d, .val (stD r1), .val (iD k), x6, x7, x8, .val (stD r2), .own (rowD row), x11, x12, x13, x14] := c2 _ _ rfl
      have z3 : callE (callsOf prog 39) true 25 [.val H.d, .val (stD r1), .pl 10] [x0, x1, x2, .val H.d, .val (stD r1), .val (iD k), x6, x7, x8, .val (stD r2), .own (rowD row), x11, x12, x13, x14] = .ok (.val (stD (run H r1 row))) [x0, x1, x2, .val H.d, .val (stD r1), .val (iD k), x6, x7, x8, .val (stD r2), .own (rowD row), x11, x12, x13, x14] := s6 _ _ rfl
      have z4 : ∀ ρ, callE (callsOf prog 39) true 19 [.val (stD r1), .val (stD r1)] ρ = .ok (.val (.bl true)) ρ := fun ρ => m1 _ _ rfl
      have b1 : bin2 .sub (.int 0) (iD k) = some (.val (.int (0 - (k : Int)))) := rfl
      refine ⟨[x0, x1, x2, .val H.d, .val (stD r1), .val (iD k), x6, x7, x8, .val (stD r2), .own (rowD row), x11, x12, x13, x14], [x0, x1, x2, .val H.d, .val (stD (run H r1 row)), .val (iD k), x6, x7, x8, .val (stD r2), .own (rowD row), x11, x12, x13, x14], rfl, ?_, k + 1, _, _, rfl, by have := Oft.add h2 o3; rw [show ((k + 1 : Nat) : Int) = (k : Int) + 1 by omega]; exact this, run_perm H row _ hr.mem h3, rfl⟩
      simp only [b_ss, b_ss0, b_ite, b_not, b_cmp, b_asg, b_call, b_l, b_l0, b_bin, b_int, b_var, b_g0, b_gS, b_bind, b_out, b_obind, b_lv, z1, z4, b_br, Bool.not_true, Bool.false_eq_true, if_false, b1, b_okS, z2, st_ne, Option.map_some, blv, z3, b_pv, b_s0, b_sS])
  exact ⟨_, _, e⟩
theorem t_law03_2 (hR : Rounds H.n M R) (hr : RowOk H row) (eR : callAt prog 38 39 [.val H.d, .val (rowD row)] = .ok (rnD R) true .non) (st : List Nat) (hp : st.Perm (List.range H.n)) (ms : List Nat) (hm : manyR R ≤ 2 ^ 36) (h0 : 0 < manyR R) (hms : ∀ p ∈ ms, 2 ≤ p ∧ p ≤ 36 ∧ p ∣ manyR R) (h43 : callAt prog 39 43 [.val (iD (manyR R))] = .ok (.lst (ms.map iD)) true .non) (x0 x1 x2 x4 x5 x7 x8 x11 x12 x13 x14 : Sl) : ∃ y7,
    evS (callsOf prog 39) RR.l_law03_2 [x0, x1, x2, .val H.d, x4, x5, .val (iD (manyR R)), x7, x8, .val (stD st), .own (rowD row), x11, x12, x13, x14] = .nx [x0, x1, x2, .val H.d, x4, x5, .val (iD (manyR R)), y7, x8, .val (stD st), .own (rowD row), x11, x12, x13, x14] := by
  unfold RR.l_law03_2
  have c43 : ∀ ρ, callE (callsOf prog 39) false 43 [.val (iD (manyR R))] ρ = .ok (.own (.lst (ms.map iD))) ρ := fun ρ => callE_own (F := f_law_primes) (z := .non) rfl rfl h43
  obtain ⟨ρf, ⟨r, y7, h1, h2, rfl⟩, e⟩ := for_run (Φ := callsOf prog 39) (ρ := [x0, x1, x2, .val H.d, x4, x5, .val (iD (manyR R)), x7, x8, .val (stD st), .own (rowD row), x11, x12, x13, x14]) (ρ1 := [x0, x1, x2, .val H.d, x4, x5, .val (iD (manyR R)), x7, x8, .val (stD st), .own (rowD row), x11, x12, x13, x14]) (hide := false) (tg := [7]) (sk := .it) (src := [.call false 43 [.var 6]]) (os := [.own (.lst (ms.map iD))]) (items := ms.map iD)
    (body := [.ite (.cmp .eq (.call true 40 [.var 3, .var 9, .var 10, .bin .fdiv (.var 6) (.var 7)]) (.var 9))
       [.ret (.bl false)]
       []])
    (fun items ρ => ∃ (r : List Nat) (y7 : Sl), items = r.map iD ∧ (∀ p ∈ r, p ∈ ms) ∧ ρ = [x0, x1, x2, .val H.d, x4, x5, .val (iD (manyR R)), y7, x8, .val (stD st), .own (rowD row), x11, x12, x13, x14])
    (by simp [b_var, c43]) rfl ⟨ms, x7, rfl, fun _ h => h, rfl⟩ (by
      rintro d ds ρ ⟨r, y7, h1, h2, rfl⟩
      cases r with
      | nil => simp at h1
      | cons p r =>
        simp only [List.map_cons, List.cons.injEq] at h1
        obtain ⟨rfl, rfl⟩ := h1
        obtain ⟨p2, p36, c, hc⟩ := hms p (h2 p (List.mem_cons_self ..))
        have hcp : 0 < c := by
          rcases Nat.eq_zero_or_pos c with h | h
          · subst h; omega
          · exact h
        have hcl : c < manyR R := by
          rw [hc]
          have := Nat.mul_le_mul_right c p2
          omega
        have hdiv : ((manyR R : Nat) : Int) / (p : Int) = ((c : Nat) : Int) := by
          rw [hc, Int.natCast_mul]; exact Int.mul_ediv_cancel_left _ (by omega)
        have fp : fits (p : Int) = true := fits36 (Nat.le_trans p36 (by decide))
        have b1 : bin2 .fdiv (iD (manyR R)) (iD p) = some (.val (.int ((c : Nat) : Int))) := by
          show (if 0 < (p : Int) ∧ fits (p : Int) = true then some (Opd.val (.int (((manyR R : Nat) : Int) / (p : Int)))) else none) = _
          rw [if_pos ⟨by omega, fp⟩, hdiv]
        obtain ⟨r1, o1, p1, c1⟩ := ft H R M hR row hr eR st (c : Int) hp (by omega) (by omega)
        have hne : r1 ≠ st := fun h => by
          rw [h] at o1
          have hw := Oft.whole hR hp o1
          obtain ⟨_, _, h3, _, _⟩ := many_props R 1
          have := h3 c (Nat.one_dvd c) fun l hl => Int.natCast_dvd_natCast.mp (hw l hl)
          have := Nat.le_of_dvd hcp this
          unfold manyR at hcl
          omega
        have z1 : callE (callsOf prog 39) true 40 [.val H.d, .val (stD st), .pl 10, .val (.int ((c : Nat) : Int))] [x0, x1, x2, .val H.d, x4, x5, .val (iD (manyR R)), .val (iD p), x8, .val (stD st), .own (rowD row), x11, x12, x13, x14] = .ok (.val (stD r1)) [x0, x1, x2, .val H.d, x4, x5, .val (iD (manyR R)), .val (iD p), x8, .val (stD st), .own (rowD row), x11, x12, x13, x14] := c1 _ _ rfl
        have z2 := st_eqd r1 st hne
        refine ⟨[x0, x1, x2, .val H.d, x4, x5, .val (iD (manyR R)), .val (iD p), x8, .val (stD st), .own (rowD row), x11, x12, x13, x14], [x0, x1, x2, .val H.d, x4, x5, .val (iD (manyR R)), .val (iD p), x8, .val (stD st), .own (rowD row), x11, x12, x13, x14], rfl, ?_, r, _, rfl, fun q hq => h2 q (List.mem_cons_of_mem _ hq), rfl⟩
        simp only [b_ss, b_ss0, b_ite, b_not, b_cmp, b_asg, b_call, b_l, b_l0, b_bin, b_int, b_var, b_g0, b_gS, b_bind, b_out, b_obind, b_lv, z1, b_br, Bool.not_true, Bool.false_eq_true, if_false, b1, b_okS, z2, Option.map_some, blv])
  exact ⟨_, e⟩
end
end RR.B

/-! K03g: the law of k03. -/
namespace RR.B
theorem pow30 : bin2 .pow (.int 10) (.int 30) = some (.val (.int 1000000000000000000000000000000)) := by simp [bin2]
theorem pow20 : bin2 .pow (.int 10) (.int 20) = some (.val (.int 100000000000000000000)) := by simp [bin2]
theorem pow9 : bin2 .pow (.int 10) (.int 9) = some (.val (.int 1000000000)) := by simp [bin2]
section
variable {H : House} {R : List (List Nat)} {M : List Nat} {row : List Sd}
def body03_3 : List St := match RR.l_law03_3 with | .for _ _ _ _ b => b | _ => []
theorem turn03_3 (hR : Rounds H.n M R) (hr : RowOk H row) (eR : callAt prog 38 39 [.val H.d, .val (rowD row)] = .ok (rnD R) true .non) (st : List Nat) (hp : st.Perm (List.range H.n)) (hm : manyR R ≤ 2 ^ 36) (h0 : 0 < manyR R)
    (k : Nat) (d : D) (hd : Dk k d) (hk : k < 100000) (x0 x1 x4 x5 x7 x8 x11 x12 x13 x14 : Sl) : ∃ d' y11 y12 y13 y14, Dk (k + 3) d' ∧
    evSs (callsOf prog 39) body03_3 [x0, x1, .own d, .val H.d, x4, x5, .val (iD (manyR R)), x7, x8, .val (stD st), .own (rowD row), x11, x12, x13, x14] = .nx [x0, x1, .own d', .val H.d, x4, x5, .val (iD (manyR R)), x7, x8, .val (stD st), .own (rowD row), y11, y12, y13, y14] := by
  obtain ⟨q, d1, e1, hq, k1⟩ := s_law_pick 38 _ d 1000000000 hd (by omega) (by omega) (by omega)
  obtain ⟨x, d2, e2, hx, k2⟩ := s_law_one 37 _ d1 (.lst [.int 1000000000000000000000000000000, .int (-1000000000000000000000000000000), .int ((q : Int) * 100000000000000000000)]) [.int 1000000000000000000000000000000, .int (-1000000000000000000000000000000), .int ((q : Int) * 100000000000000000000)] (.inl rfl) k1 (by omega) (by simp) (by simp)
  have hfar : ∃ far : Int, x = .int far ∧ -1000000000000000000000000000000 ≤ far ∧ far ≤ 1000000000000000000000000000000 := by
    simp only [List.mem_cons, List.not_mem_nil, or_false] at hx
    rcases hx with rfl | rfl | rfl
    · exact ⟨_, rfl, by omega, by omega⟩
    · exact ⟨_, rfl, by omega, by omega⟩
    · exact ⟨_, rfl, by omega, by omega⟩
  obtain ⟨far, rfl, f1, f2⟩ := hfar
  obtain ⟨less, d3, e3, hl, k3⟩ := s_law_pick 38 _ d2 99 k2 (by omega) (by omega) (by omega)
  have ls : st.length = H.n := by rw [hp.length_eq]; simp
  have hmi : (0 : Int) < ((manyR R : Nat) : Int) := by omega
  have m0 := Int.emod_nonneg far (b := ((manyR R : Nat) : Int)) (by omega)
  have m1 := Int.emod_lt_of_pos far hmi
  obtain ⟨r1, o1, p1, c1⟩ := ft H R M hR row hr eR st far hp f1 f2
  obtain ⟨r2, o2, p2, c2⟩ := ft H R M hR row hr eR st (far % ((manyR R : Nat) : Int)) hp (by omega) (by omega)
  obtain ⟨r3, o3, p3, c3⟩ := ft H R M hR row hr eR st (far / 2) hp (by omega) (by omega)
  obtain ⟨r4, o4, p4, c4⟩ := ft H R M hR row hr eR r3 (less : Int) p3 (by omega) (by omega)
  obtain ⟨r5, o5, p5, c5⟩ := ft H R M hR row hr eR st (far / 2 + (less : Int)) hp (by omega) (by omega)
  have q1 : r2 = r1 := Oft.uniq hR ls (Oft.mod (fun l hl => Int.natCast_dvd_natCast.mpr ((many_props R 1).2.1 l hl)) o2) o1
  have q2 : r5 = r4 := Oft.uniq hR ls o5 (Oft.add o3 o4)
  subst q1 q2
  have b1 : bin2 .mul (.int (q : Int)) (.int 100000000000000000000) = some (.val (.int ((q : Int) * 100000000000000000000))) := by
    have g1 : fits (q : Int) = true := fits36 (Nat.le_trans (Nat.le_of_lt hq) (by decide))
    have g2 : fits 100000000000000000000 = true := by decide +kernel
    simp [bin2, g1, g2]
  have b2 : bin2 .mod (.int far) (iD (manyR R)) = some (.val (.int (far % ((manyR R : Nat) : Int)))) := by
    show (if 0 < ((manyR R : Nat) : Int) then _ else none) = _
    rw [if_pos hmi]
  have g3 : fits 2 = true := by decide +kernel
  have b3 : bin2 .fdiv (.int far) (.int 2) = some (.val (.int (far / 2))) := by simp [bin2, g3]
  have b4 : bin2 .add (.int (far / 2)) (.int (less : Int)) = some (.val (.int (far / 2 + (less : Int)))) := rfl
  have c16a : ∀ (a b : Sl) (ρ : Env), callE (callsOf prog 39) true 16 [.pl 2, .val (.int 1000000000)] (a :: b :: .own d :: ρ) = .ok (.val (.int q)) (a :: b :: .own d1 :: ρ) := fun a b ρ => io_call 16 f_law_pick true [.val (.int 1000000000)] d d1 (.int q) false 2 rfl rfl (a :: b :: .own d :: ρ) rfl rfl e1
  have c17 : ∀ (a b : Sl) (ρ : Env), callE (callsOf prog 39) false 17 [.pl 2, .own (.lst [.int 1000000000000000000000000000000, .int (-1000000000000000000000000000000), .int ((q : Int) * 100000000000000000000)])] (a :: b :: .own d1 :: ρ) = .ok (.val (.int far)) (a :: b :: .own d2 :: ρ) := fun a b ρ => io_call 17 f_law_one false [.own (.lst [.int 1000000000000000000000000000000, .int (-1000000000000000000000000000000), .int ((q : Int) * 100000000000000000000)])] d1 d2 (.int far) false 2 rfl rfl (a :: b :: .own d1 :: ρ) rfl rfl e2
  have c16b : ∀ (a b : Sl) (ρ : Env), callE (callsOf prog 39) true 16 [.pl 2, .val (.int 99)] (a :: b :: .own d2 :: ρ) = .ok (.val (.int less)) (a :: b :: .own d3 :: ρ) := fun a b ρ => io_call 16 f_law_pick true [.val (.int 99)] d2 d3 (.int less) false 2 rfl rfl (a :: b :: .own d2 :: ρ) rfl rfl e3
  have z1 : ∀ a b c e f g h i j k l m n, callE (callsOf prog 39) true 40 [.val H.d, .val (stD st), .pl 10, .val (.int far)] [a, b, c, e, f, g, h, i, j, k, .own (rowD row), l, m, n, x14] = .ok (.val (stD r2)) [a, b, c, e, f, g, h, i, j, k, .own (rowD row), l, m, n, x14] := fun a b c e f g h i j k l m n => c1 _ _ rfl
  have z2 : ∀ a b c e f g h i j k l m n, callE (callsOf prog 39) true 40 [.val H.d, .val (stD st), .pl 10, .val (.int (far % ((manyR R : Nat) : Int)))] [a, b, c, e, f, g, h, i, j, k, .own (rowD row), l, m, n, x14] = .ok (.val (stD r2)) [a, b, c, e, f, g, h, i, j, k, .own (rowD row), l, m, n, x14] := fun a b c e f g h i j k l m n => c2 _ _ rfl
  have z3 : ∀ a b c e f g h i j k l m n, callE (callsOf prog 39) true 40 [.val H.d, .val (stD st), .pl 10, .val (.int (far / 2))] [a, b, c, e, f, g, h, i, j, k, .own (rowD row), l, m, n, x14] = .ok (.val (stD r3)) [a, b, c, e, f, g, h, i, j, k, .own (rowD row), l, m, n, x14] := fun a b c e f g h i j k l m n => c3 _ _ rfl
  have z4 : ∀ a b c e f g h i j k l m n, callE (callsOf prog 39) true 40 [.val H.d, .val (stD r3), .pl 10, .val (.int (less : Int))] [a, b, c, e, f, g, h, i, j, k, .own (rowD row), l, m, n, x14] = .ok (.val (stD r5)) [a, b, c, e, f, g, h, i, j, k, .own (rowD row), l, m, n, x14] := fun a b c e f g h i j k l m n => c4 _ _ rfl
  have z5 : ∀ a b c e f g h i j k l m n o, callE (callsOf prog 39) true 40 [.val H.d, .val (stD st), .pl 10, .val (.int (far / 2 + (less : Int)))] [a, b, c, e, f, g, h, i, j, k, .own (rowD row), l, m, n, o] = .ok (.val (stD r5)) [a, b, c, e, f, g, h, i, j, k, .own (rowD row), l, m, n, o] := fun a b c e f g h i j k l m n o => c5 _ _ rfl
  have n1 := st_ne r2
  have n2 := st_ne r5
  refine ⟨d3, .val (.int far), .val (.int (far % ((manyR R : Nat) : Int))), .val (.int (less : Int)), .val (stD r5), k3, ?_⟩
  show evSs (callsOf prog 39) [.asg 11 (.call false 17 [.var 2, .lst [.bin .pow (.int 10) (.int 30), .neg (.bin .pow (.int 10) (.int 30)), .bin .mul (.call true 16 [.var 2, .bin .pow (.int 10) (.int 9)]) (.bin .pow (.int 10) (.int 20))]]),
      .asg 12 (.bin .mod (.var 11) (.var 6)),
      .ite (.cmp .ne (.call true 40 [.var 3, .var 9, .var 10, .var 11]) (.call true 40 [.var 3, .var 9, .var 10, .var 12]))
       [.ret (.bl false)]
       [],
      .asg 13 (.call true 16 [.var 2, .int 99]),
      .asg 14 (.call true 40 [.var 3, .call true 40 [.var 3, .var 9, .var 10, .bin .fdiv (.var 11) (.int 2)], .var 10, .var 13]),
      .ite (.cmp .ne (.call true 40 [.var 3, .var 9, .var 10, .bin .add (.bin .fdiv (.var 11) (.int 2)) (.var 13)]) (.var 14))
       [.ret (.bl false)]
       []] _ = _
  simp only [b_ss, b_ss0, b_ite, b_not, b_cmp, b_asg, b_call, b_l, b_l0, b_bin, b_int, b_var, b_g0, b_gS, b_bind, b_out, b_obind, b_lv, b_lo, b_lst, b_ls, b_ls0, b_fs, b_fs0, b_fv, b_neg, b_ir, pow30, pow20, pow9, c16a, b1, c17, c16b, z1, z2, z3, z4, z5, n1, n2, b_br, Bool.not_true, Bool.false_eq_true, if_false, b1, b2, b3, b4, b_okS, Option.map_some, blv, b_pv, b_s0, b_sS]
theorem t_law03_3 (hR : Rounds H.n M R) (hr : RowOk H row) (eR : callAt prog 38 39 [.val H.d, .val (rowD row)] = .ok (rnD R) true .non) (st : List Nat) (hp : st.Perm (List.range H.n)) (hm : manyR R ≤ 2 ^ 36) (h0 : 0 < manyR R)
    (k : Nat) (d : D) (hd : Dk k d) (hk : k < 50000) (x0 x1 x4 x5 x7 x8 x11 x12 x13 x14 : Sl) : ∃ d' y8 y11 y12 y13 y14, 
    evS (callsOf prog 39) RR.l_law03_3 [x0, x1, .own d, .val H.d, x4, x5, .val (iD (manyR R)), x7, x8, .val (stD st), .own (rowD row), x11, x12, x13, x14] = .nx [x0, x1, .own d', .val H.d, x4, x5, .val (iD (manyR R)), x7, y8, .val (stD st), .own (rowD row), y11, y12, y13, y14] := by
  obtain ⟨ρf, ⟨j, d', y8, y11, y12, y13, y14, h1, h2, rfl⟩, e⟩ := for_run (Φ := callsOf prog 39) (ρ := [x0, x1, .own d, .val H.d, x4, x5, .val (iD (manyR R)), x7, x8, .val (stD st), .own (rowD row), x11, x12, x13, x14]) (ρ1 := [x0, x1, .own d, .val H.d, x4, x5, .val (iD (manyR R)), x7, x8, .val (stD st), .own (rowD row), x11, x12, x13, x14]) (hide := false) (tg := [8]) (sk := .range) (src := [.int 3]) (os := [.val (.int 3)]) (items := [.int 0, .int 1, .int 2])
    (body := body03_3)
    (fun items ρ => ∃ (j : Nat) (d' : D) (y8 y11 y12 y13 y14 : Sl), j + 3 * items.length ≤ k + 9 ∧ Dk j d' ∧ ρ = [x0, x1, .own d', .val H.d, x4, x5, .val (iD (manyR R)), x7, y8, .val (stD st), .own (rowD row), y11, y12, y13, y14])
    (by simp) rfl ⟨k, d, x8, x11, x12, x13, x14, by simp, hd, rfl⟩ (by
      rintro x xs ρ ⟨j, d', y8, y11, y12, y13, y14, h1, h2, rfl⟩
      simp only [List.length_cons] at h1
      obtain ⟨d2, z11, z12, z13, z14, hd2, e⟩ := turn03_3 hR hr eR st hp hm h0 j d' h2 (by omega) x0 x1 x4 x5 x7 (.val x) y11 y12 y13 y14
      exact ⟨_, _, rfl, e, j + 3, d2, _, _, _, _, _, by omega, hd2, rfl⟩)
  exact ⟨d', y8, y11, y12, y13, y14, e⟩
end
end RR.B

/-! K03h: the law of k03, whole. -/
namespace RR.B
theorem s_law_primes (n : Nat) (R : List (List Nat)) (hR : ∀ l ∈ R, 0 < l.length ∧ l.length ≤ 36) (hm : manyR R ≤ 2 ^ 36) (h0 : 0 < manyR R) :
    ∃ ms : List Nat, (∀ p ∈ ms, 2 ≤ p ∧ p ≤ 36 ∧ p ∣ manyR R) ∧ callAt prog (n + 1) 43 [.val (iD (manyR R))] = .ok (.lst (ms.map iD)) true .non := by
  obtain ⟨f, x, o, h1, h2, e⟩ := t_primes n R hR hm h0
  refine ⟨(List.range 37).filter f.contains, fun p hp => h1 p (by simpa using (List.mem_filter.mp hp).2), ?_⟩
  rw [call_eq prog n 43 _ f_law_primes rfl rfl rfl]
  have l37 : ((List.range 37).filter f.contains).length ≤ 37 := by
    have := List.length_filter_le f.contains (List.range 37)
    simpa using this
  have hs := sset_ints f ((List.range 37).filter f.contains) (List.Pairwise.filter _ List.pairwise_lt_range) (fun x => by
    simp only [List.mem_filter, List.mem_range, List.contains_iff_mem]
    exact ⟨fun h => ⟨by have := (h1 x h).2.1; omega, h⟩, fun h => h.2⟩) (by omega) (by omega)
  simp only [f_law_primes, List.replicate, b_ss, b_ss0, b_par, b_l, b_l0, b_lst, b_int, b_bind, b_out, b_obind, b_fv, b_fo, b_fs, b_fs0, b_ls0, List.append_eq, List.cons_append, List.nil_append, List.map_cons, List.map_nil]
  simp [unpl, putOs, e, b_var, b_lp, hs, endC, -List.contains_eq_mem]
theorem c_law_whole (k : Nat) (ρ : Env) : callE (callsOf prog 39) true 31 [.val (iD k)] ρ = .ok (.val (.bl true)) ρ := lent (F := f_law_whole) rfl rfl (by
  rw [call_eq prog 38 31 _ f_law_whole rfl rfl rfl]
  simp [f_law_whole, List.replicate, b_var, endC]
  rfl) rfl
def body03 : List St := match RR.l_law03_4 with | .for _ _ _ _ b => b | _ => []
theorem ltI (a b : Int) : cmp2 .lt (.int a) (.int b) = some (decide (a < b)) := by
  simp [cmp2, alike_int, lt_int, isNon, plain2]
theorem turn03 (scr : D) (c : Int) (t2 t3 t4 t5 t6 t7 t8 t9 t10 t11 t12 t13 t14 : Sl) : ∃ u2 u3 u4 u5 u6 u7 u8 u9 u10 u11 u12 u13 u14,
    evSs (callsOf prog 39) body03 [.val scr, .val (.int c), t2, t3, t4, t5, t6, t7, t8, t9, t10, t11, t12, t13, t14] = .nx [.val scr, .val (.int c), u2, u3, u4, u5, u6, u7, u8, u9, u10, u11, u12, u13, u14] := by
  obtain ⟨d0, k0, e0⟩ := s_law_deck 38 c 3
  obtain ⟨H, d1, k1, e1⟩ := s_law_house 35 3 d0 k0 (by omega)
  obtain ⟨st, d2, hp, k2, e2⟩ := s_law_stand 37 _ d1 H k1 (by omega)
  obtain ⟨row, d3, hr, k3, e3⟩ := s_law_row 9 (by omega) 36 _ d2 H k2 (by omega)
  obtain ⟨R, hR, eR⟩ := s_rounds 34 H row hr.mem
  have h36 : H.n ≤ 36 := H.n36
  have hl36 : ∀ l ∈ R, 0 < l.length ∧ l.length ≤ 36 := fun l hl => ⟨hR.pos l hl, by
    have : l.length ≤ R.flatten.length := by
      obtain ⟨a, b, rfl⟩ := List.append_of_mem hl
      simp
      omega
    rw [hR.perm.length_eq, List.length_range] at this
    omega⟩
  obtain ⟨hm, e42⟩ := s_again H R _ hR h36 row hr eR
  have h0 : 0 < manyR R := (many_props R 1).2.2.2.1 (fun l hl => (hl36 l hl).1) (by decide)
  obtain ⟨ms, hms, e43⟩ := s_law_primes 38 R hl36 hm h0
  have ls : st.length = H.n := by rw [hp.length_eq]; simp
  obtain ⟨r6, o6, p6, c6⟩ := ft H R _ hR row hr eR st ((manyR R : Nat) : Int) hp (by omega) (by omega)
  have q6 : r6 = st := Oft.uniq hR ls o6 (Oft.of_whole st fun l hl => Int.natCast_dvd_natCast.mpr ((many_props R 1).2.1 l hl))
  subst q6
  have c15 : ∀ ρ, callE (callsOf prog 39) false 15 [.val (.int c), .val (.int 3)] ρ = .ok (.own d0) ρ := fun ρ => callE_own (F := f_law_deck) (z := .non) rfl rfl e0
  have c21 : ∀ ρ, callE (callsOf prog 39) false 21 [] ρ = .ok (.own (.lst floors)) ρ := fun ρ => callE_own (F := f_law_great_floors) (z := .non) rfl rfl rfl
  have c20 : ∀ (a b : Sl) (ρ : Env), callE (callsOf prog 39) false 20 [.pl 2, .own (.lst floors), .val (.int 3)] (a :: b :: .own d0 :: ρ) = .ok (.val H.d) (a :: b :: .own d1 :: ρ) := fun a b ρ => io_call 20 f_law_house false [.own (.lst floors), .val (.int 3)] d0 d1 H.d false 2 rfl rfl (a :: b :: .own d0 :: ρ) rfl rfl e1
  have c22 : ∀ (a b : Sl) (ρ : Env), callE (callsOf prog 39) false 22 [.pl 2, .val H.d] (a :: b :: .own d1 :: ρ) = .ok (.val (stD r6)) (a :: b :: .own d2 :: ρ) := fun a b ρ => io_call 22 f_law_stand false [.val H.d] d1 d2 (stD r6) false 2 rfl rfl (a :: b :: .own d1 :: ρ) rfl rfl e2
  have c26 : ∀ (a b : Sl) (ρ : Env), callE (callsOf prog 39) false 26 [.pl 2, .val H.d, .val (.int 9)] (a :: b :: .own d2 :: ρ) = .ok (.own (rowD row)) (a :: b :: .own d3 :: ρ) := fun a b ρ => io_call 26 f_law_row false [.val H.d, .val (.int 9)] d2 d3 (rowD row) true 2 rfl rfl (a :: b :: .own d2 :: ρ) rfl rfl e3
  obtain ⟨y4, y5, g1⟩ := t_law03_1 hR rfl hr eR r6 hp (.val scr) (.val (.int c)) (.own d3) t5 t6 t7 t8 t11 t12 t13 t14
  have c42 : ∀ a b c' e f g h i j k l m n o, callE (callsOf prog 39) true 42 [.val H.d, .pl 10] [a, b, c', e, f, g, h, i, j, k, .own (rowD row), l, m, n, o] = .ok (.val (iD (manyR R))) [a, b, c', e, f, g, h, i, j, k, .own (rowD row), l, m, n, o] := fun a b c' e f g h i j k l m n o => lent (F := f_again) rfl rfl e42 rfl
  have z6 : ∀ a b c' e f g h i j k l m n o, callE (callsOf prog 39) true 40 [.val H.d, .val (stD r6), .pl 10, .val (iD (manyR R))] [a, b, c', e, f, g, h, i, j, k, .own (rowD row), l, m, n, o] = .ok (.val (stD r6)) [a, b, c', e, f, g, h, i, j, k, .own (rowD row), l, m, n, o] := fun a b c' e f g h i j k l m n o => c6 _ _ rfl
  have c31 := c_law_whole (manyR R)
  have lt1 : cmp2 .lt (iD (manyR R)) (.int 1) = some false := by
    rw [show iD (manyR R) = .int ((manyR R : Nat) : Int) from rfl, ltI]
    congr 1
    rw [decide_eq_false_iff_not]
    omega
  obtain ⟨y7, g2⟩ := t_law03_2 hR hr eR r6 hp ms hm h0 hms e43 (.val scr) (.val (.int c)) (.own d3) y4 y5 t7 t8 t11 t12 t13 t14
  obtain ⟨d4, y8, y11, y12, y13, y14, g3⟩ := t_law03_3 hR hr eR r6 hp hm h0 _ d3 k3 (by omega) (.val scr) (.val (.int c)) y4 y5 y7 t8 t11 t12 t13 t14
  refine ⟨.own d4, .val H.d, y4, y5, .val (iD (manyR R)), y7, y8, .val (stD r6), .own (rowD row), y11, y12, y13, y14, ?_⟩
  show evSs (callsOf prog 39) [.asg 2 (.call false 15 [.var 1, .int 3]),
    .asg 3 (.call false 20 [.var 2, .call false 21 [], .int 3]),
    .par [9, 10] [.call false 22 [.var 2, .var 3], .call false 26 [.var 2, .var 3, .int 9]],
    .asg 4 (.var 9),
    RR.l_law03_1,
    .asg 6 (.call true 42 [.var 3, .var 10]),
    .ite (.or (.not (.call true 31 [.var 6])) (.or (.cmp .lt (.var 6) (.int 1)) (.cmp .ne (.call true 40 [.var 3, .var 9, .var 10, .var 6]) (.var 9))))
     [.ret (.bl false)]
     [],
    RR.l_law03_2,
    RR.l_law03_3] _ = _
  simp only [b_ss, b_ss0, b_ite, b_not, b_cmp, b_asg, b_call, b_par, b_or, b_l, b_l0, b_bin, b_int, b_var, b_g0, b_gS, b_bind, b_out, b_obind, b_lv, b_lo, c15, b_po, b_pv, b_s0, b_sS, c21, c20, c22, c26, List.map_cons, List.map_nil, unpl, b_fs, b_fs0, b_fv, b_fo, putOs, b_oS, g1, c42, c31, b_br, Bool.not_true, Bool.false_eq_true, if_false, lt1, Option.map_some, blv, b_okS, z6, st_ne, g2, g3]
theorem loop03 (ns : List Int) (h : ns.length ≤ 63) (t1 t2 t3 t4 t5 t6 t7 t8 t9 t10 t11 t12 t13 t14 : Sl) : ∃ ρ,
    evS (callsOf prog 39) RR.l_law03_4 [.val (.lst (ns.map .int)), t1, t2, t3, t4, t5, t6, t7, t8, t9, t10, t11, t12, t13, t14] = .nx ρ := by
  have hL : 1 + ns.length ≤ LINE := by unfold LINE; omega
  have q := for_run (Φ := callsOf prog 39) (ρ := [.val (.lst (ns.map .int)), t1, t2, t3, t4, t5, t6, t7, t8, t9, t10, t11, t12, t13, t14]) (ρ1 := [.val (.lst (ns.map .int)), t1, t2, t3, t4, t5, t6, t7, t8, t9, t10, t11, t12, t13, t14]) (os := [.own (.lst (cut ((0 :: ns).map D.int) none (some 10)))]) (items := cut ((0 :: ns).map D.int) none (some 10)) (hide := false) (tg := [1]) (sk := .it) (src := [.slice (.bin .add (.lst [.int 0]) (.var 0)) [] [.int 10]])
    (body := body03)
    (fun items ρ => ∃ u1 u2 u3 u4 u5 u6 u7 u8 u9 u10 u11 u12 u13 u14, (∀ d ∈ items, ∃ i : Int, d = .int i) ∧ ρ = [.val (.lst (ns.map .int)), u1, u2, u3, u4, u5, u6, u7, u8, u9, u10, u11, u12, u13, u14])
    (by simp [b_var, bin2, hL, sliceD, optI]) rfl ⟨t1, t2, t3, t4, t5, t6, t7, t8, t9, t10, t11, t12, t13, t14, by
      intro d hd
      have := List.mem_of_mem_drop (List.mem_of_mem_take hd)
      obtain ⟨i, _, rfl⟩ := List.mem_map.mp this
      exact ⟨i, rfl⟩, rfl⟩ (by
      rintro x xs ρ ⟨u1, u2, u3, u4, u5, u6, u7, u8, u9, u10, u11, u12, u13, u14, h1, rfl⟩
      obtain ⟨i, rfl⟩ := h1 x (List.mem_cons_self ..)
      obtain ⟨v2, v3, v4, v5, v6, v7, v8, v9, v10, v11, v12, v13, v14, e⟩ := turn03 (.lst (ns.map .int)) i u2 u3 u4 u5 u6 u7 u8 u9 u10 u11 u12 u13 u14
      exact ⟨_, _, rfl, e, _, v2, v3, v4, v5, v6, v7, v8, v9, v10, v11, v12, v13, v14, fun d hd => h1 d (List.mem_cons_of_mem _ hd), rfl⟩)
  obtain ⟨ρf, _, e⟩ := q
  exact ⟨_, e⟩
theorem law_true (ns : List Int) (h : ns.length ≤ 63) : ∃ z, callAt prog 40 44 [.val (.lst (ns.map .int))] = .ok (.bl true) false z := by
  refine ⟨.non, ?_⟩
  rw [call_eq prog 39 44 _ f_law03 rfl rfl rfl]
  obtain ⟨ρ, e⟩ := loop03 ns h .non .non .non .non .non .non .non .non .non .non .non .non .non .non
  simp [f_law03, List.replicate, e, endC]
end RR.B
namespace RR
open PySem L2
theorem look_all_aux : True := trivial
def LookAll {α : Type} (p : Str → α → Prop) : List (Str × α) → Prop
  | [] => True
  | q :: r => p q.1 q.2 ∧ LookAll p r
theorem look_all {α : Type} {p : Str → α → Prop} : ∀ {l : List (Str × α)}, LookAll p l → ∀ x c, l.lookup x = some c → p x c
  | [], _, x, c, h => by cases h
  | (y, i) :: r, hd, x, c, h => by
    rw [List.lookup_cons] at h
    split at h
    · rename_i e
      have e : x = y := by simpa using e
      subst e
      cases h
      exact hd.1
    · exact look_all hd.2 x c h

def tab : Tab := ⟨["len", "sorted", "all", "list", "tuple", "int", "isinstance", "bool", "str", "range", "enumerate", "zip", "set"],
  ("is_from", 0) :: ("are_doors", 1) :: ("is_rail", 2) :: ("is_rising", 3) :: ("is_house", 4) :: ("need_house", 5) :: ("is_standing", 6) :: ("need_stand", 7) :: ("along", 8) :: ("is_row", 9) :: ("need_row", 10) :: ("one_slide", 11) :: ("by_row", 12) :: ("rounds_of", 39) :: ("slid_often", 40) :: ("common", 41) :: ("again", 42) :: ("_law_deck", 15) :: ("_law_pick", 16) :: ("_law_whole", 31) :: ("_law_one", 17) :: ("_law_sort", 18) :: ("_law_same", 19) :: ("_law_house", 20) :: ("_law_great_floors", 21) :: ("_law_stand", 22) :: ("_law_places", 23) :: ("_law_one_on", 24) :: ("_law_slid", 25) :: ("_law_row", 26) :: ("_law_primes", 43) :: ("law", 44) :: [],
  [("MOST", .inl 6), ("SIDES", .inr [110, 101, 115, 119]), ("FAR", .inl 1000000000000000000000000000000), ("MOST_SLIDES", .inl 30)],
  [("NoHouse", 1), ("NoStand", 2), ("NoRow", 3), ("NoTimes", 4)]⟩
def top (i : Nat) : Stmt := PySem.Challenge.pw_railrooms_k03_whole_however_often.main.body.getD i (.Pass ⟨0, 0, 0, 0⟩)
def nm0 : List Str := ["thing", "low", "high"]
theorem sc0 : FnScope nm0 ["thing", "low", "high"] (defScope (top 9)) := ⟨rfl, rfl, rfl, by decide +kernel, rfl, by decide +kernel, by decide +kernel⟩
theorem ck0 : chkSs tab nm0 (defScope (top 9)) (ioFix f_is_from.io) f_is_from.body (defBody (top 9)) = true := by decide +kernel
def nm1 : List Str := ["thing", "side", "sign"]
theorem sc1 : FnScope nm1 ["thing"] (defScope (top 10)) := ⟨rfl, rfl, rfl, by decide +kernel, rfl, by decide +kernel, by decide +kernel⟩
theorem ck1 : chkSs tab nm1 (defScope (top 10)) (ioFix f_are_doors.io) f_are_doors.body (defBody (top 10)) = true := by decide +kernel
def nm2 : List Str := ["wide", "high", "thing"]
theorem sc2 : FnScope nm2 ["wide", "high", "thing"] (defScope (top 11)) := ⟨rfl, rfl, rfl, by decide +kernel, rfl, by decide +kernel, by decide +kernel⟩
theorem ck2 : chkSs tab nm2 (defScope (top 11)) (ioFix f_is_rail.io) f_is_rail.body (defBody (top 11)) = true := by decide +kernel
def nm3 : List Str := ["things", "one", "other"]
theorem sc3 : FnScope nm3 ["things"] (defScope (top 12)) := ⟨rfl, rfl, rfl, by decide +kernel, rfl, by decide +kernel, by decide +kernel⟩
theorem ck3 : chkSs tab nm3 (defScope (top 12)) (ioFix f_is_rising.io) f_is_rising.body (defBody (top 12)) = true := by decide +kernel
def nm4 : List Str := ["thing", "wide", "high", "doors", "rails", "one", "rail"]
theorem sc4 : FnScope nm4 ["thing"] (defScope (top 13)) := ⟨rfl, rfl, rfl, by decide +kernel, rfl, by decide +kernel, by decide +kernel⟩
theorem ck4 : chkSs tab nm4 (defScope (top 13)) (ioFix f_is_house.io) f_is_house.body (defBody (top 13)) = true := by decide +kernel
def nm5 : List Str := ["house"]
theorem sc5 : FnScope nm5 ["house"] (defScope (top 14)) := ⟨rfl, rfl, rfl, by decide +kernel, rfl, by decide +kernel, by decide +kernel⟩
theorem ck5 : chkSs tab nm5 (defScope (top 14)) (ioFix f_need_house.io) f_need_house.body (defBody (top 14)) = true := by decide +kernel
def nm6 : List Str := ["house", "thing", "room"]
theorem sc6 : FnScope nm6 ["house", "thing"] (defScope (top 15)) := ⟨rfl, rfl, rfl, by decide +kernel, rfl, by decide +kernel, by decide +kernel⟩
theorem ck6 : chkSs tab nm6 (defScope (top 15)) (ioFix f_is_standing.io) f_is_standing.body (defBody (top 15)) = true := by decide +kernel
def nm7 : List Str := ["house", "stand"]
theorem sc7 : FnScope nm7 ["house", "stand"] (defScope (top 16)) := ⟨rfl, rfl, rfl, by decide +kernel, rfl, by decide +kernel, by decide +kernel⟩
theorem ck7 : chkSs tab nm7 (defScope (top 16)) (ioFix f_need_stand.io) f_need_stand.body (defBody (top 16)) = true := by decide +kernel
def nm8 : List Str := ["house", "rail", "wide", "high", "y", "x"]
theorem sc8 : FnScope nm8 ["house", "rail"] (defScope (top 17)) := ⟨rfl, rfl, rfl, by decide +kernel, rfl, by decide +kernel, by decide +kernel⟩
theorem ck8 : chkSs tab nm8 (defScope (top 17)) (ioFix f_along.io) f_along.body (defBody (top 17)) = true := by decide +kernel
def nm9 : List Str := ["house", "thing", "slide", "rail"]
theorem sc9 : FnScope nm9 ["house", "thing"] (defScope (top 21)) := ⟨rfl, rfl, rfl, by decide +kernel, rfl, by decide +kernel, by decide +kernel⟩
theorem ck9 : chkSs tab nm9 (defScope (top 21)) (ioFix f_is_row.io) f_is_row.body (defBody (top 21)) = true := by decide +kernel
def nm10 : List Str := ["house", "row"]
theorem sc10 : FnScope nm10 ["house", "row"] (defScope (top 22)) := ⟨rfl, rfl, rfl, by decide +kernel, rfl, by decide +kernel, by decide +kernel⟩
theorem ck10 : chkSs tab nm10 (defScope (top 22)) (ioFix f_need_row.io) f_need_row.body (defBody (top 22)) = true := by decide +kernel
def nm11 : List Str := ["house", "stand", "rail", "many", "places", "found", "at", "place"]
theorem sc11 : FnScope nm11 ["house", "stand", "rail", "many"] (defScope (top 23)) := ⟨rfl, rfl, rfl, by decide +kernel, rfl, by decide +kernel, by decide +kernel⟩
theorem ck11 : chkSs tab nm11 (defScope (top 23)) (ioFix f_one_slide.io) f_one_slide.body (defBody (top 23)) = true := by decide +kernel
def nm12 : List Str := ["house", "stand", "row", "rail", "many"]
theorem sc12 : FnScope nm12 ["house", "stand", "row"] (defScope (top 24)) := ⟨rfl, rfl, rfl, by decide +kernel, rfl, by decide +kernel, by decide +kernel⟩
theorem ck12 : chkSs tab nm12 (defScope (top 24)) (ioFix f_by_row.io) f_by_row.body (defBody (top 24)) = true := by decide +kernel
def nm39 : List Str := ["house", "row", "moved", "goal", "found", "seen", "place", "lot", "one", "at"]
theorem sc39 : FnScope nm39 ["house", "row"] (defScope (top 25)) := ⟨rfl, rfl, rfl, by decide +kernel, rfl, by decide +kernel, by decide +kernel⟩
theorem ck39 : chkSs tab nm39 (defScope (top 25)) (ioFix f_rounds_of.io) f_rounds_of.body (defBody (top 25)) = true := by decide +kernel
def nm40 : List Str := ["house", "stand", "row", "times", "found", "lot", "at", "place"]
theorem sc40 : FnScope nm40 ["house", "stand", "row", "times"] (defScope (top 26)) := ⟨rfl, rfl, rfl, by decide +kernel, rfl, by decide +kernel, by decide +kernel⟩
theorem ck40 : chkSs tab nm40 (defScope (top 26)) (ioFix f_slid_often.io) f_slid_often.body (defBody (top 26)) = true := by decide +kernel
def nm41 : List Str := ["one", "other"]
theorem sc41 : FnScope nm41 ["one", "other"] (defScope (top 27)) := ⟨rfl, rfl, rfl, by decide +kernel, rfl, by decide +kernel, by decide +kernel⟩
theorem ck41 : chkSs tab nm41 (defScope (top 27)) (ioFix f_common.io) f_common.body (defBody (top 27)) = true := by decide +kernel
def nm42 : List Str := ["house", "row", "found", "lot"]
theorem sc42 : FnScope nm42 ["house", "row"] (defScope (top 28)) := ⟨rfl, rfl, rfl, by decide +kernel, rfl, by decide +kernel, by decide +kernel⟩
theorem ck42 : chkSs tab nm42 (defScope (top 28)) (ioFix f_again.io) f_again.body (defBody (top 28)) = true := by decide +kernel
def nm15 : List Str := ["cell", "turn"]
theorem sc15 : FnScope nm15 ["cell", "turn"] (defScope (top 30)) := ⟨rfl, rfl, rfl, by decide +kernel, rfl, by decide +kernel, by decide +kernel⟩
theorem ck15 : chkSs tab nm15 (defScope (top 30)) (ioFix f_law_deck.io) f_law_deck.body (defBody (top 30)) = true := by decide +kernel
def nm16 : List Str := ["deck", "size", "number", "found"]
theorem sc16 : FnScope nm16 ["deck", "size"] (defScope (top 31)) := ⟨rfl, rfl, rfl, by decide +kernel, rfl, by decide +kernel, by decide +kernel⟩
theorem ck16 : chkSs tab nm16 (defScope (top 31)) (ioFix f_law_pick.io) f_law_pick.body (defBody (top 31)) = true := by decide +kernel
def nm31 : List Str := ["thing"]
theorem sc31 : FnScope nm31 ["thing"] (defScope (top 32)) := ⟨rfl, rfl, rfl, by decide +kernel, rfl, by decide +kernel, by decide +kernel⟩
theorem ck31 : chkSs tab nm31 (defScope (top 32)) (ioFix f_law_whole.io) f_law_whole.body (defBody (top 32)) = true := by decide +kernel
def nm17 : List Str := ["deck", "some"]
theorem sc17 : FnScope nm17 ["deck", "some"] (defScope (top 33)) := ⟨rfl, rfl, rfl, by decide +kernel, rfl, by decide +kernel, by decide +kernel⟩
theorem ck17 : chkSs tab nm17 (defScope (top 33)) (ioFix f_law_one.io) f_law_one.body (defBody (top 33)) = true := by decide +kernel
def nm18 : List Str := ["thing"]
theorem sc18 : FnScope nm18 ["thing"] (defScope (top 34)) := ⟨rfl, rfl, rfl, by decide +kernel, rfl, by decide +kernel, by decide +kernel⟩
theorem ck18 : chkSs tab nm18 (defScope (top 34)) (ioFix f_law_sort.io) f_law_sort.body (defBody (top 34)) = true := by decide +kernel
def nm19 : List Str := ["told", "due", "k", "part"]
theorem sc19 : FnScope nm19 ["told", "due"] (defScope (top 35)) := ⟨rfl, rfl, rfl, by decide +kernel, rfl, by decide +kernel, by decide +kernel⟩
theorem ck19 : chkSs tab nm19 (defScope (top 35)) (ioFix f_law_same.io) f_law_same.body (defBody (top 35)) = true := by decide +kernel
def nm20 : List Str := ["deck", "floors", "thick", "doors", "k", "rails", "much", "wide", "high", "x", "y", "rail", "side"]
theorem sc20 : FnScope nm20 ["deck", "floors", "thick"] (defScope (top 36)) := ⟨rfl, rfl, rfl, by decide +kernel, rfl, by decide +kernel, by decide +kernel⟩
theorem ck20 : chkSs tab nm20 (defScope (top 36)) (ioFix f_law_house.io) f_law_house.body (defBody (top 36)) = true := by decide +kernel
def nm21 : List Str := []
theorem sc21 : FnScope nm21 [] (defScope (top 37)) := ⟨rfl, rfl, rfl, by decide +kernel, rfl, by decide +kernel, by decide +kernel⟩
theorem ck21 : chkSs tab nm21 (defScope (top 37)) (ioFix f_law_great_floors.io) f_law_great_floors.body (defBody (top 37)) = true := by decide +kernel
def nm22 : List Str := ["deck", "house", "left", "found"]
theorem sc22 : FnScope nm22 ["deck", "house"] (defScope (top 38)) := ⟨rfl, rfl, rfl, by decide +kernel, rfl, by decide +kernel, by decide +kernel⟩
theorem ck22 : chkSs tab nm22 (defScope (top 38)) (ioFix f_law_stand.io) f_law_stand.body (defBody (top 38)) = true := by decide +kernel
def nm23 : List Str := ["house", "rail", "wide", "high", "place"]
theorem sc23 : FnScope nm23 ["house", "rail"] (defScope (top 39)) := ⟨rfl, rfl, rfl, by decide +kernel, rfl, by decide +kernel, by decide +kernel⟩
theorem ck23 : chkSs tab nm23 (defScope (top 39)) (ioFix f_law_places.io) f_law_places.body (defBody (top 39)) = true := by decide +kernel
def nm24 : List Str := ["house", "stand", "rail", "places", "found", "k", "place"]
theorem sc24 : FnScope nm24 ["house", "stand", "rail"] (defScope (top 40)) := ⟨rfl, rfl, rfl, by decide +kernel, rfl, by decide +kernel, by decide +kernel⟩
theorem ck24 : chkSs tab nm24 (defScope (top 40)) (ioFix f_law_one_on.io) f_law_one_on.body (defBody (top 40)) = true := by decide +kernel
def nm25 : List Str := ["house", "stand", "row", "rail", "many", "turn"]
theorem sc25 : FnScope nm25 ["house", "stand", "row"] (defScope (top 41)) := ⟨rfl, rfl, rfl, by decide +kernel, rfl, by decide +kernel, by decide +kernel⟩
theorem ck25 : chkSs tab nm25 (defScope (top 41)) (ioFix f_law_slid.io) f_law_slid.body (defBody (top 41)) = true := by decide +kernel
def nm26 : List Str := ["deck", "house", "most", "found", "turn", "many"]
theorem sc26 : FnScope nm26 ["deck", "house", "most"] (defScope (top 42)) := ⟨rfl, rfl, rfl, by decide +kernel, rfl, by decide +kernel, by decide +kernel⟩
theorem ck26 : chkSs tab nm26 (defScope (top 42)) (ioFix f_law_row.io) f_law_row.body (defBody (top 42)) = true := by decide +kernel
def nm43 : List Str := ["number", "found", "one"]
theorem sc43 : FnScope nm43 ["number"] (defScope (top 43)) := ⟨rfl, rfl, rfl, by decide +kernel, rfl, by decide +kernel, by decide +kernel⟩
theorem ck43 : chkSs tab nm43 (defScope (top 43)) (ioFix f_law_primes.io) f_law_primes.body (defBody (top 43)) = true := by decide +kernel
def nm44 : List Str := ["script", "cell", "deck", "house", "here", "times", "many", "one", "turn", "stand", "row", "far", "near", "less", "there"]
theorem sc44 : FnScope nm44 ["script"] (defScope (top 44)) := ⟨rfl, rfl, rfl, by decide +kernel, rfl, by decide +kernel, by decide +kernel⟩
theorem ck44 : chkSs tab nm44 (defScope (top 44)) (ioFix f_law03.io) f_law03.body (defBody (top 44)) = true := by decide +kernel
/-- a def, made by the top -/
theorem def_mk {K : PySem.W.Frag} {h : Heap} {mg : Str → Option Value} (X : K.In h) (G : h.Ns mainGlobals mg) {x : Str} {st : Stmt} {f : Addr} {oc : Value} {od an : Option Addr} {sl : Array (Option Value)} {kV dc pm cd ct : Value} {g : Nat} {F : Fn} {N ps : List Str}
    (hp : prog g = some F) (S : FnScope N ps (defScope st)) (h1 : ps.length = F.pars) (h2 : N.length = F.slots) (hc : chkSs tab N (defScope st) (ioFix F.io) F.body (defBody st) = true)
    (hb : ∀ (kV doc pm : Value) (an : Option Addr) (cdv ct : Value) (us : List Value), us.length = ps.length → bindArgs (PySem.W.fnOf x x (defArgs st) (defBody st) (defScope st) .none kV doc pm an cdv ct) ⟨us, []⟩ = pure (ps.zip us))
    (a : PySem.W.nsIn K mainGlobals x = some (some (.ref f))) (l : K.lookup f = some ⟨oc, od, .func (PySem.W.fnOf x x (defArgs st) (defBody st) (defScope st) .none kV dc pm an cd ct), sl⟩)
    (c : PySem.W.codeIn K cd x = true) (k : PySem.W.keepIn K (.ref f) = true) : DefAt K mg prog tab x g st f (PySem.W.fnOf x x (defArgs st) (defBody st) (defScope st) .none kV dc pm an cd ct) N ps :=
  ⟨⟨F, x, hp, fun_mk l c k, S, h1, h2, hc⟩, PySem.W.mg_of X G a, (fun_mk (st := st) l c k).binds hb⟩
def AllD (K : PySem.W.Frag) (mg : Str → Option Value) : List (Str × Nat) → Prop
  | [] => True
  | p :: r => (∃ st fa fd N ps, DefAt K mg prog tab p.1 p.2 st fa fd N ps) ∧ AllD K mg r
theorem all_get {K : PySem.W.Frag} {mg : Str → Option Value} : ∀ {l : List (Str × Nat)}, AllD K mg l → ∀ y g, l.lookup y = some g → ∃ st fa fd N ps, DefAt K mg prog tab y g st fa fd N ps
  | [], _, y, g, h => by cases h
  | (x, i) :: r, hd, y, g, h => by
    rw [List.lookup_cons] at h
    split at h
    · rename_i e
      have e : y = x := by simpa using e
      subst e
      cases h
      exact hd.1
    · exact all_get hd.2 y g h
theorem cst_i {K : PySem.W.Frag} {h : Heap} {mg : Str → Option Value} (X : K.In h) (G : h.Ns mainGlobals mg) {x : Str} {i : Int} {t : Tok} (a : PySem.W.nsIn K mainGlobals x = some (some (.int i t))) : ∃ v u, mg x = some u ∧ RelV v u ∧ ∀ G, Rep G v (.int i) :=
  ⟨.int i, _, PySem.W.mg_of X G a, ⟨t, rfl⟩, fun _ => .int i⟩
theorem cst_s {K : PySem.W.Frag} {h : Heap} {mg : Str → Option Value} (X : K.In h) (G : h.Ns mainGlobals mg) {x : Str} {s : S} {t : Tok} (h1 : s.length ≤ LINE) (h2 : okS s = true) (a : PySem.W.nsIn K mainGlobals x = some (some (.str (toStr s) t))) : ∃ v u, mg x = some u ∧ RelV v u ∧ ∀ G, Rep G v (.str s) :=
  ⟨.str (toStr s), _, PySem.W.mg_of X G a, ⟨t, rfl⟩, fun _ => .str s h1 h2⟩
theorem exc_mk {K : PySem.W.Frag} {h : Heap} {mg : Str → Option Value} {xc : XCls} (X : K.In h) (G : h.Ns mainGlobals mg) {x : Str} {C : Addr} {c : Nat} (a : PySem.W.nsIn K mainGlobals x = some (some (.ref C)))
    (q : PySem.W.excIn K C [.type "ValueError", .type "Exception", .type "BaseException", .type "object"] "ValueError.__new__" = true) (k : PySem.W.keepIn K (.ref C) = true) (b : PySem.W.subIn K (.ref C) (.type "BaseException") = some true) (t : PySem.W.typeIn K (.ref C) = some (.type "type")) (hx : xc c = .ref C) : ExcK K mg xc x c :=
  ⟨⟨C, _, _, _, _, PySem.F.excBase_ValueError, q, PySem.W.mg_of X G a, k, b, t, hx⟩⟩
theorem all_mk {w : World} {K : PySem.W.Frag} {h : Heap} {mg : Str → Option Value} {fa : Addr} (X : K.In h) (G : h.Ns mainGlobals mg) (hfa : mg "law" = some (.ref fa))
    {f0 : Addr} {oc0 kV0 dc0 pm0 cd0 ct0 : Value} {od0 an0 : Option Addr} {sl0 : Array (Option Value)}
    {f1 : Addr} {oc1 kV1 dc1 pm1 cd1 ct1 : Value} {od1 an1 : Option Addr} {sl1 : Array (Option Value)}
    {f2 : Addr} {oc2 kV2 dc2 pm2 cd2 ct2 : Value} {od2 an2 : Option Addr} {sl2 : Array (Option Value)}
    {f3 : Addr} {oc3 kV3 dc3 pm3 cd3 ct3 : Value} {od3 an3 : Option Addr} {sl3 : Array (Option Value)}
    {f4 : Addr} {oc4 kV4 dc4 pm4 cd4 ct4 : Value} {od4 an4 : Option Addr} {sl4 : Array (Option Value)}
    {f5 : Addr} {oc5 kV5 dc5 pm5 cd5 ct5 : Value} {od5 an5 : Option Addr} {sl5 : Array (Option Value)}
    {f6 : Addr} {oc6 kV6 dc6 pm6 cd6 ct6 : Value} {od6 an6 : Option Addr} {sl6 : Array (Option Value)}
    {f7 : Addr} {oc7 kV7 dc7 pm7 cd7 ct7 : Value} {od7 an7 : Option Addr} {sl7 : Array (Option Value)}
    {f8 : Addr} {oc8 kV8 dc8 pm8 cd8 ct8 : Value} {od8 an8 : Option Addr} {sl8 : Array (Option Value)}
    {f9 : Addr} {oc9 kV9 dc9 pm9 cd9 ct9 : Value} {od9 an9 : Option Addr} {sl9 : Array (Option Value)}
    {f10 : Addr} {oc10 kV10 dc10 pm10 cd10 ct10 : Value} {od10 an10 : Option Addr} {sl10 : Array (Option Value)}
    {f11 : Addr} {oc11 kV11 dc11 pm11 cd11 ct11 : Value} {od11 an11 : Option Addr} {sl11 : Array (Option Value)}
    {f12 : Addr} {oc12 kV12 dc12 pm12 cd12 ct12 : Value} {od12 an12 : Option Addr} {sl12 : Array (Option Value)}
    {f39 : Addr} {oc39 kV39 dc39 pm39 cd39 ct39 : Value} {od39 an39 : Option Addr} {sl39 : Array (Option Value)}
    {f40 : Addr} {oc40 kV40 dc40 pm40 cd40 ct40 : Value} {od40 an40 : Option Addr} {sl40 : Array (Option Value)}
    {f41 : Addr} {oc41 kV41 dc41 pm41 cd41 ct41 : Value} {od41 an41 : Option Addr} {sl41 : Array (Option Value)}
    {f42 : Addr} {oc42 kV42 dc42 pm42 cd42 ct42 : Value} {od42 an42 : Option Addr} {sl42 : Array (Option Value)}
    {f15 : Addr} {oc15 kV15 dc15 pm15 cd15 ct15 : Value} {od15 an15 : Option Addr} {sl15 : Array (Option Value)}
    {f16 : Addr} {oc16 kV16 dc16 pm16 cd16 ct16 : Value} {od16 an16 : Option Addr} {sl16 : Array (Option Value)}
    {f31 : Addr} {oc31 kV31 dc31 pm31 cd31 ct31 : Value} {od31 an31 : Option Addr} {sl31 : Array (Option Value)}
    {f17 : Addr} {oc17 kV17 dc17 pm17 cd17 ct17 : Value} {od17 an17 : Option Addr} {sl17 : Array (Option Value)}
    {f18 : Addr} {oc18 kV18 dc18 pm18 cd18 ct18 : Value} {od18 an18 : Option Addr} {sl18 : Array (Option Value)}
    {f19 : Addr} {oc19 kV19 dc19 pm19 cd19 ct19 : Value} {od19 an19 : Option Addr} {sl19 : Array (Option Value)}
    {f20 : Addr} {oc20 kV20 dc20 pm20 cd20 ct20 : Value} {od20 an20 : Option Addr} {sl20 : Array (Option Value)}
    {f21 : Addr} {oc21 kV21 dc21 pm21 cd21 ct21 : Value} {od21 an21 : Option Addr} {sl21 : Array (Option Value)}
    {f22 : Addr} {oc22 kV22 dc22 pm22 cd22 ct22 : Value} {od22 an22 : Option Addr} {sl22 : Array (Option Value)}
    {f23 : Addr} {oc23 kV23 dc23 pm23 cd23 ct23 : Value} {od23 an23 : Option Addr} {sl23 : Array (Option Value)}
    {f24 : Addr} {oc24 kV24 dc24 pm24 cd24 ct24 : Value} {od24 an24 : Option Addr} {sl24 : Array (Option Value)}
    {f25 : Addr} {oc25 kV25 dc25 pm25 cd25 ct25 : Value} {od25 an25 : Option Addr} {sl25 : Array (Option Value)}
    {f26 : Addr} {oc26 kV26 dc26 pm26 cd26 ct26 : Value} {od26 an26 : Option Addr} {sl26 : Array (Option Value)}
    {f43 : Addr} {oc43 kV43 dc43 pm43 cd43 ct43 : Value} {od43 an43 : Option Addr} {sl43 : Array (Option Value)}
    {f44 : Addr} {oc44 kV44 dc44 pm44 cd44 ct44 : Value} {od44 an44 : Option Addr} {sl44 : Array (Option Value)}
    {tk0 : Tok}
    {tk1 : Tok}
    {tk2 : Tok}
    {tk3 : Tok}
    {C0 : Addr}
    {C1 : Addr}
    {C2 : Addr}
    {C3 : Addr}
    (a0 : PySem.W.nsIn K mainGlobals "is_from" = some (some (.ref f0)))
    (l0 : K.lookup f0 = some ⟨oc0, od0, .func (PySem.W.fnOf "is_from" "is_from" (defArgs (top 9)) (defBody (top 9)) (defScope (top 9)) .none kV0 dc0 pm0 an0 cd0 ct0), sl0⟩)
    (c0 : PySem.W.codeIn K cd0 "is_from" = true)
    (k0 : PySem.W.keepIn K (.ref f0) = true)
    (a1 : PySem.W.nsIn K mainGlobals "are_doors" = some (some (.ref f1)))
    (l1 : K.lookup f1 = some ⟨oc1, od1, .func (PySem.W.fnOf "are_doors" "are_doors" (defArgs (top 10)) (defBody (top 10)) (defScope (top 10)) .none kV1 dc1 pm1 an1 cd1 ct1), sl1⟩)
    (c1 : PySem.W.codeIn K cd1 "are_doors" = true)
    (k1 : PySem.W.keepIn K (.ref f1) = true)
    (a2 : PySem.W.nsIn K mainGlobals "is_rail" = some (some (.ref f2)))
    (l2 : K.lookup f2 = some ⟨oc2, od2, .func (PySem.W.fnOf "is_rail" "is_rail" (defArgs (top 11)) (defBody (top 11)) (defScope (top 11)) .none kV2 dc2 pm2 an2 cd2 ct2), sl2⟩)
    (c2 : PySem.W.codeIn K cd2 "is_rail" = true)
    (k2 : PySem.W.keepIn K (.ref f2) = true)
    (a3 : PySem.W.nsIn K mainGlobals "is_rising" = some (some (.ref f3)))
    (l3 : K.lookup f3 = some ⟨oc3, od3, .func (PySem.W.fnOf "is_rising" "is_rising" (defArgs (top 12)) (defBody (top 12)) (defScope (top 12)) .none kV3 dc3 pm3 an3 cd3 ct3), sl3⟩)
    (c3 : PySem.W.codeIn K cd3 "is_rising" = true)
    (k3 : PySem.W.keepIn K (.ref f3) = true)
    (a4 : PySem.W.nsIn K mainGlobals "is_house" = some (some (.ref f4)))
    (l4 : K.lookup f4 = some ⟨oc4, od4, .func (PySem.W.fnOf "is_house" "is_house" (defArgs (top 13)) (defBody (top 13)) (defScope (top 13)) .none kV4 dc4 pm4 an4 cd4 ct4), sl4⟩)
    (c4 : PySem.W.codeIn K cd4 "is_house" = true)
    (k4 : PySem.W.keepIn K (.ref f4) = true)
    (a5 : PySem.W.nsIn K mainGlobals "need_house" = some (some (.ref f5)))
    (l5 : K.lookup f5 = some ⟨oc5, od5, .func (PySem.W.fnOf "need_house" "need_house" (defArgs (top 14)) (defBody (top 14)) (defScope (top 14)) .none kV5 dc5 pm5 an5 cd5 ct5), sl5⟩)
    (c5 : PySem.W.codeIn K cd5 "need_house" = true)
    (k5 : PySem.W.keepIn K (.ref f5) = true)
    (a6 : PySem.W.nsIn K mainGlobals "is_standing" = some (some (.ref f6)))
    (l6 : K.lookup f6 = some ⟨oc6, od6, .func (PySem.W.fnOf "is_standing" "is_standing" (defArgs (top 15)) (defBody (top 15)) (defScope (top 15)) .none kV6 dc6 pm6 an6 cd6 ct6), sl6⟩)
    (c6 : PySem.W.codeIn K cd6 "is_standing" = true)
    (k6 : PySem.W.keepIn K (.ref f6) = true)
    (a7 : PySem.W.nsIn K mainGlobals "need_stand" = some (some (.ref f7)))
    (l7 : K.lookup f7 = some ⟨oc7, od7, .func (PySem.W.fnOf "need_stand" "need_stand" (defArgs (top 16)) (defBody (top 16)) (defScope (top 16)) .none kV7 dc7 pm7 an7 cd7 ct7), sl7⟩)
    (c7 : PySem.W.codeIn K cd7 "need_stand" = true)
    (k7 : PySem.W.keepIn K (.ref f7) = true)
    (a8 : PySem.W.nsIn K mainGlobals "along" = some (some (.ref f8)))
    (l8 : K.lookup f8 = some ⟨oc8, od8, .func (PySem.W.fnOf "along" "along" (defArgs (top 17)) (defBody (top 17)) (defScope (top 17)) .none kV8 dc8 pm8 an8 cd8 ct8), sl8⟩)
    (c8 : PySem.W.codeIn K cd8 "along" = true)
    (k8 : PySem.W.keepIn K (.ref f8) = true)
    (a9 : PySem.W.nsIn K mainGlobals "is_row" = some (some (.ref f9)))
    (l9 : K.lookup f9 = some ⟨oc9, od9, .func (PySem.W.fnOf "is_row" "is_row" (defArgs (top 21)) (defBody (top 21)) (defScope (top 21)) .none kV9 dc9 pm9 an9 cd9 ct9), sl9⟩)
    (c9 : PySem.W.codeIn K cd9 "is_row" = true)
    (k9 : PySem.W.keepIn K (.ref f9) = true)
    (a10 : PySem.W.nsIn K mainGlobals "need_row" = some (some (.ref f10)))
    (l10 : K.lookup f10 = some ⟨oc10, od10, .func (PySem.W.fnOf "need_row" "need_row" (defArgs (top 22)) (defBody (top 22)) (defScope (top 22)) .none kV10 dc10 pm10 an10 cd10 ct10), sl10⟩)
    (c10 : PySem.W.codeIn K cd10 "need_row" = true)
    (k10 : PySem.W.keepIn K (.ref f10) = true)
    (a11 : PySem.W.nsIn K mainGlobals "one_slide" = some (some (.ref f11)))
    (l11 : K.lookup f11 = some ⟨oc11, od11, .func (PySem.W.fnOf "one_slide" "one_slide" (defArgs (top 23)) (defBody (top 23)) (defScope (top 23)) .none kV11 dc11 pm11 an11 cd11 ct11), sl11⟩)
    (c11 : PySem.W.codeIn K cd11 "one_slide" = true)
    (k11 : PySem.W.keepIn K (.ref f11) = true)
    (a12 : PySem.W.nsIn K mainGlobals "by_row" = some (some (.ref f12)))
    (l12 : K.lookup f12 = some ⟨oc12, od12, .func (PySem.W.fnOf "by_row" "by_row" (defArgs (top 24)) (defBody (top 24)) (defScope (top 24)) .none kV12 dc12 pm12 an12 cd12 ct12), sl12⟩)
    (c12 : PySem.W.codeIn K cd12 "by_row" = true)
    (k12 : PySem.W.keepIn K (.ref f12) = true)
    (a39 : PySem.W.nsIn K mainGlobals "rounds_of" = some (some (.ref f39)))
    (l39 : K.lookup f39 = some ⟨oc39, od39, .func (PySem.W.fnOf "rounds_of" "rounds_of" (defArgs (top 25)) (defBody (top 25)) (defScope (top 25)) .none kV39 dc39 pm39 an39 cd39 ct39), sl39⟩)
    (c39 : PySem.W.codeIn K cd39 "rounds_of" = true)
    (k39 : PySem.W.keepIn K (.ref f39) = true)
    (a40 : PySem.W.nsIn K mainGlobals "slid_often" = some (some (.ref f40)))
    (l40 : K.lookup f40 = some ⟨oc40, od40, .func (PySem.W.fnOf "slid_often" "slid_often" (defArgs (top 26)) (defBody (top 26)) (defScope (top 26)) .none kV40 dc40 pm40 an40 cd40 ct40), sl40⟩)
    (c40 : PySem.W.codeIn K cd40 "slid_often" = true)
    (k40 : PySem.W.keepIn K (.ref f40) = true)
    (a41 : PySem.W.nsIn K mainGlobals "common" = some (some (.ref f41)))
    (l41 : K.lookup f41 = some ⟨oc41, od41, .func (PySem.W.fnOf "common" "common" (defArgs (top 27)) (defBody (top 27)) (defScope (top 27)) .none kV41 dc41 pm41 an41 cd41 ct41), sl41⟩)
    (c41 : PySem.W.codeIn K cd41 "common" = true)
    (k41 : PySem.W.keepIn K (.ref f41) = true)
    (a42 : PySem.W.nsIn K mainGlobals "again" = some (some (.ref f42)))
    (l42 : K.lookup f42 = some ⟨oc42, od42, .func (PySem.W.fnOf "again" "again" (defArgs (top 28)) (defBody (top 28)) (defScope (top 28)) .none kV42 dc42 pm42 an42 cd42 ct42), sl42⟩)
    (c42 : PySem.W.codeIn K cd42 "again" = true)
    (k42 : PySem.W.keepIn K (.ref f42) = true)
    (a15 : PySem.W.nsIn K mainGlobals "_law_deck" = some (some (.ref f15)))
    (l15 : K.lookup f15 = some ⟨oc15, od15, .func (PySem.W.fnOf "_law_deck" "_law_deck" (defArgs (top 30)) (defBody (top 30)) (defScope (top 30)) .none kV15 dc15 pm15 an15 cd15 ct15), sl15⟩)
    (c15 : PySem.W.codeIn K cd15 "_law_deck" = true)
    (k15 : PySem.W.keepIn K (.ref f15) = true)
    (a16 : PySem.W.nsIn K mainGlobals "_law_pick" = some (some (.ref f16)))
    (l16 : K.lookup f16 = some ⟨oc16, od16, .func (PySem.W.fnOf "_law_pick" "_law_pick" (defArgs (top 31)) (defBody (top 31)) (defScope (top 31)) .none kV16 dc16 pm16 an16 cd16 ct16), sl16⟩)
    (c16 : PySem.W.codeIn K cd16 "_law_pick" = true)
    (k16 : PySem.W.keepIn K (.ref f16) = true)
    (a31 : PySem.W.nsIn K mainGlobals "_law_whole" = some (some (.ref f31)))
    (l31 : K.lookup f31 = some ⟨oc31, od31, .func (PySem.W.fnOf "_law_whole" "_law_whole" (defArgs (top 32)) (defBody (top 32)) (defScope (top 32)) .none kV31 dc31 pm31 an31 cd31 ct31), sl31⟩)
    (c31 : PySem.W.codeIn K cd31 "_law_whole" = true)
    (k31 : PySem.W.keepIn K (.ref f31) = true)
    (a17 : PySem.W.nsIn K mainGlobals "_law_one" = some (some (.ref f17)))
    (l17 : K.lookup f17 = some ⟨oc17, od17, .func (PySem.W.fnOf "_law_one" "_law_one" (defArgs (top 33)) (defBody (top 33)) (defScope (top 33)) .none kV17 dc17 pm17 an17 cd17 ct17), sl17⟩)
    (c17 : PySem.W.codeIn K cd17 "_law_one" = true)
    (k17 : PySem.W.keepIn K (.ref f17) = true)
    (a18 : PySem.W.nsIn K mainGlobals "_law_sort" = some (some (.ref f18)))
    (l18 : K.lookup f18 = some ⟨oc18, od18, .func (PySem.W.fnOf "_law_sort" "_law_sort" (defArgs (top 34)) (defBody (top 34)) (defScope (top 34)) .none kV18 dc18 pm18 an18 cd18 ct18), sl18⟩)
    (c18 : PySem.W.codeIn K cd18 "_law_sort" = true)
    (k18 : PySem.W.keepIn K (.ref f18) = true)
    (a19 : PySem.W.nsIn K mainGlobals "_law_same" = some (some (.ref f19)))
    (l19 : K.lookup f19 = some ⟨oc19, od19, .func (PySem.W.fnOf "_law_same" "_law_same" (defArgs (top 35)) (defBody (top 35)) (defScope (top 35)) .none kV19 dc19 pm19 an19 cd19 ct19), sl19⟩)
    (c19 : PySem.W.codeIn K cd19 "_law_same" = true)
    (k19 : PySem.W.keepIn K (.ref f19) = true)
    (a20 : PySem.W.nsIn K mainGlobals "_law_house" = some (some (.ref f20)))
    (l20 : K.lookup f20 = some ⟨oc20, od20, .func (PySem.W.fnOf "_law_house" "_law_house" (defArgs (top 36)) (defBody (top 36)) (defScope (top 36)) .none kV20 dc20 pm20 an20 cd20 ct20), sl20⟩)
    (c20 : PySem.W.codeIn K cd20 "_law_house" = true)
    (k20 : PySem.W.keepIn K (.ref f20) = true)
    (a21 : PySem.W.nsIn K mainGlobals "_law_great_floors" = some (some (.ref f21)))
    (l21 : K.lookup f21 = some ⟨oc21, od21, .func (PySem.W.fnOf "_law_great_floors" "_law_great_floors" (defArgs (top 37)) (defBody (top 37)) (defScope (top 37)) .none kV21 dc21 pm21 an21 cd21 ct21), sl21⟩)
    (c21 : PySem.W.codeIn K cd21 "_law_great_floors" = true)
    (k21 : PySem.W.keepIn K (.ref f21) = true)
    (a22 : PySem.W.nsIn K mainGlobals "_law_stand" = some (some (.ref f22)))
    (l22 : K.lookup f22 = some ⟨oc22, od22, .func (PySem.W.fnOf "_law_stand" "_law_stand" (defArgs (top 38)) (defBody (top 38)) (defScope (top 38)) .none kV22 dc22 pm22 an22 cd22 ct22), sl22⟩)
    (c22 : PySem.W.codeIn K cd22 "_law_stand" = true)
    (k22 : PySem.W.keepIn K (.ref f22) = true)
    (a23 : PySem.W.nsIn K mainGlobals "_law_places" = some (some (.ref f23)))
    (l23 : K.lookup f23 = some ⟨oc23, od23, .func (PySem.W.fnOf "_law_places" "_law_places" (defArgs (top 39)) (defBody (top 39)) (defScope (top 39)) .none kV23 dc23 pm23 an23 cd23 ct23), sl23⟩)
    (c23 : PySem.W.codeIn K cd23 "_law_places" = true)
    (k23 : PySem.W.keepIn K (.ref f23) = true)
    (a24 : PySem.W.nsIn K mainGlobals "_law_one_on" = some (some (.ref f24)))
    (l24 : K.lookup f24 = some ⟨oc24, od24, .func (PySem.W.fnOf "_law_one_on" "_law_one_on" (defArgs (top 40)) (defBody (top 40)) (defScope (top 40)) .none kV24 dc24 pm24 an24 cd24 ct24), sl24⟩)
    (c24 : PySem.W.codeIn K cd24 "_law_one_on" = true)
    (k24 : PySem.W.keepIn K (.ref f24) = true)
    (a25 : PySem.W.nsIn K mainGlobals "_law_slid" = some (some (.ref f25)))
    (l25 : K.lookup f25 = some ⟨oc25, od25, .func (PySem.W.fnOf "_law_slid" "_law_slid" (defArgs (top 41)) (defBody (top 41)) (defScope (top 41)) .none kV25 dc25 pm25 an25 cd25 ct25), sl25⟩)
    (c25 : PySem.W.codeIn K cd25 "_law_slid" = true)
    (k25 : PySem.W.keepIn K (.ref f25) = true)
    (a26 : PySem.W.nsIn K mainGlobals "_law_row" = some (some (.ref f26)))
    (l26 : K.lookup f26 = some ⟨oc26, od26, .func (PySem.W.fnOf "_law_row" "_law_row" (defArgs (top 42)) (defBody (top 42)) (defScope (top 42)) .none kV26 dc26 pm26 an26 cd26 ct26), sl26⟩)
    (c26 : PySem.W.codeIn K cd26 "_law_row" = true)
    (k26 : PySem.W.keepIn K (.ref f26) = true)
    (a43 : PySem.W.nsIn K mainGlobals "_law_primes" = some (some (.ref f43)))
    (l43 : K.lookup f43 = some ⟨oc43, od43, .func (PySem.W.fnOf "_law_primes" "_law_primes" (defArgs (top 43)) (defBody (top 43)) (defScope (top 43)) .none kV43 dc43 pm43 an43 cd43 ct43), sl43⟩)
    (c43 : PySem.W.codeIn K cd43 "_law_primes" = true)
    (k43 : PySem.W.keepIn K (.ref f43) = true)
    (a44 : PySem.W.nsIn K mainGlobals "law" = some (some (.ref f44)))
    (l44 : K.lookup f44 = some ⟨oc44, od44, .func (PySem.W.fnOf "law" "law" (defArgs (top 44)) (defBody (top 44)) (defScope (top 44)) .none kV44 dc44 pm44 an44 cd44 ct44), sl44⟩)
    (c44 : PySem.W.codeIn K cd44 "law" = true)
    (k44 : PySem.W.keepIn K (.ref f44) = true)
    (z0 : PySem.W.nsIn K mainGlobals "len" = some none)
    (z1 : PySem.W.nsIn K mainGlobals "sorted" = some none)
    (z2 : PySem.W.nsIn K mainGlobals "all" = some none)
    (z3 : PySem.W.nsIn K mainGlobals "list" = some none)
    (z4 : PySem.W.nsIn K mainGlobals "tuple" = some none)
    (z5 : PySem.W.nsIn K mainGlobals "int" = some none)
    (z6 : PySem.W.nsIn K mainGlobals "isinstance" = some none)
    (z7 : PySem.W.nsIn K mainGlobals "bool" = some none)
    (z8 : PySem.W.nsIn K mainGlobals "str" = some none)
    (z9 : PySem.W.nsIn K mainGlobals "range" = some none)
    (z10 : PySem.W.nsIn K mainGlobals "enumerate" = some none)
    (z11 : PySem.W.nsIn K mainGlobals "zip" = some none)
    (z12 : PySem.W.nsIn K mainGlobals "set" = some none)
    (y0 : PySem.W.nsIn K mainGlobals "MOST" = some (some (.int 6 tk0)))
    (y1 : PySem.W.nsIn K mainGlobals "SIDES" = some (some (.str "nesw" tk1)))
    (y2 : PySem.W.nsIn K mainGlobals "FAR" = some (some (.int 1000000000000000000000000000000 tk2)))
    (y3 : PySem.W.nsIn K mainGlobals "MOST_SLIDES" = some (some (.int 30 tk3)))
    (ea0 : PySem.W.nsIn K mainGlobals "NoHouse" = some (some (.ref C0)))
    (eq0 : PySem.W.excIn K C0 [.type "ValueError", .type "Exception", .type "BaseException", .type "object"] "ValueError.__new__" = true)
    (ek0 : PySem.W.keepIn K (.ref C0) = true)
    (eb0 : PySem.W.subIn K (.ref C0) (.type "BaseException") = some true)
    (et0 : PySem.W.typeIn K (.ref C0) = some (.type "type"))
    (ea1 : PySem.W.nsIn K mainGlobals "NoStand" = some (some (.ref C1)))
    (eq1 : PySem.W.excIn K C1 [.type "ValueError", .type "Exception", .type "BaseException", .type "object"] "ValueError.__new__" = true)
    (ek1 : PySem.W.keepIn K (.ref C1) = true)
    (eb1 : PySem.W.subIn K (.ref C1) (.type "BaseException") = some true)
    (et1 : PySem.W.typeIn K (.ref C1) = some (.type "type"))
    (ea2 : PySem.W.nsIn K mainGlobals "NoRow" = some (some (.ref C2)))
    (eq2 : PySem.W.excIn K C2 [.type "ValueError", .type "Exception", .type "BaseException", .type "object"] "ValueError.__new__" = true)
    (ek2 : PySem.W.keepIn K (.ref C2) = true)
    (eb2 : PySem.W.subIn K (.ref C2) (.type "BaseException") = some true)
    (et2 : PySem.W.typeIn K (.ref C2) = some (.type "type"))
    (ea3 : PySem.W.nsIn K mainGlobals "NoTimes" = some (some (.ref C3)))
    (eq3 : PySem.W.excIn K C3 [.type "ValueError", .type "Exception", .type "BaseException", .type "object"] "ValueError.__new__" = true)
    (ek3 : PySem.W.keepIn K (.ref C3) = true)
    (eb3 : PySem.W.subIn K (.ref C3) (.type "BaseException") = some true)
    (et3 : PySem.W.typeIn K (.ref C3) = some (.type "type")) :
    ∃ (xc : XCls) (fd : FuncData), (∀ (s : Shared) (v : Value), BindsTo s fd ⟨[v], []⟩ [("script", v)]) ∧ ∀ base : Heap, K.In base → base.Ns mainGlobals mg → FnOk PySem.Challenge.rw_railrooms_k03_whole_however_often.prog w K mg base (L2.CX PySem.Challenge.rw_railrooms_k03_whole_however_often.prog w) 40 fa fd ["script"] (spF xc (callAt prog 40 lawId)) := by
  have e := hfa.symm.trans (PySem.W.mg_of X G a44)
  cases e
  let xc : XCls := fun c => match c with | 1 => .ref C0 | 2 => .ref C1 | 3 => .ref C2 | 4 => .ref C3 | _ => .none
  have d0 := def_mk X G (g := 0) rfl sc0 rfl rfl ck0 (fun _ _ _ _ _ _ us hl => match us, hl with | [_, _, _], _ => rfl) a0 l0 c0 k0
  have d1 := def_mk X G (g := 1) rfl sc1 rfl rfl ck1 (fun _ _ _ _ _ _ us hl => match us, hl with | [_], _ => rfl) a1 l1 c1 k1
  have d2 := def_mk X G (g := 2) rfl sc2 rfl rfl ck2 (fun _ _ _ _ _ _ us hl => match us, hl with | [_, _, _], _ => rfl) a2 l2 c2 k2
  have d3 := def_mk X G (g := 3) rfl sc3 rfl rfl ck3 (fun _ _ _ _ _ _ us hl => match us, hl with | [_], _ => rfl) a3 l3 c3 k3
  have d4 := def_mk X G (g := 4) rfl sc4 rfl rfl ck4 (fun _ _ _ _ _ _ us hl => match us, hl with | [_], _ => rfl) a4 l4 c4 k4
  have d5 := def_mk X G (g := 5) rfl sc5 rfl rfl ck5 (fun _ _ _ _ _ _ us hl => match us, hl with | [_], _ => rfl) a5 l5 c5 k5
  have d6 := def_mk X G (g := 6) rfl sc6 rfl rfl ck6 (fun _ _ _ _ _ _ us hl => match us, hl with | [_, _], _ => rfl) a6 l6 c6 k6
  have d7 := def_mk X G (g := 7) rfl sc7 rfl rfl ck7 (fun _ _ _ _ _ _ us hl => match us, hl with | [_, _], _ => rfl) a7 l7 c7 k7
  have d8 := def_mk X G (g := 8) rfl sc8 rfl rfl ck8 (fun _ _ _ _ _ _ us hl => match us, hl with | [_, _], _ => rfl) a8 l8 c8 k8
  have d9 := def_mk X G (g := 9) rfl sc9 rfl rfl ck9 (fun _ _ _ _ _ _ us hl => match us, hl with | [_, _], _ => rfl) a9 l9 c9 k9
  have d10 := def_mk X G (g := 10) rfl sc10 rfl rfl ck10 (fun _ _ _ _ _ _ us hl => match us, hl with | [_, _], _ => rfl) a10 l10 c10 k10
  have d11 := def_mk X G (g := 11) rfl sc11 rfl rfl ck11 (fun _ _ _ _ _ _ us hl => match us, hl with | [_, _, _, _], _ => rfl) a11 l11 c11 k11
  have d12 := def_mk X G (g := 12) rfl sc12 rfl rfl ck12 (fun _ _ _ _ _ _ us hl => match us, hl with | [_, _, _], _ => rfl) a12 l12 c12 k12
  have d39 := def_mk X G (g := 39) rfl sc39 rfl rfl ck39 (fun _ _ _ _ _ _ us hl => match us, hl with | [_, _], _ => rfl) a39 l39 c39 k39
  have d40 := def_mk X G (g := 40) rfl sc40 rfl rfl ck40 (fun _ _ _ _ _ _ us hl => match us, hl with | [_, _, _, _], _ => rfl) a40 l40 c40 k40
  have d41 := def_mk X G (g := 41) rfl sc41 rfl rfl ck41 (fun _ _ _ _ _ _ us hl => match us, hl with | [_, _], _ => rfl) a41 l41 c41 k41
  have d42 := def_mk X G (g := 42) rfl sc42 rfl rfl ck42 (fun _ _ _ _ _ _ us hl => match us, hl with | [_, _], _ => rfl) a42 l42 c42 k42
  have d15 := def_mk X G (g := 15) rfl sc15 rfl rfl ck15 (fun _ _ _ _ _ _ us hl => match us, hl with | [_, _], _ => rfl) a15 l15 c15 k15
  have d16 := def_mk X G (g := 16) rfl sc16 rfl rfl ck16 (fun _ _ _ _ _ _ us hl => match us, hl with | [_, _], _ => rfl) a16 l16 c16 k16
  have d31 := def_mk X G (g := 31) rfl sc31 rfl rfl ck31 (fun _ _ _ _ _ _ us hl => match us, hl with | [_], _ => rfl) a31 l31 c31 k31
  have d17 := def_mk X G (g := 17) rfl sc17 rfl rfl ck17 (fun _ _ _ _ _ _ us hl => match us, hl with | [_, _], _ => rfl) a17 l17 c17 k17
  have d18 := def_mk X G (g := 18) rfl sc18 rfl rfl ck18 (fun _ _ _ _ _ _ us hl => match us, hl with | [_], _ => rfl) a18 l18 c18 k18
  have d19 := def_mk X G (g := 19) rfl sc19 rfl rfl ck19 (fun _ _ _ _ _ _ us hl => match us, hl with | [_, _], _ => rfl) a19 l19 c19 k19
  have d20 := def_mk X G (g := 20) rfl sc20 rfl rfl ck20 (fun _ _ _ _ _ _ us hl => match us, hl with | [_, _, _], _ => rfl) a20 l20 c20 k20
  have d21 := def_mk X G (g := 21) rfl sc21 rfl rfl ck21 (fun _ _ _ _ _ _ us hl => match us, hl with | [], _ => rfl) a21 l21 c21 k21
  have d22 := def_mk X G (g := 22) rfl sc22 rfl rfl ck22 (fun _ _ _ _ _ _ us hl => match us, hl with | [_, _], _ => rfl) a22 l22 c22 k22
  have d23 := def_mk X G (g := 23) rfl sc23 rfl rfl ck23 (fun _ _ _ _ _ _ us hl => match us, hl with | [_, _], _ => rfl) a23 l23 c23 k23
  have d24 := def_mk X G (g := 24) rfl sc24 rfl rfl ck24 (fun _ _ _ _ _ _ us hl => match us, hl with | [_, _, _], _ => rfl) a24 l24 c24 k24
  have d25 := def_mk X G (g := 25) rfl sc25 rfl rfl ck25 (fun _ _ _ _ _ _ us hl => match us, hl with | [_, _, _], _ => rfl) a25 l25 c25 k25
  have d26 := def_mk X G (g := 26) rfl sc26 rfl rfl ck26 (fun _ _ _ _ _ _ us hl => match us, hl with | [_, _, _], _ => rfl) a26 l26 c26 k26
  have d43 := def_mk X G (g := 43) rfl sc43 rfl rfl ck43 (fun _ _ _ _ _ _ us hl => match us, hl with | [_], _ => rfl) a43 l43 c43 k43
  have d44 := def_mk X G (g := 44) rfl sc44 rfl rfl ck44 (fun _ _ _ _ _ _ us hl => match us, hl with | [_], _ => rfl) a44 l44 c44 k44
  have all : AllD K mg tab.fns := ⟨⟨_, _, _, _, _, d0⟩, ⟨_, _, _, _, _, d1⟩, ⟨_, _, _, _, _, d2⟩, ⟨_, _, _, _, _, d3⟩, ⟨_, _, _, _, _, d4⟩, ⟨_, _, _, _, _, d5⟩, ⟨_, _, _, _, _, d6⟩, ⟨_, _, _, _, _, d7⟩, ⟨_, _, _, _, _, d8⟩, ⟨_, _, _, _, _, d9⟩, ⟨_, _, _, _, _, d10⟩, ⟨_, _, _, _, _, d11⟩, ⟨_, _, _, _, _, d12⟩, ⟨_, _, _, _, _, d39⟩, ⟨_, _, _, _, _, d40⟩, ⟨_, _, _, _, _, d41⟩, ⟨_, _, _, _, _, d42⟩, ⟨_, _, _, _, _, d15⟩, ⟨_, _, _, _, _, d16⟩, ⟨_, _, _, _, _, d31⟩, ⟨_, _, _, _, _, d17⟩, ⟨_, _, _, _, _, d18⟩, ⟨_, _, _, _, _, d19⟩, ⟨_, _, _, _, _, d20⟩, ⟨_, _, _, _, _, d21⟩, ⟨_, _, _, _, _, d22⟩, ⟨_, _, _, _, _, d23⟩, ⟨_, _, _, _, _, d24⟩, ⟨_, _, _, _, _, d25⟩, ⟨_, _, _, _, _, d26⟩, ⟨_, _, _, _, _, d43⟩, ⟨_, _, _, _, _, d44⟩, trivial⟩
  have E1 : Env1 K mg xc tab := by
    refine ⟨fun x hx => ?_, fun x c hx => ?_, fun x c hx => ?_⟩
    · simp only [tab, List.mem_cons, List.not_mem_nil, or_false] at hx
      rcases hx with rfl | rfl | rfl | rfl | rfl | rfl | rfl | rfl | rfl | rfl | rfl | rfl | rfl
      · exact PySem.W.mg_none_of X G z0
      · exact PySem.W.mg_none_of X G z1
      · exact PySem.W.mg_none_of X G z2
      · exact PySem.W.mg_none_of X G z3
      · exact PySem.W.mg_none_of X G z4
      · exact PySem.W.mg_none_of X G z5
      · exact PySem.W.mg_none_of X G z6
      · exact PySem.W.mg_none_of X G z7
      · exact PySem.W.mg_none_of X G z8
      · exact PySem.W.mg_none_of X G z9
      · exact PySem.W.mg_none_of X G z10
      · exact PySem.W.mg_none_of X G z11
      · exact PySem.W.mg_none_of X G z12
    · refine look_all (p := fun x c => ∃ v u, mg x = some u ∧ RelV v u ∧ ∀ G, Rep G v (match c with | .inl i => .int i | .inr s => .str s)) ?_ x c hx
      exact ⟨cst_i X G y0, cst_s X G (by decide) (by decide) y1, cst_i X G y2, cst_i X G y3, trivial⟩
    · refine look_all (p := fun x c => ExcK K mg xc x c) ?_ x c hx
      exact ⟨exc_mk X G ea0 eq0 ek0 eb0 et0 rfl, exc_mk X G ea1 eq1 ek1 eb1 et1 rfl, exc_mk X G ea2 eq2 ek2 eb2 et2 rfl, exc_mk X G ea3 eq3 ek3 eb3 et3 rfl, trivial⟩
  exact ⟨xc, _, fun s v => .of_eq rfl, fun base _ _ => def_ok E1 (all_get all) 40 d44⟩
end RR
namespace RR
open PySem L2
/-- law's promise: a list of at most 63 ints is handed in, True comes out -/
def spTrue (K : PySem.W.Frag) : Sp := fun vs H Q _ => ∃ (a : Addr) (ns : List Int), vs = [.ref a] ∧ ns.length ≤ 63 ∧ SqL K H a (ns.map V.int) ∧ ∀ H', Q (.bl true) H'
end RR
namespace RR
open PySem L2
theorem no_list {K : PySem.W.Frag} (h : (K.all fun p => match p.2.cls with | .type n => !(n == "list") | _ => true) = true) : ∀ b o, K.lookup b = some o → o.cls ≠ .type "list" := by
  intro b o hb hc
  have hm : (b, o) ∈ K := by
    clear h
    induction K with
    | nil => cases hb
    | cons p r ih =>
      obtain ⟨y, i⟩ := p
      rw [List.lookup_cons] at hb
      split at hb
      · rename_i e
        have e : b = y := by simpa using e
        subst e
        cases hb
        exact List.mem_cons_self ..
      · exact List.mem_cons_of_mem _ (ih hb)
  have := List.all_eq_true.mp h (b, o) hm
  rw [hc] at this
  simp at this
theorem walk_law {l : PySem.W.OpenLaw} {q : Program} {loose : List Str} {XP : (Str → Option Value) → Heap → Prop} {YP : World → Heap → Prop} {d : DefRec} {K : Params → PySem.W.Frag} (hn : l.most = some 63) (hdf : d.params.defaults = [])
    (hY : ∀ (w : World) (h : Heap), YP w h → (K w.params).In h)
    (L : ∀ (w : World) b o, (K w.params).lookup b = some o → o.cls ≠ .type "list")
    (F : ∀ (w : World) (mg : Str → Option Value) (fa : Addr) (h : Heap), (K w.params).In h → h.Ns mainGlobals mg → mg d.name = some (.ref fa) →
      ∃ (xc : XCls) (fd : FuncData), (∀ (s : Shared) (u : Value), BindsTo s fd ⟨[u], []⟩ [("script", u)]) ∧ ∀ base : Heap, (K w.params).In base → base.Ns mainGlobals mg → FnOk l.prog w (K w.params) mg base (L2.CX l.prog w) 40 fa fd ["script"] (spF xc (callAt prog 40 lawId))) :
    PySem.W.WalkO q loose XP YP l.row.toRowW d [] (fun f vs => PySem.call f vs) := by
  refine L2.walk_of (n := 63) (k := 40) (x := "script") (CX := fun w => L2.CX l.prog w) (sp := fun w => spTrue (K w.params)) hn (by decide) hdf ⟨rfl, by decide, by decide⟩ hY (fun w mg fa h KX G hm => ?_) (fun w H a ns hl _ hS => ⟨a, ns, rfl, hl, hS, fun _ => rfl⟩) fun w H s e s' z => ?_
  · obtain ⟨xc, fd, hb, hF⟩ := F w mg fa h KX G hm
    refine ⟨fd, hb, fun base hK hG => (hF base hK hG).imp fun vs H Q E hsp => ?_⟩
    obtain ⟨a, ns, rfl, hl, hS, hq⟩ := hsp
    obtain ⟨z, hz⟩ := B.law_true ns hl
    have hl2 : ns.length ≤ LINE := Nat.le_trans hl (by decide)
    obtain ⟨G', as, le, r, m⟩ := law_sp (xc := xc) (n := 40) (L w) hl2 hS hz
    refine ⟨G', as, le, r, ?_⟩
    revert m
    cases callAt prog 40 lawId as with
    | bad => exact fun m => m
    | exc x => exact fun m cls ed G1 H1 h1 h2 h3 h4 h5 => (m cls ed G1 H1 h1 h2 h3 h4 h5).elim
    | ok d ow out => exact fun m v G1 H1 h1 h2 h3 => by rw [m v G1 H1 h1 h2 h3]; exact hq H1
  · obtain ⟨_, _, _, _, _, _, _, _, _, _, _, _, y⟩ := z
    exact y.elim
end RR
open PySem PySem.W PyProof.Rows
set_option maxRecDepth 100000 in
set_option maxHeartbeats 0 in
theorem PySem.Challenge.cw_railrooms_k03_whole_however_often_holds : PySem.Challenge.rw_railrooms_k03_whole_however_often.Holds := by
  w_on; o_law; k_head; (case hw => w_witness2)
  k_fill
  refine RR.walk_law (l := PySem.Challenge.rw_railrooms_k03_whole_however_often) rfl rfl (fun w h Y => PySem.W.kIn_of Y) ?L ?F
  case L => exact fun w => RR.no_list (by kernel_rfl)
  case F =>
    intro w mg fa h KX G hmg
    refine' RR.all_mk KX G hmg ?a0 ?l0 ?c0 ?k0 ?a1 ?l1 ?c1 ?k1 ?a2 ?l2 ?c2 ?k2 ?a3 ?l3 ?c3 ?k3 ?a4 ?l4 ?c4 ?k4 ?a5 ?l5 ?c5 ?k5 ?a6 ?l6 ?c6 ?k6 ?a7 ?l7 ?c7 ?k7 ?a8 ?l8 ?c8 ?k8 ?a9 ?l9 ?c9 ?k9 ?a10 ?l10 ?c10 ?k10 ?a11 ?l11 ?c11 ?k11 ?a12 ?l12 ?c12 ?k12 ?a39 ?l39 ?c39 ?k39 ?a40 ?l40 ?c40 ?k40 ?a41 ?l41 ?c41 ?k41 ?a42 ?l42 ?c42 ?k42 ?a15 ?l15 ?c15 ?k15 ?a16 ?l16 ?c16 ?k16 ?a31 ?l31 ?c31 ?k31 ?a17 ?l17 ?c17 ?k17 ?a18 ?l18 ?c18 ?k18 ?a19 ?l19 ?c19 ?k19 ?a20 ?l20 ?c20 ?k20 ?a21 ?l21 ?c21 ?k21 ?a22 ?l22 ?c22 ?k22 ?a23 ?l23 ?c23 ?k23 ?a24 ?l24 ?c24 ?k24 ?a25 ?l25 ?c25 ?k25 ?a26 ?l26 ?c26 ?k26 ?a43 ?l43 ?c43 ?k43 ?a44 ?l44 ?c44 ?k44 ?z0 ?z1 ?z2 ?z3 ?z4 ?z5 ?z6 ?z7 ?z8 ?z9 ?z10 ?z11 ?z12 ?y0 ?y1 ?y2 ?y3 ?ea0 ?eq0 ?ek0 ?eb0 ?et0 ?ea1 ?eq1 ?ek1 ?eb1 ?et1 ?ea2 ?eq2 ?ek2 ?eb2 ?et2 ?ea3 ?eq3 ?ek3 ?eb3 ?et3
    (case a0 => k_is)
    (case l0 => k_is)
    (case c0 => k_is)
    (case k0 => k_is)
    (case a1 => k_is)
    (case l1 => k_is)
    (case c1 => k_is)
    (case k1 => k_is)
    (case a2 => k_is)
    (case l2 => k_is)
    (case c2 => k_is)
    (case k2 => k_is)
    (case a3 => k_is)
    (case l3 => k_is)
    (case c3 => k_is)
    (case k3 => k_is)
    (case a4 => k_is)
    (case l4 => k_is)
    (case c4 => k_is)
    (case k4 => k_is)
    (case a5 => k_is)
    (case l5 => k_is)
    (case c5 => k_is)
    (case k5 => k_is)
    (case a6 => k_is)
    (case l6 => k_is)
    (case c6 => k_is)
    (case k6 => k_is)
    (case a7 => k_is)
    (case l7 => k_is)
    (case c7 => k_is)
    (case k7 => k_is)
    (case a8 => k_is)
    (case l8 => k_is)
    (case c8 => k_is)
    (case k8 => k_is)
    (case a9 => k_is)
    (case l9 => k_is)
    (case c9 => k_is)
    (case k9 => k_is)
    (case a10 => k_is)
    (case l10 => k_is)
    (case c10 => k_is)
    (case k10 => k_is)
    (case a11 => k_is)
    (case l11 => k_is)
    (case c11 => k_is)
    (case k11 => k_is)
    (case a12 => k_is)
    (case l12 => k_is)
    (case c12 => k_is)
    (case k12 => k_is)
    (case a39 => k_is)
    (case l39 => k_is)
    (case c39 => k_is)
    (case k39 => k_is)
    (case a40 => k_is)
    (case l40 => k_is)
    (case c40 => k_is)
    (case k40 => k_is)
    (case a41 => k_is)
    (case l41 => k_is)
    (case c41 => k_is)
    (case k41 => k_is)
    (case a42 => k_is)
    (case l42 => k_is)
    (case c42 => k_is)
    (case k42 => k_is)
    (case a15 => k_is)
    (case l15 => k_is)
    (case c15 => k_is)
    (case k15 => k_is)
    (case a16 => k_is)
    (case l16 => k_is)
    (case c16 => k_is)
    (case k16 => k_is)
    (case a31 => k_is)
    (case l31 => k_is)
    (case c31 => k_is)
    (case k31 => k_is)
    (case a17 => k_is)
    (case l17 => k_is)
    (case c17 => k_is)
    (case k17 => k_is)
    (case a18 => k_is)
    (case l18 => k_is)
    (case c18 => k_is)
    (case k18 => k_is)
    (case a19 => k_is)
    (case l19 => k_is)
    (case c19 => k_is)
    (case k19 => k_is)
    (case a20 => k_is)
    (case l20 => k_is)
    (case c20 => k_is)
    (case k20 => k_is)
    (case a21 => k_is)
    (case l21 => k_is)
    (case c21 => k_is)
    (case k21 => k_is)
    (case a22 => k_is)
    (case l22 => k_is)
    (case c22 => k_is)
    (case k22 => k_is)
    (case a23 => k_is)
    (case l23 => k_is)
    (case c23 => k_is)
    (case k23 => k_is)
    (case a24 => k_is)
    (case l24 => k_is)
    (case c24 => k_is)
    (case k24 => k_is)
    (case a25 => k_is)
    (case l25 => k_is)
    (case c25 => k_is)
    (case k25 => k_is)
    (case a26 => k_is)
    (case l26 => k_is)
    (case c26 => k_is)
    (case k26 => k_is)
    (case a43 => k_is)
    (case l43 => k_is)
    (case c43 => k_is)
    (case k43 => k_is)
    (case a44 => k_is)
    (case l44 => k_is)
    (case c44 => k_is)
    (case k44 => k_is)
    (case z0 => k_is)
    (case z1 => k_is)
    (case z2 => k_is)
    (case z3 => k_is)
    (case z4 => k_is)
    (case z5 => k_is)
    (case z6 => k_is)
    (case z7 => k_is)
    (case z8 => k_is)
    (case z9 => k_is)
    (case z10 => k_is)
    (case z11 => k_is)
    (case z12 => k_is)
    (case y0 => k_is)
    (case y1 => k_is)
    (case y2 => k_is)
    (case y3 => k_is)
    (case ea0 => k_is)
    (case eq0 => k_exc)
    (case ek0 => k_is)
    (case eb0 => k_is)
    (case et0 => k_is)
    (case ea1 => k_is)
    (case eq1 => k_exc)
    (case ek1 => k_is)
    (case eb1 => k_is)
    (case et1 => k_is)
    (case ea2 => k_is)
    (case eq2 => k_exc)
    (case ek2 => k_is)
    (case eb2 => k_is)
    (case et2 => k_is)
    (case ea3 => k_is)
    (case eq3 => k_exc)
    (case ek3 => k_is)
    (case eb3 => k_is)
    (case et3 => k_is)
