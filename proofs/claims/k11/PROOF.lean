import PyProof.Rows.All
import Wide.All
import OpenK.AllK
import Wide.FinOn
import KE.SortData
import KE.KeyNested
import HandS.ForMost
import HandS.Exc
import HandS.TryOnly
import HandS.ExcOwn
import HandS.WordsExc
import HandS.Deep
import HandS.Wide
import HandS.Flow
import HandS.TupAny
import KE.GoesDict
import PyProof.TwoTypes
import PyProof.TwoTypesSub
import PyProof.PureInt
import PyProof.CallStr
import PyProof.P3In
import PyProof.EqLayable
import PyProof.Rows.InDataRows
import KE.DataCmp
import PyProof.DictRoadsH
import PyProof.DictMoreH
import KE.KDictKeyed
import KE.KDictWalk
import KE.DataEq
import HandS.Style
import HandS.Words
import HandS.Iter
import HandS.RaiseMore
import PyProof.Rows.TupDisplay
import HandS.Dict
import HandS.Ends
import HandS.IsInst
import KE.SortKeyHeap
import HandS.DictComp
import KE.KDictSum
import HandS.SortKw
import HandS.TupSets
import HandS.SetFor
import HandS.Strs
import KE.KRevSl
import HandS.Zip
import HandS.Conv
import HandS.Text
import PySem.Challenge.RW_joinequal_k11_chains_and_conflicts_of_an
set_option autoImplicit false
set_option linter.all false
set_option Elab.async false
set_option maxRecDepth 100000
/-! MP1: a small pure interpreter for the Python that the laws are written in. -/
namespace MP
open PySem

/-- values: lists and dicts that nobody changes any more are values; `ref` is a changing object of the heap -/
inductive D where
  | non
  | bl (b : Bool)
  | int (i : Int)
  | str (s : List Nat)
  | tup (xs : List D)
  | lst (xs : List D)
  | rol (xs : List D)
  | dct (kvs : List (D × D))
  | ref (n : Nat)
  deriving Inhabited

/-- objects that change -/
inductive MO where
  | dead
  | lst (xs : List D)
  | dct (kvs : List (D × D))
  | ins (c : Nat) (fs : List (Nat × D))
  deriving Inhabited

abbrev MH := List MO

inductive Res (α : Type) where
  | ok (a : α) (h : MH)
  | exc (c : Nat) (fs : List D) (h : MH)
  | bad

namespace Res
def bind {α β : Type} (r : Res α) (f : α → MH → Res β) : Res β :=
  match r with
  | .ok a h => f a h
  | .exc c fs h => .exc c fs h
  | .bad => .bad
def ofO {α : Type} (o : Option α) (h : MH) : Res α :=
  match o with
  | some a => .ok a h
  | none => .bad
end Res

/-! ### data as the library reads it -/
mutual
def toPD : D → PyData
  | .non => .none
  | .bl b => .bool b
  | .int i => .int i
  | .str s => .str ⟨s.toArray⟩
  | .tup xs => .tuple (toPDs xs)
  | .lst xs => .list (toPDs xs)
  | .rol _ => .none
  | .dct kvs => .dict (toPDk kvs)
  | .ref _ => .none
def toPDs : List D → List PyData
  | [] => []
  | x :: xs => toPD x :: toPDs xs
def toPDk : List (D × D) → List (PyData × PyData)
  | [] => []
  | (k, v) :: r => (toPD k, toPD v) :: toPDk r
end
mutual
/-- all refs lie below n -/
def D.rb (n : Nat) : D → Bool
  | .non => true
  | .bl _ => true
  | .int _ => true
  | .str _ => true
  | .tup xs => rbs n xs
  | .lst xs => rbs n xs
  | .rol xs => rbs n xs
  | .dct kvs => rbk n kvs
  | .ref m => decide (m < n)
def rbs (n : Nat) : List D → Bool
  | [] => true
  | x :: xs => D.rb n x && rbs n xs
def rbk (n : Nat) : List (D × D) → Bool
  | [] => true
  | (k, v) :: r => D.rb n k && D.rb n v && rbk n r
end
mutual
/-- plain data, at most n levels: no dict, no ref within -/
def D.pl : D → Nat → Bool
  | .non, _ => true
  | .bl _, _ => true
  | .int _, _ => true
  | .str s, _ => s.all fun c => decide (c < 1114112)
  | .tup xs, n => match n with
    | 0 => false
    | n + 1 => pls xs n
  | .lst xs, n => match n with
    | 0 => false
    | n + 1 => pls xs n
  | .rol _, _ => false
  | .dct _, _ => false
  | .ref _, _ => false
def pls : List D → Nat → Bool
  | [], _ => true
  | x :: xs, n => D.pl x n && pls xs n
end
mutual
/-- as a key of a dict -/
def keyOf : D → Option NestedKey
  | .non => some .none
  | .bl b => some (.num (if b = true then 1 else 0))
  | .int i => some (.num i)
  | .str s => some (.text ⟨s.toArray⟩)
  | .tup xs => (keysOf xs).map .tup
  | _ => none
def keysOf : List D → Option (List NestedKey)
  | [] => some []
  | x :: xs => match keyOf x, keysOf xs with
    | some k, some ks => some (k :: ks)
    | _, _ => none
end
/-- a key that a dict may hold -/
def okKey (d : D) : Bool := match keyOf d with
  | some k => decide (k.depth ≤ 8)
  | none => false
def keyEq (a b : D) : Bool := match keyOf a, keyOf b with
  | some k, some l => decide (k = l)
  | _, _ => false
def dget (kvs : List (D × D)) (k : D) : Option D := (kvs.find? fun p => keyEq p.1 k).map (·.2)
def dput (kvs : List (D × D)) (k v : D) : List (D × D) :=
  if (kvs.any fun p => keyEq p.1 k) = true then kvs.map fun p => if keyEq p.1 k = true then (p.1, v) else p else kvs ++ [(k, v)]
def dputs (kvs : List (D × D)) : List (D × D) → List (D × D)
  | [] => kvs
  | (k, v) :: r => dputs (dput kvs k v) r
def ddel (kvs : List (D × D)) (k : D) : List (D × D) := kvs.filter fun p => !keyEq p.1 k
def okKeys (kvs : List (D × D)) : Bool := kvs.all fun p => okKey p.1

def MO.rb (n : Nat) : MO → Bool
  | .dead => true
  | .lst xs => rbs n xs
  | .dct kvs => rbk n kvs
  | .ins _ fs => fs.all fun p => D.rb n p.2

/-- == of plain data -/
def eqD (a b : D) : Bool := PyData.eqv (toPD a) (toPD b)
/-- the order of alike data -/
def leD (a b : D) : Bool := PySem.W.dataLe false toPD a b
def ltD (a b : D) : Bool := PySem.W.dataLt (toPD a) (toPD b)
def MAXL : Nat := 1000000

open Classical in
/-- sorted(xs) -/
noncomputable def sortD (xs : List D) : Option (List D) :=
  if pls xs 30 = true ∧ PySem.W.AllAlike (toPDs xs) ∧ PySem.W.Sortable (toPDs xs) ∧ xs.length ≤ MAXL then some (xs.mergeSort leD) else none
open Classical in
/-- xs sorted by the keys ks -/
noncomputable def sortBy (xs ks : List D) : Option (List D) :=
  if pls ks 30 = true ∧ PySem.W.AllAlike (toPDs ks) ∧ PySem.W.Sortable (toPDs ks) ∧ xs.length ≤ MAXL ∧ xs.length = ks.length then
    some (((xs.zip ks).mergeSort fun p q => leD p.2 q.2).map (·.1)) else none

/-! ### the mini language -/
inductive BOp where
  | add | sub | mul | fdv | md | pow | band | bor | shl
  deriving DecidableEq
inductive COp where
  | eq | ne | lt | le | gt | ge | isin | notin
  deriving DecidableEq
/-- what is made of one value -/
inductive B1 where
  | val | mut | frz | len | abs | int | str | sum | all | any | list | tuple | sorted | dict | min | max | repr | lenset | sortset | rev | items | values | enum | range | not | neg | lrg
  deriving DecidableEq
inductive B2 where
  | max | min | zip | range | zipl
  deriving DecidableEq
/-- methods of built-in types -/
inductive MB where
  | append | extend | insert | pop | pop0 | get | get2 | index | indexT | join | update | setdefault | split | split1 | startswith | startswithAt | isalpha | isdigit | count | replace
  deriving DecidableEq
inductive Ty where
  | int | str | tuple | list | dict | bool | own (c : Nat)
  deriving DecidableEq
/-- a target: a slot, or a tuple of targets -/
inductive Tg where
  | v (i : Nat)
  | t (ts : List Tg)

mutual
inductive ME where
  | non
  | bl (b : Bool)
  | int (i : Int)
  | str (s : List Nat)
  | var (i : Nat)
  | glb (g : Nat)
  | tup (es : MEs)
  | lst (es : MEs)
  | dct (kvs : MEs)
  | bin (op : BOp) (a b : ME)
  | cmp (op : COp) (a b : ME)
  | isn (neg : Bool) (a : ME)
  | isb (neg : Bool) (a : ME) (b : Bool)
  | chn (o1 o2 : COp) (a b c : ME)
  | and (a b : ME)
  | or (a b : ME)
  | ite (t a b : ME)
  | call (f : Nat) (es : MEs)
  | mth (m : Nat) (o : ME) (es : MEs)
  | new (c : Nat) (es : MEs)
  | fld (o : ME) (f : Nat)
  | ix (a i : ME)
  | sl (a lo hi : ME)
  | b1 (f : B1) (a : ME)
  | b2 (f : B2) (a b : ME)
  | isi (ts : List Ty) (a : ME)
  | srk (f : Nat) (a : ME)
  | mb (m : MB) (o : ME) (es : MEs)
  | mw (m : MB) (o a : ME)
  | lc (own : List Nat) (t : Tg) (it c e : ME)
  | lc2 (own : List Nat) (t : Tg) (it c : ME) (own2 : List Nat) (t2 : Tg) (it2 c2 : ME) (e : ME)
  | dc (own : List Nat) (t : Tg) (it c k v : ME)
  | dc2 (own : List Nat) (t : Tg) (it c : ME) (t2 : Tg) (it2 c2 : ME) (k v : ME)
inductive MEs where
  | n
  | c (e : ME) (r : MEs)
end

mutual
inductive MS where
  | asg (t : Tg) (e : ME)
  | fset (o : ME) (f : Nat) (e : ME)
  | iset (o i e : ME)
  | aug (i : Nat) (op : BOp) (e : ME)
  | faug (o : ME) (f : Nat) (op : BOp) (e : ME)
  | ex (e : ME)
  | ite (t : ME) (a b : MSs)
  | whl (t : ME) (b : MSs)
  | for_ (t : Tg) (it : ME) (b : MSs)
  | ret (e : ME)
  | pass
  | idel (o i : ME)
  | raise (c : Nat) (es : MEs)
  | try_ (b : MSs) (c : Nat) (i : Nat) (s : MSs)
  | fin (b s : MSs)
  | never
inductive MSs where
  | n
  | c (s : MS) (r : MSs)
end

abbrev Env := List (Option D)

/-- what an expression gives: a value; a list or dict that nobody else holds; things to be walked -/
inductive X where
  | d (v : D)
  | l (xs : List D)
  | k (kvs : List (D × D))
  | it (xs : List D) (g : List (Nat × MO))

def X.toV : X → Option D
  | .d v => some v
  | .l xs => some (.lst xs)
  | .k kvs => some (.dct kvs)
  | .it _ _ => none


def chars (s : List Nat) : List D := s.map fun c => .str [c]
def items : X → MH → Option (List D × List (Nat × MO))
  | .d (.tup xs), _ => some (xs, [])
  | .d (.lst xs), _ => some (xs, [])
  | .d (.str s), _ => some (chars s, [])
  | .d (.ref r), h => match h[r]? with
    | some (.lst xs) => some (xs, [(r, .lst xs)])
    | _ => none
  | .l xs, _ => some (xs, [])
  | .it xs g, _ => some (xs, g)
  | _, _ => none
/-- the walked objects still stand as they were -/
def guarded (g : List (Nat × MO)) (h : MH) : Prop := ∀ p ∈ g, h[p.1]? = some p.2
/-- with a changing list or dict read off -/
def norm : X → MH → Option D
  | .d (.ref r), h => match h[r]? with
    | some (.lst xs) => some (.lst xs)
    | some (.dct kvs) => some (.dct kvs)
    | _ => none
  | .d v, _ => some v
  | .l xs, _ => some (.lst xs)
  | .k kvs, _ => some (.dct kvs)
  | .it _ _, _ => none

def truthy : X → MH → Option Bool := fun x h => match norm x h with
  | some .non => some false
  | some (.bl b) => some b
  | some (.int i) => some (i != 0)
  | some (.str s) => if s.length ≤ MAXL then some (!s.isEmpty) else none
  | some (.tup xs) => some (!xs.isEmpty)
  | some (.lst xs) => some (!xs.isEmpty)
  | _ => none

/-! ### operators -/
def small64 (i : Int) : Bool := decide (-(2 ^ 64) < i ∧ i < 2 ^ 64)
def binD : BOp → D → D → Option X
  | .add, .int i, .int j => some (.d (.int (i + j)))
  | .add, .bl b, .int j => some (.d (.int ((if b = true then 1 else 0) + j)))
  | .add, .str s, .str t => if s.length + t.length ≤ MAXL then some (.d (.str (s ++ t))) else none
  | .add, .tup xs, .tup ys => if xs.length + ys.length ≤ MAXL then some (.d (.tup (xs ++ ys))) else none
  | .add, .lst xs, .lst ys => if xs.length + ys.length ≤ MAXL then some (.l (xs ++ ys)) else none
  | .sub, .int i, .int j => some (.d (.int (i - j)))
  | .mul, .int i, .int j => if small64 i || small64 j then some (.d (.int (i * j))) else none
  | .mul, .lst xs, .int k => if 0 ≤ k ∧ k ≤ MAXL ∧ xs.length * k.toNat ≤ MAXL then some (.l (List.replicate k.toNat xs).flatten) else none
  | .mul, .str s, .int k => if 1 ≤ k ∧ k ≤ 1000 ∧ 1 ≤ s.length ∧ s.length ≤ 1000 then some (.d (.str (List.replicate k.toNat s).flatten)) else none
  | .fdv, .int i, .int j => if 0 < j ∧ j < 2 ^ 64 then some (.d (.int (i / j))) else none
  | .md, .int i, .int j => if 0 < j then some (.d (.int (i % j))) else none
  | .pow, .int i, .int j => if 0 ≤ j ∧ j ≤ 1000 ∧ small64 i then some (.d (.int (i ^ j.toNat))) else none
  | .band, .int i, .int j => some (.d (.int (Builtin.bitAnd i j)))
  | .bor, .int i, .int j => some (.d (.int (Builtin.bitOr i j)))
  | .shl, .int i, .int j => if 0 ≤ j ∧ j ≤ 1000 ∧ small64 i then some (.d (.int (i * 2 ^ j.toNat))) else none
  | _, _, _ => none
def binX (op : BOp) (x y : X) (h : MH) : Option X := match norm x h, norm y h with
  | some a, some b => binD op a b
  | _, _ => none

def memD (x : D) (xs : List D) : Bool := xs.any fun y => eqD y x
mutual
/-- what can be shown: no object of an own class within -/
def D.sh : D → Bool
  | .non => true
  | .bl _ => true
  | .int _ => true
  | .str _ => true
  | .tup xs => shs xs
  | .lst xs => shs xs
  | .rol _ => false
  | .dct kvs => shk kvs
  | .ref _ => false
def shs : List D → Bool
  | [] => true
  | x :: xs => D.sh x && shs xs
def shk : List (D × D) → Bool
  | [] => true
  | (k, v) :: r => D.sh k && D.sh v && shk r
end
mutual
/-- data whose == never asks two dicts -/
def cmpP : PySem.PyData → PySem.PyData → Bool
  | .dict _, .none => true
  | .none, .dict _ => true
  | .dict _, _ => false
  | _, .dict _ => false
  | .tuple xs, .tuple ys => cmpPs xs ys
  | .list xs, .list ys => xs.length != ys.length || cmpPs xs ys
  | _, _ => true
def cmpPs : List PySem.PyData → List PySem.PyData → Bool
  | x :: xs, y :: ys => cmpP x y && cmpPs xs ys
  | _, _ => true
end
/-- data that may hold dicts where they are never compared -/
def plD (a b : D) : Bool := match a, b with
  | .tup xs, .tup ys => shs xs && shs ys && cmpPs (toPDs xs) (toPDs ys) && decide (PySem.PyData.depthAll (toPDs xs) ≤ 60)
  | .lst xs, .lst ys => shs xs && shs ys && (xs.length != ys.length || cmpPs (toPDs xs) (toPDs ys)) && decide (PySem.PyData.depthAll (toPDs xs) ≤ 60)
  | _, _ => false
/-- what == may be asked of: two texts, or plain data -/
def plE (a b : D) : Bool := match a, b with
  | .str _, .str _ => true
  | a, b => (a.pl 30 && b.pl 30) || plD a b
theorem plE_or {a b : D} (h : plE a b = true) : (∃ s t, a = .str s ∧ b = .str t) ∨ (a.pl 30 = true ∧ b.pl 30 = true) ∨ plD a b = true := by
  unfold plE at h
  split at h
  · exact .inl ⟨_, _, rfl, rfl⟩
  · rw [Bool.or_eq_true, Bool.and_eq_true] at h
    exact .inr h
open Classical in
noncomputable def cmpD : COp → D → D → Option Bool
  | .eq, a, b => if plE a b = true then some (eqD a b) else none
  | .ne, a, b => if plE a b = true then some (!eqD a b) else none
  | .lt, .int i, .int j => some (decide (i < j))
  | .le, .int i, .int j => some (decide (i ≤ j))
  | .gt, .int i, .int j => some (decide (j < i))
  | .ge, .int i, .int j => some (decide (j ≤ i))
  | .lt, .str s, .str t => some (decide (s < t))
  | .le, .str s, .str t => some (!decide (t < s))
  | .gt, .str s, .str t => some (decide (t < s))
  | .ge, .str s, .str t => some (!decide (s < t))
  | .lt, .tup xs, .tup ys => if (D.tup xs).pl 30 = true ∧ (D.tup ys).pl 30 = true ∧ PySem.W.alike (toPD (.tup xs)) (toPD (.tup ys)) = true then some (ltD (.tup xs) (.tup ys)) else none
  | .isin, .str [c], .str t => some (decide (c ∈ t))
  | .notin, .str [c], .str t => some (!decide (c ∈ t))
  | .isin, a, .tup xs => if a.pl 30 = true ∧ pls xs 29 = true then some (memD a xs) else none
  | .isin, a, .lst xs => if a.pl 30 = true ∧ pls xs 29 = true then some (memD a xs) else none
  | .isin, a, .dct kvs => if okKey a = true then some (dget kvs a).isSome else none
  | .notin, a, .tup xs => if a.pl 30 = true ∧ pls xs 29 = true then some (!memD a xs) else none
  | .notin, a, .lst xs => if a.pl 30 = true ∧ pls xs 29 = true then some (!memD a xs) else none
  | .notin, a, .dct kvs => if okKey a = true then some (!(dget kvs a).isSome) else none
  | _, _, _ => none
noncomputable def cmpX (op : COp) (x y : X) (h : MH) : Option Bool := match norm x h, norm y h with
  | some a, some b => cmpD op a b
  | _, _ => none

/-- the item at an index -/
def atD (xs : List D) (i : Int) : Option D := if 0 ≤ i then xs[i.toNat]? else if 0 ≤ (xs.length : Int) + i then xs[((xs.length : Int) + i).toNat]? else none
def ixD : D → D → Option D
  | .tup xs, .int i => atD xs i
  | .lst xs, .int i => atD xs i
  | .rol xs, .int i => atD xs i
  | .str s, .int i => if s.length ≤ MAXL then atD (chars s) i else none
  | .dct kvs, k => if okKey k = true then dget kvs k else none
  | _, _ => none
def ixX (x : X) (i : D) (h : MH) : Option D := match norm x h with
  | some a => ixD a i
  | none => none

/-- a slice's end within 0 .. n -/
def cutN (n : Nat) (d : Nat) : Option Int → Nat
  | none => d
  | some i => if i < 0 then (i + (n : Int)).toNat else min i.toNat n
def cutL {α : Type} (xs : List α) (lo hi : Nat) : List α := (xs.drop lo).take (hi - lo)
def slX (x : X) (lo hi : Option Int) (h : MH) : Option X := match norm x h with
  | some (.tup xs) => some (.d (.tup (cutL xs (cutN xs.length 0 lo) (cutN xs.length xs.length hi))))
  | some (.lst xs) => some (.l (cutL xs (cutN xs.length 0 lo) (cutN xs.length xs.length hi)))
  | some (.str s) => if s.length ≤ MAXL then some (.d (.str (cutL s (cutN s.length 0 lo) (cutN s.length s.length hi)))) else none
  | _ => none
def ME.isNon : ME → Bool
  | .non => true
  | _ => false
/-- a slice's end: written or not -/
def slP (m : ME) (x : X) : Option (Option Int) := if m.isNon = true then some none else match x with
  | .d (.int i) => some (some i)
  | _ => none

/-! ### what is made of one value -/
def isDigit (c : Nat) : Bool := 48 ≤ c && c ≤ 57
def digitsVal (s : List Nat) : Nat := s.foldl (fun n c => n * 10 + (c - 48)) 0
def intOfStr : List Nat → Option Int
  | [] => none
  | 45 :: s => if s.all isDigit && !s.isEmpty && s.length ≤ 600 then some (-(digitsVal s : Int)) else none
  | s => if s.all isDigit && s.length ≤ 600 then some (digitsVal s : Int) else none
def strOfInt (i : Int) : List Nat := ((toString i : String) : Str).cps.toList
def intsOf : List D → Option (List Int)
  | [] => some []
  | .int i :: r => (intsOf r).map (i :: ·)
  | _ => none
def strsOf : List D → Option (List (List Nat))
  | [] => some []
  | .str s :: r => (strsOf r).map (s :: ·)
  | _ => none
def pairsOfD : List D → Option (List (D × D))
  | [] => some []
  | .tup [k, v] :: r => (pairsOfD r).map ((k, v) :: ·)
  | _ => none
/-- k1, v1, k2, v2, .. -/
def pairUp : List D → Option (List (D × D))
  | [] => some []
  | k :: v :: r => (pairUp r).map ((k, v) :: ·)
  | _ => none
def truthyAll (xs : List D) (h : MH) : Option (List Bool) := match xs with
  | [] => some []
  | x :: r => match truthy (.d x) h, truthyAll r h with
    | some b, some bs => some (b :: bs)
    | _, _ => none
/-- the first of each class of equal items -/
def dedup (xs : List D) : List D := (dputs [] (xs.map fun x => (x, .non))).map (·.1)
def enumD (k : Nat) : List D → List D
  | [] => []
  | x :: r => .tup [.int k, x] :: enumD (k + 1) r
def rangeD (lo : Int) (n : Nat) : List D := (List.range n).map fun k => .int (lo + (k : Nat))
def zipD : List D → List D → List D
  | x :: xs, y :: ys => .tup [x, y] :: zipD xs ys
  | _, _ => []
def joinS (sep : List Nat) : List (List Nat) → List Nat
  | [] => []
  | [x] => x
  | x :: r => x ++ sep ++ joinS sep r
def minI : List Int → Option Int
  | [] => none
  | x :: r => some (r.foldl min x)
def maxI : List Int → Option Int
  | [] => none
  | x :: r => some (r.foldl max x)

def lenX (x : X) (h : MH) : Option Nat := match norm x h with
  | some (.str s) => if s.length ≤ MAXL then some s.length else none
  | some (.tup xs) => some xs.length
  | some (.lst xs) => some xs.length
  | some (.rol xs) => some xs.length
  | _ => none
def reprD (d : D) : List Nat := (PyData.shown (toPD d)).cps.toList

def absX (x : X) : Option X := match x with
  | .d (.int i) => some (.d (.int (if i < 0 then -i else i)))
  | _ => none
def intX (x : X) : Option X := match x with
  | .d (.bl b) => some (.d (.int (if b = true then 1 else 0)))
  | .d (.int i) => some (.d (.int i))
  | .d (.str s) => if s.length ≤ 640 then (PySem.intText? ⟨s.toArray⟩).map fun i => X.d (.int i) else none
  | _ => none
def strX (x : X) : Option X := match x with
  | .d (.int i) => if i.natAbs.log2 < 1920 then some (.d (.str (strOfInt i))) else none
  | .d (.str s) => some (.d (.str s))
  | .d (.bl b) => some (.d (.str (if b = true then [84, 114, 117, 101] else [70, 97, 108, 115, 101])))
  | _ => none
def negX (x : X) : Option X := match x with
  | .d (.int i) => some (.d (.int (-i)))
  | .d (.bl b) => some (.d (.int (-(if b = true then 1 else 0))))
  | _ => none
def rangeX (x : X) : Option X := match x with
  | .d (.int n) => if n ≤ MAXL ∧ -(2 ^ 60) ≤ n then some (.it (rangeD 0 n.toNat) []) else none
  | _ => none
def blsOf : List D → Option (List Bool)
  | [] => some []
  | .bl b :: r => (blsOf r).map (b :: ·)
  | _ => none
def sumX (x : X) (h : MH) : Option X := match norm x h with
  | some (.lst xs) => (intsOf xs).map fun is => X.d (.int is.sum)
  | _ => none
def allX (x : X) (h : MH) : Option X := match norm x h with
  | some (.lst xs) => (blsOf xs).map fun bs => X.d (.bl (bs.all id))
  | _ => none
def anyX (x : X) (h : MH) : Option X := match norm x h with
  | some (.lst xs) => (blsOf xs).map fun bs => X.d (.bl (bs.any id))
  | _ => none
def listX (x : X) (h : MH) : Option X := match norm x h with
  | some (.lst xs) => some (.l xs)
  | some (.tup xs) => some (.l xs)
  | _ => none
def tupleX (x : X) (h : MH) : Option X := match norm x h with
  | some (.lst xs) => some (.d (.tup xs))
  | some (.tup xs) => some (.d (.tup xs))
  | _ => none
/-- a list's or a tuple's items -/
def seqX (x : X) (h : MH) : Option (List D) := match norm x h with
  | some (.lst xs) => some xs
  | some (.tup xs) => some xs
  | _ => none
/-- what sorted walks: a list, a tuple, a dict's keys -/
def srcX (x : X) (h : MH) : Option (List D) := match norm x h with
  | some (.lst xs) => some xs
  | some (.tup xs) => some xs
  | some (.dct kvs) => if kvs.length ≤ MAXL then some (kvs.map (·.1)) else none
  | _ => none
noncomputable def sortedX (x : X) (h : MH) : Option X := match seqX x h with
  | some p => (sortD p).map X.l
  | none => none
/-- the items of a list whose set may be made: all texts or all tuples that may be keys -/
def okSet (p : List D) : Prop := p.all okKey = true ∧ p.length < 64 ∧ ((∀ d ∈ p, ∃ s, d = .str s) ∨ ∀ d ∈ p, ∃ xs, d = .tup xs)
def lstX (x : X) (h : MH) : Option (List D) := match norm x h with
  | some (.lst xs) => some xs
  | some (.tup xs) => some xs
  | _ => none
open Classical in
noncomputable def sortsetX (x : X) (h : MH) : Option X := match lstX x h with
  | some p => if okSet p ∧ ∀ q, q.Perm (dedup p) → sortD q = sortD (dedup p) then (sortD (dedup p)).map X.l else none
  | none => none
open Classical in
noncomputable def lensetX (x : X) (h : MH) : Option X := match lstX x h with
  | some p => if okSet p then some (.d (.int ((dedup p).length : Int))) else none
  | none => none
def dictX (x : X) (h : MH) : Option X := match norm x h with
  | some (.dct kvs) => some (.k kvs)
  | _ => match items x h with
    | some p => match pairsOfD p.1 with
      | some kvs => if okKeys kvs = true then some (.k (dputs [] kvs)) else none
      | none => none
    | none => none
def minX (x : X) (h : MH) : Option X := match norm x h with
  | some (.lst xs) => match intsOf xs with
    | some is => (minI is).map fun i => X.d (.int i)
    | none => none
  | _ => none
def maxX (x : X) (h : MH) : Option X := match norm x h with
  | some (.lst xs) => match intsOf xs with
    | some is => (maxI is).map fun i => X.d (.int i)
    | none => none
  | _ => none
def reprX (x : X) (h : MH) : Option X := match norm x h with
  | some v => if v.sh = true ∧ PyData.showable (toPD v) = true ∧ (reprD v).length ≤ MAXL ∧ PyData.depth (toPD v) ≤ 60 then some (.d (.str (reprD v))) else none
  | none => none
def revX (x : X) (h : MH) : Option X := match norm x h with
  | some (.tup xs) => some (.d (.tup xs.reverse))
  | some (.lst xs) => some (.l xs.reverse)
  | _ => none
/-- the changing object that a result is -/
def guardOf (x : X) (kvs : List (D × D)) : List (Nat × MO) := match x with
  | .d (.ref r) => [(r, .dct kvs)]
  | _ => []
def itemsX (x : X) (h : MH) : Option X := match norm x h with
  | some (.dct kvs) => some (.it (kvs.map fun p => .tup [p.1, p.2]) (guardOf x kvs))
  | _ => none
def valuesX (x : X) (h : MH) : Option X := match norm x h with
  | some (.dct kvs) => some (.it (kvs.map (·.2)) (guardOf x kvs))
  | _ => none
def enumX (x : X) (h : MH) : Option X := (items x h).map fun p => X.it (enumD 0 p.1) p.2
def lrgX (x : X) : Option X := match x with
  | .d (.int n) => if n ≤ MAXL ∧ -(2 ^ 60) ≤ n then some (.l (rangeD 0 n.toNat)) else none
  | _ => none
noncomputable def b1X (f : B1) (x : X) (h : MH) : Option X := match f with
  | .val => x.toV.map X.d
  | .len => (lenX x h).map fun (n : Nat) => X.d (.int (n : Int))
  | .abs => absX x
  | .int => intX x
  | .str => strX x
  | .sum => sumX x h
  | .all => allX x h
  | .any => anyX x h
  | .list => listX x h
  | .tuple => tupleX x h
  | .sorted => sortedX x h
  | .sortset => sortsetX x h
  | .lenset => lensetX x h
  | .dict => dictX x h
  | .min => minX x h
  | .max => maxX x h
  | .repr => reprX x h
  | .rev => revX x h
  | .items => itemsX x h
  | .values => valuesX x h
  | .enum => enumX x h
  | .range => rangeX x
  | .lrg => lrgX x
  | .not => (truthy x h).map fun b => X.d (.bl (!b))
  | .neg => negX x
  | .mut => none
  | .frz => none

def i2 (f : Int → Int → Option X) : X → X → Option X
  | .d (.int i), .d (.int j) => f i j
  | _, _ => none
/-- a list's (false), a tuple's (true) items -/
def zseq (x : X) (h : MH) : Option (Bool × List D × List (Nat × MO)) := match x with
  | .d (.tup xs) => some (true, xs, [])
  | .d (.lst xs) => some (false, xs, [])
  | .l xs => some (false, xs, [])
  | .d (.ref r) => match h[r]? with
    | some (.lst xs) => some (false, xs, [(r, .lst xs)])
    | _ => none
  | _ => none
def zipX (x y : X) (h : MH) : Option X := match zseq x h, zseq y h with
  | some p, some q => if p.1 = q.1 then some (.it (zipD p.2.1 q.2.1) (p.2.2 ++ q.2.2)) else none
  | _, _ => none
def b2X (f : B2) (x y : X) (h : MH) : Option X := match f with
  | .max => i2 (fun i j => some (.d (.int (if j > i then j else i)))) x y
  | .min => i2 (fun i j => some (.d (.int (if j < i then j else i)))) x y
  | .zip => zipX x y h
  | .zipl => match zipX x y h with
    | some (.it xs _) => some (.l xs)
    | _ => none
  | .range => i2 (fun i j => if -(2 ^ 60) ≤ i ∧ i ≤ MAXL ∧ j ≤ MAXL ∧ -(2 ^ 60) ≤ j ∧ j - i ≤ MAXL then some (.it (rangeD i (j - i).toNat) []) else none) x y

/-- a value's type, by number -/
def tyN (x : D) (h : MH) : Option Nat := match x with
  | .non => some 0
  | .bl _ => some 1
  | .int _ => some 2
  | .str _ => some 3
  | .tup _ => some 4
  | .lst _ => some 5
  | .rol _ => some 5
  | .dct _ => some 6
  | .ref r => match h[r]? with
    | some (.lst _) => some 5
    | some (.dct _) => some 6
    | _ => none
def Ty.num : Ty → Option Nat
  | .bool => some 1
  | .int => some 2
  | .str => some 3
  | .tuple => some 4
  | .list => some 5
  | .dict => some 6
  | .own _ => none
def isN2 (n m : Nat) : Bool := n == m || (n == 1 && m == 2)
def isTy (x : D) (h : MH) (t : Ty) : Option Bool := match t.num, tyN x h with
  | some m, some n => some (isN2 n m)
  | _, _ => none
def isTys (x : D) (h : MH) : List Ty → Option Bool
  | [] => some false
  | t :: r => match isTy x h t with
    | some true => some true
    | some false => isTys x h r
    | none => none

/-- a changing list -/
def lstAt (x : X) (h : MH) : Option (Nat × List D) := match x with
  | .d (.ref r) => match h[r]? with
    | some (.lst xs) => some (r, xs)
    | _ => none
  | _ => none
def dctAt (x : X) (h : MH) : Option (Nat × List (D × D)) := match x with
  | .d (.ref r) => match h[r]? with
    | some (.dct xs) => some (r, xs)
    | _ => none
  | _ => none
def appendX (x : X) (ds : List D) (h : MH) : Option (X × MH) := match lstAt x h, ds with
  | some (r, xs), [v] => if xs.length < MAXL then some (.d .non, h.set r (.lst (xs ++ [v]))) else none
  | _, _ => none
def insertX (x : X) (ds : List D) (h : MH) : Option (X × MH) := match lstAt x h, ds with
  | some (r, xs), [.int i, v] => if i = 0 ∧ xs.length < MAXL then some (.d .non, h.set r (.lst (v :: xs))) else none
  | _, _ => none
def popX (x : X) (ds : List D) (h : MH) : Option (X × MH) := match lstAt x h, ds with
  | some (r, xs), [] => match xs.getLast? with
    | some v => some (.d v, h.set r (.lst xs.dropLast))
    | none => none
  | _, _ => none
def popAtX (x : X) (ds : List D) (h : MH) : Option (X × MH) := match lstAt x h, ds with
  | some (r, xs), [.int i] => if 0 ≤ i ∧ i < 1000000 then match xs[i.toNat]? with
      | some v => some (.d v, h.set r (.lst (xs.eraseIdx i.toNat)))
      | none => none
    else none
  | _, _ => none
def getX (x : X) (ds : List D) (h : MH) : Option (X × MH) := match norm x h, ds with
  | some (.dct kvs), [k] => if okKey k = true then some (.d ((dget kvs k).getD .non), h) else none
  | _, _ => none
def get2X (x : X) (ds : List D) (h : MH) : Option (X × MH) := match norm x h, ds with
  | some (.dct kvs), [k, v] => if okKey k = true then some (.d ((dget kvs k).getD v), h) else none
  | _, _ => none
def indexX (x : X) (ds : List D) (h : MH) : Option (X × MH) := match seqX x h, ds with
  | some xs, [v] => if v.pl 30 = true ∧ pls xs 29 = true then (xs.findIdx? fun y => eqD y v).map fun (i : Nat) => (X.d (.int (i : Int)), h) else none
  | _, _ => none
def startsX (x : X) (ds : List D) (h : MH) : Option (X × MH) := match x, ds with
  | .d (.str s), [.str t] => some (.d (.bl (t.isPrefixOf s)), h)
  | _, _ => none
/-- methods of built-in types: what they give and what they leave -/
def mbX (m : MB) (x : X) (ds : List D) (h : MH) : Option (X × MH) := match m with
  | .append => appendX x ds h
  | .insert => insertX x ds h
  | .pop => popX x ds h
  | .pop0 => popAtX x ds h
  | .get => getX x ds h
  | .get2 => get2X x ds h
  | .index => indexX x ds h
  | .indexT => indexX x ds h
  | .startswith => startsX x ds h
  | _ => none
def extendX (x y : X) (h : MH) : Option (X × MH) := match lstAt x h, norm y h with
  | some (r, xs), some (.lst ys) => if xs.length + ys.length ≤ MAXL then some (.d .non, h.set r (.lst (xs ++ ys))) else none
  | some (r, xs), some (.tup ys) => if xs.length + ys.length ≤ MAXL then some (.d .non, h.set r (.lst (xs ++ ys))) else none
  | _, _ => none
def joinX (x y : X) (h : MH) : Option (X × MH) := match x, seqX y h with
  | .d (.str sep), some ys => match strsOf ys with
    | some ss => if (ss.map (·.length)).sum + ss.length * sep.length ≤ MAXL then some (.d (.str (joinS sep ss)), h) else none
    | none => none
  | _, _ => none
def updateX (x y : X) (h : MH) : Option (X × MH) := match dctAt x h, norm y h with
  | some (r, kvs), some (.dct more) => if kvs.length + more.length ≤ MAXL then some (.d .non, h.set r (.dct (dputs kvs more))) else none
  | _, _ => none
/-- methods whose argument is looked into -/
def mbW (m : MB) (x y : X) (h : MH) : Option (X × MH) := match m with
  | .extend => extendX x y h
  | .join => joinX x y h
  | .update => updateX x y h
  | _ => none
/-- of which type a thing is: 0 list, 1 dict, 2 str, 3 tuple -/
def kindX (x : X) (h : MH) : Nat := match norm x h with
  | some (.lst _) => 0
  | some (.dct _) => 1
  | some (.str _) => 2
  | some (.tup _) => 3
  | _ => 9
def MB.kind : MB → Nat
  | .append => 0
  | .extend => 0
  | .insert => 0
  | .pop => 0
  | .pop0 => 0
  | .get => 1
  | .get2 => 1
  | .index => 0
  | .indexT => 3
  | .update => 1
  | .setdefault => 1
  | _ => 2
/-- o[k] = d -/
def setX (x : X) (k d : D) (h : MH) : Option MH := match x with
  | .d (.ref r) => match h[r]? with
    | some (.lst xs) => match k with
      | .int j => if 0 ≤ j ∧ j < xs.length then some (h.set r (.lst (xs.set j.toNat d))) else none
      | _ => none
    | some (.dct kvs) => if okKey k = true ∧ kvs.length < MAXL then some (h.set r (.dct (dput kvs k d))) else none
    | _ => none
  | _ => none

/-! ### targets -/
mutual
def Tg.slots : Tg → List Nat
  | .v i => [i]
  | .t ts => Tg.slotss ts
def Tg.slotss : List Tg → List Nat
  | [] => []
  | a :: r => a.slots ++ Tg.slotss r
end
mutual
def asgT : Tg → D → Env → Option Env
  | .v i, d, e => if i < e.length then some (e.set i (some d)) else none
  | .t ts, d, e => match d with
    | .tup xs => asgTs ts xs e
    | _ => none
def asgTs : List Tg → List D → Env → Option Env
  | [], [], e => some e
  | t :: ts, d :: ds, e => match asgT t d e with
    | some e' => asgTs ts ds e'
    | none => none
  | _, _, _ => none
end
def asgX (t : Tg) (x : X) (h : MH) (e : Env) : Option Env := match t with
  | .v _ => match x.toV with
    | some d => asgT t d e
    | none => none
  | .t _ => match norm x h with
    | some d => asgT t d e
    | none => none

def wipe (e : Env) : List Nat → Env
  | [] => e
  | i :: r => (wipe e r).set i none

structure FnDef where
  np : Nat
  ns : Nat
  body : MSs
structure Prog where
  F : Nat → Option FnDef
  G : Nat → Option D
  mt : Nat → Nat → Option Nat
  init : Nat → Option Nat

abbrev CF := Nat → List D → MH → Res D

open Classical in
/-- the items, one after the other: a list of what f gives -/
noncomputable def loopL (g : List (Nat × MO)) (f : D → MH → Res (Option D)) : List D → MH → Res (List D)
  | [], h => if guarded g h then .ok [] h else .bad
  | x :: r, h => if guarded g h then (f x h).bind fun y h1 => (loopL g f r h1).bind fun ys h2 => .ok (match y with | some v => v :: ys | none => ys) h2 else .bad
open Classical in
noncomputable def loopLL (g : List (Nat × MO)) (f : D → MH → Res (List D)) : List D → MH → Res (List D)
  | [], h => if guarded g h then .ok [] h else .bad
  | x :: r, h => if guarded g h then (f x h).bind fun y h1 => (loopLL g f r h1).bind fun ys h2 => .ok (y ++ ys) h2 else .bad
open Classical in
noncomputable def loopD (g : List (Nat × MO)) (f : D → MH → Res (Option (D × D))) : List D → List (D × D) → MH → Res (List (D × D))
  | [], acc, h => if guarded g h then .ok acc h else .bad
  | x :: r, acc, h => if guarded g h then (f x h).bind fun y h1 => match y with
      | some (k, v) => if okKey k = true ∧ acc.length < MAXL then loopD g f r (dput acc k v) h1 else .bad
      | none => loopD g f r acc h1 else .bad

def vOf (r : Res X) : Res D := r.bind fun x h => .ofO x.toV h
section
variable (P : Prog) (cf : CF)
def keysBy (f : Nat) : List D → MH → Res (List D)
  | [], h => .ok [] h
  | x :: r, h => (cf f [x] h).bind fun k h1 => (keysBy f r h1).bind fun ks h2 => .ok (k :: ks) h2

mutual
noncomputable def evalX : ME → Env → MH → Res X
  | .non, _, h => .ok (.d .non) h
  | .bl b, _, h => .ok (.d (.bl b)) h
  | .int i, _, h => .ok (.d (.int i)) h
  | .str s, _, h => .ok (.d (.str s)) h
  | .var i, e, h => match e[i]? with
    | some (some v) => .ok (.d v) h
    | _ => .bad
  | .glb g, _, h => match P.G g with
    | some v => .ok (.d v) h
    | none => .bad
  | .tup es, e, h => (evalVs es e h).bind fun ds h => .ok (.d (.tup ds)) h
  | .lst es, e, h => (evalVs es e h).bind fun ds h => .ok (.l ds) h
  | .dct es, e, h => (evalVs es e h).bind fun ds h => match pairUp ds with
    | some kvs => if okKeys kvs = true ∧ kvs.length ≤ 15 then .ok (.k (dputs [] kvs)) h else .bad
    | none => .bad
  | .bin op a b, e, h => (evalX a e h).bind fun x h => (evalX b e h).bind fun y h => .ofO (binX op x y h) h
  | .cmp op a b, e, h => (evalX a e h).bind fun x h => (evalX b e h).bind fun y h => .ofO ((cmpX op x y h).map fun c => .d (.bl c)) h
  | .isn neg a, e, h => (evalX a e h).bind fun x h => match x with
    | .d .non => .ok (.d (.bl (!neg))) h
    | .it _ _ => .bad
    | _ => .ok (.d (.bl neg)) h
  | .isb neg a b, e, h => (evalX a e h).bind fun x h => match x with
    | .d (.bl c) => .ok (.d (.bl (if neg = true then !decide (c = b) else decide (c = b)))) h
    | _ => .bad
  | .chn o1 o2 a b c, e, h => (evalX a e h).bind fun x h => (evalX b e h).bind fun y h => match cmpX o1 x y h with
    | some true => (evalX c e h).bind fun z h => .ofO ((cmpX o2 y z h).map fun c => .d (.bl c)) h
    | some false => .ok (.d (.bl false)) h
    | none => .bad
  | .and a b, e, h => (evalX a e h).bind fun x h => match truthy x h with
    | some true => evalX b e h
    | some false => .ok x h
    | none => .bad
  | .or a b, e, h => (evalX a e h).bind fun x h => match truthy x h with
    | some true => .ok x h
    | some false => evalX b e h
    | none => .bad
  | .ite t a b, e, h => (evalX t e h).bind fun x h => match truthy x h with
    | some true => evalX a e h
    | some false => evalX b e h
    | none => .bad
  | .call f es, e, h => (evalVs es e h).bind fun ds h => (cf f ds h).bind fun v h => .ok (.d v) h
  | .mth m o es, e, h => (evalX o e h).bind fun x h => match x with
    | .d (.ref r) => match h[r]? with
      | some (.ins c _) => match P.mt c m with
        | some f => (evalVs es e h).bind fun ds h => (cf f (.ref r :: ds) h).bind fun v h => .ok (.d v) h
        | none => .bad
      | _ => .bad
    | _ => .bad
  | .new c es, e, h => (evalVs es e h).bind fun ds h => match P.init c with
    | some f => (cf f (.ref h.length :: ds) (h ++ [.ins c []])).bind fun v h' => match v with
      | .non => .ok (.d (.ref h.length)) h'
      | _ => .bad
    | none => .bad
  | .fld o f, e, h => (evalX o e h).bind fun x h => match x with
    | .d (.ref r) => match h[r]? with
      | some (.ins _ fs) => match fs.lookup f with
        | some v => .ok (.d v) h
        | none => .bad
      | _ => .bad
    | _ => .bad
  | .ix a i, e, h => (evalX a e h).bind fun x h => (evalX i e h).bind fun y h => match y.toV with
    | some k => .ofO ((ixX x k h).map .d) h
    | none => .bad
  | .sl a lo hi, e, h => (evalX a e h).bind fun x h => (evalX lo e h).bind fun y h => match slP lo y with
    | some l => (evalX hi e h).bind fun z h => match slP hi z with
      | some u => .ofO (slX x l u h) h
      | none => .bad
    | none => .bad
  | .b1 f a, e, h => (evalX a e h).bind fun x h => match f with
    | .mut => match x with
      | .l xs => .ok (.d (.ref h.length)) (h ++ [.lst xs])
      | .k kvs => .ok (.d (.ref h.length)) (h ++ [.dct kvs])
      | _ => .bad
    | .frz => match x with
      | .d (.ref r) => match h[r]? with
        | some (.lst xs) => .ok (.d (.lst xs)) (h.set r .dead)
        | some (.dct kvs) => .ok (.d (.dct kvs)) (h.set r .dead)
        | _ => .ok x h
      | _ => .ok x h
    | f => .ofO (b1X f x h) h
  | .b2 f a b, e, h => (evalX a e h).bind fun x h => (evalX b e h).bind fun y h => .ofO (b2X f x y h) h
  | .isi ts a, e, h => (evalX a e h).bind fun x h => match x.toV with
    | some v => .ofO ((isTys v h ts).map fun b => .d (.bl b)) h
    | none => .bad
  | .srk f a, e, h => (evalX a e h).bind fun x h => match srcX x h with
    | some xs => (keysBy cf f xs h).bind fun ks h => .ofO ((sortBy xs ks).map .l) h
    | none => .bad
  | .mb m o es, e, h => (evalX o e h).bind fun x h => if kindX x h = m.kind then (evalVs es e h).bind fun ds h => match mbX m x ds h with
      | some (v, h') => .ok v h'
      | none => .bad
    else .bad
  | .mw m o a, e, h => (evalX o e h).bind fun x h => if kindX x h = m.kind then (evalX a e h).bind fun y h => match mbW m x y h with
      | some (v, h') => .ok v h'
      | none => .bad
    else .bad
  | .lc own t it c a, e, h => (evalX it e h).bind fun x h => match items x h with
    | some (xs, g) => if xs.length ≤ MAXL then (loopL g (fun d h => match asgT t d (wipe e own) with
        | some e1 => (evalX c e1 h).bind fun y h => match truthy y h with
          | some true => (vOf (evalX a e1 h)).bind fun v h => .ok (some v) h
          | some false => .ok none h
          | none => .bad
        | none => .bad) xs h).bind fun ys h => .ok (.l ys) h else .bad
    | none => .bad
  | .lc2 own t it c own2 t2 it2 c2 a, e, h => (evalX it e h).bind fun x h => match items x h with
    | some (xs, g) => if xs.length ≤ 1000 then (loopLL g (fun d h => match asgT t d (wipe e own) with
        | some e1 => (evalX c e1 h).bind fun y h => match truthy y h with
          | some true => (evalX it2 e1 h).bind fun x2 h => match items x2 h with
            | some (xs2, g2) => if xs2.length ≤ 1000 then loopL g2 (fun d2 h => match asgT t2 d2 (wipe e1 own2) with
              | some e2 => (evalX c2 e2 h).bind fun y h => match truthy y h with
                | some true => (vOf (evalX a e2 h)).bind fun v h => .ok (some v) h
                | some false => .ok none h
                | none => .bad
              | none => .bad) xs2 h else .bad
            | none => .bad
          | some false => .ok [] h
          | none => .bad
        | none => .bad) xs h).bind fun ys h => .ok (.l ys) h else .bad
    | none => .bad
  | .dc own t it c k v, e, h => (evalX it e h).bind fun x h => match items x h with
    | some (xs, g) => (loopD g (fun d h => match asgT t d (wipe e own) with
        | some e1 => (evalX c e1 h).bind fun y h => match truthy y h with
          | some true => (vOf (evalX k e1 h)).bind fun a h => (vOf (evalX v e1 h)).bind fun b h => .ok (some (a, b)) h
          | some false => .ok none h
          | none => .bad
        | none => .bad) xs [] h).bind fun ys h => .ok (.k ys) h
    | none => .bad
  | .dc2 .., _, _ => .bad
noncomputable def evalVs : MEs → Env → MH → Res (List D)
  | .n, _, h => .ok [] h
  | .c a r, e, h => (evalX a e h).bind fun x h => match x.toV with
    | some v => (evalVs r e h).bind fun vs h => .ok (v :: vs) h
    | none => .bad
end

/-- how a statement ends -/
inductive Fl where
  | nx (e : Env)
  | rt (v : D)

def WF : Nat := 1000000
open Classical in
noncomputable def loopS (g : List (Nat × MO)) (f : D → Env → MH → Res Fl) : List D → Env → MH → Res Fl
  | [], e, h => if guarded g h then .ok (.nx e) h else .bad
  | x :: r, e, h => if guarded g h then (f x e h).bind fun fl h1 => match fl with
      | .nx e1 => loopS g f r e1 h1
      | .rt v => .ok (.rt v) h1
    else .bad
def loopW (c : Env → MH → Res Bool) (f : Env → MH → Res Fl) : Nat → Env → MH → Res Fl
  | 0, _, _ => .bad
  | n + 1, e, h => (c e h).bind fun b h1 => match b with
    | true => (f e h1).bind fun fl h2 => match fl with
      | .nx e1 => loopW c f n e1 h2
      | .rt v => .ok (.rt v) h2
    | false => .ok (.nx e) h1
def tOf (r : Res X) : Res Bool := r.bind fun x h => .ofO (truthy x h) h

mutual
noncomputable def execS : MS → Env → MH → Res Fl
  | .asg t a, e, h => (evalX P cf a e h).bind fun x h => match asgX t x h e with
    | some e1 => .ok (.nx e1) h
    | none => .bad
  | .fset o f a, e, h => (vOf (evalX P cf a e h)).bind fun v h => (evalX P cf o e h).bind fun x h => match x with
    | .d (.ref r) => match h[r]? with
      | some (.ins c fs) => if fs.length < 100 then .ok (.nx e) (h.set r (.ins c ((f, v) :: fs.filter fun p => p.1 != f))) else .bad
      | _ => .bad
    | _ => .bad
  | .iset o i a, e, h => (vOf (evalX P cf a e h)).bind fun v h => (evalX P cf o e h).bind fun x h => (vOf (evalX P cf i e h)).bind fun k h => match setX x k v h with
    | some h' => .ok (.nx e) h'
    | none => .bad
  | .aug i op a, e, h => match e[i]? with
    | some (some v) => (evalX P cf a e h).bind fun x h => match v, x with
      | .int p, .d (.int q) => match op with
        | .add => .ok (.nx (e.set i (some (.int (p + q))))) h
        | .sub => .ok (.nx (e.set i (some (.int (p - q))))) h
        | _ => .bad
      | _, _ => .bad
    | _ => .bad
  | .faug .., _, _ => .bad
  | .ex a, e, h => (evalX P cf a e h).bind fun _ h => .ok (.nx e) h
  | .ite t a b, e, h => (tOf (evalX P cf t e h)).bind fun c h => match c with
    | true => execSs a e h
    | false => execSs b e h
  | .whl t b, e, h => loopW (fun e h => tOf (evalX P cf t e h)) (fun e h => execSs b e h) WF e h
  | .for_ t it b, e, h => (evalX P cf it e h).bind fun x h => match items x h with
    | some (xs, g) => loopS g (fun d e h => match asgT t d e with
      | some e1 => execSs b e1 h
      | none => .bad) xs e h
    | none => .bad
  | .ret a, e, h => (vOf (evalX P cf a e h)).bind fun v h => .ok (.rt v) h
  | .pass, e, h => .ok (.nx e) h
  | .idel .., _, _ => .bad
  | .raise c es, e, h => (evalVs P cf es e h).bind fun ds h => .exc c ds h
  | .try_ .., _, _ => .bad
  | .fin .., _, _ => .bad
  | .never, _, _ => .bad
noncomputable def execSs : MSs → Env → MH → Res Fl
  | .n, e, h => .ok (.nx e) h
  | .c s r, e, h => (execS s e h).bind fun fl h => match fl with
    | .nx e1 => execSs r e1 h
    | .rt v => .ok (.rt v) h
end
end

open Classical in
/-- what a call leaves of the heap: objects of its own go if nobody knows them -/
noncomputable def trim (n : Nat) (v : D) (h : MH) : MH :=
  if v.rb n = true ∧ (∀ o ∈ h.take n, o.rb n = true) then h.take n else h
noncomputable def callF (P : Prog) : Nat → CF
  | 0, _, _, _ => .bad
  | k + 1, f, args, h => match P.F f with
    | none => .bad
    | some d => if args.length = d.np then
        (execSs P (callF P k) d.body (args.map some ++ List.replicate (d.ns - d.np) none) h).bind fun fl h' =>
          .ok (match fl with | .nx _ => .non | .rt v => v) (trim h.length (match fl with | .nx _ => .non | .rt v => v) h')
      else .bad
end MP

/-! MP2: how the pure data lie in the abstract heap of the layer. -/
namespace MP
open PySem PySem.Spec PyProof.Rows L2

/-- what is fixed: the written part, the world, the pure program, where its classes stand, its fields' names -/
structure Sx where
  K : PySem.W.Frag
  w : World
  P : Prog
  CA : Nat → Option Addr
  NT : Nat → Str

/-- a state: the places of the changing objects, these objects, the layer's heap -/
structure Cf where
  ρ : List Addr
  h : MH
  H : Hp
  /-- places that are being filled: no value stands there -/
  x : Addr → Prop

def Cf.L (c : Cf) (a : Addr) : Prop := (∃ (i : Nat) (o : MO), c.ρ[i]? = some a ∧ c.h[i]? = some o ∧ o ≠ .dead) ∨ c.x a

def KTup (K : PySem.W.Frag) (a : Addr) (xs : List V) : Prop :=
  ∃ (o : Obj) (its : Array Value) (n : Nat), K.lookup a = some o ∧ o.cls = .type "tuple" ∧ o.data = .seq its n ∧ its.size ≤ sizeLine ∧ Vals xs its.toList
def KLst (K : PySem.W.Frag) (a : Addr) (xs : List V) : Prop :=
  ∃ (o : Obj) (its : Array Value) (n : Nat), K.lookup a = some o ∧ o.cls = .type "list" ∧ o.dict = none ∧ o.data = .seq its n ∧ its.size ≤ sizeLine ∧ Vals xs its.toList

/-- a dict of any keys: its entries -/
def DO (a : Addr) (es : List DictEntry) : HO := .ext fun h => ∃ o ep, h.get? a = some o ∧ o.ExactDict ∧ o.data = .dict es.toArray ep

/-- the keys are apart -/
def Apart (kvs : List (D × D)) : Prop := (kvs.map fun p => keyOf p.1).Nodup
mutual
inductive RepV (S : Sx) (c : Cf) : D → V → Prop
  | non : RepV S c .non .non
  | bl (b : Bool) : RepV S c (.bl b) (.bl b)
  | int (i : Int) : RepV S c (.int i) (.int i)
  | str (s : List Nat) (z : Str) : z.cps.toList = s → RepV S c (.str s) (.str z)
  | tup {xs vs a} : ((c.H a = some (.tup vs) ∧ ¬ c.L a) ∨ KTup S.K a vs) → RepVs S c xs vs → RepV S c (.tup xs) (.ref a)
  | lst {xs vs a} : c.H a = some (.lst vs) → ¬ c.L a → RepVs S c xs vs → RepV S c (.lst xs) (.ref a)
  | rol {xs vs a} : ((Rd c.H a (.lst vs) ∧ ¬ c.L a) ∨ KLst S.K a vs) → RepVs S c xs vs → RepV S c (.rol xs) (.ref a)
  | dct {kvs es a} : c.H a = some (DO a es) → ¬ c.L a → ((a == sysModules) = false ∧ Apart kvs) → RepKs S c kvs es → RepV S c (.dct kvs) (.ref a)
  | ref {n a} : c.ρ[n]? = some a → RepV S c (.ref n) (.ref a)
inductive RepVs (S : Sx) (c : Cf) : List D → List V → Prop
  | nil : RepVs S c [] []
  | cons {x v xs vs} : RepV S c x v → RepVs S c xs vs → RepVs S c (x :: xs) (v :: vs)
inductive RepKs (S : Sx) (c : Cf) : List (D × D) → List DictEntry → Prop
  | nil : RepKs S c [] []
  | cons {k v kvs e es} {nk : NestedKey} {kv vv : V} : keyOf k = some nk → nk.depth ≤ 8 → e.hash = nk.hash S.w → RepV S c k kv → RelV kv e.key → RepV S c v vv → RelV vv e.val → RepKs S c kvs es → RepKs S c ((k, v) :: kvs) (e :: es)
end

/-- what a changing object is -/
def ObjR (S : Sx) (c : Cf) (a : Addr) : MO → Prop
  | .dead => True
  | .lst xs => ∃ vs, c.H a = some (.lst vs) ∧ RepVs S c xs vs
  | .dct kvs => ∃ es, c.H a = some (DO a es) ∧ ((a == sysModules) = false ∧ Apart kvs) ∧ RepKs S c kvs es
  | .ins k fs => ∃ C dx fv, S.CA k = some C ∧ c.H a = some (.ins C dx fv) ∧ fs.length ≤ 100 ∧ (∀ f v, fs.lookup f = some v → ∃ x, fv.lookup (S.NT f) = some x ∧ RepV S c v x) ∧ fv.map (·.1) = fs.map (fun p => S.NT p.1)

structure Held (S : Sx) (c : Cf) : Prop where
  len : c.ρ.length = c.h.length
  nd : c.ρ.Nodup
  trk : ∀ a ∈ c.ρ, c.H a ≠ none
  obj : ∀ (i : Nat) (a : Addr) (o : MO), c.ρ[i]? = some a → c.h[i]? = some o → ObjR S c a o
  out : ∀ a, c.x a → a ∉ c.ρ ∧ c.H a ≠ none

/-- from one state to a later one -/
structure Gr (c c' : Cf) : Prop where
  pre : ∃ τ, c'.ρ = c.ρ ++ τ
  live : ∀ a, c'.L a → c.L a ∨ c.H a = none
  per : ∀ a o, ¬ c.L a → c.H a = some o → c'.H a = some o
  tot : ∀ a, c.H a ≠ none → c'.H a ≠ none
  new : ∀ a ∈ c'.ρ, a ∈ c.ρ ∨ c.H a = none
  xx : c'.x = c.x
  res : ∀ a, c.x a → c'.H a = c.H a

theorem Gr.refl (c : Cf) : Gr c c := ⟨⟨[], by simp⟩, fun _ h => .inl h, fun _ _ _ h => h, fun _ h => h, fun _ h => .inl h, rfl, fun _ _ => rfl⟩
theorem Gr.trans {a b c : Cf} (x : Gr a b) (y : Gr b c) : Gr a c := by
  obtain ⟨τ, e1⟩ := x.pre
  obtain ⟨τ', e2⟩ := y.pre
  refine ⟨⟨τ ++ τ', by rw [e2, e1, List.append_assoc]⟩, fun p h => ?_, fun p o hn h => ?_, fun p h => y.tot p (x.tot p h), fun p h => ?_, y.xx.trans x.xx, fun p h => (y.res p (x.xx ▸ h)).trans (x.res p h)⟩
  · rcases y.live p h with h | h
    · exact x.live p h
    · exact .inr (Classical.byContradiction fun q => x.tot p q h)
  · refine y.per p o (fun hl => ?_) (x.per p o hn h)
    rcases x.live p hl with q | q
    · exact hn q
    · rw [q] at h; cases h
  · rcases y.new p h with h | h
    · exact x.new p h
    · exact .inr (Classical.byContradiction fun q => x.tot p q h)
theorem Gr.notL {c c' : Cf} (g : Gr c c') {a : Addr} {o : HO} (hn : ¬ c.L a) (h : c.H a = some o) : ¬ c'.L a := fun hl => by
  rcases g.live a hl with q | q
  · exact hn q
  · rw [q] at h; cases h
theorem Gr.at {c c' : Cf} (g : Gr c c') {n : Nat} {a : Addr} (h : c.ρ[n]? = some a) : c'.ρ[n]? = some a := by
  obtain ⟨τ, e⟩ := g.pre
  rw [e, List.getElem?_append_left (List.getElem?_eq_some_iff.mp h).1]
  exact h

/-- what means a value means it later too -/
structure Kp (c c' : Cf) : Prop where
  per : ∀ a o, ¬ c.L a → c.H a = some o → c'.H a = some o
  nl : ∀ a o, ¬ c.L a → c.H a = some o → ¬ c'.L a
  pl : ∀ {n : Nat} {a : Addr}, c.ρ[n]? = some a → c'.ρ[n]? = some a
theorem Kp.notL {c c' : Cf} (g : Kp c c') {a : Addr} {o : HO} (hn : ¬ c.L a) (h : c.H a = some o) : ¬ c'.L a := g.nl a o hn h
theorem Gr.sub {c c' : Cf} (g : Gr c c') : Kp c c' := ⟨g.per, fun _ _ hn h => g.notL hn h, fun h => g.at h⟩
theorem Kp.refl (c : Cf) : Kp c c := ⟨fun _ _ _ h => h, fun _ _ h _ => h, fun h => h⟩
theorem Kp.trans {a b c : Cf} (x : Kp a b) (y : Kp b c) : Kp a c := ⟨fun p o hn h => y.per p o (x.nl p o hn h) (x.per p o hn h), fun p o hn h => y.nl p o (x.nl p o hn h) (x.per p o hn h), fun h => y.pl (x.pl h)⟩
mutual
theorem RepV.sub {S : Sx} {c c' : Cf} (g : Kp c c') : ∀ {d : D} {v : V}, RepV S c d v → RepV S c' d v
  | _, _, .non => .non
  | _, _, .bl b => .bl b
  | _, _, .int i => .int i
  | _, _, .str s z e => .str s z e
  | _, _, .tup h r => .tup (h.imp (fun h => ⟨g.per _ _ h.2 h.1, g.notL h.2 h.1⟩) id) (RepVs.sub g r)
  | _, _, .lst h hn r => .lst (g.per _ _ hn h) (g.notL hn h) (RepVs.sub g r)
  | _, _, .rol h r => .rol (h.imp (fun h => by
      rcases h with ⟨h | ⟨o, h⟩, hn⟩
      · exact ⟨.inl (g.per _ _ hn h), g.notL hn h⟩
      · exact ⟨.inr ⟨o, g.per _ _ hn h⟩, g.notL hn h⟩) id) (RepVs.sub g r)
  | _, _, .dct h hn hs r => .dct (g.per _ _ hn h) (g.notL hn h) hs (RepKs.sub g r)
  | _, _, .ref h => .ref (g.pl h)
theorem RepVs.sub {S : Sx} {c c' : Cf} (g : Kp c c') : ∀ {d : List D} {v : List V}, RepVs S c d v → RepVs S c' d v
  | _, _, .nil => .nil
  | _, _, .cons h t => .cons (RepV.sub g h) (RepVs.sub g t)
theorem RepKs.sub {S : Sx} {c c' : Cf} (g : Kp c c') : ∀ {d : List (D × D)} {v : List DictEntry}, RepKs S c d v → RepKs S c' d v
  | _, _, .nil => .nil
  | _, _, .cons h0 h1 h2 h3 h4 h5 h6 t => .cons h0 h1 h2 (RepV.sub g h3) h4 (RepV.sub g h5) h6 (RepKs.sub g t)
end

theorem RepV.mono {S : Sx} {c c' : Cf} (g : Gr c c') {d : D} {v : V} (r : RepV S c d v) : RepV S c' d v := r.sub g.sub
theorem RepVs.mono {S : Sx} {c c' : Cf} (g : Gr c c') {d : List D} {v : List V} (r : RepVs S c d v) : RepVs S c' d v := r.sub g.sub
theorem RepKs.mono {S : Sx} {c c' : Cf} (g : Gr c c') {d : List (D × D)} {v : List DictEntry} (r : RepKs S c d v) : RepKs S c' d v := r.sub g.sub

/-- what an expression's result is -/
def RepX (S : Sx) (c0 c : Cf) (x : X) (v : V) : Prop :=
  match x with
  | .d d => RepV S c d v
  | .l xs => ∃ a vs, v = .ref a ∧ c.H a = some (.lst vs) ∧ ¬ c.L a ∧ c0.H a = none ∧ a ∉ c.ρ ∧ RepVs S c xs vs
  | .k kvs => ∃ a es, v = .ref a ∧ c.H a = some (DO a es) ∧ ¬ c.L a ∧ c0.H a = none ∧ a ∉ c.ρ ∧ ((a == sysModules) = false ∧ Apart kvs) ∧ RepKs S c kvs es
  | .it _ _ => False

theorem RepX.mono {S : Sx} {c0 c c' : Cf} {x : X} {v : V} (g : Gr c c') (r : RepX S c0 c x v) : RepX S c0 c' x v := by
  cases x with
  | d d => exact RepV.mono g r
  | l xs =>
    obtain ⟨a, vs, e, h, hn, h0, hr, r⟩ := r
    refine ⟨a, vs, e, g.per _ _ hn h, g.notL hn h, h0, fun q => ?_, r.mono g⟩
    rcases g.new a q with z | z
    · exact hr z
    · rw [z] at h; cases h
  | k kvs =>
    obtain ⟨a, es, e, h, hn, h0, hr, hs, r⟩ := r
    refine ⟨a, es, e, g.per _ _ hn h, g.notL hn h, h0, fun q => ?_, hs, r.mono g⟩
    rcases g.new a q with z | z
    · exact hr z
    · rw [z] at h; cases h
  | it xs g => exact r
/-- fresh from an earlier state on -/
theorem RepX.back {S : Sx} {c0 c1 c : Cf} {x : X} {v : V} (g : Gr c0 c1) (r : RepX S c1 c x v) : RepX S c0 c x v := by
  have key : ∀ a, c1.H a = none → c0.H a = none := fun a h => Classical.byContradiction fun q => g.tot a q h
  cases x with
  | d d => exact r
  | l xs =>
    obtain ⟨a, vs, e, h, hn, h0, hr, r⟩ := r
    exact ⟨a, vs, e, h, hn, key a h0, hr, r⟩
  | k kvs =>
    obtain ⟨a, es, e, h, hn, h0, hr, r⟩ := r
    exact ⟨a, es, e, h, hn, key a h0, hr, r⟩
  | it xs g => exact r

/-- without what stands at p -/
def Cf.del (c : Cf) (p : Addr) : Cf := { c with H := fun b => if b = p then none else c.H b }
/-- a new list, a new dict is held by nobody else -/
def Fr (S : Sx) (c : Cf) (x : X) (v : V) : Prop :=
  match x with
  | .l xs => ∀ p, v = .ref p → Held S (c.del p) ∧ ∃ vs, c.H p = some (.lst vs) ∧ RepVs S (c.del p) xs vs
  | .k kvs => ∀ p, v = .ref p → Held S (c.del p) ∧ ∃ es, c.H p = some (DO p es) ∧ RepKs S (c.del p) kvs es
  | _ => True
structure RepF (S : Sx) (c0 c : Cf) (x : X) (v : V) : Prop where
  rx : RepX S c0 c x v
  fr : Fr S c x v
theorem RepF.d {S : Sx} {c0 c : Cf} {d : D} {v : V} (h : RepV S c d v) : RepF S c0 c (.d d) v := ⟨h, trivial⟩
/-- nothing can be new here -/
theorem RepF.same {S : Sx} {c : Cf} {x : X} {v : V} (h : RepX S c c x v) : RepF S c c x v := by
  refine ⟨h, ?_⟩
  cases x with
  | d d => trivial
  | l xs =>
    obtain ⟨a, vs, _, h1, _, h2, _⟩ := h
    rw [h2] at h1; cases h1
  | k kvs =>
    obtain ⟨a, vs, _, h1, _, h2, _⟩ := h
    rw [h2] at h1; cases h1
  | it xs g => trivial
theorem RepF.back {S : Sx} {c0 c1 c : Cf} {x : X} {v : V} (g : Gr c0 c1) (r : RepF S c1 c x v) : RepF S c0 c x v := ⟨r.rx.back g, r.fr⟩

/-! ### the judgements over the pure evaluation -/
def RepE (S : Sx) (c : Cf) (e : Env) (σ : L2.St) : Prop := e.length = σ.length ∧ ∀ (i : Nat) (d : D), e[i]? = some (some d) → ∃ v, σ[i]? = some (some v) ∧ RepV S c d v
theorem RepE.sub' {S : Sx} {c c' : Cf} {e : Env} {σ : L2.St} (h : RepE S c e σ) (g : Kp c c') : RepE S c' e σ := ⟨h.1, fun i d q => let ⟨v, a, b⟩ := h.2 i d q; ⟨v, a, b.sub g⟩⟩
theorem RepE.mono {S : Sx} {c c' : Cf} {e : Env} {σ : L2.St} (g : Gr c c') (h : RepE S c e σ) : RepE S c' e σ := ⟨h.1, fun i d q => let ⟨v, a, b⟩ := h.2 i d q; ⟨v, a, b.mono g⟩⟩

/-- an exception that flies: what is known of it (filled where exceptions are carried) -/
def EV (_ : Sx) (_ : Cf) (_ : Nat) (_ : List D) (_ : Value) (_ : Shared) : Prop := False

def Out (X : Cx) (S : Sx) (c : Cf) (x : MP.X) (h' : MH) (pins : List (Addr × Obj)) (σ : L2.St) (u : Value) (s' : Shared) : Prop :=
  ∃ c' v, Inv X pins σ c'.H s' ∧ c'.h = h' ∧ Gr c c' ∧ Held S c' ∧ RepF S c c' x v ∧ RelV v u
def XOut (X : Cx) (S : Sx) (c : Cf) (k : Nat) (fs : List D) (h' : MH) (pins : List (Addr × Obj)) (σ : L2.St) (ev : Value) (s' : Shared) : Prop :=
  ∃ c', Inv X pins σ c'.H s' ∧ c'.h = h' ∧ Gr c c' ∧ Held S c' ∧ EV S c' k fs ev s'
/-- what is wanted of an exception -/
def Wx (X : Cx) (S : Sx) {α : Type} (c : Cf) (r : Res α) (pins : List (Addr × Obj)) (σ : L2.St) : Prop :=
  ∀ k fs h', r = .exc k fs h' → ∀ ev s', XOut X S c k fs h' pins σ ev s' → X.xe ev s'
/-- the expression ex does what m does -/
def PX (X : Cx) (S : Sx) (cf : CF) (ex : Expr) (m : ME) : Prop :=
  ∀ (pins : List (Addr × Obj)) (s : Shared) (σ : L2.St) (c : Cf) (e : Env) (r : Res MP.X), Inv X pins σ c.H s → Held S c → RepE S c e σ → evalX S.P cf m e c.h = r → r ≠ .bad → Wx X S c r pins σ →
    wpAny (model X.prog X.w) X.A (eval ex X.env) (fun u s' => ∃ x h', r = .ok x h' ∧ Out X S c x h' pins σ u s') X.xe s

section
variable {X : Cx} {S : Sx} {cf : CF} {α β : Type}
theorem Wx.fwd {c c1 : Cf} {r : Res α} {pins : List (Addr × Obj)} {σ : L2.St} (g : Gr c c1) (w : Wx X S c r pins σ) : Wx X S c1 r pins σ :=
  fun k fs h' e ev s' ⟨c', I, eh, g', hh, q⟩ => w k fs h' e ev s' ⟨c', I, eh, g.trans g', hh, q⟩
/-- one expression, then what follows -/
theorem PX.seqF {ex : Expr} {m : ME} (ha : PX X S cf ex m) {pins : List (Addr × Obj)} {s : Shared} {σ : L2.St} {c : Cf} {e : Env} {r : Res β} {f : MP.X → MH → Res β} {Q : Value → Shared → Prop}
    (I : Inv X pins σ c.H s) (hh : Held S c) (he : RepE S c e σ) (hr : (evalX S.P cf m e c.h).bind f = r) (nb : r ≠ .bad) (w : Wx X S c r pins σ)
    (hk : ∀ u s1 x c1 v, Inv X pins σ c1.H s1 → Held S c1 → RepE S c1 e σ → Gr c c1 → RepF S c c1 x v → RelV v u → f x c1.h = r → Wx X S c1 r pins σ → Q u s1) :
    wpAny (model X.prog X.w) X.A (eval ex X.env) Q X.xe s := by
  cases q : evalX S.P cf m e c.h with
  | ok x h1 =>
    rw [q] at hr
    refine thn (ha pins s σ c e _ I hh he q (fun z => nomatch z) fun _ _ _ z => nomatch z) fun u s1 hq => ?_
    obtain ⟨x', h1', e1, c1, v, I1, e2, g, hh1, rx, rv⟩ := hq
    cases e1
    subst e2
    exact hk u s1 x c1 v I1 hh1 (he.mono g) g rx rv hr (w.fwd g)
  | exc k fs h1 =>
    rw [q] at hr
    have hr : Res.exc k fs h1 = r := hr
    subst hr
    refine thn (ha pins s σ c e _ I hh he q (fun z => nomatch z) fun k' fs' h' e1 ev s' hx => ?_) fun u s1 hq => ?_
    · cases e1
      exact w k fs h1 rfl ev s' hx
    · obtain ⟨x', h1', e1, _⟩ := hq
      cases e1
  | bad =>
    rw [q] at hr
    exact absurd hr.symm nb
/-- one expression, then what follows -/
theorem PX.seq {ex : Expr} {m : ME} (ha : PX X S cf ex m) {pins : List (Addr × Obj)} {s : Shared} {σ : L2.St} {c : Cf} {e : Env} {r : Res β} {f : MP.X → MH → Res β} {Q : Value → Shared → Prop}
    (I : Inv X pins σ c.H s) (hh : Held S c) (he : RepE S c e σ) (hr : (evalX S.P cf m e c.h).bind f = r) (nb : r ≠ .bad) (w : Wx X S c r pins σ)
    (hk : ∀ u s1 x c1 v, Inv X pins σ c1.H s1 → Held S c1 → RepE S c1 e σ → Gr c c1 → RepX S c c1 x v → RelV v u → f x c1.h = r → Wx X S c1 r pins σ → Q u s1) :
    wpAny (model X.prog X.w) X.A (eval ex X.env) Q X.xe s :=
  ha.seqF I hh he hr nb w fun u s1 x c1 v I1 hh1 he1 g1 rx rv hr1 w1 => hk u s1 x c1 v I1 hh1 he1 g1 rx.rx rv hr1 w1
/-- the answer of a value -/
theorem Out.of {pins : List (Addr × Obj)} {σ : L2.St} {c : Cf} {x : MP.X} {v : V} {u : Value} {s : Shared} (I : Inv X pins σ c.H s) (hh : Held S c) (rx : RepX S c c x v) (rv : RelV v u) : Out X S c x c.h pins σ u s :=
  ⟨c, v, I, rfl, Gr.refl c, hh, .same rx, rv⟩
theorem ok_of {x : MP.X} {h : MH} {P : MP.X → MH → Prop} (h1 : P x h) : ∃ x' h', (Res.ok x h : Res MP.X) = .ok x' h' ∧ P x' h' := ⟨x, h, rfl, h1⟩
end
end MP

/-! MPb: truth values as numbers: bool + int, -bool. -/
namespace MP.Bo
open PySem PySem.Spec PyProof.Rows L2
theorem add_bi (a : Bool) (b : Int) (u : Tok) : Gives (Builtin.«int.__add__» ⟨[.bool a, .int b u], []⟩) (.int ((if a = true then (1 : Int) else 0) + b)) :=
  .of_wp fun M A E s Q h => by obtain ⟨hp, g, d, tk, os⟩ := s; wp_walk; exact ⟨_, rfl, h⟩
theorem neg_b (a : Bool) : Gives (Builtin.«int.__neg__» ⟨[.bool a], []⟩) (.int (-(if a = true then (1 : Int) else 0))) :=
  .of_wp fun M A E s Q h => by obtain ⟨hp, g, d, tk, os⟩ := s; wp_walk; exact ⟨_, rfl, h⟩
section
variable {prog : Program} {w : World} {A : Around} {E : Value → Shared → Prop} {s : Shared}
theorem sub_ib : isSubtype (.type "int") (.type "bool") = pure false := by rw [isSubtype_type]; kernel_rfl
theorem add_bool_int {b : Bool} {a : Int} {t : Tok} {Q : Value → Shared → Prop} (h : Q (.int ((if b = true then (1 : Int) else 0) + a) s.toks) { s with toks := s.toks + 1 }) : wpAny (model prog w) A (binaryOp .Add (.bool b) (.int a t)) Q E s :=
  binaryOp_left_gives (op := .Add) (T := "bool") (U := "int") (by decide) rfl (fun s' => typeIs_int s' a t) F.fills_bool_add F.fills_int_add sub_ib F.slot_bool_add F.slot_int_radd F.entry_int_add (F.args_int_add_2 _ _)
    (add_bi b a t) trivial h
theorem neg_bool {b : Bool} {Q : Value → Shared → Prop} (h : Q (.int (-(if b = true then (1 : Int) else 0)) s.toks) { s with toks := s.toks + 1 }) : wpAny (model prog w) A (unaryOp .USub (.bool b)) Q E s :=
  unaryOp_gives (op := .USub) (T := "bool") rfl rfl F.slot_bool_neg F.entry_int_neg (F.args_int_neg_1 _) (neg_b b) h
end
variable {X : Cx}
theorem op_add_bi : OpR X (binaryOp .Add) (fun x y H Q => ∃ k i, x = .bl k ∧ y = .int i ∧ Q (.int ((if k = true then 1 else 0) + i)) H) := by
  intro pins s σ H x y v u Q I rx ry h
  obtain ⟨k, i, rfl, rfl, q⟩ := h
  cases rx
  obtain ⟨t, rfl⟩ := ry
  exact add_bool_int ⟨.int _, H, I.tok _, ⟨_, rfl⟩, q⟩
theorem un_neg_b : UnR X (unaryOp .USub) (fun x H Q => ∃ k, x = .bl k ∧ Q (.int (-(if k = true then 1 else 0))) H) := by
  intro pins s σ H x v Q I rx h
  obtain ⟨k, rfl, q⟩ := h
  cases rx
  exact neg_bool ⟨.int _, H, I.tok _, ⟨_, rfl⟩, q⟩
theorem call_str_bool : CallR X (.type "str") (fun xs H Q => ∃ k : Bool, xs = [.bl k] ∧ Q (.str (if k = true then "True" else "False")) H) := by
  intro pins s σ H xs us Q I r h
  obtain ⟨k, rfl, q⟩ := h
  obtain ⟨u, rfl, ru⟩ := vals1 r
  cases ru
  refine PySem.P.str_of_bool ⟨.str _, H, I.tok _, ⟨_, rfl⟩, ?_⟩
  cases k <;> exact q
end MP.Bo

/-! MP3: expressions. -/
namespace MP
open PySem PySem.Spec PyProof.Rows L2
section
variable {X : Cx} {S : Sx} {cf : CF} {pos : Pos} {a b d : Expr} {ma mb md : ME}

theorem px_non {j : Nat} : PX X S cf (.Constant .none j pos) .non := by
  intro pins s σ c e r I hh he hr nb w
  subst hr
  exact Constant_none ⟨_, _, rfl, Out.of I hh .non rfl⟩
theorem px_bl {t : Bool} {j : Nat} : PX X S cf (.Constant (.bool t) j pos) (.bl t) := by
  intro pins s σ c e r I hh he hr nb w
  subst hr
  exact Constant_bool ⟨_, _, rfl, Out.of I hh (.bl t) rfl⟩
theorem px_int {i : Int} {j : Nat} : PX X S cf (.Constant (.int i) j pos) (.int i) := by
  intro pins s σ c e r I hh he hr nb w
  subst hr
  exact wpAny_Constant_int ⟨_, _, rfl, Out.of (I.tok _) hh (.int i) ⟨_, rfl⟩⟩
theorem px_str {z : Str} {j : Nat} {l : List Nat} (h : z.cps.toList = l) : PX X S cf (.Constant (.str z) j pos) (.str l) := by
  intro pins s σ c e r I hh he hr nb w
  subst hr
  exact Calls.Constant_str ⟨_, _, rfl, Out.of (I.tok _) hh (.str l z h) ⟨_, rfl⟩⟩
/-- a name of the def -/
theorem px_var {i : Nat} {x : Str} (hN : X.N[i]? = some x) (hv : Vis X.env.scope x) (hd : (x == ("__debug__" : Str)) = false) (hcd : (x == ("__classdict__" : Str)) = false) : PX X S cf (.Name x pos) (.var i) := by
  intro pins s σ c e r I hh he hr nb w
  subst hr
  cases q : e[i]? with
  | none => exact absurd (by show (match e[i]? with | some (some v) => Res.ok (MP.X.d v) c.h | _ => .bad) = _; rw [q]) nb
  | some o =>
    cases o with
    | none => exact absurd (by show (match e[i]? with | some (some v) => Res.ok (MP.X.d v) c.h | _ => .bad) = _; rw [q]) nb
    | some v =>
      have ev : evalX S.P cf (.var i) e c.h = .ok (.d v) c.h := by
        show (match e[i]? with | some (some v) => Res.ok (MP.X.d v) c.h | _ => .bad) = _
        rw [q]
      rw [ev]
      obtain ⟨y, hy, ry⟩ := he.2 i v q
      exact (pe_var hN hv hd hcd).run pins s σ c.H (fun y' H' => y' = y ∧ H' = c.H) I ⟨y, hy, rfl, rfl⟩ |> fun t => thn t fun u s1 ⟨y', H', I1, r1, e1, e2⟩ => by
        subst e1; subst e2
        exact ⟨_, _, rfl, Out.of I1 hh ry r1⟩
/-- a module's constant -/
theorem px_glob {g : Nat} {x : Str} {u : Value} {D0 : D} {v : V} (hg : Gl X x) (hm : X.mg x = some u) (hG : S.P.G g = some D0) (rv : RelV v u) (rd : ∀ c, Held S c → RepV S c D0 v) (hd : (x == ("__debug__" : Str)) = false) : PX X S cf (.Name x pos) (.glb g) := by
  intro pins s σ c e r I hh he hr nb w
  subst hr
  have ev : evalX S.P cf (.glb g) e c.h = .ok (.d D0) c.h := by
    show (match S.P.G g with | some v => Res.ok (MP.X.d v) c.h | none => .bad) = _
    rw [hG]
  rw [ev]
  exact ld_glob I hg hm ⟨_, _, rfl, Out.of I hh (rd c hh) rv⟩ hd

/-- results that are values -/
theorem RepX.toV {c0 c : Cf} {x : MP.X} {v : V} {w : D} (hv : x.toV = some w) (r : RepX S c0 c x v) : RepV S c w v := by
  cases x with
  | d d => cases hv; exact r
  | l xs =>
    cases hv
    obtain ⟨p, vs, rfl, h, hn, _, _, rs⟩ := r
    exact .lst h hn rs
  | k kvs =>
    cases hv
    obtain ⟨p, es, rfl, h, hn, _, _, hs, rs⟩ := r
    exact .dct h hn hs rs
  | it xs g => cases hv

/-! ### binary operators -/
/-- an operation on results -/
def OpX (X : Cx) (S : Sx) (f : Value → Value → Sem Value) (op : MP.X → MP.X → MH → Option MP.X) : Prop :=
  ∀ (pins : List (Addr × Obj)) (s : Shared) (σ : L2.St) (c0 c : Cf) (x y z : MP.X) (v w : V) (u t : Value), Inv X pins σ c.H s → Held S c → RepX S c0 c x v → RelV v u → RepX S c0 c y w → RelV w t → op x y c.h = some z →
    wpAny (model X.prog X.w) X.A (f u t) (fun u' s' => Out X S c z c.h pins σ u' s') X.xe s
theorem Out.fwd {pins : List (Addr × Obj)} {σ : L2.St} {c c1 : Cf} {x : MP.X} {h' : MH} {u : Value} {s : Shared} (g : Gr c c1) : Out X S c1 x h' pins σ u s → Out X S c x h' pins σ u s :=
  fun ⟨c', v, I, eh, g', hh, rx, rv⟩ => ⟨c', v, I, eh, g.trans g', hh, rx.back g, rv⟩
theorem ofO_ok {α : Type} {o : Option α} {h : MH} {r : Res α} (e : Res.ofO o h = r) (nb : r ≠ .bad) : ∃ a, o = some a ∧ r = .ok a h := by
  cases o with
  | none => exact absurd e.symm nb
  | some a => exact ⟨a, rfl, e.symm⟩
theorem px_binG {op : Operator} {g : MP.X → MP.X → MH → Option MP.X} {m : ME} (ho : OpX X S (binaryOp op) g) (ha : PX X S cf a ma) (hb : PX X S cf b mb)
    (hm : ∀ e h, evalX S.P cf m e h = (evalX S.P cf ma e h).bind fun x h => (evalX S.P cf mb e h).bind fun y h => .ofO (g x y h) h) : PX X S cf (.BinOp a op b pos) m := by
  intro pins s σ c e r I hh he hr nb w
  rw [hm] at hr
  refine wpAny_BinOp (ha.seq I hh he hr nb w fun u s1 x c1 v I1 hh1 he1 g1 rx rv hr1 w1 => hb.seq I1 hh1 he1 hr1 nb w1 fun t s2 y c2 y' I2 hh2 he2 g2 ry rt hr2 w2 => ?_)
  obtain ⟨z, hz, rfl⟩ := ofO_ok hr2 nb
  exact thn (ho pins s2 σ c c2 x y z v y' u t I2 hh2 (rx.mono g2) rv (ry.back g1) rt hz) fun u' s' q => ⟨z, c2.h, rfl, q.fwd (g1.trans g2)⟩

/-! ### states with a new object -/
def Cf.put (c : Cf) (p : Addr) (o : HO) : Cf := { c with H := upd c.H p o }
theorem Cf.put_L {c : Cf} {p : Addr} {o : HO} : (c.put p o).L = c.L := rfl
theorem Gr.put {c : Cf} {p : Addr} {o : HO} (hp : c.H p = none) (hx : ∀ a, c.x a → c.H a ≠ none) : Gr c (c.put p o) :=
  ⟨⟨[], by simp [Cf.put]⟩, fun a h => .inl h, fun a u _ h => by
    show upd c.H p o a = _
    rw [upd_ne (ne_of_none h hp)]; exact h, fun a h => by
    show upd c.H p o a ≠ none
    by_cases e : a = p
    · subst e; rw [upd_same]; simp
    · rw [upd_ne e]; exact h, fun a h => .inl h, rfl, fun a h => by
    show upd c.H p o a = _
    by_cases e : a = p
    · subst e; exact absurd hp (hx a h)
    · rw [upd_ne e]⟩
theorem ObjR.mono {S : Sx} {c c' : Cf} {p : Addr} {o : MO} (g : Gr c c') (hs : o ≠ .dead → c'.H p = c.H p) (r : ObjR S c p o) : ObjR S c' p o := by
  cases o with
  | dead => trivial
  | lst xs =>
    obtain ⟨vs, h, r⟩ := r
    exact ⟨vs, by rw [hs (fun z => nomatch z)]; exact h, r.mono g⟩
  | dct kvs =>
    obtain ⟨es, h, h2, r⟩ := r
    exact ⟨es, by rw [hs (fun z => nomatch z)]; exact h, h2, r.mono g⟩
  | ins k fs =>
    obtain ⟨C, dx, fv, h1, h2, h3, h4, h5⟩ := r
    exact ⟨C, dx, fv, h1, by rw [hs (fun z => nomatch z)]; exact h2, h3, fun f v q => let ⟨x, a, b⟩ := h4 f v q; ⟨x, a, b.mono g⟩, h5⟩
theorem Held.put {S : Sx} {c : Cf} {p : Addr} {o : HO} (hh : Held S c) (hp : c.H p = none) : Held S (c.put p o) := by
  have g : Gr c (c.put p o) := Gr.put hp fun a h => (hh.out a h).2
  refine ⟨hh.len, hh.nd, fun a ha => g.tot a (hh.trk a ha), fun i a u h1 h2 => (hh.obj i a u h1 h2).mono g fun _ => ?_, fun a h => ⟨(hh.out a h).1, g.tot a (hh.out a h).2⟩⟩
  show upd c.H p o a = _
  rw [upd_ne]
  rintro rfl
  exact hh.trk _ (List.mem_of_getElem? h1) hp
theorem Held.notL {S : Sx} {c : Cf} {p : Addr} (hh : Held S c) (hp : c.H p = none) : ¬ c.L p := fun h => h.elim (fun ⟨i, o, h1, _, _⟩ => hh.trk p (List.mem_of_getElem? h1) hp) fun h => (hh.out p h).2 hp
theorem Held.gr {S : Sx} {c : Cf} {p : Addr} {o : HO} (hh : Held S c) (hp : c.H p = none) : Gr c (c.put p o) := Gr.put hp fun a h => (hh.out a h).2
theorem Held.notMem {S : Sx} {c : Cf} {p : Addr} (hh : Held S c) (hp : c.H p = none) : p ∉ c.ρ := fun h => hh.trk p h hp

/-- what the value wants: a later state with this result -/
def QX (S : Sx) (c : Cf) (z : MP.X) (h' : MH) : VK := fun v H' => ∃ c', c'.H = H' ∧ c'.h = h' ∧ Gr c c' ∧ Held S c' ∧ RepF S c c' z v
theorem Out.ofEP {pins : List (Addr × Obj)} {σ : L2.St} {c : Cf} {z : MP.X} {h' : MH} {u : Value} {s : Shared} (h : EP X pins σ (QX S c z h') u s) : Out X S c z h' pins σ u s := by
  obtain ⟨v, H', I, rv, c', rfl, eh, g, hh, rx⟩ := h
  exact ⟨c', v, I, eh, g, hh, rx, rv⟩
theorem QX.here {c : Cf} {z : MP.X} {v : V} (hh : Held S c) (rx : RepX S c c z v) : QX S c z c.h v c.H := ⟨c, rfl, rfl, Gr.refl c, hh, .same rx⟩
theorem Cf.put_del {c : Cf} {p : Addr} {o : HO} (hp : c.H p = none) : (c.put p o).del p = c := by
  have e : (fun b => if b = p then none else upd c.H p o b) = c.H := by
    funext b
    by_cases h : b = p
    · rw [if_pos h, h, hp]
    · rw [if_neg h, upd_ne h]
  show { c with H := fun b => if b = p then none else upd c.H p o b } = c
  rw [e]
/-- a new list -/
theorem QX.newL {c : Cf} {xs : List D} {vs : List V} (hh : Held S c) (r : RepVs S c xs vs) : ∀ p, c.H p = none → QX S c (.l xs) c.h (.ref p) (upd c.H p (.lst vs)) := fun p hp =>
  ⟨c.put p (.lst vs), rfl, rfl, hh.gr hp, hh.put hp, ⟨p, vs, rfl, upd_same, hh.notL hp, hp, hh.notMem hp, r.mono (hh.gr hp)⟩, fun q e => by
    cases e
    rw [Cf.put_del hp]
    exact ⟨hh, vs, upd_same, r⟩⟩
theorem QX.newT {c : Cf} {xs : List D} {vs : List V} (hh : Held S c) (r : RepVs S c xs vs) : ∀ p, c.H p = none → QX S c (.d (.tup xs)) c.h (.ref p) (upd c.H p (.tup vs)) := fun p hp =>
  ⟨c.put p (.tup vs), rfl, rfl, hh.gr hp, hh.put hp, .d (.tup (.inl ⟨upd_same, hh.notL hp⟩) (r.mono (hh.gr hp)))⟩

theorem RepVs.length {c : Cf} : ∀ {xs : List D} {vs : List V}, RepVs S c xs vs → vs.length = xs.length
  | _, _, .nil => rfl
  | _, _, .cons _ t => by rw [List.length_cons, List.length_cons, t.length]
theorem RepVs.nil_of {c : Cf} : ∀ {xs : List D}, RepVs S c xs [] → xs = []
  | _, .nil => rfl
theorem RepVs.append {c : Cf} : ∀ {xs ys : List D} {vs ws : List V}, RepVs S c xs vs → RepVs S c ys ws → RepVs S c (xs ++ ys) (vs ++ ws)
  | _, _, _, _, .nil, s => s
  | _, _, _, _, .cons r t, s => .cons r (t.append s)
theorem RepVs.rep {c : Cf} {xs : List D} {vs : List V} (r : RepVs S c xs vs) : ∀ n, RepVs S c (List.replicate n xs).flatten (List.replicate n vs).flatten
  | 0 => .nil
  | n + 1 => by
    rw [List.replicate_succ, List.replicate_succ, List.flatten_cons, List.flatten_cons]
    exact r.append (r.rep n)
theorem RepVs.get {c : Cf} : ∀ {xs : List D} {vs : List V} {i : Nat} {x : D}, RepVs S c xs vs → xs[i]? = some x → ∃ v, vs[i]? = some v ∧ RepV S c x v
  | _, _, _, _, .nil, e => by simp at e
  | _, _, 0, _, .cons r _, e => by simp at e; subst e; exact ⟨_, rfl, r⟩
  | _, _, i + 1, x, .cons _ t, e => by
    obtain ⟨v, h1, h2⟩ := t.get (i := i) (x := x) (by simpa using e)
    exact ⟨v, by simpa using h1, h2⟩
theorem RepVs.take {c : Cf} : ∀ {xs : List D} {vs : List V} (n : Nat), RepVs S c xs vs → RepVs S c (xs.take n) (vs.take n)
  | _, _, 0, _ => .nil
  | _, _, _ + 1, .nil => .nil
  | _, _, n + 1, .cons r t => .cons r (t.take n)
theorem RepVs.drop {c : Cf} : ∀ {xs : List D} {vs : List V} (n : Nat), RepVs S c xs vs → RepVs S c (xs.drop n) (vs.drop n)
  | _, _, 0, r => r
  | _, _, _ + 1, .nil => .nil
  | _, _, n + 1, .cons _ t => t.drop n

/-- a result read off: a list, a dict by what stands at its place -/
def RepN (S : Sx) (c : Cf) (d : D) (v : V) : Prop :=
  match d with
  | .lst xs => ∃ a vs, v = .ref a ∧ c.H a = some (.lst vs) ∧ RepVs S c xs vs
  | .dct kvs => ∃ a es, v = .ref a ∧ c.H a = some (DO a es) ∧ ((a == sysModules) = false ∧ Apart kvs) ∧ RepKs S c kvs es
  | .ref _ => False
  | d => RepV S c d v
theorem norm_rep {c0 c : Cf} {x : MP.X} {v : V} {n : D} (hh : Held S c) (r : RepX S c0 c x v) (h : norm x c.h = some n) : RepN S c n v := by
  cases x with
  | it xs g => exact r.elim
  | l xs =>
    cases h
    obtain ⟨p, vs, rfl, h, _, _, _, rs⟩ := r
    exact ⟨p, vs, rfl, h, rs⟩
  | k kvs =>
    cases h
    obtain ⟨p, es, rfl, h, _, _, _, hs, rs⟩ := r
    exact ⟨p, es, rfl, h, hs, rs⟩
  | d d =>
    cases d with
    | ref m =>
      have r : RepV S c (.ref m) v := r
      cases r with
      | ref hm =>
        rename_i p
        have h : (match c.h[m]? with | some (MO.lst xs) => some (D.lst xs) | some (.dct kvs) => some (.dct kvs) | _ => none) = some n := h
        cases q : c.h[m]? with
        | none => rw [q] at h; cases h
        | some o =>
          rw [q] at h
          have ro := hh.obj m p o hm q
          cases o with
          | lst xs =>
            cases h
            obtain ⟨vs, h1, h2⟩ := ro
            exact ⟨p, vs, rfl, h1, h2⟩
          | dct kvs =>
            cases h
            obtain ⟨es, h1, h2, h3⟩ := ro
            exact ⟨p, es, rfl, h1, h2, h3⟩
          | dead => cases h
          | ins k fs => cases h
    | lst xs =>
      cases h
      have r : RepV S c (.lst xs) v := r
      cases r with
      | lst h1 h2 h3 => exact ⟨_, _, rfl, h1, h3⟩
    | dct xs =>
      cases h
      have r : RepV S c (.dct xs) v := r
      cases r with
      | dct h1 h2 h3 h4 => exact ⟨_, _, rfl, h1, h3, h4⟩
    | non => cases h; exact r
    | bl _ => cases h; exact r
    | int _ => cases h; exact r
    | str _ => cases h; exact r
    | tup _ => cases h; exact r
    | rol _ => cases h; exact r
theorem RepN.tup {c : Cf} {xs : List D} {v : V} (hK : X.K = S.K) (r : RepN S c (.tup xs) v) : ∃ p vs, v = .ref p ∧ SqT X.K c.H p vs ∧ RepVs S c xs vs := by
  have r : RepV S c (.tup xs) v := r
  cases r with
  | tup h q => exact ⟨_, _, rfl, h.imp (fun h => .inl h.1) (fun h => hK ▸ h), q⟩
theorem RepN.str {c : Cf} {s : List Nat} {v : V} (r : RepN S c (.str s) v) : ∃ z : Str, v = .str z ∧ z.cps.toList = s := by
  have r : RepV S c (.str s) v := r
  cases r with
  | str _ z e => exact ⟨z, rfl, e⟩
theorem RepN.int {c : Cf} {i : Int} {v : V} (r : RepN S c (.int i) v) : v = .int i := by
  have r : RepV S c (.int i) v := r
  cases r with
  | int _ => rfl
theorem maxl : MAXL ≤ sizeLine := by
  rw [sizeLine_eq]
  exact (by decide : 1000000 ≤ 16777216)
theorem strLen {z : Str} {s : List Nat} (e : z.cps.toList = s) : z.length = s.length := by
  rw [← e]
  show z.cps.size = z.cps.toList.length
  simp

def bop : BOp → Operator
  | .add => .Add
  | .sub => .Sub
  | .mul => .Mult
  | .fdv => .FloorDiv
  | .md => .Mod
  | .pow => .Pow
  | .band => .BitAnd
  | .bor => .BitOr
  | .shl => .LShift
theorem small64_ok {i : Int} (h : small64 i = true) : -(2 ^ 64) < i ∧ i < 2 ^ 64 := of_decide_eq_true h
theorem small64_abs {i : Int} (h : small64 i = true) : i.natAbs < 2 ^ 64 := by
  have := small64_ok h
  omega
theorem str_mul_ok {z : Str} {k : Int} (h1 : 1 ≤ k) (h2 : k ≤ 1000) (h3 : 1 ≤ z.length) (h4 : z.length ≤ 1000) : MulOk z k := by
  have hp : (z.length : Int) * k ≤ 1000 * 1000 := Int.mul_le_mul (by omega) h2 (by omega) (by omega)
  refine ⟨?_, fun _ _ => ?_, fun _ _ => ?_⟩
  · rw [decide_eq_false (by omega), decide_eq_false (by omega)]; rfl
  · have : (z.length : Int) ≤ (2 ^ 63 - 1) / k := Int.le_ediv_of_mul_le (by omega) (by omega)
    omega
  · have e : ((z.length * k.toNat : Nat) : Int) ≤ 1000000 := by
      rw [Int.natCast_mul, Int.toNat_of_nonneg (by omega)]; omega
    unfold Builtin.Str.tooLong
    exact decide_eq_false (by rw [sizeLine_eq]; omega)
theorem foldl_cat (x : Array Nat) : ∀ (n : Nat) (acc : Array Nat), ((List.replicate n x).foldl (· ++ ·) acc).toList = acc.toList ++ (List.replicate n x.toList).flatten
  | 0, acc => by simp
  | n + 1, acc => by
    rw [List.replicate_succ, List.foldl_cons, foldl_cat x n, List.replicate_succ, List.flatten_cons]
    simp
theorem txt_mul {z : Str} {k : Int} (h1 : 1 ≤ k) : (Txt.mul z k).cps.toList = (List.replicate k.toNat z.cps.toList).flatten := by
  unfold Txt.mul
  rw [if_neg (by omega)]
  split
  · rename_i h
    rw [Bool.or_eq_true] at h
    rcases h with h | h
    · have : k = 1 := by simpa using h
      subst this
      simp
    · have : z.cps.toList = [] := by
        have : z.cps.size = 0 := by simpa [Str.length] using h
        exact List.eq_nil_of_length_eq_zero (by simpa using this)
      rw [this]
      simp
  · rw [foldl_cat]
    simp
theorem binX_ok (hK : X.K = S.K) (op : BOp) : OpX X S (binaryOp (bop op)) (binX op) := by
  intro pins s σ c0 c x y z v w u t I hh rx rv ry rt h
  unfold binX at h
  cases n1 : norm x c.h with
  | none => rw [n1] at h; cases h
  | some d1 =>
    cases n2 : norm y c.h with
    | none => rw [n1, n2] at h; cases h
    | some d2 =>
      rw [n1, n2] at h
      have r1 := norm_rep hh rx n1
      have r2 := norm_rep hh ry n2
      have h : binD op d1 d2 = some z := h
      have fin : ∀ {r : R2} {v' w' : V}, v = v' → w = w' → OpR X (binaryOp (bop op)) r → r v' w' c.H (QX S c z c.h) → wpAny (model X.prog X.w) X.A (binaryOp (bop op) u t) (fun u' s' => Out X S c z c.h pins σ u' s') X.xe s :=
        fun {r v' w'} e1 e2 ho hr => by
          subst e1; subst e2
          exact thn (ho pins s σ c.H v w u t _ I rv rt hr) fun _ _ q => .ofEP q
      unfold binD at h
      split at h
      · cases h; exact fin r1.int r2.int op_add ⟨_, _, rfl, rfl, .here hh (.int _)⟩
      · cases h
        have r1 : RepV S c (.bl _) v := r1
        cases r1
        exact fin rfl r2.int Bo.op_add_bi ⟨_, _, rfl, rfl, .here hh (.int _)⟩
      · split at h
        · rename_i hl
          cases h
          obtain ⟨z1, rfl, e1⟩ := r1.str
          obtain ⟨z2, rfl, e2⟩ := r2.str
          have := maxl
          exact fin rfl rfl op_add_str ⟨_, _, rfl, rfl, by rw [strLen e1, strLen e2]; omega, .here hh (.str _ _ (by rw [← e1, ← e2]; exact Array.toList_append))⟩
        · cases h
      · split at h
        · rename_i hl
          cases h
          obtain ⟨p, vs, rfl, q1, w1⟩ := r1.tup hK
          obtain ⟨p2, vs2, rfl, q2, w2⟩ := r2.tup hK
          have := maxl
          refine fin rfl rfl op_catA ⟨p, p2, vs, vs2, rfl, rfl, q1, q2, by rw [w1.length, w2.length]; omega, fun e => ?_, fun _ e => ?_, fun _ _ => .newT hh (w1.append w2)⟩
          · subst e
            rw [w1.nil_of]
            exact .here hh (show RepV S c _ _ from r2)
          · subst e
            rw [w2.nil_of, List.append_nil]
            exact .here hh (show RepV S c _ _ from r1)
        · cases h
      · split at h
        · rename_i hl
          cases h
          obtain ⟨p, vs, rfl, q1, w1⟩ := r1
          obtain ⟨p2, vs2, rfl, q2, w2⟩ := r2
          have := maxl
          exact fin rfl rfl op_cat ⟨p, p2, vs, vs2, rfl, rfl, q1, q2, by rw [w1.length, w2.length]; omega, .newL hh (w1.append w2)⟩
        · cases h
      · cases h; exact fin r1.int r2.int op_sub ⟨_, _, rfl, rfl, .here hh (.int _)⟩
      · split at h
        · rename_i hl
          cases h
          rw [Bool.or_eq_true] at hl
          exact fin r1.int r2.int op_mul ⟨_, _, rfl, rfl, hl.imp small64_ok small64_ok, .here hh (.int _)⟩
        · cases h
      · split at h
        · rename_i hl
          cases h
          obtain ⟨p, vs, rfl, q1, w1⟩ := r1
          have := maxl
          have hm : MAXL = 1000000 := rfl
          exact fin rfl r2.int op_rep ⟨p, _, vs, rfl, rfl, q1, by omega, by omega, by rw [w1.length]; omega, .newL hh (w1.rep _)⟩
        · cases h
      · split at h
        · rename_i hl
          cases h
          obtain ⟨z1, rfl, e1⟩ := r1.str
          have e2 := r2.int
          subst e2
          obtain ⟨tk, rfl⟩ := rv
          obtain ⟨tk', rfl⟩ := rt
          have e3 := strLen e1
          refine SB.mul (str_mul_ok hl.1 hl.2.1 (by omega) (by omega)) fun t' k => ⟨c, .str (Txt.mul z1 _), I.tok _, rfl, Gr.refl c, hh, .d (.str _ _ ?_), ⟨_, rfl⟩⟩
          rw [txt_mul hl.1, e1]
        · cases h
      · split at h
        · rename_i hl
          cases h
          refine fin r1.int r2.int op_fdivW ⟨_, _, rfl, rfl, wide_div (b := 64) hl.1 (by omega) (by decide) (by decide), .here hh (.int _)⟩
        · cases h
      · split at h
        · rename_i hl
          cases h
          exact fin r1.int r2.int op_mod ⟨_, _, rfl, rfl, hl, .here hh (.int _)⟩
        · cases h
      · split at h
        · rename_i hl
          cases h
          exact fin r1.int r2.int op_pow ⟨_, _, rfl, rfl, ⟨hl.1, by omega, small64_abs hl.2.2⟩, .here hh (.int _)⟩
        · cases h
      · cases h; exact fin r1.int r2.int op_and ⟨_, _, rfl, rfl, .here hh (.int _)⟩
      · cases h; exact fin r1.int r2.int op_or ⟨_, _, rfl, rfl, .here hh (.int _)⟩
      · split at h
        · rename_i hl
          cases h
          exact fin r1.int r2.int op_shl ⟨_, _, rfl, rfl, ⟨hl.1, by omega, small64_abs hl.2.2⟩, .here hh (.int _)⟩
        · cases h
      · cases h
theorem px_bin (hK : X.K = S.K) (op : BOp) (ha : PX X S cf a ma) (hb : PX X S cf b mb) : PX X S cf (.BinOp a (bop op) b pos) (.bin op ma mb) :=
  px_binG (binX_ok hK op) ha hb fun e h => rfl
end
end MP

/-! MP4: comparisons, tests, and or not. -/
namespace MP
open PySem PySem.Spec PyProof.Rows L2
section
variable {X : Cx} {S : Sx} {cf : CF} {pos : Pos} {a b d : Expr} {ma mb md : ME}

theorem str_eq {z : Str} {s : List Nat} (e : z.cps.toList = s) : z = ⟨s.toArray⟩ := by
  subst e
  cases z
  rfl
/-! ### plain data -/
mutual
theorem RepV.dp (hK : X.K = S.K) {c : Cf} : ∀ (d : D) (n : Nat) (v : V), d.pl n = true → RepV S c d v → Dp X.K c.H v (toPD d)
  | .non, _, _, _, r => by cases r; rw [toPD]; exact .non
  | .bl b, _, _, _, r => by cases r; rw [toPD]; exact .bl b
  | .int i, _, _, _, r => by cases r; rw [toPD]; exact .int i
  | .str s, _, _, _, r => by
    cases r with
    | str _ z e => rw [toPD, str_eq e]; exact .str _
  | .tup xs, 0, _, h, _ => by simp [D.pl] at h
  | .lst xs, 0, _, h, _ => by simp [D.pl] at h
  | .tup xs, n + 1, _, h, r => by
    cases r with
    | tup h1 h2 =>
      rw [toPD]
      exact .tup (h1.imp (fun h => .inl h.1) (fun h => hK ▸ h)) (RepVs.dp hK xs n _ (by simpa [D.pl] using h) h2)
  | .lst xs, n + 1, _, h, r => by
    cases r with
    | lst h1 hn h2 =>
      rw [toPD]
      exact .lst (.of h1) (RepVs.dp hK xs n _ (by simpa [D.pl] using h) h2)
  | .rol _, _, _, h, _ => by simp [D.pl] at h
  | .dct _, _, _, h, _ => by simp [D.pl] at h
  | .ref _, _, _, h, _ => by simp [D.pl] at h
theorem RepVs.dp (hK : X.K = S.K) {c : Cf} : ∀ (xs : List D) (n : Nat) (vs : List V), pls xs n = true → RepVs S c xs vs → DpAll X.K c.H vs (toPDs xs)
  | [], _, _, _, r => by cases r; rw [toPDs]; exact .nil
  | x :: xs, n, _, h, r => by
    cases r with
    | cons r1 r2 =>
      rw [pls, Bool.and_eq_true] at h
      rw [toPDs]
      exact .cons (RepV.dp hK x n _ h.1 r1) (RepVs.dp hK xs n _ h.2 r2)
end
theorem RepN.dp (hK : X.K = S.K) {c : Cf} {d : D} {n : Nat} {v : V} (h : d.pl n = true) (r : RepN S c d v) : Dp X.K c.H v (toPD d) := by
  cases d with
  | lst xs =>
    obtain ⟨p, vs, rfl, h1, h2⟩ := r
    cases n with
    | zero => simp [D.pl] at h
    | succ n =>
      rw [toPD]
      exact .lst (.of h1) (RepVs.dp hK xs n _ (by simpa [D.pl] using h) h2)
  | dct kvs => simp [D.pl] at h
  | ref m => exact r.elim
  | non => exact RepV.dp hK _ n v h r
  | bl _ => exact RepV.dp hK _ n v h r
  | int _ => exact RepV.dp hK _ n v h r
  | str _ => exact RepV.dp hK _ n v h r
  | tup _ => exact RepV.dp hK _ n v h r
  | rol _ => exact RepV.dp hK _ n v h r
mutual
theorem pl_can : ∀ (d : D) (n : Nat), d.pl n = true → (toPD d).canLay0 = true ∧ (toPD d).depth ≤ n
  | .non, _, _ => by simp [toPD, PyData.canLay0, PyData.depth]
  | .bl b, _, _ => by simp [toPD, PyData.canLay0, PyData.depth]
  | .int i, _, _ => by simp [toPD, PyData.canLay0, PyData.depth]
  | .str s, _, h => by
    rw [D.pl] at h
    refine ⟨?_, by simp [toPD, PyData.depth]⟩
    rw [toPD, PyData.canLay0]
    show ((⟨s.toArray⟩ : Str).cps.all fun c => decide (c < 0x110000)) = true
    simpa using h
  | .tup xs, 0, h => by simp [D.pl] at h
  | .lst xs, 0, h => by simp [D.pl] at h
  | .tup xs, n + 1, h => by
    have := pls_can xs n (by simpa [D.pl] using h)
    rw [toPD, PyData.canLay0, PyData.depth]
    exact ⟨this.1, by omega⟩
  | .lst xs, n + 1, h => by
    have := pls_can xs n (by simpa [D.pl] using h)
    rw [toPD, PyData.canLay0, PyData.depth]
    exact ⟨this.1, by omega⟩
  | .rol _, _, h => by simp [D.pl] at h
  | .dct _, _, h => by simp [D.pl] at h
  | .ref _, _, h => by simp [D.pl] at h
theorem pls_can : ∀ (xs : List D) (n : Nat), pls xs n = true → PyData.canLayAll0 (toPDs xs) = true ∧ PyData.depthAll (toPDs xs) ≤ n
  | [], _, _ => by simp [toPDs, PyData.canLayAll0, PyData.depthAll]
  | x :: xs, n, h => by
    rw [pls, Bool.and_eq_true] at h
    have h1 := pl_can x n h.1
    have h2 := pls_can xs n h.2
    rw [toPDs, PyData.canLayAll0, PyData.depthAll, h1.1, h2.1]
    exact ⟨rfl, by omega⟩
end
theorem pl_shaped {d : D} (h : d.pl 30 = true) : SeqAt.shaped (toPD d) = true := by
  have := pl_can d 30 h
  unfold SeqAt.shaped
  rw [this.1, decide_eq_true (by omega)]
  rfl
theorem toPDs_map : ∀ xs : List D, toPDs xs = xs.map toPD
  | [] => rfl
  | x :: xs => by rw [toPDs, toPDs_map xs]; rfl
theorem memD_eq (x : D) (xs : List D) : memD x xs = (toPDs xs).any fun y => PyData.eqv y (toPD x) := by
  rw [toPDs_map, List.any_map]
  rfl
/-- x in a tuple of plain data -/
theorem op_inT (hu : X.A.units + 200 < cLine) (neg : Bool) : OpR X (compareOp (if neg = true then .NotIn else .In)) (fun x y H Q => ∃ d ds, Dp X.K H x d ∧ Dp X.K H y (.tuple ds) ∧ SeqAt.shaped d = true ∧ PyData.canLayAll0 ds = true ∧ Q (.bl (if neg = true then !(ds.any fun z => PyData.eqv z d) else ds.any fun z => PyData.eqv z d)) H) := by
  intro pins s σ H x y v u Q I rx ry h
  obtain ⟨d, ds, hd, he, sd, se, q⟩ := h
  obtain ⟨as, r1⟩ := Dp.reads I d x v hd rx
  obtain ⟨bs, r2⟩ := Dp.reads I (.tuple ds) y u he ry
  have hr : X.A.units + 1 + min (PyData.depthAll ds) d.depth < cLine := room_in_shaped sd (by omega)
  cases neg with
  | true => exact SeqAt.notIn_tuple_reads r2 r1 se (SeqAt.canLay_of_shaped sd) hr ⟨.bl _, H, I, rfl, q⟩
  | false => exact SeqAt.in_tuple_reads r2 r1 se (SeqAt.canLay_of_shaped sd) hr ⟨.bl _, H, I, rfl, q⟩

def cop : COp → CmpOp
  | .eq => .Eq
  | .ne => .NotEq
  | .lt => .Lt
  | .le => .LtE
  | .gt => .Gt
  | .ge => .GtE
  | .isin => .In
  | .notin => .NotIn
noncomputable def cmpO (op : COp) (x y : MP.X) (h : MH) : Option MP.X := (cmpX op x y h).map fun c => .d (.bl c)
end
end MP

/-! MPd: dicts of any hashable keys (None, numbers, texts, nested tuples, mixed), over the bare heap. -/
namespace MP.Dk
open PySem

abbrev Ent := NestedKey × Value × Value
def ent (w : World) (x : Ent) : DictEntry := ⟨x.1.hash w, x.2.1, x.2.2⟩
def KeyHere (h : Heap) (k : NestedKey) (u : Value) : Prop := NestedIs h k u ∧ k.depth ≤ 8
def place (xs : List Ent) (k : NestedKey) : Option Nat := xs.findIdx? fun x => decide (x.1 = k)

section
variable {prog : Program} {w : World} {A : Around} {E : Value → Shared → Prop} {s : Shared}

theorem key_text {h : Heap} {k : NestedKey} {z : Str} {t : Tok} (x : NestedIs h k (.str z t)) : k = .text z := by
  cases x
  rfl
theorem quiet_here {k : NestedKey} {u : Value} {Q : Bool → Shared → Prop} (hk : KeyHere s.heap k u) (h : Q true s) : wpAny (model prog w) A (eqIsQuiet 8 u) Q E s :=
  quiet_key k u 8 s hk.1 hk.2 A E Q h
theorem eq_here {k l : NestedKey} {u v : Value} {Q : Bool → Shared → Prop} (hu : A.units + 8 < cLine) (hk : KeyHere s.heap k u) (hl : KeyHere s.heap l v) (h : Q (decide (k = l)) s) : wpAny (model prog w) A (eqBool u v) Q E s := by
  have b : min k.depth l.depth ≤ 8 := Nat.le_trans (Nat.min_le_left _ _) hk.2
  exact eqAt_key k l A s u v hk.1 hl.1 (by omega) prog w E Q (by rw [← NestedKey.decide_eq]; exact h)
theorem tells_not {u : Value} {k : NestedKey} {stored : List Value} {Q : Bool → Shared → Prop} (hk : KeyHere s.heap k u) (hst : ∀ v ∈ stored, ∃ l, KeyHere s.heap l v) (h : Q false s) : wpAny (model prog w) A (tableMayTell u stored) Q E s := by
  unfold tableMayTell
  by_cases e : stored.isEmpty = true
  · rw [if_pos e]; exact wpAny_pure h
  · rw [if_neg e]
    refine wpAny_bind (quiet_here hk ?_)
    simp only [Bool.not_true, Bool.false_eq_true, if_false]
    refine wpAny_bind (wpAny_forIn_list _ (fun left r s' => r = (none, ()) ∧ s' = s ∧ ∀ v ∈ left, ∃ l, KeyHere s.heap l v) _ ?_ ?_ _ _ ⟨rfl, rfl, hst⟩)
    · rintro v left r s' ⟨rfl, rfl, hl⟩
      obtain ⟨l, hv⟩ := hl v List.mem_cons_self
      refine wpAny_bind (quiet_here hv ?_)
      simp only [Bool.not_true, Bool.false_eq_true, if_false]
      exact wpAny_pure ⟨rfl, rfl, fun v' h' => hl v' (List.mem_cons_of_mem _ h')⟩
    · rintro r s' ⟨rfl, rfl, _⟩
      exact wpAny_pure h

/-- what stands at d -/
structure Raw (w : World) (h : Heap) (d : Addr) (xs : List Ent) (o : Obj) (es : Array DictEntry) (ep : Nat) : Prop where
  at_ : h.get? d = some o
  ex : o.ExactDict
  dat : o.data = .dict es ep
  es : es.toList = xs.map (ent w)
  keys : ∀ x ∈ xs, KeyHere h x.1 x.2.1
  nd : (xs.map (·.1)).Nodup
variable {d : Addr} {xs : List Ent} {o : Obj} {es : Array DictEntry} {ep : Nat}
theorem Raw.size (r : Raw w s.heap d xs o es ep) : es.size = xs.length := by rw [← Array.length_toList, r.es, List.length_map]
theorem Raw.get (r : Raw w s.heap d xs o es ep) (j : Nat) : es[j]? = xs[j]?.map (ent w) := by rw [← Array.getElem?_toList, r.es, List.getElem?_map]
theorem nd_at {k : NestedKey} {i j : Nat} {x y : Ent} (nd : (xs.map (·.1)).Nodup) (hi : xs[i]? = some x) (hj : xs[j]? = some y) (ex : x.1 = k) (ey : y.1 = k) : i = j := by
  have a : (xs.map (·.1))[i]? = some k := by rw [List.getElem?_map, hi, ← ex]; rfl
  have b : (xs.map (·.1))[j]? = some k := by rw [List.getElem?_map, hj, ← ey]; rfl
  exact (List.getElem?_inj (List.getElem?_eq_some_iff.mp a).1 nd).mp (a.trans b.symm)
theorem place_some {k : NestedKey} {j : Nat} {x : Ent} (nd : (xs.map (·.1)).Nodup) (hj : xs[j]? = some x) (e : x.1 = k) : place xs k = some j := by
  unfold place
  rw [List.findIdx?_eq_some_iff_getElem]
  obtain ⟨hl, hx⟩ := List.getElem?_eq_some_iff.mp hj
  refine ⟨hl, by rw [hx]; exact decide_eq_true e, fun i hi => ?_⟩
  have hil : i < xs.length := Nat.lt_trans hi hl
  cases q : decide ((xs[i]'hil).1 = k) with
  | false => simp
  | true => exact absurd (nd_at nd (List.getElem?_eq_getElem hil) hj (of_decide_eq_true q) e) (Nat.ne_of_lt hi)
theorem place_none {k : NestedKey} (h : ∀ (j : Nat) (x : Ent), xs[j]? = some x → x.1 ≠ k) : place xs k = none := by
  unfold place
  rw [List.findIdx?_eq_none_iff]
  intro x hx
  obtain ⟨j, hj⟩ := List.mem_iff_getElem?.mp hx
  exact decide_eq_false (h j x hj)

theorem walk_plain {k : NestedKey} {u : Value} {ps : List Nat} {Q : Option Nat → Shared → Prop} (hu : A.units + 8 < cLine) (hk : KeyHere s.heap k u) (r : Raw w s.heap d xs o es ep)
    (hps : ∀ (j : Nat) (x : Ent), xs[j]? = some x → x.1 = k → j ∈ ps) (h : Q (place xs k) s) :
    wpAny (model prog w) A (dictWalkPlain d u (k.hash w) es ps) Q E s := by
  unfold dictWalkPlain
  refine wpAny_bind (wpAny_forIn_list _ (fun left b s' => b = (none, ()) ∧ s' = s ∧ ∀ (j : Nat) (x : Ent), xs[j]? = some x → x.1 = k → j ∈ left) _ ?_ ?_ _ _ ⟨rfl, rfl, hps⟩)
  · rintro i left b s' ⟨rfl, rfl, hl⟩
    rw [r.get i]
    cases hx : xs[i]? with
    | none =>
      refine wpAny_pure ⟨rfl, rfl, fun j x hj e => ?_⟩
      rcases List.mem_cons.mp (hl j x hj e) with z | z
      · subst z; rw [hx] at hj; cases hj
      · exact z
    | some x =>
      have stay : ¬ x.1 = k → ∀ (j : Nat) (y : Ent), xs[j]? = some y → y.1 = k → j ∈ left := fun ne j y hj e => by
        rcases List.mem_cons.mp (hl j y hj e) with z | z
        · subst z; rw [hx] at hj; cases hj; exact absurd e ne
        · exact z
      simp only [Option.map_some]
      by_cases hh : ((ent w x).hash == k.hash w) = true
      · rw [if_pos hh]
        refine wpAny_bind (wpAny_dictEpoch r.at_ r.dat (wpAny_bind (eq_here hu (r.keys x (List.mem_of_getElem? hx)) hk (wpAny_bind (wpAny_dictEpoch r.at_ r.dat ?_)))))
        rw [if_neg (by simp)]
        by_cases e : x.1 = k
        · rw [decide_eq_true e, if_pos rfl]
          refine wpAny_bind (wpAny_rule (wpAny_pure (wpAny_pure ?_)))
          rw [place_some r.nd hx e] at h
          exact h
        · rw [decide_eq_false e, if_neg Bool.false_ne_true]
          refine wpAny_bind (wpAny_rule (wpAny_pure ⟨rfl, rfl, stay e⟩))
      · rw [if_neg hh]
        refine wpAny_pure ⟨rfl, rfl, stay fun e => hh ?_⟩
        rw [← e]; simp [ent]
  · rintro b s' ⟨rfl, rfl, hl⟩
    refine wpAny_pure ?_
    rw [place_none (fun j x hj e => by have := hl j x hj e; cases this)] at h
    exact h

theorem idx_congr {α : Type} {p q : α → Bool} : ∀ {l : List α}, (∀ x ∈ l, p x = q x) → l.findIdx? p = l.findIdx? q
  | [], _ => rfl
  | x :: l, h => by
    rw [List.findIdx?_cons, List.findIdx?_cons, h x List.mem_cons_self, idx_congr fun y hy => h y (List.mem_cons_of_mem _ hy)]
theorem by_value {z : Str} {t : Tok} {Q : Option Nat → Shared → Prop} (hu : A.units + 8 < cLine) (r : Raw w s.heap d xs o es ep) (hall : (es.all fun e => isExactStrKey e.key) = true) (h : Q (place xs (.text z)) s) :
    wpAny (model prog w) A (foundByValue d (.str z t) es z) Q E s := by
  have hstr : ∀ x ∈ xs, ∃ y t', x.2.1 = .str y t' ∧ x.1 = .text y := fun x hx => by
    have hm : ent w x ∈ es.toList := by rw [r.es]; exact List.mem_map_of_mem hx
    have q : isExactStrKey (ent w x).key = true := by
      rw [← Array.all_toList, List.all_eq_true] at hall
      exact hall _ hm
    have hk := (r.keys x hx).1
    cases e : x.2.1 with
    | str y t' =>
      rw [e] at hk
      exact ⟨y, t', rfl, key_text hk⟩
    | _ =>
      have q' : isExactStrKey x.2.1 = true := q
      rw [e] at q'
      cases q'
  have same : ∀ x ∈ xs, (ent w x).key.isStr z = decide (x.1 = .text z) := fun x hx => by
    obtain ⟨y, t', e1, e2⟩ := hstr x hx
    show x.2.1.isStr z = _
    rw [e1, e2]
    show (y == z) = _
    by_cases q : y = z
    · subst q; simp
    · rw [decide_eq_false (fun e => q (NestedKey.text.inj e))]
      simpa using q
  have idx : es.findIdx? (fun e => e.key.isStr z) = place xs (.text z) := by
    have ea : es = (xs.map (ent w)).toArray := by rw [← r.es]
    rw [ea, List.findIdx?_toArray]
    unfold place
    rw [List.findIdx?_map]
    exact idx_congr same
  unfold foundByValue
  rw [idx]
  cases q : place xs (.text z) with
  | none => rw [q] at h; exact wpAny_pure h
  | some j =>
    rw [q] at h
    unfold place at q
    rw [List.findIdx?_eq_some_iff_getElem] at q
    obtain ⟨hl, hj, _⟩ := q
    have hx : xs[j]? = some xs[j] := List.getElem?_eq_getElem hl
    dsimp only
    rw [r.get j, hx]
    dsimp only [Option.map_some]
    obtain ⟨y, t', e1, e2⟩ := hstr xs[j] (List.getElem_mem hl)
    have e3 : y = z := by
      have := of_decide_eq_true hj
      rw [e2] at this
      exact NestedKey.text.inj this
    refine wpAny_bind (wpAny_dictEpoch r.at_ r.dat (wpAny_bind ?_))
    show wpAny _ _ (eqBool xs[j].2.1 (.str z t)) _ _ _
    rw [e1, e3]
    refine wpAny_eqBool_str (wpAny_bind (wpAny_dictEpoch r.at_ r.dat ?_))
    rw [if_neg (by simp), decide_eq_true rfl, if_pos rfl]
    exact wpAny_bind (wpAny_rule (wpAny_pure h))

theorem iteB {c : Bool} {α : Type} {a b : Sem α} {M : Model} {A : Around} {Q : α → Shared → Prop} {E : Value → Shared → Prop} {s : Shared} (_ : Unit := ()) (h1 : c = true → wpAny M A a Q E s) (h2 : ¬ c = true → wpAny M A b Q E s) : wpAny M A (if c = true then a else b) Q E s := by
  split
  · exact h1 ‹_›
  · exact h2 ‹_›
theorem find_any {k : NestedKey} {u : Value} {Q : Option Nat → Shared → Prop} (hu : A.units + 8 < cLine) (hk : KeyHere s.heap k u) (r : Raw w s.heap d xs o es ep) (h : Q (place xs k) s) :
    wpAny (model prog w) A (dictFind d u (k.hash w)) Q E s := by
  have all_ : ∀ (j : Nat) (x : Ent), xs[j]? = some x → x.1 = k → j ∈ placesWithHash es.size (fun i => es[i]?.map (·.hash)) (k.hash w) := fun j x hj e => by
    unfold placesWithHash
    refine List.mem_filter.mpr ⟨List.mem_range.mpr ?_, ?_⟩
    · rw [r.size]; exact (List.getElem?_eq_some_iff.mp hj).1
    · show ((es[j]?.map (·.hash)) == some (k.hash w)) = true
      rw [r.get j, hj, ← e]; simp [ent]
  have some_ : ∀ j ∈ placesWithHash es.size (fun i => es[i]?.map (·.hash)) (k.hash w), ∃ x, xs[j]? = some x ∧ (ent w x).hash = k.hash w := fun j hj => by
    unfold placesWithHash at hj
    obtain ⟨h1, h2⟩ := List.mem_filter.mp hj
    have h2 : ((es[j]?.map (·.hash)) == some (k.hash w)) = true := h2
    rw [r.get j] at h2
    cases e : xs[j]? with
    | none => rw [e] at h2; simp at h2
    | some x => rw [e] at h2; exact ⟨x, rfl, by simpa using h2⟩
  have stored_ : ∀ v ∈ (placesWithHash es.size (fun i => es[i]?.map (·.hash)) (k.hash w)).filterMap (fun i => es[i]?.map (·.key)), ∃ l, KeyHere s.heap l v := fun v hv => by
    obtain ⟨i, hi, e⟩ := List.mem_filterMap.mp hv
    obtain ⟨x, hx, _⟩ := some_ i hi
    rw [r.get i, hx] at e
    have e' : x.2.1 = v := by simpa [ent] using e
    subst e'
    exact ⟨x.1, r.keys x (List.mem_of_getElem? hx)⟩
  have sameKey : ¬ (es.any fun e => e.key == u && e.hash != k.hash w) = true := by
    rw [← Array.any_toList, r.es, List.any_eq_true]
    rintro ⟨e, he, hc⟩
    obtain ⟨x, hx, rfl⟩ := List.mem_map.mp he
    simp only [ent, Bool.and_eq_true, beq_iff_eq, bne_iff_ne, ne_eq] at hc
    have kx := (r.keys x hx).1
    rw [hc.1] at kx
    exact hc.2 (by rw [NestedIs.inj _ _ _ kx hk.1])
  unfold dictFind
  try with_reducible refine wpAny_holding ?_
  refine wpAny_bind (wpAny_dictEntries r.at_ r.dat ?_)
  have nodup_ : (placesWithHash es.size (fun i => es[i]?.map (·.hash)) (k.hash w)).Nodup := by
    unfold placesWithHash
    exact List.nodup_range.filter _
  cases u with
  | ref a =>
    dsimp only
    rw [if_neg (by simp [carriedByValue]), if_neg sameKey]
    refine iteB () (fun _ => ?_) (fun _ => ?_) <;> (first | refine wpAny_bind (wpAny_pure ?_) | refine wpAny_bind (tells_not hk stored_ ?_)) <;> (
      rw [if_neg (by simp)]
      refine wpAny_bind (wpAny_forIn_list _ (fun left b s' => s' = s ∧ ∃ hit done, b = (none, hit) ∧ placesWithHash es.size (fun i => es[i]?.map (·.hash)) (k.hash w) = done ++ left ∧
        ((hit = none ∧ ∀ (j : Nat) (x : Ent), xs[j]? = some x → x.1 = k → j ∈ left) ∨ ∃ (j : Nat) (x : Ent), hit = some j ∧ j ∈ done ∧ xs[j]? = some x ∧ x.1 = k)) _ ?_ ?_ _ _ ⟨rfl, none, [], rfl, rfl, .inl ⟨rfl, all_⟩⟩)
      · rintro i left b s' ⟨rfl, hit, done, rfl, hd, hH⟩
        have hi : i ∈ placesWithHash es.size (fun i => es[i]?.map (·.hash)) (k.hash w) := by rw [hd]; simp
        obtain ⟨x, hx, hxh⟩ := some_ i hi
        have nodup := nodup_
        rw [r.get i, hx]
        simp only [Option.map_some]
        rw [if_pos (by rw [hxh]; simp)]
        refine wpAny_bind (wpAny_dictEpoch r.at_ r.dat (wpAny_bind (eq_here hu (r.keys x (List.mem_of_getElem? hx)) hk (wpAny_bind (wpAny_dictEpoch r.at_ r.dat ?_)))))
        rw [if_neg (by simp)]
        by_cases e : x.1 = k
        · rw [decide_eq_true e]
          rcases hH with ⟨rfl, hl⟩ | ⟨j, y, rfl, hj, hy, ey⟩
          · simp only [Option.isSome_none, Bool.false_eq_true, if_false, if_true]
            refine wpAny_bind (wpAny_rule ?_)
            split
            · refine wpAny_pure (wpAny_pure ?_)
              rw [place_some r.nd hx e] at h
              exact h
            · exact wpAny_pure ⟨rfl, some i, done ++ [i], rfl, by rw [hd]; simp, .inr ⟨i, x, rfl, by simp, hx, e⟩⟩
          · have z : j = i := nd_at r.nd hy hx ey e
            subst z
            rw [hd] at nodup
            have := (List.nodup_append.mp nodup).2.2 j hj j (by simp)
            exact absurd rfl this
        · rw [decide_eq_false e]
          simp only [Bool.false_and, Bool.false_eq_true, if_false]
          refine wpAny_bind (wpAny_rule (wpAny_pure ⟨rfl, hit, done ++ [i], rfl, by rw [hd]; simp, ?_⟩))
          rcases hH with ⟨rfl, hl⟩ | ⟨j, y, rfl, hj, hy, ey⟩
          · refine .inl ⟨rfl, fun j y hj ey => ?_⟩
            rcases List.mem_cons.mp (hl j y hj ey) with z | z
            · subst z; rw [hx] at hj; cases hj; exact absurd ey e
            · exact z
          · exact .inr ⟨j, y, rfl, by simp [hj], hy, ey⟩
      · rintro b s' ⟨rfl, hit, done, rfl, hd, hH⟩
        refine wpAny_pure ?_
        rcases hH with ⟨rfl, hl⟩ | ⟨j, x, rfl, hj, hx, e⟩
        · rw [place_none (fun j x hj e => by have := hl j x hj e; cases this)] at h
          exact h
        · rw [place_some r.nd hx e] at h
          exact h)
  | str z t =>
    have ek := key_text hk.1
    dsimp only
    refine iteB () (fun hall => by_value hu r hall (ek ▸ h)) fun _ => iteB () (fun _ => walk_plain hu hk r all_ h) fun _ => ?_
    refine iteB () (fun _ => ?_) (fun _ => ?_) <;> (first | refine wpAny_bind (wpAny_pure ?_) | refine wpAny_bind (tells_not hk stored_ ?_)) <;> (
      rw [if_neg (by simp)]
      refine wpAny_bind (wpAny_forIn_list _ (fun left b s' => s' = s ∧ ∃ hit done, b = (none, hit) ∧ placesWithHash es.size (fun i => es[i]?.map (·.hash)) (k.hash w) = done ++ left ∧
        ((hit = none ∧ ∀ (j : Nat) (x : Ent), xs[j]? = some x → x.1 = k → j ∈ left) ∨ ∃ (j : Nat) (x : Ent), hit = some j ∧ j ∈ done ∧ xs[j]? = some x ∧ x.1 = k)) _ ?_ ?_ _ _ ⟨rfl, none, [], rfl, rfl, .inl ⟨rfl, all_⟩⟩)
      · rintro i left b s' ⟨rfl, hit, done, rfl, hd, hH⟩
        have hi : i ∈ placesWithHash es.size (fun i => es[i]?.map (·.hash)) (k.hash w) := by rw [hd]; simp
        obtain ⟨x, hx, hxh⟩ := some_ i hi
        have nodup := nodup_
        rw [r.get i, hx]
        simp only [Option.map_some]
        rw [if_pos (by rw [hxh]; simp)]
        refine wpAny_bind (wpAny_dictEpoch r.at_ r.dat (wpAny_bind (eq_here hu (r.keys x (List.mem_of_getElem? hx)) hk (wpAny_bind (wpAny_dictEpoch r.at_ r.dat ?_)))))
        rw [if_neg (by simp)]
        by_cases e : x.1 = k
        · rw [decide_eq_true e]
          rcases hH with ⟨rfl, hl⟩ | ⟨j, y, rfl, hj, hy, ey⟩
          · simp only [Option.isSome_none, Bool.false_eq_true, if_false, if_true]
            refine wpAny_bind (wpAny_rule ?_)
            split
            · refine wpAny_pure (wpAny_pure ?_)
              rw [place_some r.nd hx e] at h
              exact h
            · exact wpAny_pure ⟨rfl, some i, done ++ [i], rfl, by rw [hd]; simp, .inr ⟨i, x, rfl, by simp, hx, e⟩⟩
          · have z : j = i := nd_at r.nd hy hx ey e
            subst z
            rw [hd] at nodup
            have := (List.nodup_append.mp nodup).2.2 j hj j (by simp)
            exact absurd rfl this
        · rw [decide_eq_false e]
          simp only [Bool.false_and, Bool.false_eq_true, if_false]
          refine wpAny_bind (wpAny_rule (wpAny_pure ⟨rfl, hit, done ++ [i], rfl, by rw [hd]; simp, ?_⟩))
          rcases hH with ⟨rfl, hl⟩ | ⟨j, y, rfl, hj, hy, ey⟩
          · refine .inl ⟨rfl, fun j y hj ey => ?_⟩
            rcases List.mem_cons.mp (hl j y hj ey) with z | z
            · subst z; rw [hx] at hj; cases hj; exact absurd ey e
            · exact z
          · exact .inr ⟨j, y, rfl, by simp [hj], hy, ey⟩
      · rintro b s' ⟨rfl, hit, done, rfl, hd, hH⟩
        refine wpAny_pure ?_
        rcases hH with ⟨rfl, hl⟩ | ⟨j, x, rfl, hj, hx, e⟩
        · rw [place_none (fun j x hj e => by have := hl j x hj e; cases this)] at h
          exact h
        · rw [place_some r.nd hx e] at h
          exact h)
  | _ =>
    dsimp only
    refine iteB () (fun _ => walk_plain hu hk r all_ h) fun _ => ?_
    refine iteB () (fun _ => ?_) (fun _ => ?_) <;> (first | refine wpAny_bind (wpAny_pure ?_) | refine wpAny_bind (tells_not hk stored_ ?_)) <;> (
      rw [if_neg (by simp)]
      refine wpAny_bind (wpAny_forIn_list _ (fun left b s' => s' = s ∧ ∃ hit done, b = (none, hit) ∧ placesWithHash es.size (fun i => es[i]?.map (·.hash)) (k.hash w) = done ++ left ∧
        ((hit = none ∧ ∀ (j : Nat) (x : Ent), xs[j]? = some x → x.1 = k → j ∈ left) ∨ ∃ (j : Nat) (x : Ent), hit = some j ∧ j ∈ done ∧ xs[j]? = some x ∧ x.1 = k)) _ ?_ ?_ _ _ ⟨rfl, none, [], rfl, rfl, .inl ⟨rfl, all_⟩⟩)
      · rintro i left b s' ⟨rfl, hit, done, rfl, hd, hH⟩
        have hi : i ∈ placesWithHash es.size (fun i => es[i]?.map (·.hash)) (k.hash w) := by rw [hd]; simp
        obtain ⟨x, hx, hxh⟩ := some_ i hi
        have nodup := nodup_
        rw [r.get i, hx]
        simp only [Option.map_some]
        rw [if_pos (by rw [hxh]; simp)]
        refine wpAny_bind (wpAny_dictEpoch r.at_ r.dat (wpAny_bind (eq_here hu (r.keys x (List.mem_of_getElem? hx)) hk (wpAny_bind (wpAny_dictEpoch r.at_ r.dat ?_)))))
        rw [if_neg (by simp)]
        by_cases e : x.1 = k
        · rw [decide_eq_true e]
          rcases hH with ⟨rfl, hl⟩ | ⟨j, y, rfl, hj, hy, ey⟩
          · simp only [Option.isSome_none, Bool.false_eq_true, if_false, if_true]
            refine wpAny_bind (wpAny_rule ?_)
            split
            · refine wpAny_pure (wpAny_pure ?_)
              rw [place_some r.nd hx e] at h
              exact h
            · exact wpAny_pure ⟨rfl, some i, done ++ [i], rfl, by rw [hd]; simp, .inr ⟨i, x, rfl, by simp, hx, e⟩⟩
          · have z : j = i := nd_at r.nd hy hx ey e
            subst z
            rw [hd] at nodup
            have := (List.nodup_append.mp nodup).2.2 j hj j (by simp)
            exact absurd rfl this
        · rw [decide_eq_false e]
          simp only [Bool.false_and, Bool.false_eq_true, if_false]
          refine wpAny_bind (wpAny_rule (wpAny_pure ⟨rfl, hit, done ++ [i], rfl, by rw [hd]; simp, ?_⟩))
          rcases hH with ⟨rfl, hl⟩ | ⟨j, y, rfl, hj, hy, ey⟩
          · refine .inl ⟨rfl, fun j y hj ey => ?_⟩
            rcases List.mem_cons.mp (hl j y hj ey) with z | z
            · subst z; rw [hx] at hj; cases hj; exact absurd ey e
            · exact z
          · exact .inr ⟨j, y, rfl, by simp [hj], hy, ey⟩
      · rintro b s' ⟨rfl, hit, done, rfl, hd, hH⟩
        refine wpAny_pure ?_
        rcases hH with ⟨rfl, hl⟩ | ⟨j, x, rfl, hj, hx, e⟩
        · rw [place_none (fun j x hj e => by have := hl j x hj e; cases this)] at h
          exact h
        · rw [place_some r.nd hx e] at h
          exact h)

/-- what a key leads to -/
def look (xs : List Ent) (k : NestedKey) : Option Value := (xs.find? fun x => decide (x.1 = k)).map (·.2.2)
def putV (k : NestedKey) (v : Value) (x : Ent) : Ent := if x.1 = k then (x.1, x.2.1, v) else x
def storeE (xs : List Ent) (k : NestedKey) (u v : Value) : List Ent := if (place xs k).isSome = true then xs.map (putV k v) else xs ++ [(k, u, v)]
theorem look_place (xs : List Ent) (k : NestedKey) : look xs k = (place xs k).bind fun j => (xs[j]?).map (·.2.2) := by
  unfold look place
  induction xs with
  | nil => rfl
  | cons x xs ih =>
    rw [List.find?_cons, List.findIdx?_cons]
    cases q : decide (x.1 = k) with
    | true => rfl
    | false =>
      simp only [Bool.false_eq_true, if_false]
      rw [ih]
      cases List.findIdx? (fun x => decide (x.1 = k)) xs with
      | none => rfl
      | some j => simp
theorem get_any {k : NestedKey} {u : Value} {Q : Option Value → Shared → Prop} (hu : A.units + 8 < cLine) (hk : KeyHere s.heap k u) (r : Raw w s.heap d xs o es ep)
    (h : Q (look xs k) { s with toks := s.toks + k.draws }) : wpAny (model prog w) A (dictGet d u) Q E s := by
  unfold dictGet
  try with_reducible refine wpAny_holding ?_
  have b : k.depth ≤ 8 := hk.2
  have hk' : KeyHere ({ s with toks := s.toks + k.draws } : Shared).heap k u := hk
  have r' : Raw w ({ s with toks := s.toks + k.draws } : Shared).heap d xs o es ep := r
  refine wpAny_bind (pyHash_key k u A s _ hk.1 (by omega) (wpAny_bind (find_any hu hk' r' ?_)))
  rw [look_place] at h
  cases q : place xs k with
  | none =>
    rw [q] at h
    exact wpAny_pure h
  | some j =>
    rw [q] at h
    dsimp only
    refine wpAny_bind (wpAny_dictEntries r'.at_ r'.dat ?_)
    rw [r.get j]
    have e : Option.map (·.val) (Option.map (ent w) xs[j]?) = xs[j]?.map (·.2.2) := by cases xs[j]? <;> rfl
    rw [e]
    exact wpAny_pure h
theorem key_keeps {h h' : Heap} {k : NestedKey} {u : Value} (hk : KeyHere h k u) (ho : h.get? d = some o) (hd : o.data = .dict es ep) (hs : Heap.SameBut d h h') : KeyHere h' k u := by
  refine ⟨NestedIs.at (fun b ob vs n hb hc => ?_) k u hk.1, hk.2⟩
  by_cases e : b = d
  · subst e
    rw [ho] at hb
    cases hb
    rw [hd] at hc
    cases hc
  · exact (hs.2 b e).trans hb
theorem keys_putV (k : NestedKey) (v : Value) : ∀ xs : List Ent, (xs.map (putV k v)).map (·.1) = xs.map (·.1)
  | [] => rfl
  | x :: xs => by
    rw [List.map_cons, List.map_cons, List.map_cons, keys_putV k v xs]
    unfold putV
    split <;> rfl
theorem putV_other {k : NestedKey} {v : Value} : ∀ {xs : List Ent}, (∀ x ∈ xs, x.1 ≠ k) → xs.map (putV k v) = xs
  | [], _ => rfl
  | x :: xs, h => by
    rw [List.map_cons, putV_other fun y hy => h y (List.mem_cons_of_mem _ hy)]
    unfold putV
    rw [if_neg (h x List.mem_cons_self)]
theorem modify_putV {k : NestedKey} {v : Value} : ∀ {xs : List Ent} {j : Nat} {x : Ent}, (xs.map (·.1)).Nodup → xs[j]? = some x → x.1 = k →
    (xs.map (ent w)).modify j (fun e : DictEntry => { e with val := v }) = (xs.map (putV k v)).map (ent w)
  | [], _, _, _, hj, _ => by simp at hj
  | y :: xs, 0, x, nd, hj, e => by
    simp only [List.getElem?_cons_zero, Option.some.injEq] at hj
    subst hj
    rw [List.map_cons, List.nodup_cons] at nd
    have rest : xs.map (putV k v) = xs := putV_other fun z hz ez => nd.1 (List.mem_map.mpr ⟨z, hz, by rw [ez, e]⟩)
    rw [List.map_cons, List.map_cons, rest]
    unfold putV
    rw [if_pos e]
    rfl
  | y :: xs, j + 1, x, nd, hj, e => by
    simp only [List.getElem?_cons_succ] at hj
    rw [List.map_cons, List.nodup_cons] at nd
    have ne : ¬ y.1 = k := fun z => nd.1 (List.mem_map.mpr ⟨x, List.mem_of_getElem? hj, by rw [e, z]⟩)
    rw [List.map_cons, List.map_cons, List.map_cons]
    show ent w y :: (xs.map (ent w)).modify j _ = ent w (putV k v y) :: _
    rw [modify_putV nd.2 hj e]
    unfold putV
    rw [if_neg ne]
theorem set_any {k : NestedKey} {u v : Value} {Q : Unit → Shared → Prop} (hu : A.units + 8 < cLine) (hk : KeyHere s.heap k u) (r : Raw w s.heap d xs o es ep) (hz : xs.length ≤ sizeLine)
    (hQ : ∀ h' o' es' ep', Raw w h' d (storeE xs k u v) o' es' ep' → Heap.SameBut d s.heap h' → Q () { s with heap := h', toks := s.toks + k.draws }) :
    wpAny (model prog w) A (dictSet d u v) Q E s := by
  unfold dictSet
  try with_reducible refine wpAny_holding ?_
  have b : k.depth ≤ 8 := hk.2
  have hk' : KeyHere ({ s with toks := s.toks + k.draws } : Shared).heap k u := hk
  have r' : Raw w ({ s with toks := s.toks + k.draws } : Shared).heap d xs o es ep := r
  refine wpAny_bind (pyHash_key k u A s _ hk.1 (by omega) ?_)
  unfold dictSetHashed
  try with_reducible refine wpAny_holding ?_
  refine wpAny_bind (find_any hu hk' r' ?_)
  cases q : place xs k with
  | none =>
    have no : ∀ x ∈ xs, x.1 ≠ k := fun x hx e => by
      unfold place at q
      rw [List.findIdx?_eq_none_iff] at q
      have := q x hx
      rw [decide_eq_true e] at this
      cases this
    have se : storeE xs k u v = xs ++ [(k, u, v)] := by unfold storeE; rw [q]; rfl
    refine wpAny_bind (wpAny_rule (wpAny_updateDictKeys (hz := by rw [r.size]; exact hz) r'.at_ r'.dat (hQ _ _ _ (ep + 1) ⟨Heap.get?_update_self _ r.at_ (Obj.isFreed_of_dict (Obj.data_mapDictKeys r.dat _)),
      r.ex.mapDictKeys _, Obj.data_mapDictKeys r.dat _, ?_, ?_, ?_⟩ (Heap.SameBut.update ..))))
    · rw [se]; simp [r.es, ent]
    · rw [se]
      intro x hx
      rcases List.mem_append.mp hx with hx | hx
      · exact key_keeps (r.keys x hx) r.at_ r.dat (Heap.SameBut.update ..)
      · simp only [List.mem_singleton] at hx
        subst hx
        exact key_keeps hk r.at_ r.dat (Heap.SameBut.update ..)
    · rw [se, List.map_append, List.nodup_append]
      refine ⟨r.nd, by simp, fun x hx y hy => ?_⟩
      simp only [List.map_cons, List.map_nil, List.mem_singleton] at hy
      subst hy
      obtain ⟨z, hz, rfl⟩ := List.mem_map.mp hx
      exact no z hz
  | some j =>
    have se : storeE xs k u v = xs.map (putV k v) := by unfold storeE; rw [q]; rfl
    unfold place at q
    rw [List.findIdx?_eq_some_iff_getElem] at q
    obtain ⟨hl, hj, _⟩ := q
    have hx : xs[j]? = some xs[j] := List.getElem?_eq_getElem hl
    refine wpAny_bind (wpAny_rule (wpAny_bind (wpAny_updateDict r'.at_ r'.dat (wpAny_point (hQ _ _ _ ep ⟨Heap.get?_update_self _ r.at_ (Obj.isFreed_of_dict (Obj.data_mapDict r.dat _)),
      r.ex.mapDict _, Obj.data_mapDict r.dat _, ?_, ?_, ?_⟩ (Heap.SameBut.update ..))))))
    · rw [se, ← modify_putV r.nd hx (of_decide_eq_true hj), ← r.es]
      obtain ⟨l⟩ := es
      simp
    · rw [se]
      intro x hx
      obtain ⟨y, hy, rfl⟩ := List.mem_map.mp hx
      unfold putV
      split <;> exact key_keeps (r.keys y hy) r.at_ r.dat (Heap.SameBut.update ..)
    · rw [se, keys_putV]; exact r.nd

theorem Raw.typeIs (r : Raw w s.heap d xs o es ep) : s.TypeIs (.ref d) "dict" := ⟨o, r.at_, r.ex.1⟩
theorem Raw.raw (r : Raw w s.heap d xs o es ep) : s.heap.DictRaw d es ep := ⟨o, r.at_, r.ex, r.dat⟩
theorem contains_any {k : NestedKey} {u : Value} {Q : Bool → Shared → Prop} (hu : A.units + 9 < cLine) (hk : KeyHere s.heap k u) (hd : (d == sysModules) = false) (r : Raw w s.heap d xs o es ep)
    (h : Q (look xs k).isSome { s with toks := s.toks + k.draws }) : wpAny (model prog w) A (contains (.ref d) u) Q E s := by
  refine wpAny_contains_slot r.typeIs F.slot_dict_contains ?_
  refine call_meetsIn F.slot_dict_contains r.typeIs F.entry_dict_contains (F.args_dict_contains_2 _ _) (S := fun A' R s' => A' = A ∧ s' = s ∧ R (.ok (.ret (.bool (look xs k).isSome))) { s with toks := s.toks + k.draws }) (.of_wp fun A' R s' hS => ?_) ⟨rfl, rfl, wpAny_truthy_bool h⟩
  obtain ⟨rfl, rfl, hq⟩ := hS
  show wpAny _ _ (dictGet d u >>= _) _ _ _
  refine wpAny_bind (get_any (by show A'.units + 1 + 8 < cLine; omega) hk r ?_)
  cases q : look xs k with
  | some v =>
    rw [q] at hq
    exact wpAny_pure ⟨_, rfl, hq⟩
  | none =>
    rw [q] at hq
    show wpAny _ _ (Builtin.Dict.pendingKey? d u >>= _) _ _ _
    exact wpAny_bind (wpAny_pendingKey_other hd (wpAny_pure ⟨_, rfl, hq⟩))

theorem in_any {k : NestedKey} {u : Value} {Q : Value → Shared → Prop} (hu : A.units + 9 < cLine) (hk : KeyHere s.heap k u) (hd : (d == sysModules) = false) (r : Raw w s.heap d xs o es ep)
    (h : Q (.bool (look xs k).isSome) { s with toks := s.toks + k.draws }) : wpAny (model prog w) A (compareOp .In u (.ref d)) Q E s := by
  show wpAny _ _ (do return .bool (← contains (.ref d) u)) Q E s
  exact wpAny_bind (contains_any hu hk hd r (wpAny_pure h))
theorem notIn_any {k : NestedKey} {u : Value} {Q : Value → Shared → Prop} (hu : A.units + 9 < cLine) (hk : KeyHere s.heap k u) (hd : (d == sysModules) = false) (r : Raw w s.heap d xs o es ep)
    (h : Q (.bool (!(look xs k).isSome)) { s with toks := s.toks + k.draws }) : wpAny (model prog w) A (compareOp .NotIn u (.ref d)) Q E s := by
  show wpAny _ _ (do return .bool (!(← contains (.ref d) u))) Q E s
  exact wpAny_bind (contains_any hu hk hd r (wpAny_pure h))
theorem item_any {k : NestedKey} {u v : Value} {Q : Value → Shared → Prop} (hu : A.units + 9 < cLine) (hk : KeyHere s.heap k u) (r : Raw w s.heap d xs o es ep) (hv : look xs k = some v)
    (h : Q v { s with toks := s.toks + k.draws }) : wpAny (model prog w) A (getItem (.ref d) u) Q E s := by
  unfold getItem
  try with_reducible refine wpAny_holding ?_
  refine wpAny_bind (wpAny_sequenceKey r.typeIs (by decide) ?_)
  refine wpAny_bind (wpAny_callSpecial?_slot (name := Str.ofString "__getitem__") r.typeIs F.slot_dict_getitem (wpAny_call_entry F.slot_dict_getitem r.typeIs F.entry_dict_getitem ?_ (F.args_dict_getitem_2 _ _)))
  show wpAny _ _ (dictGet d u >>= _) _ _ s
  refine wpAny_bind (get_any (by show A.units + 1 + 8 < cLine; omega) hk r ?_)
  rw [hv]
  exact wpAny_pure ⟨v, rfl, wpAny_pure h⟩
theorem put_any {k : NestedKey} {u v : Value} {Q : Unit → Shared → Prop} (hu : A.units + 9 < cLine) (hk : KeyHere s.heap k u) (r : Raw w s.heap d xs o es ep) (hz : xs.length ≤ sizeLine)
    (hQ : ∀ h' o' es' ep', Raw w h' d (storeE xs k u v) o' es' ep' → Heap.SameBut d s.heap h' → Q () { s with heap := h', toks := s.toks + k.draws }) :
    wpAny (model prog w) A (setItem (.ref d) u v) Q E s := by
  unfold setItem
  try with_reducible refine wpAny_holding ?_
  refine wpAny_bind (wpAny_sequenceKey r.typeIs (by decide) ?_)
  refine wpAny_bind (wpAny_callSpecial?_slot (name := Str.ofString "__setitem__") r.typeIs F.slot_dict_setitem (wpAny_call_entry F.slot_dict_setitem r.typeIs F.entry_dict_setitem ?_ (F.args_dict_setitem_3 _ _ _)))
  show wpAny _ _ (Builtin.Dict.notOrdered "__setitem__" ⟨[.ref d, u, v], []⟩ >>= _) _ _ s
  refine wpAny_bind (wpAny_notOrdered_dict r.typeIs ?_)
  show wpAny _ _ (dictSet d u v >>= _) _ _ s
  exact wpAny_bind (set_any (by show A.units + 1 + 8 < cLine; omega) hk r hz fun h' o' es' ep' r' hs => wpAny_pure ⟨.none, rfl, wpAny_pure (hQ h' o' es' ep' r' hs)⟩)
theorem get1_any {k : NestedKey} {u : Value} {Q : Value → Shared → Prop} (hu : A.units + 9 < cLine) (hk : KeyHere s.heap k u) (hd : (d == sysModules) = false) (r : Raw w s.heap d xs o es ep)
    (h : Q ((look xs k).getD .none) { s with toks := s.toks + k.draws }) : wpAny (model prog w) A (call (.builtin "dict.get") [.ref d, u]) Q E s := by
  refine call_meetsIn F.slot_dict_get r.typeIs F.entry_dict_get (F.args_dict_get_2 _ _) (S := fun A' R s' => A' = A ∧ s' = s ∧ R (.ok (.ret ((look xs k).getD .none))) { s with toks := s.toks + k.draws }) (.of_wp fun A' R s' hS => ?_) ⟨rfl, rfl, h⟩
  obtain ⟨rfl, rfl, hq⟩ := hS
  show wpAny _ _ (dictGet d u >>= _) _ _ _
  refine wpAny_bind (get_any (by show A'.units + 1 + 8 < cLine; omega) hk r ?_)
  cases q : look xs k with
  | some v =>
    rw [q] at hq
    exact wpAny_pure ⟨_, rfl, hq⟩
  | none =>
    rw [q] at hq
    show wpAny _ _ (Builtin.Dict.missed d u >>= _) _ _ _
    exact wpAny_bind (wpAny_missed_other hd (wpAny_pure ⟨_, rfl, hq⟩))
theorem get2_any {k : NestedKey} {u t : Value} {Q : Value → Shared → Prop} (hu : A.units + 9 < cLine) (hk : KeyHere s.heap k u) (hd : (d == sysModules) = false) (r : Raw w s.heap d xs o es ep)
    (h : Q ((look xs k).getD t) { s with toks := s.toks + k.draws }) : wpAny (model prog w) A (call (.builtin "dict.get") [.ref d, u, t]) Q E s := by
  refine call_meetsIn F.slot_dict_get r.typeIs F.entry_dict_get (F.args_dict_get_3 _ _ _) (S := fun A' R s' => A' = A ∧ s' = s ∧ R (.ok (.ret ((look xs k).getD t))) { s with toks := s.toks + k.draws }) (.of_wp fun A' R s' hS => ?_) ⟨rfl, rfl, h⟩
  obtain ⟨rfl, rfl, hq⟩ := hS
  show wpAny _ _ (dictGet d u >>= _) _ _ _
  refine wpAny_bind (get_any (by show A'.units + 1 + 8 < cLine; omega) hk r ?_)
  cases q : look xs k with
  | some v =>
    rw [q] at hq
    exact wpAny_pure ⟨_, rfl, hq⟩
  | none =>
    rw [q] at hq
    show wpAny _ _ (Builtin.Dict.missed d u >>= _) _ _ _
    exact wpAny_bind (wpAny_missed_other hd (wpAny_pure ⟨_, rfl, hq⟩))
end
end MP.Dk

/-! MP5: dicts of the pure data and of the heap. -/
namespace MP
open PySem PySem.Spec PyProof.Rows L2 Dk
section
variable {X : Cx} {S : Sx} {pins : List (Addr × Obj)} {σ : L2.St} {c : Cf} {s : Shared}

mutual
theorem RepV.nested (hK : X.K = S.K) (I : Inv X pins σ c.H s) : ∀ (d : D) (k : NestedKey) (v : V) (u : Value), keyOf d = some k → RepV S c d v → RelV v u → NestedIs s.heap k u
  | .non, _, _, _, h, r, rv => by
    cases r; cases rv
    simp only [keyOf, Option.some.injEq] at h
    subst h; exact .none
  | .bl b, _, _, _, h, r, rv => by
    cases r; cases rv
    simp only [keyOf, Option.some.injEq] at h
    subst h; exact .bool rfl
  | .int i, _, _, _, h, r, rv => by
    cases r
    obtain ⟨t, rfl⟩ := rv
    simp only [keyOf, Option.some.injEq] at h
    subst h; exact .int _ _
  | .str z, _, _, _, h, r, rv => by
    cases r with
    | str _ y e =>
      obtain ⟨t, rfl⟩ := rv
      simp only [keyOf, Option.some.injEq] at h
      subst h
      rw [str_eq e]; exact .text _ _
  | .tup xs, _, _, u, h, r, rv => by
    cases r with
    | tup h1 h2 =>
      rw [keyOf] at h
      obtain ⟨ks, hk, rfl⟩ := Option.map_eq_some_iff.mp h
      obtain rfl : u = _ := rv
      obtain ⟨its, rI, ht, hz⟩ := I.tuple (a := _) (xs := _) (h1.imp (fun h => Or.inl h.1) (fun h => hK ▸ h))
      obtain ⟨o, ho, hc, n, hd⟩ := ht
      exact .tup ho hc hd (by simpa using RepVs.nested hK I xs ks _ _ hk h2 rI)
  | .lst _, _, _, _, h, _, _ => by simp [keyOf] at h
  | .rol _, _, _, _, h, _, _ => by simp [keyOf] at h
  | .dct _, _, _, _, h, _, _ => by simp [keyOf] at h
  | .ref _, _, _, _, h, _, _ => by simp [keyOf] at h
theorem RepVs.nested (hK : X.K = S.K) (I : Inv X pins σ c.H s) : ∀ (xs : List D) (ks : List NestedKey) (vs : List V) (us : List Value), keysOf xs = some ks → RepVs S c xs vs → Vals vs us → NestedAll s.heap ks us
  | [], _, _, _, h, r, rv => by
    cases r; cases rv
    simp only [keysOf, Option.some.injEq] at h
    subst h; exact .nil
  | x :: xs, _, _, _, h, r, rv => by
    cases r with
    | cons r1 r2 =>
      cases rv with
      | cons q1 q2 =>
        rw [keysOf] at h
        cases e1 : keyOf x with
        | none => rw [e1] at h; cases h
        | some k =>
          cases e2 : keysOf xs with
          | none => rw [e1, e2] at h; cases h
          | some ks =>
            rw [e1, e2] at h
            cases h
            exact .cons (RepV.nested hK I x k _ _ e1 r1 q1) (RepVs.nested hK I xs ks _ _ e2 r2 q2)
end
theorem okKey_some {d : D} (h : okKey d = true) : ∃ k, keyOf d = some k ∧ k.depth ≤ 8 := by
  unfold okKey at h
  cases e : keyOf d with
  | none => rw [e] at h; cases h
  | some k => rw [e] at h; exact ⟨k, rfl, of_decide_eq_true h⟩

/-- the entries of a dict by key -/
def KRel (S : Sx) (c : Cf) : List (D × D) → List Ent → Prop := Paired fun (p : D × D) (x : Ent) => keyOf p.1 = some x.1 ∧ x.1.depth ≤ 8 ∧ (∃ kv, RepV S c p.1 kv ∧ RelV kv x.2.1) ∧ ∃ vv, RepV S c p.2 vv ∧ RelV vv x.2.2
theorem RepKs.ents : ∀ {kvs : List (D × D)} {es : List DictEntry}, RepKs S c kvs es → ∃ xs, es = xs.map (ent S.w) ∧ KRel S c kvs xs
  | _, _, .nil => ⟨[], rfl, .nil⟩
  | _, _, .cons (nk := nk) (e := e) h0 h1 h2 h3 h4 h5 h6 t => by
    obtain ⟨xs, e1, q⟩ := RepKs.ents t
    refine ⟨(nk, e.key, e.val) :: xs, ?_, .cons ⟨h0, h1, ⟨_, h3, h4⟩, _, h5, h6⟩ q⟩
    rw [List.map_cons, ← e1]
    unfold ent
    rw [← h2]
theorem KRel.reps : ∀ {kvs : List (D × D)} {xs : List Ent}, KRel S c kvs xs → RepKs S c kvs (xs.map (ent S.w))
  | _, _, .nil => .nil
  | _, _, .cons ⟨h0, h1, ⟨_, h3, h4⟩, _, h5, h6⟩ t => .cons h0 h1 rfl h3 h4 h5 h6 (KRel.reps t)
theorem KRel.length : ∀ {kvs : List (D × D)} {xs : List Ent}, KRel S c kvs xs → xs.length = kvs.length
  | _, _, .nil => rfl
  | _, _, .cons _ t => by rw [List.length_cons, List.length_cons, KRel.length t]
theorem KRel.keys : ∀ {kvs : List (D × D)} {xs : List Ent}, KRel S c kvs xs → kvs.map (fun p => keyOf p.1) = xs.map fun x => some x.1
  | _, _, .nil => rfl
  | _, _, .cons ⟨h0, _⟩ t => by rw [List.map_cons, List.map_cons, h0, KRel.keys t]
theorem KRel.nd {kvs : List (D × D)} {xs : List Ent} (q : KRel S c kvs xs) (a : Apart kvs) : (xs.map (·.1)).Nodup := by
  unfold Apart at a
  rw [q.keys] at a
  have : (xs.map (·.1)).map some = xs.map fun x => some x.1 := by rw [List.map_map]; rfl
  rw [← this] at a
  exact (List.pairwise_map.mp a).imp fun h e => h (congrArg some e)
theorem KRel.here (hK : X.K = S.K) (I : Inv X pins σ c.H s) : ∀ {kvs : List (D × D)} {xs : List Ent}, KRel S c kvs xs → ∀ x ∈ xs, KeyHere s.heap x.1 x.2.1
  | _, _, .nil, _, hx => by cases hx
  | _, _, .cons ⟨h0, h1, ⟨_, h3, h4⟩, _⟩ t, x, hx => by
    rcases List.mem_cons.mp hx with rfl | hx
    · exact ⟨h3.nested hK I _ _ _ _ h0 h4, h1⟩
    · exact KRel.here hK I t x hx
/-- the dict's object -/
theorem raw_of (hK : X.K = S.K) (I : Inv X pins σ c.H s) {a : Addr} {kvs : List (D × D)} {es : List DictEntry} (h : c.H a = some (DO a es)) (ap : Apart kvs) (r : RepKs S c kvs es) :
    ∃ xs o ep, KRel S c kvs xs ∧ es = xs.map (ent S.w) ∧ Raw S.w s.heap a xs o es.toArray ep := by
  obtain ⟨xs, e1, q⟩ := r.ents
  obtain ⟨⟨o, ep, ho, hx, hd⟩, _⟩ := I.hok a _ h
  exact ⟨xs, o, ep, q, e1, ho, hx, hd, e1, q.here hK I, q.nd ap⟩
theorem keyEq_dec {a b : D} {k l : NestedKey} (ha : keyOf a = some k) (hb : keyOf b = some l) : keyEq a b = decide (k = l) := by
  unfold keyEq
  rw [ha, hb]
/-- a look-up -/
theorem look_rel {k : D} {nk : NestedKey} (hk : keyOf k = some nk) : ∀ {kvs : List (D × D)} {xs : List Ent}, KRel S c kvs xs →
    (dget kvs k = none ∧ look xs nk = none) ∨ ∃ v vv u, dget kvs k = some v ∧ look xs nk = some u ∧ RepV S c v vv ∧ RelV vv u
  | _, _, .nil => .inl ⟨rfl, rfl⟩
  | _, _, .cons (a := p) (b := x) ⟨h0, h1, h2, vv, h5, h6⟩ t => by
    have e := keyEq_dec h0 hk
    unfold dget look
    rw [List.find?_cons, List.find?_cons, e]
    cases q : decide (x.1 = nk) with
    | true => exact .inr ⟨p.2, vv, x.2.2, rfl, rfl, h5, h6⟩
    | false => exact look_rel hk t
theorem any_rel {k : D} {nk : NestedKey} (hk : keyOf k = some nk) : ∀ {kvs : List (D × D)} {xs : List Ent}, KRel S c kvs xs → (kvs.any fun p => keyEq p.1 k) = (place xs nk).isSome
  | _, _, .nil => rfl
  | _, _, .cons (a := p) (b := x) (l₂ := xs) ⟨h0, h1, h2, vv, h5, h6⟩ t => by
    have ih := any_rel hk t
    rw [List.any_cons, keyEq_dec h0 hk, ih]
    unfold place
    rw [List.findIdx?_cons]
    cases q : decide (x.1 = nk) with
    | true => rfl
    | false =>
      simp only [Bool.false_or, Bool.false_eq_true, if_false]
      cases List.findIdx? (fun x => decide (x.1 = nk)) xs <;> rfl
theorem map_rel {k v : D} {vv : V} {u : Value} {nk : NestedKey} (hk : keyOf k = some nk) (rv : RepV S c v vv) (ru : RelV vv u) : ∀ {kvs : List (D × D)} {xs : List Ent}, KRel S c kvs xs →
    KRel S c (kvs.map fun p => if keyEq p.1 k = true then (p.1, v) else p) (xs.map (putV nk u))
  | _, _, .nil => .nil
  | _, _, .cons (a := p) (b := x) ⟨h0, h1, h2, h5⟩ t => by
    rw [List.map_cons, List.map_cons]
    refine .cons ?_ (map_rel hk rv ru t)
    rw [keyEq_dec h0 hk]
    unfold putV
    by_cases q : x.1 = nk
    · rw [if_pos (decide_eq_true q), if_pos q]; exact ⟨h0, h1, h2, vv, rv, ru⟩
    · rw [if_neg (by simpa using q), if_neg q]; exact ⟨h0, h1, h2, h5⟩
theorem KRel.append : ∀ {kvs more : List (D × D)} {xs ys : List Ent}, KRel S c kvs xs → KRel S c more ys → KRel S c (kvs ++ more) (xs ++ ys)
  | _, _, _, _, .nil, s => s
  | _, _, _, _, .cons h t, s => .cons h (KRel.append t s)
/-- a store -/
theorem put_rel {k v : D} {kv vv : V} {ku u : Value} {nk : NestedKey} (hk : keyOf k = some nk) (hd : nk.depth ≤ 8) (rk : RepV S c k kv) (rku : RelV kv ku) (rv : RepV S c v vv) (ru : RelV vv u) {kvs : List (D × D)} {xs : List Ent} (q : KRel S c kvs xs) :
    KRel S c (dput kvs k v) (storeE xs nk ku u) := by
  unfold dput storeE
  rw [any_rel hk q]
  split
  · exact map_rel hk rv ru q
  · exact q.append (.cons ⟨hk, hd, ⟨_, rk, rku⟩, _, rv, ru⟩ .nil)
theorem dput_keys (k v : D) : ∀ kvs : List (D × D), (kvs.map fun p => if keyEq p.1 k = true then (p.1, v) else p).map (fun p => keyOf p.1) = kvs.map fun p => keyOf p.1
  | [] => rfl
  | p :: r => by
    rw [List.map_cons, List.map_cons, List.map_cons, dput_keys k v r]
    congr 1
    split <;> rfl
theorem Apart.put {kvs : List (D × D)} {k v : D} {nk : NestedKey} (hk : keyOf k = some nk) (a : Apart kvs) : Apart (dput kvs k v) := by
  unfold Apart dput
  split
  · rw [dput_keys]; exact a
  · rename_i h
    rw [List.map_append, List.nodup_append]
    refine ⟨a, by simp, fun x hx y hy => ?_⟩
    simp only [List.map_cons, List.map_nil, List.mem_singleton] at hy
    subst hy
    intro e
    apply h
    obtain ⟨p, hp, rfl⟩ := List.mem_map.mp hx
    rw [List.any_eq_true]
    refine ⟨p, hp, ?_⟩
    rw [keyEq_dec (e.trans hk) hk]
    simp
theorem Apart.nil : Apart [] := List.nodup_nil
end
end MP

/-! MPr: repr of data within which dicts stand: only a dict's own address is asked to be none of the system's. -/
namespace MP.Rk
open PySem
mutual
inductive RdX (h : Heap) : Value → PyData → Prop
  | none : RdX h .none .none
  | bool (b) : RdX h (.bool b) (.bool b)
  | int (i t) : RdX h (.int i t) (.int i)
  | str (x t) : RdX h (.str x t) (.str x)
  | list {p ob vs n xs} : h.get? p = some ob → ob.cls = .type "list" → ob.data = .seq vs n → RdXs h vs.toList xs → RdX h (.ref p) (.list xs)
  | tuple {p ob vs n xs} : h.get? p = some ob → ob.cls = .type "tuple" → ob.data = .seq vs n → RdXs h vs.toList xs → RdX h (.ref p) (.tuple xs)
  | dict {p ob es n kvs} : h.get? p = some ob → ob.cls = .type "dict" → ob.data = .dict es n → (p == sysModules) = false → RdXs h (es.toList.map (·.key)) (kvs.map (·.1)) → RdXs h (es.toList.map (·.val)) (kvs.map (·.2)) → RdX h (.ref p) (.dict kvs)
inductive RdXs (h : Heap) : List Value → List PyData → Prop
  | nil : RdXs h [] []
  | cons {v vs d ds} : RdX h v d → RdXs h vs ds → RdXs h (v :: vs) (d :: ds)
end
mutual
theorem RdX.reads {h : Heap} : ∀ {v : Value} {d : PyData}, RdX h v d → ∃ as, Reads h v d as
  | _, _, .none => ⟨_, .none⟩
  | _, _, .bool b => ⟨_, .bool b⟩
  | _, _, .int i t => ⟨_, .int i t⟩
  | _, _, .str x t => ⟨_, .str x t⟩
  | _, _, .list a b c e => let ⟨_, r⟩ := RdXs.reads e; ⟨_, .list a b c r⟩
  | _, _, .tuple a b c e => let ⟨_, r⟩ := RdXs.reads e; ⟨_, .tuple a b c r⟩
  | _, _, .dict a b c _ e f => let ⟨_, r⟩ := RdXs.reads e; let ⟨_, q⟩ := RdXs.reads f; ⟨_, .dict a b c r q⟩
theorem RdXs.reads {h : Heap} : ∀ {v : List Value} {d : List PyData}, RdXs h v d → ∃ as, ReadsAll h v d as
  | _, _, .nil => ⟨_, .nil⟩
  | _, _, .cons a b => let ⟨_, r⟩ := RdX.reads a; let ⟨_, q⟩ := RdXs.reads b; ⟨_, .cons r q⟩
end
section
variable {prog : Program} {w : World} {h : Heap}
theorem low_keys {kvs : List (PyData × PyData)} (hz : (dictText (PyData.shownKv kvs)).length ≤ sizeLine) : ∀ t ∈ PyData.shownAll (kvs.map (·.1)), t.length ≤ sizeLine := fun t ht => by
  obtain ⟨q, hq, l⟩ := PyData.shownKv_key_le kvs t ht
  have := dictText_mem_le hq
  omega
theorem low_vals {kvs : List (PyData × PyData)} (hz : (dictText (PyData.shownKv kvs)).length ≤ sizeLine) : ∀ t ∈ PyData.shownAll (kvs.map (·.2)), t.length ≤ sizeLine := fun t ht => by
  obtain ⟨q, hq, l⟩ := PyData.shownKv_val_le kvs t ht
  have := dictText_mem_le hq
  omega
mutual
theorem rk : ∀ {v : Value} {d : PyData}, RdX h v d → d.showable = true → d.shown.length ≤ sizeLine → ∃ bs, ReadAtMost h d.depth bs ∧ ReprK prog w bs h d.depth v d.shown
  | _, _, .none, _, _ => by
    refine ⟨[], (fun _ z => nomatch z), ?_⟩
    rw [PyData.shown]
    exact .of_is ReprIs.none _ _ _
  | _, _, .bool b, _, _ => by
    refine ⟨[], (fun _ z => nomatch z), ?_⟩
    rw [PyData.shown]
    exact .of_is (ReprIs.bool b) _ _ _
  | _, _, .int i t, hs, _ => by
    refine ⟨[], (fun _ z => nomatch z), ?_⟩
    rw [PyData.shown]
    rw [PyData.showable] at hs
    exact .of_is (ReprIs.int t (of_decide_eq_true hs)) _ _ _
  | _, _, .str x t, _, hz => by
    refine ⟨[], (fun _ z => nomatch z), ?_⟩
    rw [PyData.shown] at hz ⊢
    exact .of_is (ReprIs.str x t hz) _ _ _
  | _, _, .list (p := p) (vs := vs) (xs := xs) a b c e, hs, hz => by
    rw [PyData.shown] at hz
    rw [PyData.showable] at hs
    obtain ⟨bs, low, all⟩ := rks e hs fun t ht => Nat.le_trans (listText_mem_le ht) hz
    obtain ⟨as, r⟩ := (RdX.list a b c e).reads
    have out : p ∉ bs := not_mem_of_deeper r (by rw [PyData.depth]; omega) low
    refine ⟨p :: bs, ReadAtMost.cons r (by rw [PyData.depth]; omega) low, ?_⟩
    rw [PyData.depth, PyData.shown]
    obtain ⟨l⟩ := vs
    cases l with
    | nil =>
      cases (show RdXs h [] xs from e)
      rw [PyData.shownAll, listText_nil]
      exact ReprK.listEmpty a b c
    | cons y l => exact ReprK.list a b c out (by simpa using all.length_eq) fun i z q => all.item i z (by simpa using q)
  | _, _, .tuple (p := p) (xs := xs) a b c e, hs, hz => by
    rw [PyData.shown] at hz
    rw [PyData.showable] at hs
    obtain ⟨bs, low, all⟩ := rks e hs fun t ht => Nat.le_trans (tupleText_mem_le ht) hz
    obtain ⟨as, r⟩ := (RdX.tuple a b c e).reads
    have out : p ∉ bs := not_mem_of_deeper r (by rw [PyData.depth]; omega) low
    refine ⟨p :: bs, ReadAtMost.cons r (by rw [PyData.depth]; omega) low, ?_⟩
    rw [PyData.depth, PyData.shown]
    exact ReprK.tuple a b c out all
  | _, _, .dict (p := p) (es := es) (kvs := kvs) a b c sys e f, hs, hz => by
    rw [PyData.shown] at hz
    rw [PyData.showable] at hs
    obtain ⟨s1, s2⟩ := PyData.showableKv_split kvs hs
    obtain ⟨as, low1, all1⟩ := rks e s1 (low_keys hz)
    obtain ⟨bs, low2, all2⟩ := rks f s2 (low_vals hz)
    obtain ⟨_, r⟩ := (RdX.dict a b c sys e f).reads
    have d1 := PyData.depthAll_keys_le kvs
    have d2 := PyData.depthAll_vals_le kvs
    have low := (low1.mono d1).append (low2.mono d2)
    have out : p ∉ as ++ bs := not_mem_of_deeper r (by rw [PyData.depth]; omega) low
    refine ⟨p :: (as ++ bs), ReadAtMost.cons r (by rw [PyData.depth]; omega) low, ?_⟩
    rw [PyData.depth, PyData.shown, PyData.shownKv_eq]
    exact ReprK.dict a b c sys out (.of_two _ _ _ (all1.more_le (fun _ z => List.mem_append_left _ z) d1) (all2.more_le (fun _ z => List.mem_append_right _ z) d2))
theorem rks : ∀ {vs : List Value} {ds : List PyData}, RdXs h vs ds → PyData.showableAll ds = true → (∀ t ∈ PyData.shownAll ds, t.length ≤ sizeLine) → ∃ bs, ReadAtMost h (PyData.depthAll ds) bs ∧ ReprAllK prog w bs h (PyData.depthAll ds) vs (PyData.shownAll ds)
  | _, _, .nil, _, _ => by
    refine ⟨[], (fun _ z => nomatch z), ?_⟩
    rw [PyData.shownAll]
    exact .nil
  | _, _, .cons (d := d) (ds := ds) a b, hs, hz => by
    rw [PyData.showableAll, Bool.and_eq_true] at hs
    rw [PyData.shownAll] at hz
    obtain ⟨as, low1, one⟩ := rk a hs.1 (hz _ List.mem_cons_self)
    obtain ⟨bs, low2, all⟩ := rks b hs.2 fun t ht => hz t (List.mem_cons_of_mem _ ht)
    rw [PyData.depthAll, PyData.shownAll]
    exact ⟨as ++ bs, (low1.mono (Nat.le_max_left _ _)).append (low2.mono (Nat.le_max_right _ _)), .cons ((one.more fun _ z => List.mem_append_left _ z).level_le (Nat.le_max_left _ _)) (all.more_le (fun _ z => List.mem_append_right _ z) (Nat.le_max_right _ _))⟩
end
/-- repr(x) of a list, a tuple, a dict -/
theorem repr_x {p : Addr} {d : PyData} {A : Around} {E : Value → Shared → Prop} {s : Shared} {Q : Value → Shared → Prop} (r : RdX s.heap (.ref p) d) (hs : d.showable = true) (hz : d.shown.length ≤ sizeLine) (hg : A.guards = some []) (hu : A.units + (d.depth + 1) < cLine)
    (hQ : ∀ h' u tk, (∀ b o, s.heap.get? b = some o → h'.get? b = some o) → Q (.str d.shown u) { s with heap := h', toks := tk }) : wpAny (model prog w) A (call (.builtin "repr") [.ref p]) Q E s := by
  have U : A.in1.units + d.depth < cLine := by show A.units + 1 + d.depth < cLine; omega
  have G : A.in1.guards = some [] := hg
  obtain ⟨as0, rr⟩ := r.reads
  cases r with
  | list a b c e =>
    rename_i ob vs n xs
    rw [PyData.shown] at hz
    rw [PyData.showable] at hs
    obtain ⟨bs, low, all⟩ := rks (prog := prog) (w := w) e hs fun t ht => Nat.le_trans (listText_mem_le ht) hz
    have out : p ∉ bs := not_mem_of_deeper rr (by rw [PyData.depth]; omega) low
    rw [PyData.depth] at U
    refine call_repr_slot (by omega) ⟨ob, a, b⟩ F.slot_list_repr.toG ?_
    obtain ⟨l⟩ := vs
    cases l with
    | nil =>
      cases (show RdXs s.heap [] xs from e)
      refine call_list_repr_empty ⟨ob, a, b⟩ a c ⟨_, _, rfl, ?_⟩
      have := hQ s.heap
      rw [PyData.shown, PyData.shownAll, listText_nil] at this
      exact this _ _ fun _ _ z => z
    | cons y l =>
      refine call_list_reprK a b c out (by simpa using all.length_eq) (fun i z q => all.item i z (by simpa using q)) G (fun z _ => Clear.nil z) U (fun _ _ z => z) (fun h' u tk hk => ⟨_, _, rfl, ?_⟩) hz
      have := hQ h' u tk hk
      rw [PyData.shown] at this
      exact this
  | tuple a b c e =>
    rename_i ob vs n xs
    rw [PyData.shown] at hz
    rw [PyData.showable] at hs
    obtain ⟨bs, low, all⟩ := rks (prog := prog) (w := w) e hs fun t ht => Nat.le_trans (tupleText_mem_le ht) hz
    have out : p ∉ bs := not_mem_of_deeper rr (by rw [PyData.depth]; omega) low
    rw [PyData.depth] at U
    refine call_repr_slot (by omega) ⟨ob, a, b⟩ F.slot_tuple_repr (call_tuple_reprK a b c out all G (fun z _ => Clear.nil z) U (fun _ _ z => z) (fun h' u tk hk => ⟨_, _, rfl, ?_⟩) hz)
    have := hQ h' u tk hk
    rw [PyData.shown] at this
    exact this
  | dict a b c sys e f =>
    rename_i ob es n kvs
    rw [PyData.shown] at hz
    rw [PyData.showable] at hs
    obtain ⟨s1, s2⟩ := PyData.showableKv_split kvs hs
    obtain ⟨as, low1, all1⟩ := rks (prog := prog) (w := w) e s1 (low_keys hz)
    obtain ⟨bs, low2, all2⟩ := rks (prog := prog) (w := w) f s2 (low_vals hz)
    have d1 := PyData.depthAll_keys_le kvs
    have d2 := PyData.depthAll_vals_le kvs
    have out : p ∉ as ++ bs := not_mem_of_deeper rr (by rw [PyData.depth]; omega) ((low1.mono d1).append (low2.mono d2))
    rw [PyData.depth] at U
    rw [PyData.shownKv_eq] at hz
    refine call_repr_slot (by omega) ⟨ob, a, b⟩ F.slot_dict_repr (call_dict_reprK a b c sys out (.of_two _ _ _ (all1.more_le (fun _ z => List.mem_append_left _ z) d1) (all2.more_le (fun _ z => List.mem_append_right _ z) d2)) G (fun z _ => Clear.nil z) U (fun _ _ z => z) (fun h' u tk hk => ⟨_, _, rfl, ?_⟩) hz)
    have := hQ h' u tk hk
    rw [PyData.shown, PyData.shownKv_eq] at this
    exact this
end
end MP.Rk

/-! MPe: == of data within which dicts stand that are never compared with one another. -/
namespace MP.Eqd
open PySem PySem.SeqAt MeetsSeq
theorem cmp_len {h : Heap} {vs : List Value} {xs ys : List PyData} {as bs : List Addr} (r : ReadsAll h vs xs as) (q : ReadsAll h vs ys bs) : xs.length = ys.length := by
  have := ReadsAll.length _ _ _ r
  have := ReadsAll.length _ _ _ q
  omega
mutual
theorem cmp_unique {h : Heap} : ∀ (d d' : PyData) (v : Value) (as as' : List Addr), cmpP d d' = true → Reads h v d as → Reads h v d' as' → d = d' ∧ d.plain = true
  | .none, _, _, _, _, _, r, r' => by cases r; cases r'; exact ⟨rfl, rfl⟩
  | .bool _, _, _, _, _, _, r, r' => by cases r; cases r'; exact ⟨rfl, rfl⟩
  | .int _, _, _, _, _, _, r, r' => by cases r; cases r'; exact ⟨rfl, rfl⟩
  | .str _, _, _, _, _, _, r, r' => by cases r; cases r'; exact ⟨rfl, rfl⟩
  | .list xs, d', _, _, _, hl, r, r' => by
    cases r with
    | list h1 h2 h3 h4 =>
      cases r' with
      | @list _ _ _ _ ys _ k1 k2 k3 k4 =>
        rw [h1] at k1; cases k1
        rw [h3] at k3; cases k3
        have hl : (xs.length != ys.length || cmpPs xs ys) = true := by simpa only [cmpP] using hl
        have e : (xs.length != ys.length) = false := by rw [cmp_len h4 k4]; simp
        rw [e, Bool.false_or] at hl
        obtain ⟨e, p⟩ := cmps_unique xs ys _ _ _ hl h4 k4
        exact ⟨by rw [e], p⟩
      | tuple k1 k2 k3 k4 => rw [h1] at k1; cases k1; rw [h2] at k2; exact absurd k2 (by simp)
      | dict k1 k2 k3 k4 k5 => rw [h1] at k1; cases k1; rw [h2] at k2; exact absurd k2 (by simp)
  | .tuple xs, d', _, _, _, hl, r, r' => by
    cases r with
    | tuple h1 h2 h3 h4 =>
      cases r' with
      | @tuple _ _ _ _ ys _ k1 k2 k3 k4 =>
        rw [h1] at k1; cases k1
        rw [h3] at k3; cases k3
        have hl : cmpPs xs ys = true := by simpa only [cmpP] using hl
        obtain ⟨e, p⟩ := cmps_unique xs ys _ _ _ hl h4 k4
        exact ⟨by rw [e], p⟩
      | list k1 k2 k3 k4 => rw [h1] at k1; cases k1; rw [h2] at k2; exact absurd k2 (by simp)
      | dict k1 k2 k3 k4 k5 => rw [h1] at k1; cases k1; rw [h2] at k2; exact absurd k2 (by simp)
  | .dict _, d', _, _, _, hl, r, r' => by
    cases r with
    | dict h1 h2 h3 h4 h5 =>
      cases r' with
      | list k1 k2 k3 k4 => rw [h1] at k1; cases k1; rw [h2] at k2; exact absurd k2 (by simp)
      | tuple k1 k2 k3 k4 => rw [h1] at k1; cases k1; rw [h2] at k2; exact absurd k2 (by simp)
      | dict k1 k2 k3 k4 k5 => simp [cmpP] at hl
theorem cmps_unique {h : Heap} : ∀ (xs ys : List PyData) (vs : List Value) (as as' : List Addr), cmpPs xs ys = true → ReadsAll h vs xs as → ReadsAll h vs ys as' → xs = ys ∧ PyData.plainAll xs = true
  | [], _, _, _, _, _, r, r' => by cases r; cases r'; exact ⟨rfl, rfl⟩
  | x :: xs, _, _, _, _, hl, r, r' => by
    cases r with
    | cons h1 h2 =>
      cases r' with
      | @cons _ _ y ys _ _ k1 k2 =>
        have hl : (cmpP x y && cmpPs xs ys) = true := by simpa only [cmpPs] using hl
        rw [Bool.and_eq_true] at hl
        obtain ⟨e1, p1⟩ := cmp_unique x y _ _ _ hl.1 h1 k1
        obtain ⟨e2, p2⟩ := cmps_unique xs ys _ _ _ hl.2 h2 k2
        exact ⟨by rw [e1, e2], by simp only [PyData.plainAll, p1, p2, Bool.and_self]⟩
end
section
variable {A : Around} {s : Shared}
theorem dict_declines_none {prog : Program} {w : World} {E : Value → Shared → Prop} {l : Addr} (ht : s.TypeIs (.ref l) "dict") {Q : Value → Shared → Prop} (h : Q .notImplemented s) : wpAny (model prog w) A (call (.builtin "dict.__eq__") [.ref l, .none]) Q E s := by
  refine wpAny_call_entry PySem.F.slot_dict_eq ht PySem.F.entry_dict_eq ?_ (PySem.F.args_dict_eq_2 _ _)
  show wpAny _ _ (Builtin.Dict.dictSlotArgs "__eq__" ⟨[.ref l, .none], []⟩ >>= _) _ _ s
  refine wpAny_bind ?_
  unfold Builtin.Dict.dictSlotArgs
  refine wpAny_bind (wpAny_notOrdered_dict ht ?_)
  show wpAny _ _ (pure (Value.ref l, Value.none)) _ _ s
  refine wpAny_pure ?_
  refine wpAny_bind (wpAny_isInstance (T := "NoneType") (s := s) (v := .none) rfl PySem.F.sub_NoneType_dict ?_)
  simp only [Bool.not_false, if_true]
  exact wpAny_bind (wpAny_rule (wpAny_pure ⟨_, rfl, h⟩))
theorem rc_dict_none {l : Addr} (ht : s.TypeIs (.ref l) "dict") (hu : A.units < cLine) : RcAt A s (.ref l) .none false := fun prog w E Q h =>
  rc_eq_decline_or (k := false) ht rfl (by decide) F.sub_NoneType_dict F.slot_dict_eq F.slot_NoneType_eq_refl
    (fun _ hq => dict_declines_none ht hq)
    (fun _ hq => call_gives F.slot_NoneType_eq_refl rfl F.entry_NoneType_eq (F.args_NoneType_eq_2 _ _) (NoneType___eq___none_ref_0 l) hq)
    (fun _ hq => wpAny_of_eq (rfl : isSame (.ref l) .none = pure false) hq) (.inr hu) h
theorem eq_dict_none {l : Addr} (ht : s.TypeIs (.ref l) "dict") (hu : A.units < cLine) : EqAt A s (.ref l) .none false := fun prog w E Q h => by
  unfold eqBool
  refine wpAny_holding ?_
  refine wpAny_ite_split (fun hab => absurd (eq_of_beq hab) nofun) (fun _ => ?_)
  exact wpAny_bind (rc_dict_none ht hu prog w E _ (wpAny_truthy_bool h))
theorem rc_none_dict {l : Addr} (ht : s.TypeIs (.ref l) "dict") (hu : A.units < cLine) : RcAt A s .none (.ref l) false := fun prog w E Q h =>
  rc_eq_decline_or (k := false) rfl ht (by decide) F.sub_dict_NoneType F.slot_NoneType_eq F.slot_dict_eq_refl
    (fun _ hq => call_gives F.slot_NoneType_eq rfl F.entry_NoneType_eq (F.args_NoneType_eq_2 _ _) (NoneType___eq___none_ref_0 l) hq)
    (fun _ hq => dict_declines_none ht hq)
    (fun _ hq => wpAny_of_eq (rfl : isSame .none (.ref l) = pure false) hq) (.inr hu) h
theorem eq_none_dict {l : Addr} (ht : s.TypeIs (.ref l) "dict") (hu : A.units < cLine) : EqAt A s .none (.ref l) false := fun prog w E Q h => by
  unfold eqBool
  refine wpAny_holding ?_
  refine wpAny_ite_split (fun hab => absurd (eq_of_beq hab) nofun) (fun _ => ?_)
  exact wpAny_bind (rc_none_dict ht hu prog w E _ (wpAny_truthy_bool h))
end
mutual
theorem eqAt_cmp : ∀ (da db : PyData) (A : Around) (s : Shared) (a b : Value) (as bs : List Addr), Reads s.heap a da as → Reads s.heap b db bs → cmpP da db = true →
    A.units + min da.depth db.depth < cLine → EqAt A s a b (PyData.eqv da db)
  | .none, _, A, s, _, _, _, _, ra, rb, _, hu => by
    cases ra
    cases rb with
    | none => exact EqAt.same _
    | bool y => exact EqAt.none_bool y
    | int y u => exact EqAt.none_int y u
    | str y u => exact EqAt.none_str y u
    | list k1 k2 k3 k4 => exact EqAt.none_list ⟨_, k1, k2, _, k3⟩ (room_here hu)
    | tuple k1 k2 k3 k4 => exact EqAt.none_tuple ⟨_, k1, k2, _, k3⟩ (room_here hu)
    | dict k1 k2 => exact eq_none_dict ⟨_, k1, k2⟩ (room_here hu)
  | .bool x, _, A, s, _, _, _, _, ra, rb, hb, hu => by
    cases ra
    cases rb with
    | none => exact EqAt.bool_none x
    | bool y => exact EqAt.bool_bool x y
    | int y u => exact EqAt.bool_int x y u
    | str y u => exact EqAt.bool_str x y u
    | list k1 k2 k3 k4 => exact EqAt.bool_list x ⟨_, k1, k2, _, k3⟩ (room_here hu)
    | tuple k1 k2 k3 k4 => exact EqAt.bool_tuple x ⟨_, k1, k2, _, k3⟩ (room_here hu)
    | dict => simp [cmpP] at hb
  | .int x, _, A, s, _, _, _, _, ra, rb, hb, hu => by
    cases ra with
    | int _ t =>
      cases rb with
      | none => exact EqAt.int_none x t
      | bool y => exact EqAt.int_bool x t y
      | int y u => exact EqAt.int_int x t y u
      | str y u => exact EqAt.int_str x t y u
      | list k1 k2 k3 k4 => exact EqAt.int_list x t ⟨_, k1, k2, _, k3⟩ (room_here hu)
      | tuple k1 k2 k3 k4 => exact EqAt.int_tuple x t ⟨_, k1, k2, _, k3⟩ (room_here hu)
      | dict => simp [cmpP] at hb
  | .str x, _, A, s, _, _, _, _, ra, rb, hb, hu => by
    cases ra with
    | str _ t =>
      cases rb with
      | none => exact EqAt.str_none x t
      | bool y => exact EqAt.str_bool x t y
      | int y u => exact EqAt.str_int x t y u
      | str y u => exact EqAt.str_str x t y u
      | list k1 k2 k3 k4 => exact EqAt.str_list x t ⟨_, k1, k2, _, k3⟩ (room_here hu)
      | tuple k1 k2 k3 k4 => exact EqAt.str_tuple x t ⟨_, k1, k2, _, k3⟩ (room_here hu)
      | dict => simp [cmpP] at hb
  | .list xs, db, A, s, _, _, _, _, ra, rb, hb, hu => by
    cases ra with
    | @list l o vs n _ as₁ h1 h2 h3 h4 =>
      have hl : s.heap.IsList l vs := ⟨_, h1, h2, _, h3⟩
      cases rb with
      | none => exact EqAt.list_none hl (room_here hu)
      | bool y => exact EqAt.list_bool y hl (room_here hu)
      | int y u => exact EqAt.list_int y u hl (room_here hu)
      | str y u => exact EqAt.list_str y u hl (room_here hu)
      | tuple k1 k2 k3 k4 => exact EqAt.list_tuple hl ⟨_, k1, k2, _, k3⟩ (room_here hu)
      | dict => simp [cmpP] at hb
      | @list l' o' vs' n' ys bs₁ k1 k2 k3 k4 =>
        have hl' : s.heap.IsList l' vs' := ⟨_, k1, k2, _, k3⟩
        have n1 : vs.size = xs.length := by simpa using ReadsAll.length _ _ _ h4
        have n2 : vs'.size = ys.length := by simpa using ReadsAll.length _ _ _ k4
        have hb : (xs.length != ys.length || cmpPs xs ys) = true := by simpa only [cmpP] using hb
        show EqAt A s (.ref l) (.ref l') (PyData.eqvAll xs ys)
        by_cases hll : l = l'
        · subst hll
          obtain ⟨e, ha⟩ := cmp_unique (.list xs) (.list ys) _ _ _ (by simpa only [cmpP] using hb) (.list h1 h2 h3 h4) (.list k1 k2 k3 k4)
          injection e with e
          subst e
          rw [eqvAll_refl_plain xs ha]
          exact EqAt.same _
        · by_cases hsz : vs.size = vs'.size
          · have e : (xs.length != ys.length) = false := by rw [show xs.length = ys.length by omega]; simp
            rw [e, Bool.false_or] at hb
            rw [← eqvAll_same_length (by omega : xs.length = ys.length), ← n1]
            refine EqAt.of_refs hll (RcAt.lists hl hl' hsz (room_here hu) fun j j1 j2 => ?_)
            have := eqAt_cmps xs ys A.in1 s vs.toList vs'.toList _ _ h4 k4 hb (room_in hu) j (by simpa using j1) (by simpa using j2)
            simpa using this
          · rw [eqvAll_other_length (by omega : xs.length ≠ ys.length)]
            exact EqAt.of_refs hll (RcAt.lists_lengths hl hl' (by simpa using hsz) (room_here hu))
  | .tuple xs, db, A, s, _, _, _, _, ra, rb, hb, hu => by
    cases ra with
    | @tuple l o vs n _ as₁ h1 h2 h3 h4 =>
      have hl : s.heap.IsTuple l vs := ⟨_, h1, h2, _, h3⟩
      cases rb with
      | none => exact EqAt.tuple_none hl (room_here hu)
      | bool y => exact EqAt.tuple_bool y hl (room_here hu)
      | int y u => exact EqAt.tuple_int y u hl (room_here hu)
      | str y u => exact EqAt.tuple_str y u hl (room_here hu)
      | list k1 k2 k3 k4 => exact EqAt.tuple_list hl ⟨_, k1, k2, _, k3⟩ (room_here hu)
      | dict => simp [cmpP] at hb
      | @tuple l' o' vs' n' ys bs₁ k1 k2 k3 k4 =>
        have hl' : s.heap.IsTuple l' vs' := ⟨_, k1, k2, _, k3⟩
        have n1 : vs.size = xs.length := by simpa using ReadsAll.length _ _ _ h4
        have n2 : vs'.size = ys.length := by simpa using ReadsAll.length _ _ _ k4
        have hb : cmpPs xs ys = true := by simpa only [cmpP] using hb
        show EqAt A s (.ref l) (.ref l') (PyData.eqvAll xs ys)
        by_cases hll : l = l'
        · subst hll
          obtain ⟨e, ha⟩ := cmp_unique (.tuple xs) (.tuple ys) _ _ _ (by simpa only [cmpP] using hb) (.tuple h1 h2 h3 h4) (.tuple k1 k2 k3 k4)
          injection e with e
          subst e
          rw [eqvAll_refl_plain xs ha]
          exact EqAt.same _
        · rw [← eqvAll_eq xs ys, ← n1, ← n2]
          refine EqAt.of_refs hll (RcAt.tuples hl hl' (room_here hu) fun j j1 j2 => ?_)
          have := eqAt_cmps xs ys A.in1 s vs.toList vs'.toList _ _ h4 k4 hb (room_in hu) j (by simpa using j1) (by simpa using j2)
          simpa using this
  | .dict kvs, db, A, s, _, _, _, _, ra, rb, hb, hu => by
    cases ra with
    | dict h1 h2 =>
      cases rb with
      | none => exact eq_dict_none ⟨_, h1, h2⟩ (room_here hu)
      | bool y => simp [cmpP] at hb
      | int y u => simp [cmpP] at hb
      | str y u => simp [cmpP] at hb
      | list k1 k2 k3 k4 => simp [cmpP] at hb
      | tuple k1 k2 k3 k4 => simp [cmpP] at hb
      | dict => simp [cmpP] at hb
theorem eqAt_cmps : ∀ (xs ys : List PyData) (A : Around) (s : Shared) (vs ws : List Value) (as bs : List Addr), ReadsAll s.heap vs xs as → ReadsAll s.heap ws ys bs → cmpPs xs ys = true →
    A.units + min (PyData.depthAll xs) (PyData.depthAll ys) < cLine → ∀ j (h1 : j < vs.length) (h2 : j < ws.length), EqAt A s vs[j] ws[j] (pairEq xs ys j)
  | [], _, _, _, _, _, _, _, ra, _, _, _, j, h1, _ => by cases ra; exact absurd h1 (Nat.not_lt_zero _)
  | _ :: _, [], _, _, _, _, _, _, _, rb, _, _, j, _, h2 => by cases rb; exact absurd h2 (Nat.not_lt_zero _)
  | x :: xs, y :: ys, A, s, _, _, _, _, ra, rb, ha, hu, j, h1, h2 => by
    have ha' : (cmpP x y && cmpPs xs ys) = true := by simpa only [cmpPs] using ha
    rw [Bool.and_eq_true] at ha'
    cases ra with
    | cons r rs =>
      cases rb with
      | cons r' rs' =>
        cases j with
        | zero => exact eqAt_cmp x y A s _ _ _ _ r r' ha'.1 (room_head hu)
        | succ j => exact eqAt_cmps xs ys A s _ _ _ _ rs rs' ha'.2 (room_tail hu) j (Nat.lt_of_succ_lt_succ h1) (Nat.lt_of_succ_lt_succ h2)
end
section
variable {prog : Program} {w : World} {A : Around} {s : Shared} {E : Value → Shared → Prop} {Q : Value → Shared → Prop} {a b : Value} {xs ys : List PyData} {as bs : List Addr}
theorem eq_tups (ra : Reads s.heap a (.tuple xs) as) (rb : Reads s.heap b (.tuple ys) bs) (hb : cmpPs xs ys = true) (hu : A.units + (PyData.depthAll xs + 1) < cLine) (h : Q (.bool (PyData.eqv (.tuple xs) (.tuple ys))) s) :
    wpAny (model prog w) A (compareOp .Eq a b) Q E s := by
  have hu : A.units + min (PyData.depthAll xs + 1) (PyData.depthAll ys + 1) < cLine := Nat.lt_of_le_of_lt (Nat.add_le_add_left (Nat.min_le_left _ _) _) hu
  cases ra with
  | @tuple l o vs n xs as₁ h1 h2 h3 h4 =>
    cases rb with
    | @tuple l' o' vs' n' ys bs₁ k1 k2 k3 k4 =>
      have hl : s.heap.IsTuple l vs := ⟨_, h1, h2, _, h3⟩
      have hl' : s.heap.IsTuple l' vs' := ⟨_, k1, k2, _, k3⟩
      have n1 : vs.size = xs.length := by simpa using ReadsAll.length _ _ _ h4
      have n2 : vs'.size = ys.length := by simpa using ReadsAll.length _ _ _ k4
      have r : RcAt A s (.ref l) (.ref l') (PyData.eqvAll xs ys) := by
        rw [← eqvAll_eq xs ys, ← n1, ← n2]
        refine RcAt.tuples hl hl' (room_here hu) fun j j1 j2 => ?_
        have := eqAt_cmps xs ys A.in1 s vs.toList vs'.toList _ _ h4 k4 hb (room_in hu) j (by simpa using j1) (by simpa using j2)
        simpa using this
      exact r prog w E Q h
theorem ne_tups (ra : Reads s.heap a (.tuple xs) as) (rb : Reads s.heap b (.tuple ys) bs) (hb : cmpPs xs ys = true) (hu : A.units + (PyData.depthAll xs + 1) < cLine) (h : Q (.bool (!PyData.eqv (.tuple xs) (.tuple ys))) s) :
    wpAny (model prog w) A (compareOp .NotEq a b) Q E s := by
  have hu : A.units + min (PyData.depthAll xs + 1) (PyData.depthAll ys + 1) < cLine := Nat.lt_of_le_of_lt (Nat.add_le_add_left (Nat.min_le_left _ _) _) hu
  cases ra with
  | @tuple l o vs n xs as₁ h1 h2 h3 h4 =>
    cases rb with
    | @tuple l' o' vs' n' ys bs₁ k1 k2 k3 k4 =>
      have hl : s.heap.IsTuple l vs := ⟨_, h1, h2, _, h3⟩
      have hl' : s.heap.IsTuple l' vs' := ⟨_, k1, k2, _, k3⟩
      have n1 : vs.size = xs.length := by simpa using ReadsAll.length _ _ _ h4
      have n2 : vs'.size = ys.length := by simpa using ReadsAll.length _ _ _ k4
      have r : RcNeAt A s (.ref l) (.ref l') (!PyData.eqvAll xs ys) := by
        rw [← eqvAll_eq xs ys, ← n1, ← n2]
        refine RcNeAt.tuples hl hl' (room_here hu) fun j j1 j2 => ?_
        have := eqAt_cmps xs ys A.in1 s vs.toList vs'.toList _ _ h4 k4 hb (room_in hu) j (by simpa using j1) (by simpa using j2)
        simpa using this
      exact r prog w E Q h
theorem eq_lsts (ra : Reads s.heap a (.list xs) as) (rb : Reads s.heap b (.list ys) bs) (hb : (xs.length != ys.length || cmpPs xs ys) = true) (hu : A.units + (PyData.depthAll xs + 1) < cLine) (h : Q (.bool (PyData.eqv (.list xs) (.list ys))) s) :
    wpAny (model prog w) A (compareOp .Eq a b) Q E s := by
  have hu : A.units + min (PyData.depthAll xs + 1) (PyData.depthAll ys + 1) < cLine := Nat.lt_of_le_of_lt (Nat.add_le_add_left (Nat.min_le_left _ _) _) hu
  cases ra with
  | @list l o vs n xs as₁ h1 h2 h3 h4 =>
    cases rb with
    | @list l' o' vs' n' ys bs₁ k1 k2 k3 k4 =>
      have hl : s.heap.IsList l vs := ⟨_, h1, h2, _, h3⟩
      have hl' : s.heap.IsList l' vs' := ⟨_, k1, k2, _, k3⟩
      have n1 : vs.size = xs.length := by simpa using ReadsAll.length _ _ _ h4
      have n2 : vs'.size = ys.length := by simpa using ReadsAll.length _ _ _ k4
      have r : RcAt A s (.ref l) (.ref l') (PyData.eqvAll xs ys) := by
        by_cases hsz : vs.size = vs'.size
        · have e : (xs.length != ys.length) = false := by rw [show xs.length = ys.length by omega]; simp
          rw [e, Bool.false_or] at hb
          rw [← eqvAll_same_length (by omega : xs.length = ys.length), ← n1]
          refine RcAt.lists hl hl' hsz (room_here hu) fun j j1 j2 => ?_
          have := eqAt_cmps xs ys A.in1 s vs.toList vs'.toList _ _ h4 k4 hb (room_in hu) j (by simpa using j1) (by simpa using j2)
          simpa using this
        · rw [eqvAll_other_length (by omega : xs.length ≠ ys.length)]
          exact RcAt.lists_lengths hl hl' (by simpa using hsz) (room_here hu)
      exact r prog w E Q h
theorem ne_lsts (ra : Reads s.heap a (.list xs) as) (rb : Reads s.heap b (.list ys) bs) (hb : (xs.length != ys.length || cmpPs xs ys) = true) (hu : A.units + (PyData.depthAll xs + 1) < cLine) (h : Q (.bool (!PyData.eqv (.list xs) (.list ys))) s) :
    wpAny (model prog w) A (compareOp .NotEq a b) Q E s := by
  have hu : A.units + min (PyData.depthAll xs + 1) (PyData.depthAll ys + 1) < cLine := Nat.lt_of_le_of_lt (Nat.add_le_add_left (Nat.min_le_left _ _) _) hu
  cases ra with
  | @list l o vs n xs as₁ h1 h2 h3 h4 =>
    cases rb with
    | @list l' o' vs' n' ys bs₁ k1 k2 k3 k4 =>
      have hl : s.heap.IsList l vs := ⟨_, h1, h2, _, h3⟩
      have hl' : s.heap.IsList l' vs' := ⟨_, k1, k2, _, k3⟩
      have n1 : vs.size = xs.length := by simpa using ReadsAll.length _ _ _ h4
      have n2 : vs'.size = ys.length := by simpa using ReadsAll.length _ _ _ k4
      have r : RcNeAt A s (.ref l) (.ref l') (!PyData.eqvAll xs ys) := by
        by_cases hsz : vs.size = vs'.size
        · have e : (xs.length != ys.length) = false := by rw [show xs.length = ys.length by omega]; simp
          rw [e, Bool.false_or] at hb
          rw [← eqvAll_same_length (by omega : xs.length = ys.length), ← n1]
          refine RcNeAt.lists hl hl' hsz (room_here hu) fun j j1 j2 => ?_
          have := eqAt_cmps xs ys A.in1 s vs.toList vs'.toList _ _ h4 k4 hb (room_in hu) j (by simpa using j1) (by simpa using j2)
          simpa using this
        · rw [eqvAll_other_length (by omega : xs.length ≠ ys.length)]
          exact RcNeAt.lists_lengths hl hl' (by simpa using hsz) (room_here hu)
      exact r prog w E Q h
end
end MP.Eqd
namespace MP
open PySem PySem.Spec PyProof.Rows L2 Dk Rk
theorem toPDk_fst : ∀ kvs : List (D × D), (toPDk kvs).map (·.1) = kvs.map fun p => toPD p.1
  | [] => rfl
  | (x, y) :: r => by show toPD x :: _ = _; rw [toPDk_fst r]; rfl
theorem toPDk_snd : ∀ kvs : List (D × D), (toPDk kvs).map (·.2) = kvs.map fun p => toPD p.2
  | [] => rfl
  | (x, y) :: r => by show toPD y :: _ = _; rw [toPDk_snd r]; rfl
section
variable {X : Cx} {S : Sx} {cf : CF}
mutual
/-- what stands here is read off as data -/
theorem reads_ofK (hK : X.K = S.K) {pins : List (Addr × Obj)} {s : Shared} {σ : L2.St} {c : Cf} (I : Inv X pins σ c.H s) : ∀ (d : D) (v : V) (u : Value), d.sh = true → RepV S c d v → RelV v u → RdX s.heap u (toPD d)
  | .non, _, _, _, .non, ru => by
    cases ru
    exact .none
  | .bl t, _, _, _, .bl _, ru => by
    cases ru
    exact .bool t
  | .int i, _, _, _, .int _, ru => by
    obtain ⟨t, rfl⟩ := ru
    exact .int i t
  | .str t, _, _, _, .str _ z e, ru => by
    obtain ⟨tk, rfl⟩ := ru
    rw [str_eq e]
    exact .str _ tk
  | .tup xs, _, _, h, .tup hq rs, ru => by
    cases ru
    rename_i vs a
    obtain ⟨its, r, ht, hz⟩ := I.tuple (a := a) (xs := vs) (hq.imp (fun h => .inl h.1) (fun h => hK ▸ h))
    obtain ⟨o, ho, hc, n, hd⟩ := ht
    exact .tuple ho hc hd (by simpa using readsAll_ofK hK I xs vs its (show shs xs = true from h) rs r)
  | .lst xs, _, _, h, .lst hq hn rs, ru => by
    cases ru
    rename_i vs a
    obtain ⟨z, its, n, r, hl, e⟩ := I.lstM hq
    exact .list e rfl rfl (by simpa using readsAll_ofK hK I xs vs its (show shs xs = true from h) rs r)
  | .dct kvs, _, _, h, .dct hq hn hs rk, ru => by
    cases ru
    rename_i es a
    obtain ⟨⟨o, ep, ho, hx, hd⟩, _⟩ := I.hok _ _ hq
    obtain ⟨r1, r2⟩ := readsKv_ofK hK I kvs es (show shk kvs = true from h) rk
    exact .dict (es := es.toArray) ho hx.1 hd hs.1 (by rw [toPDk_fst]; simpa using r1) (by rw [toPDk_snd]; simpa using r2)
theorem readsAll_ofK (hK : X.K = S.K) {pins : List (Addr × Obj)} {s : Shared} {σ : L2.St} {c : Cf} (I : Inv X pins σ c.H s) : ∀ (xs : List D) (vs : List V) (us : List Value), shs xs = true → RepVs S c xs vs → Vals vs us → RdXs s.heap us (toPDs xs)
  | [], _, _, _, .nil, .nil => .nil
  | x :: xs, _, _, h, .cons r1 r2, .cons v1 v2 => by
    have h : (x.sh && shs xs) = true := h
    rw [Bool.and_eq_true] at h
    exact .cons (reads_ofK hK I x _ _ h.1 r1 v1) (readsAll_ofK hK I xs _ _ h.2 r2 v2)
theorem readsKv_ofK (hK : X.K = S.K) {pins : List (Addr × Obj)} {s : Shared} {σ : L2.St} {c : Cf} (I : Inv X pins σ c.H s) : ∀ (kvs : List (D × D)) (es : List DictEntry), shk kvs = true → RepKs S c kvs es →
    RdXs s.heap (es.map (·.key)) (kvs.map fun p => toPD p.1) ∧ RdXs s.heap (es.map (·.val)) (kvs.map fun p => toPD p.2)
  | [], _, _, .nil => ⟨.nil, .nil⟩
  | (x, y) :: r, _, h, .cons h0 h1 h2 h3 h4 h5 h6 t => by
    have h : (x.sh && y.sh && shk r) = true := h
    rw [Bool.and_eq_true, Bool.and_eq_true] at h
    obtain ⟨ra, rb⟩ := readsKv_ofK hK I r _ h.2 t
    exact ⟨.cons (reads_ofK hK I x _ _ h.1.1 h3 h4) ra, .cons (reads_ofK hK I y _ _ h.1.2 h5 h6) rb⟩
end
theorem toPDs_len : ∀ xs : List D, (toPDs xs).length = xs.length
  | [] => rfl
  | _ :: r => by show (toPDs r).length + 1 = r.length + 1; rw [toPDs_len r]
theorem reads_ofN (hK : X.K = S.K) {pins : List (Addr × Obj)} {s : Shared} {σ : L2.St} {c : Cf} (I : Inv X pins σ c.H s) {d : D} {v : V} {u : Value} (h : d.sh = true) (r : RepN S c d v) (ru : RelV v u) : RdX s.heap u (toPD d) := by
  cases d with
  | lst xs =>
    obtain ⟨a, vs, rfl, hq, rs⟩ := r
    cases ru
    obtain ⟨z, its, n, r, hl, e⟩ := I.lstM hq
    exact .list e rfl rfl (by simpa using readsAll_ofK hK I xs vs its (show shs xs = true from h) rs r)
  | dct kvs =>
    obtain ⟨a, es, rfl, hq, hs, rk⟩ := r
    cases ru
    obtain ⟨⟨o, ep, ho, hx, hd⟩, _⟩ := I.hok _ _ hq
    obtain ⟨r1, r2⟩ := readsKv_ofK hK I kvs es (show shk kvs = true from h) rk
    exact .dict (es := es.toArray) ho hx.1 hd hs.1 (by rw [toPDk_fst]; simpa using r1) (by rw [toPDk_snd]; simpa using r2)
  | ref _ => cases h
  | non => exact reads_ofK hK I _ _ _ h r ru
  | bl _ => exact reads_ofK hK I _ _ _ h r ru
  | int _ => exact reads_ofK hK I _ _ _ h r ru
  | str _ => exact reads_ofK hK I _ _ _ h r ru
  | tup _ => exact reads_ofK hK I _ _ _ h r ru
  | rol _ => exact reads_ofK hK I _ _ _ h r ru
/-- == and != of such data -/
theorem cmp_plD (hK : X.K = S.K) (hu : X.A.units + 200 < cLine) {pins : List (Addr × Obj)} {s : Shared} {σ : L2.St} {c : Cf} (I : Inv X pins σ c.H s) {a b : D} {v w : V} {u t : Value} (ra : RepN S c a v) (rb : RepN S c b w) (rv : RelV v u) (rw' : RelV w t) (h : plD a b = true) {E : Value → Shared → Prop} {Q : Value → Shared → Prop} :
    (Q (.bool (eqD a b)) s → wpAny (model X.prog X.w) X.A (compareOp .Eq u t) Q E s) ∧ (Q (.bool (!eqD a b)) s → wpAny (model X.prog X.w) X.A (compareOp .NotEq u t) Q E s) := by
  unfold plD at h
  split at h
  · rename_i xs ys
    rw [Bool.and_eq_true, Bool.and_eq_true, Bool.and_eq_true] at h
    obtain ⟨⟨⟨s1, s2⟩, cm⟩, dp⟩ := h
    have dp := of_decide_eq_true dp
    obtain ⟨as, r1⟩ := (reads_ofN hK I (d := (.tup xs)) s1 ra rv).reads
    obtain ⟨bs, r2⟩ := (reads_ofN hK I (d := (.tup ys)) s2 rb rw').reads
    rw [toPD] at r1 r2
    unfold eqD
    rw [toPD, toPD]
    exact ⟨Eqd.eq_tups r1 r2 cm (by omega), Eqd.ne_tups r1 r2 cm (by omega)⟩
  · rename_i xs ys
    rw [Bool.and_eq_true, Bool.and_eq_true, Bool.and_eq_true] at h
    obtain ⟨⟨⟨s1, s2⟩, cm⟩, dp⟩ := h
    have dp := of_decide_eq_true dp
    obtain ⟨as, r1⟩ := (reads_ofN hK I (d := (.lst xs)) s1 ra rv).reads
    obtain ⟨bs, r2⟩ := (reads_ofN hK I (d := (.lst ys)) s2 rb rw').reads
    rw [toPD] at r1 r2
    have cm : ((toPDs xs).length != (toPDs ys).length || cmpPs (toPDs xs) (toPDs ys)) = true := by
      rw [toPDs_len, toPDs_len]; exact cm
    unfold eqD
    rw [toPD, toPD]
    exact ⟨Eqd.eq_lsts r1 r2 cm (by omega), Eqd.ne_lsts r1 r2 cm (by omega)⟩
  · cases h
end
end MP

/-! MP6: comparisons, tests, and or not. -/
namespace MP
open PySem PySem.Spec PyProof.Rows L2 Dk
section
variable {X : Cx} {S : Sx} {cf : CF} {pos : Pos} {a b d : Expr} {ma mb md : ME}

theorem str_lt {z y : Str} {s t : List Nat} (e1 : z.cps.toList = s) (e2 : y.cps.toList = t) : decide (z.cps.toList < y.cps.toList) = decide (s < t) := by rw [e1, e2]
theorem str_eqD {z y : Str} {s t : List Nat} (e1 : z.cps.toList = s) (e2 : y.cps.toList = t) : decide (V.str z = V.str y) = eqD (.str s) (.str t) := by
  rw [str_eq e1, str_eq e2, dec_str]
  show _ = PyData.eqv (.str _) (.str _)
  simp only [PyData.eqv]
theorem cmpX_ok (hK : X.K = S.K) (hw : X.w = S.w) (hu : X.A.units + 200 < cLine) (op : COp) : OpX X S (compareOp (cop op)) (cmpO op) := by
  intro pins s σ c0 c x y z v w u t I hh rx rv ry rt h
  unfold cmpO cmpX at h
  cases n1 : norm x c.h with
  | none => rw [n1] at h; cases h
  | some d1 =>
    cases n2 : norm y c.h with
    | none => rw [n1, n2] at h; cases h
    | some d2 =>
      rw [n1, n2] at h
      have r1 := norm_rep hh rx n1
      have r2 := norm_rep hh ry n2
      obtain ⟨q, hq, rfl⟩ := Option.map_eq_some_iff.mp h
      have fin : ∀ {r : R2} {v' w' : V}, v = v' → w = w' → OpR X (compareOp (cop op)) r → r v' w' c.H (QX S c (.d (.bl q)) c.h) → wpAny (model X.prog X.w) X.A (compareOp (cop op) u t) (fun u' s' => Out X S c (.d (.bl q)) c.h pins σ u' s') X.xe s :=
        fun {r v' w'} e1 e2 ho hr => by
          subst e1; subst e2
          exact thn (ho pins s σ c.H v w u t _ I rv rt hr) fun _ _ q => .ofEP q
      have hq : cmpD op d1 d2 = some q := hq
      have dk : ∀ {kvs : List (D × D)} {neg : Bool}, cop op = (if neg = true then .NotIn else .In) → d2 = .dct kvs → okKey d1 = true → q = (if neg = true then !(dget kvs d1).isSome else (dget kvs d1).isSome) →
          wpAny (model X.prog X.w) X.A (compareOp (cop op) u t) (fun u' s' => Out X S c (.d (.bl q)) c.h pins σ u' s') X.xe s := by
        intro kvs neg ho ed ok eq
        subst ed
        obtain ⟨p, es, rfl, hD, ⟨hs, ap⟩, rk⟩ := r2
        obtain rfl : t = Value.ref p := rt
        obtain ⟨nk, hk, hd⟩ := okKey_some ok
        obtain ⟨xs, o, ep, kr, _, raw⟩ := raw_of hK I hD ap rk
        have r1' : RepV S c d1 v := by
          cases d1 with
          | lst _ => simp [keyOf] at hk
          | dct _ => simp [keyOf] at hk
          | ref _ => exact r1.elim
          | non => exact r1
          | bl _ => exact r1
          | int _ => exact r1
          | str _ => exact r1
          | tup _ => exact r1
          | rol _ => exact r1
        have kh : KeyHere s.heap nk u := ⟨r1'.nested hK I _ _ _ _ hk rv, hd⟩
        have eqs : (dget kvs d1).isSome = (look xs nk).isSome := by
          rcases look_rel hk kr with ⟨h1, h2⟩ | ⟨_, _, _, h1, h2, _⟩ <;> rw [h1, h2] <;> rfl
        rw [eqs] at eq
        rw [ho]
        cases neg with
        | true =>
          refine notIn_any (w := X.w) (by omega) kh hs (hw ▸ raw) ⟨c, .bl q, I.tok _, rfl, Gr.refl c, hh, .d (.bl _), ?_⟩
          rw [eq]; rfl
        | false =>
          refine in_any (w := X.w) (by omega) kh hs (hw ▸ raw) ⟨c, .bl q, I.tok _, rfl, Gr.refl c, hh, .d (.bl _), ?_⟩
          rw [eq]; rfl
      have inl : ∀ {xs : List D} {neg : Bool}, cop op = (if neg = true then .NotIn else .In) → d2 = .lst xs → d1.pl 30 = true → pls xs 29 = true → q = (if neg = true then !memD d1 xs else memD d1 xs) →
          wpAny (model X.prog X.w) X.A (compareOp (cop op) u t) (fun u' s' => Out X S c (.d (.bl q)) c.h pins σ u' s') X.xe s := by
        intro xs neg ho ed p1 p2 eq
        subst ed
        have dl : Dp X.K c.H w (.list (toPDs xs)) := by
          have := RepN.dp hK (n := 30) (by simpa [D.pl] using p2) r2
          rwa [toPD] at this
        have sl : SeqAt.shaped (.list (toPDs xs)) = true := by
          have := pl_shaped (d := .lst xs) (by simpa [D.pl] using p2)
          rwa [toPD] at this
        rw [memD_eq] at eq
        cases neg with
        | true => exact fin (r := rNotInD X.K) rfl rfl (by rw [ho]; exact op_notInD (by omega)) ⟨_, _, r1.dp hK p1, dl, pl_shaped p1, sl, by rw [eq]; exact .here hh (.bl _)⟩
        | false => exact fin (r := rInD X.K) rfl rfl (by rw [ho]; exact op_inD (by omega)) ⟨_, _, r1.dp hK p1, dl, pl_shaped p1, sl, by rw [eq]; exact .here hh (.bl _)⟩
      have int_ : ∀ {xs : List D} {neg : Bool}, cop op = (if neg = true then .NotIn else .In) → d2 = .tup xs → d1.pl 30 = true → pls xs 29 = true → q = (if neg = true then !memD d1 xs else memD d1 xs) →
          wpAny (model X.prog X.w) X.A (compareOp (cop op) u t) (fun u' s' => Out X S c (.d (.bl q)) c.h pins σ u' s') X.xe s := by
        intro xs neg ho ed p1 p2 eq
        subst ed
        have dl : Dp X.K c.H w (.tuple (toPDs xs)) := by
          have := RepN.dp hK (n := 30) (by simpa [D.pl] using p2) r2
          rwa [toPD] at this
        rw [memD_eq] at eq
        have ot := op_inT hu neg
        rw [← ho] at ot
        refine fin rfl rfl ot ⟨_, _, r1.dp hK p1, dl, pl_shaped p1, (pls_can xs 29 p2).1, ?_⟩
        rw [← eq]; exact .here hh (.bl _)
      unfold cmpD at hq
      split at hq
      · split at hq
        · rename_i hp
          cases hq
          rcases plE_or hp with ⟨st1, st2, rfl, rfl⟩ | hp | hp
          · obtain ⟨z1, rfl, e1⟩ := r1.str
            obtain ⟨z2, rfl, e2⟩ := r2.str
            exact fin rfl rfl op_eq ⟨rfl, by rw [str_eqD e1 e2]; exact .here hh (.bl _)⟩
          rotate_left
          · exact (cmp_plD hK hu I r1 r2 rv rt hp).1 ⟨c, .bl _, I, rfl, Gr.refl c, hh, .d (.bl _), rfl⟩
          · exact fin rfl rfl (op_eqD (by omega)) ⟨_, _, r1.dp hK hp.1, r2.dp hK hp.2, pl_shaped hp.1, pl_shaped hp.2, .here hh (.bl _)⟩
        · cases hq
      · split at hq
        · rename_i hp
          cases hq
          rcases plE_or hp with ⟨st1, st2, rfl, rfl⟩ | hp | hp
          · obtain ⟨z1, rfl, e1⟩ := r1.str
            obtain ⟨z2, rfl, e2⟩ := r2.str
            exact fin rfl rfl op_ne ⟨rfl, by rw [str_eqD e1 e2]; exact .here hh (.bl _)⟩
          rotate_left
          · exact (cmp_plD hK hu I r1 r2 rv rt hp).2 ⟨c, .bl _, I, rfl, Gr.refl c, hh, .d (.bl _), rfl⟩
          · exact fin rfl rfl (op_neD (by omega)) ⟨_, _, r1.dp hK hp.1, r2.dp hK hp.2, pl_shaped hp.1, pl_shaped hp.2, .here hh (.bl _)⟩
        · cases hq
      · cases hq; exact fin r1.int r2.int op_lt ⟨_, _, rfl, rfl, .here hh (.bl _)⟩
      · cases hq; exact fin r1.int r2.int op_le ⟨_, _, rfl, rfl, .here hh (.bl _)⟩
      · cases hq; exact fin r1.int r2.int op_gt ⟨_, _, rfl, rfl, .here hh (.bl _)⟩
      · cases hq; exact fin r1.int r2.int op_ge ⟨_, _, rfl, rfl, .here hh (.bl _)⟩
      · cases hq
        obtain ⟨z1, rfl, e1⟩ := r1.str
        obtain ⟨z2, rfl, e2⟩ := r2.str
        exact fin rfl rfl op_lt_str ⟨_, _, rfl, rfl, by rw [str_lt e1 e2]; exact .here hh (.bl _)⟩
      · cases hq
        obtain ⟨z1, rfl, e1⟩ := r1.str
        obtain ⟨z2, rfl, e2⟩ := r2.str
        exact fin rfl rfl op_le_str ⟨_, _, rfl, rfl, by rw [str_lt e2 e1]; exact .here hh (.bl _)⟩
      · cases hq
        obtain ⟨z1, rfl, e1⟩ := r1.str
        obtain ⟨z2, rfl, e2⟩ := r2.str
        exact fin rfl rfl op_gt_str ⟨_, _, rfl, rfl, by rw [str_lt e2 e1]; exact .here hh (.bl _)⟩
      · cases hq
        obtain ⟨z1, rfl, e1⟩ := r1.str
        obtain ⟨z2, rfl, e2⟩ := r2.str
        exact fin rfl rfl op_ge_str ⟨_, _, rfl, rfl, by rw [str_lt e1 e2]; exact .here hh (.bl _)⟩
      · split at hq
        · rename_i hp
          cases hq
          refine fin rfl rfl (r := fun x y H Q => Dp X.K H x (toPD (.tup _)) ∧ Dp X.K H y (toPD (.tup _)) ∧ Q (.bl (ltD _ _)) H) (fun pins s σ H x y v u Q I rx ry ⟨h1, h2, q⟩ => ?_) ⟨r1.dp hK hp.1, r2.dp hK hp.2.1, .here hh (.bl _)⟩
          obtain ⟨as, q1⟩ := Dp.reads I _ x v h1 rx
          obtain ⟨bs, q2⟩ := Dp.reads I _ y u h2 ry
          have := (pl_can _ _ hp.1).2
          exact PySem.W.lt_data q1 q2 hp.2.2 (by rw [toPD]; exact fun z => nomatch z) (by omega) ⟨.bl _, H, I, rfl, q⟩
        · cases hq
      · cases hq
        obtain ⟨z1, rfl, e1⟩ := r1.str
        obtain ⟨z2, rfl, e2⟩ := r2.str
        rw [str_eq e1] at *
        exact fin rfl rfl op_in_sign ⟨_, z2, rfl, rfl, by rw [e2]; exact .here hh (.bl _)⟩
      · cases hq
        obtain ⟨z1, rfl, e1⟩ := r1.str
        obtain ⟨z2, rfl, e2⟩ := r2.str
        rw [str_eq e1] at *
        exact fin rfl rfl op_notIn_sign ⟨_, z2, rfl, rfl, by rw [e2]; exact .here hh (.bl _)⟩
      · split at hq
        · rename_i hp; cases hq; exact int_ (neg := false) rfl rfl hp.1 hp.2 rfl
        · cases hq
      · split at hq
        · rename_i hp; cases hq; exact inl (neg := false) rfl rfl hp.1 hp.2 rfl
        · cases hq
      · split at hq
        · rename_i hp; cases hq; exact dk (neg := false) rfl rfl hp rfl
        · cases hq
      · split at hq
        · rename_i hp; cases hq; exact int_ (neg := true) rfl rfl hp.1 hp.2 rfl
        · cases hq
      · split at hq
        · rename_i hp; cases hq; exact inl (neg := true) rfl rfl hp.1 hp.2 rfl
        · cases hq
      · split at hq
        · rename_i hp; cases hq; exact dk (neg := true) rfl rfl hp rfl
        · cases hq
      · cases hq
end
end MP

/-! MP7: truth, tests, and or not, conditional expressions. -/
namespace MP
open PySem PySem.Spec PyProof.Rows L2 Dk
section
variable {X : Cx} {S : Sx} {cf : CF} {pos : Pos} {a b d : Expr} {ma mb md : ME} {rest : List Expr}

theorem px_cmp (hK : X.K = S.K) (hw : X.w = S.w) (hu : X.A.units + 200 < cLine) (op : COp) (hm : behindInMarks (cop op) b = false) (ha : PX X S cf a ma) (hb : PX X S cf b mb) : PX X S cf (.Compare a [cop op] [b] pos) (.cmp op ma mb) := by
  intro pins s σ c e r I hh he hr nb w
  refine wpAny_Compare1 (ha.seq I hh he hr nb w fun u s1 x c1 v I1 hh1 he1 g1 rx rv hr1 w1 => hb.seq I1 hh1 he1 hr1 nb w1 fun t s2 y c2 y' I2 hh2 he2 g2 ry rt hr2 w2 => ?_) hm
  obtain ⟨z, hz, rfl⟩ := ofO_ok hr2 nb
  exact thn (cmpX_ok hK hw hu op pins s2 σ c c2 x y z v y' u t I2 hh2 (rx.mono g2) rv (ry.back g1) rt hz) fun u' s' q => ⟨z, c2.h, rfl, q.fwd (g1.trans g2)⟩

/-! ### truth -/
def OutT (X : Cx) (S : Sx) (c : Cf) (h' : MH) (pins : List (Addr × Obj)) (σ : L2.St) (s' : Shared) : Prop :=
  ∃ c', Inv X pins σ c'.H s' ∧ c'.h = h' ∧ Gr c c' ∧ Held S c'
theorem OutT.of {pins : List (Addr × Obj)} {σ : L2.St} {c : Cf} {s : Shared} (I : Inv X pins σ c.H s) (hh : Held S c) : OutT X S c c.h pins σ s := ⟨c, I, rfl, Gr.refl c, hh⟩
theorem OutT.fwd {pins : List (Addr × Obj)} {σ : L2.St} {c c1 : Cf} {h' : MH} {s : Shared} (g : Gr c c1) : OutT X S c1 h' pins σ s → OutT X S c h' pins σ s := fun ⟨c', I, eh, g', hh⟩ => ⟨c', I, eh, g.trans g', hh⟩
theorem truthy_ok (hK : X.K = S.K) {pins : List (Addr × Obj)} {s : Shared} {σ : L2.St} {c0 c : Cf} {x : MP.X} {v : V} {u : Value} {k : Bool} (I : Inv X pins σ c.H s) (hh : Held S c) (rx : RepX S c0 c x v) (rv : RelV v u) (h : MP.truthy x c.h = some k) :
    wpAny (model X.prog X.w) X.A (PySem.truthy u) (fun k' s' => k' = k ∧ Inv X pins σ c.H s') X.xe s := by
  have fin : TruV X.K v c.H k → wpAny (model X.prog X.w) X.A (PySem.truthy u) (fun k' s' => k' = k ∧ Inv X pins σ c.H s') X.xe s := fun t =>
    thn (tru_ok pins s σ c.H v u (fun k' H' => k' = k ∧ H' = c.H) I rv ⟨k, t, rfl, rfl⟩) fun k' s' ⟨H', I', e1, e2⟩ => ⟨e1, e2 ▸ I'⟩
  unfold MP.truthy at h
  cases n : norm x c.h with
  | none => rw [n] at h; cases h
  | some d =>
    rw [n] at h
    have r := norm_rep hh rx n
    cases d with
    | non =>
      cases h
      have r : RepV S c .non v := r
      cases r
      exact fin rfl
    | bl q =>
      cases h
      have r : RepV S c (.bl _) v := r
      cases r
      exact fin rfl
    | int i =>
      cases h
      have e := r.int
      subst e
      exact fin rfl
    | str z =>
      have h : (if z.length ≤ MAXL then some (!z.isEmpty) else none) = some k := h
      split at h
      · rename_i hl
        cases h
        obtain ⟨y, rfl, e⟩ := r.str
        have e2 := strLen e
        refine fin ⟨by have := maxl; omega, ?_⟩
        cases z with
        | nil => rw [e2]; rfl
        | cons q' z => rw [e2, List.isEmpty_cons, List.length_cons]; simp; omega
      · cases h
    | tup xs =>
      cases h
      obtain ⟨p, vs, rfl, q, w⟩ := r.tup hK
      refine fin (.inr (.inl ⟨vs, q, ?_⟩))
      cases w <;> rfl
    | lst xs =>
      cases h
      obtain ⟨p, vs, rfl, q, w⟩ := r
      refine fin (.inl ⟨vs, .of q, ?_⟩)
      cases w <;> rfl
    | rol xs => cases h
    | dct xs => cases h
    | ref m => cases h

/-! ### tests -/
def PTX (X : Cx) (S : Sx) (cf : CF) (ex : Expr) (m : ME) : Prop :=
  ∀ (whole : Sem Value) (pins : List (Addr × Obj)) (s : Shared) (σ : L2.St) (c : Cf) (e : Env) (r : Res Bool), whole = eval ex X.env → Inv X pins σ c.H s → Held S c → RepE S c e σ → tOf (evalX S.P cf m e c.h) = r → r ≠ .bad → Wx X S c r pins σ →
    wpAny (model X.prog X.w) X.A (isTrue ex X.env whole) (fun b s' => ∃ h', r = .ok b h' ∧ OutT X S c h' pins σ s') X.xe s
/-- whatever its 'whole' is -/
def PWX (X : Cx) (S : Sx) (cf : CF) (ex : Expr) (m : ME) : Prop :=
  ∀ (whole : Sem Value) (pins : List (Addr × Obj)) (s : Shared) (σ : L2.St) (c : Cf) (e : Env) (r : Res Bool), Inv X pins σ c.H s → Held S c → RepE S c e σ → tOf (evalX S.P cf m e c.h) = r → r ≠ .bad → Wx X S c r pins σ →
    wpAny (model X.prog X.w) X.A (isTrue ex X.env whole) (fun b s' => ∃ h', r = .ok b h' ∧ OutT X S c h' pins σ s') X.xe s
theorem PWX.pt {ex : Expr} {m : ME} (h : PWX X S cf ex m) : PTX X S cf ex m := fun whole pins s σ c e r _ => h whole pins s σ c e r
theorem PTX.seq {ex : Expr} {m : ME} {β : Type} (ha : PTX X S cf ex m) {pins : List (Addr × Obj)} {s : Shared} {σ : L2.St} {c : Cf} {e : Env} {r : Res β} {f : Bool → MH → Res β} {Q : Bool → Shared → Prop}
    (I : Inv X pins σ c.H s) (hh : Held S c) (he : RepE S c e σ) (hr : (tOf (evalX S.P cf m e c.h)).bind f = r) (nb : r ≠ .bad) (w : Wx X S c r pins σ)
    (hk : ∀ k s1 c1, Inv X pins σ c1.H s1 → Held S c1 → RepE S c1 e σ → Gr c c1 → f k c1.h = r → Wx X S c1 r pins σ → Q k s1) :
    wpAny (model X.prog X.w) X.A (isTrue ex X.env (eval ex X.env)) Q X.xe s := by
  cases q : tOf (evalX S.P cf m e c.h) with
  | ok k h1 =>
    rw [q] at hr
    refine thn (ha _ pins s σ c e _ rfl I hh he q (fun z => nomatch z) fun _ _ _ z => nomatch z) fun k' s1 hq => ?_
    obtain ⟨h1', e1, c1, I1, e2, g, hh1⟩ := hq
    cases e1
    subst e2
    exact hk k s1 c1 I1 hh1 (he.mono g) g hr (w.fwd g)
  | exc k fs h1 =>
    rw [q] at hr
    have hr : Res.exc k fs h1 = r := hr
    subst hr
    refine thn (ha _ pins s σ c e _ rfl I hh he q (fun z => nomatch z) fun k' fs' h' e1 ev s' hx => ?_) fun u s1 hq => ?_
    · cases e1
      exact w k fs h1 rfl ev s' hx
    · obtain ⟨h1', e1, _⟩ := hq
      cases e1
  | bad =>
    rw [q] at hr
    exact absurd hr.symm nb
theorem tOf_bind {α : Type} (r : Res α) (f : α → MH → Res MP.X) : tOf (r.bind f) = r.bind fun a h => tOf (f a h) := by cases r <;> rfl
/-- an expression that is tested by its value -/
def plainTest (e : Expr) : Bool := match e with
  | .UnaryOp op _ _ => op != .Not
  | .BoolOp _ _ _ => false
  | .IfExp _ _ _ _ => false
  | .Compare _ _ _ _ => false
  | _ => true
theorem plainTest_eq {e : Expr} (h : plainTest e = true) (whole : Sem Value) : isTrue e X.env whole = (do let v ← whole; standAt e.pos; holding [v] (PySem.truthy v)) := by
  cases e with
  | UnaryOp op x p =>
    cases op with
    | Not => cases h
    | _ => rfl
  | BoolOp _ _ _ => cases h
  | IfExp _ _ _ _ => cases h
  | Compare _ _ _ _ => cases h
  | _ => rfl
theorem ptx_val (hK : X.K = S.K) {ex : Expr} {m : ME} (ha : PX X S cf ex m) (hp : plainTest ex = true) : PTX X S cf ex m := by
  intro whole pins s σ c e r hw I hh he hr nb w
  subst hw
  refine isTrue_plain (ha.seq I hh he hr nb w fun u s1 x c1 v I1 hh1 he1 g1 rx rv hr1 w1 => ?_) (plainTest_eq hp _)
  obtain ⟨k, hk, rfl⟩ := ofO_ok hr1 nb
  exact thn (truthy_ok hK I1 hh1 rx rv hk) fun k' s' ⟨e1, I'⟩ => ⟨_, by rw [e1], (OutT.of I' hh1).fwd g1⟩
theorem ptx_cmp (hK : X.K = S.K) (hw : X.w = S.w) (hu : X.A.units + 200 < cLine) (op : COp) (hm : behindInMarks (cop op) b = false) (ha : PX X S cf a ma) (hb : PX X S cf b mb) : PWX X S cf (.Compare a [cop op] [b] pos) (.cmp op ma mb) := by
  intro whole pins s σ c e r I hh he hr nb w
  have hr : ((evalX S.P cf ma e c.h).bind fun x h => (evalX S.P cf mb e h).bind fun y h => tOf (Res.ofO (cmpO op x y h) h)) = r := by
    rw [← hr]
    show _ = tOf ((evalX S.P cf ma e c.h).bind fun x h => (evalX S.P cf mb e h).bind fun y h => .ofO (cmpO op x y h) h)
    rw [tOf_bind]
    simp only [tOf_bind]
  refine wpAny_isTrue_Compare1 (ha.seq I hh he hr nb w fun u s1 x c1 v I1 hh1 he1 g1 rx rv hr1 w1 => hb.seq I1 hh1 he1 hr1 nb w1 fun t s2 y c2 y' I2 hh2 he2 g2 ry rt hr2 w2 => ?_) hm
  cases hz : cmpO op x y c2.h with
  | none => rw [hz] at hr2; exact absurd hr2.symm nb
  | some z =>
    rw [hz] at hr2
    refine thn (cmpX_ok hK hw hu op pins s2 σ c c2 x y z v y' u t I2 hh2 (rx.mono g2) rv (ry.back g1) rt hz) fun u' s' q => ?_
    obtain ⟨c3, v3, I3, e3, g3, hh3, rx3, rv3⟩ := q
    have hz' : (cmpX op x y c2.h).map (fun q => MP.X.d (.bl q)) = some z := hz
    obtain ⟨k, hk, rfl⟩ := Option.map_eq_some_iff.mp hz'
    have rx3 : RepV S c3 (.bl k) v3 := rx3.rx
    cases rx3
    cases rv3
    exact wpAny_truthy_bool ⟨c2.h, hr2.symm, c3, I3, e3, g1.trans (g2.trans g3), hh3⟩
/-! ### and, or, not -/
theorem t_and (e : Env) (h : MH) : tOf (evalX S.P cf (.and ma mb) e h) = (tOf (evalX S.P cf ma e h)).bind fun k h => match k with
    | true => tOf (evalX S.P cf mb e h)
    | false => .ok false h := by
  show tOf ((evalX S.P cf ma e h).bind fun x h => match MP.truthy x h with | some true => evalX S.P cf mb e h | some false => .ok x h | none => .bad) = _
  cases evalX S.P cf ma e h with
  | bad => rfl
  | exc _ _ _ => rfl
  | ok x h1 =>
    show tOf (match MP.truthy x h1 with | some true => _ | some false => _ | none => _) = (Res.ofO (MP.truthy x h1) h1).bind _
    cases q : MP.truthy x h1 with
    | none => rfl
    | some k =>
      cases k with
      | true => rfl
      | false =>
        show Res.ofO (MP.truthy x h1) h1 = _
        rw [q]; rfl
theorem t_or (e : Env) (h : MH) : tOf (evalX S.P cf (.or ma mb) e h) = (tOf (evalX S.P cf ma e h)).bind fun k h => match k with
    | true => .ok true h
    | false => tOf (evalX S.P cf mb e h) := by
  show tOf ((evalX S.P cf ma e h).bind fun x h => match MP.truthy x h with | some true => .ok x h | some false => evalX S.P cf mb e h | none => .bad) = _
  cases evalX S.P cf ma e h with
  | bad => rfl
  | exc _ _ _ => rfl
  | ok x h1 =>
    show tOf (match MP.truthy x h1 with | some true => _ | some false => _ | none => _) = (Res.ofO (MP.truthy x h1) h1).bind _
    cases q : MP.truthy x h1 with
    | none => rfl
    | some k =>
      cases k with
      | false => rfl
      | true =>
        show Res.ofO (MP.truthy x h1) h1 = _
        rw [q]; rfl
theorem pw_and1X (ha : PTX X S cf a ma) : PWX X S cf (.BoolOp .And [a] pos) ma := by
  intro whole pins s σ c e r I hh he hr nb w
  refine isTrue_and (thn (ha _ pins s σ c e r rfl I hh he hr nb w) fun k s1 q => ?_)
  cases k with
  | true => exact isTrue_and_nil q
  | false => exact q
theorem pw_or1X (ha : PTX X S cf a ma) : PWX X S cf (.BoolOp .Or [a] pos) ma := by
  intro whole pins s σ c e r I hh he hr nb w
  refine isTrue_or (thn (ha _ pins s σ c e r rfl I hh he hr nb w) fun k s1 q => ?_)
  cases k with
  | false => exact isTrue_or_nil q
  | true => exact q
theorem pw_andX (ha : PTX X S cf a ma) (hb : PWX X S cf (.BoolOp .And (b :: rest) pos) mb) : PWX X S cf (.BoolOp .And (a :: b :: rest) pos) (.and ma mb) := by
  intro whole pins s σ c e r I hh he hr nb w
  rw [t_and] at hr
  refine isTrue_and (ha.seq I hh he hr nb w fun k s1 c1 I1 hh1 he1 g1 hr1 w1 => ?_)
  cases k with
  | true => exact thn (hb whole pins s1 σ c1 e r I1 hh1 he1 hr1 nb w1) fun k' s' ⟨h', e1, q⟩ => ⟨h', e1, q.fwd g1⟩
  | false => exact ⟨c1.h, hr1.symm, (OutT.of I1 hh1).fwd g1⟩
theorem pw_orX (ha : PTX X S cf a ma) (hb : PWX X S cf (.BoolOp .Or (b :: rest) pos) mb) : PWX X S cf (.BoolOp .Or (a :: b :: rest) pos) (.or ma mb) := by
  intro whole pins s σ c e r I hh he hr nb w
  rw [t_or] at hr
  refine isTrue_or (ha.seq I hh he hr nb w fun k s1 c1 I1 hh1 he1 g1 hr1 w1 => ?_)
  cases k with
  | false => exact thn (hb whole pins s1 σ c1 e r I1 hh1 he1 hr1 nb w1) fun k' s' ⟨h', e1, q⟩ => ⟨h', e1, q.fwd g1⟩
  | true => exact ⟨c1.h, hr1.symm, (OutT.of I1 hh1).fwd g1⟩
theorem t_not (e : Env) (h : MH) : tOf (evalX S.P cf (.b1 .not ma) e h) = (tOf (evalX S.P cf ma e h)).bind fun k h => .ok (!k) h := by
  show tOf ((evalX S.P cf ma e h).bind fun x h => .ofO (b1X .not x h) h) = _
  cases evalX S.P cf ma e h with
  | bad => rfl
  | exc _ _ _ => rfl
  | ok x h1 =>
    show tOf (Res.ofO ((MP.truthy x h1).map fun b => .d (.bl (!b))) h1) = (Res.ofO (MP.truthy x h1) h1).bind _
    cases MP.truthy x h1 <;> rfl
theorem ptx_not (ha : PTX X S cf a ma) : PWX X S cf (.UnaryOp .Not a pos) (.b1 .not ma) := by
  intro whole pins s σ c e r I hh he hr nb w
  rw [t_not] at hr
  exact isTrue_not (ha.seq I hh he hr nb w fun k s1 c1 I1 hh1 he1 g1 hr1 w1 => ⟨c1.h, hr1.symm, (OutT.of I1 hh1).fwd g1⟩)
/-- as values -/
theorem px_one {op : BoolOp} (h : PX X S cf a ma) : PX X S cf (.BoolOp op [a] pos) ma := fun pins s σ c e r I hh he hr nb w => BoolOp_one (h pins s σ c e r I hh he hr nb w)
theorem px_and (hK : X.K = S.K) (ha : PX X S cf a ma) (hb : PX X S cf (.BoolOp .And (b :: rest) pos) mb) : PX X S cf (.BoolOp .And (a :: b :: rest) pos) (.and ma mb) := by
  intro pins s σ c e r I hh he hr nb w
  have hr : ((evalX S.P cf ma e c.h).bind fun x h => match MP.truthy x h with | some true => evalX S.P cf mb e h | some false => .ok x h | none => .bad) = r := hr
  refine BoolOp_and (ha.seqF I hh he hr nb w fun u s1 x c1 v I1 hh1 he1 g1 rx rv hr1 w1 => ?_)
  cases q : MP.truthy x c1.h with
  | none => rw [q] at hr1; exact absurd hr1.symm nb
  | some k =>
    rw [q] at hr1
    refine thn (truthy_ok hK I1 hh1 rx.rx rv q) fun k' s2 ⟨e1, I2⟩ => ?_
    subst e1
    cases k' with
    | true => exact thn (hb pins s2 σ c1 e r I2 hh1 he1 hr1 nb w1) fun u' s' ⟨y, h', e1, o⟩ => ⟨y, h', e1, o.fwd g1⟩
    | false => exact ⟨x, c1.h, hr1.symm, c1, v, I2, rfl, g1, hh1, rx, rv⟩
theorem px_or (hK : X.K = S.K) (ha : PX X S cf a ma) (hb : PX X S cf (.BoolOp .Or (b :: rest) pos) mb) : PX X S cf (.BoolOp .Or (a :: b :: rest) pos) (.or ma mb) := by
  intro pins s σ c e r I hh he hr nb w
  have hr : ((evalX S.P cf ma e c.h).bind fun x h => match MP.truthy x h with | some true => .ok x h | some false => evalX S.P cf mb e h | none => .bad) = r := hr
  refine BoolOp_or (ha.seqF I hh he hr nb w fun u s1 x c1 v I1 hh1 he1 g1 rx rv hr1 w1 => ?_)
  cases q : MP.truthy x c1.h with
  | none => rw [q] at hr1; exact absurd hr1.symm nb
  | some k =>
    rw [q] at hr1
    refine thn (truthy_ok hK I1 hh1 rx.rx rv q) fun k' s2 ⟨e1, I2⟩ => ?_
    subst e1
    cases k' with
    | false => exact thn (hb pins s2 σ c1 e r I2 hh1 he1 hr1 nb w1) fun u' s' ⟨y, h', e1, o⟩ => ⟨y, h', e1, o.fwd g1⟩
    | true => exact ⟨x, c1.h, hr1.symm, c1, v, I2, rfl, g1, hh1, rx, rv⟩
theorem px_not (hK : X.K = S.K) (ha : PX X S cf a ma) : PX X S cf (.UnaryOp .Not a pos) (.b1 .not ma) := by
  intro pins s σ c e r I hh he hr nb w
  have hr : ((evalX S.P cf ma e c.h).bind fun x h => .ofO (b1X .not x h) h) = r := hr
  refine UnaryOp_ (ha.seq I hh he hr nb w fun u s1 x c1 v I1 hh1 he1 g1 rx rv hr1 w1 => ?_)
  obtain ⟨z, hz, rfl⟩ := ofO_ok hr1 nb
  have hz : (MP.truthy x c1.h).map (fun b => MP.X.d (.bl (!b))) = some z := hz
  obtain ⟨k, hk, rfl⟩ := Option.map_eq_some_iff.mp hz
  exact not_of (thn (truthy_ok hK I1 hh1 rx rv hk) fun k' s2 ⟨e1, I2⟩ => ⟨_, _, rfl, c1, .bl (!k), I2, rfl, g1, hh1, .d (.bl _), by rw [e1]; rfl⟩)
theorem neg_ok {pins : List (Addr × Obj)} {s : Shared} {σ : L2.St} {c0 c : Cf} {x z : MP.X} {v : V} {u : Value} (I : Inv X pins σ c.H s) (hh : Held S c) (rx : RepX S c0 c x v) (rv : RelV v u) (h : negX x = some z) :
    wpAny (model X.prog X.w) X.A (unaryOp .USub u) (fun u' s' => Out X S c z c.h pins σ u' s') X.xe s := by
  cases x with
  | d d =>
    cases d with
    | int i =>
      cases h
      have r : RepV S c (.int i) v := rx
      cases r
      exact thn (un_neg pins s σ c.H (.int i) u (QX S c (.d (.int (-i))) c.h) I rv ⟨i, rfl, .here hh (.int _)⟩) fun _ _ q => .ofEP q
    | bl b =>
      cases h
      have r : RepV S c (.bl b) v := rx
      cases r
      exact thn (Bo.un_neg_b pins s σ c.H (.bl b) u (QX S c (.d (.int (-(if b = true then 1 else 0)))) c.h) I rv ⟨b, rfl, .here hh (.int _)⟩) fun _ _ q => .ofEP q
    | _ => cases h
  | _ => cases h
theorem px_neg (ha : PX X S cf a ma) : PX X S cf (.UnaryOp .USub a pos) (.b1 .neg ma) := by
  intro pins s σ c e r I hh he hr nb w
  have hr : ((evalX S.P cf ma e c.h).bind fun x h => .ofO (b1X .neg x h) h) = r := hr
  refine UnaryOp_ (ha.seq I hh he hr nb w fun u s1 x c1 v I1 hh1 he1 g1 rx rv hr1 w1 => ?_)
  obtain ⟨z, hz, rfl⟩ := ofO_ok hr1 nb
  exact thn (neg_ok I1 hh1 rx rv hz) fun u' s' q => ⟨z, c1.h, rfl, q.fwd g1⟩
/-- a if t else b -/
theorem px_ite {t : Expr} {mt : ME} (ht : PTX X S cf t mt) (ha : PX X S cf a ma) (hb : PX X S cf b mb) : PX X S cf (.IfExp t a b pos) (.ite mt ma mb) := by
  intro pins s σ c e r I hh he hr nb w
  have hr : ((tOf (evalX S.P cf mt e c.h)).bind fun k h => match k with | true => evalX S.P cf ma e h | false => evalX S.P cf mb e h) = r := by
    rw [← hr]
    show _ = (evalX S.P cf mt e c.h).bind fun x h => match MP.truthy x h with | some true => evalX S.P cf ma e h | some false => evalX S.P cf mb e h | none => .bad
    cases evalX S.P cf mt e c.h with
    | bad => rfl
    | exc _ _ _ => rfl
    | ok x h1 =>
      show (Res.ofO (MP.truthy x h1) h1).bind _ = match MP.truthy x h1 with | some true => _ | some false => _ | none => _
      cases MP.truthy x h1 with
      | none => rfl
      | some k => cases k <;> rfl
  refine wpAny_IfExp (ht.seq I hh he hr nb w fun k s1 c1 I1 hh1 he1 g1 hr1 w1 => ?_)
  cases k with
  | true => exact thn (ha pins s1 σ c1 e r I1 hh1 he1 hr1 nb w1) fun u' s' ⟨y, h', e1, o⟩ => ⟨y, h', e1, o.fwd g1⟩
  | false => exact thn (hb pins s1 σ c1 e r I1 hh1 he1 hr1 nb w1) fun u' s' ⟨y, h', e1, o⟩ => ⟨y, h', e1, o.fwd g1⟩
end
end MP

/-! MP8: the judgement in the layer's own form; argument lists, displays, calls. -/
namespace MP
open PySem PySem.Spec PyProof.Rows L2 Dk

theorem _root_.L2.PE.imp {X : Cx} {e : Expr} {t t' : TE} (h : PE X e t) (k : ∀ σ H Q, t' σ H Q → t σ H Q) : PE X e t' := ⟨fun pins s σ H Q I q => h.run pins s σ H Q I (k σ H Q q)⟩
theorem _root_.L2.PT.imp {X : Cx} {e : Expr} {t t' : TT} (h : PT X e t) (k : ∀ σ H Q, t' σ H Q → t σ H Q) : PT X e t' := ⟨fun pins s σ H Q I q => h.run pins s σ H Q I (k σ H Q q)⟩
theorem _root_.L2.PA.imp {X : Cx} {e : List Expr} {t t' : TA} (h : PA X e t) (k : ∀ σ H Q, t' σ H Q → t σ H Q) : PA X e t' := ⟨fun pos pins s σ H Q I q => h.run pos pins s σ H Q I (k σ H Q q)⟩
theorem _root_.L2.PS.imp {X : Cx} {e : Stmt} {t t' : TS} (h : PS X e t) (k : ∀ D σ H, t' D σ H → t D σ H) : PS X e t' := ⟨fun pins s σ H D I q => h.run pins s σ H D I (k D σ H q)⟩
theorem _root_.L2.PSs.imp {X : Cx} {e : List Stmt} {t t' : TS} (h : PSs X e t) (k : ∀ D σ H, t' D σ H → t D σ H) : PSs X e t' := ⟨fun pins s σ H D I q => h.run pins s σ H D I (k D σ H q)⟩

/-- what holds in every context of ours -/
structure Ctx (X : Cx) (S : Sx) (k : Nat) : Prop where
  K : X.K = S.K
  w : X.w = S.w
  calm : X.calm = true
  room : Room k X.A
  gd : X.A.guards = some []
  xe : X.xe = fun _ _ => False
  nd : X.N.Nodup
theorem Ctx.un {X : Cx} {S : Sx} {k : Nat} (C : Ctx X S k) : X.A.units + 200 < cLine := by have := C.room.un; omega
theorem Ctx.pass {X : Cx} {S : Sx} {k : Nat} (C : Ctx X S k) : PassesOwn (model X.prog X.w) X.A X.env X.xe := by rw [C.xe]; exact PassesOwn.never
theorem Ctx.blk {X : Cx} {S : Sx} {k : Nat} (C : Ctx X S k) (s : Shared) (H : Hp) (scope : Scope) (cenv : PySem.Env) (fp : List Addr) : Ctx (X.blk s H scope cenv fp) S k := ⟨C.K, C.w, C.calm, C.room, C.gd, rfl, C.nd⟩

/-! ### one expression -/
def tX (S : Sx) (cf : CF) (m : ME) : TE := fun σ H Q => ∃ (c : Cf) (e : Env) (r : Res MP.X), c.H = H ∧ Held S c ∧ RepE S c e σ ∧ evalX S.P cf m e c.h = r ∧ r ≠ .bad ∧
  ∀ x c' v, r = .ok x c'.h → Gr c c' → Held S c' → RepF S c c' x v → Q v c'.H
section
variable {X : Cx} {S : Sx} {cf : CF} {α β : Type}
theorem Wx.any {c : Cf} {r : Res α} {pins : List (Addr × Obj)} {σ : L2.St} : Wx X S c r pins σ := fun _ _ _ _ _ _ ⟨_, _, _, _, _, h⟩ => h.elim
theorem PX.pe {ex : Expr} {m : ME} (h : PX X S cf ex m) : PE X ex (tX S cf m) := ⟨fun pins s σ H Q I ⟨c, e, r, eH, hh, he, er, nb, k⟩ => by
  subst eH
  refine thn (h pins s σ c e r I hh he er nb Wx.any) fun u s' ⟨x, h', e1, c', v, I', e2, g, hh', rx, rv⟩ => ?_
  subst e2
  exact ⟨v, c'.H, I', rv, k x c' v e1 g hh' rx⟩⟩
/-- what an expression is to reach -/
def Ok (S : Sx) (c : Cf) (r : Res MP.X) : VK := fun v H' => ∃ x c', r = .ok x c'.h ∧ c'.H = H' ∧ Gr c c' ∧ Held S c' ∧ RepF S c c' x v
theorem px_of {ex : Expr} {m : ME} {t : TE} (h : PE X ex t) (k : ∀ (σ : L2.St) (c : Cf) (e : Env) (r : Res MP.X), Held S c → RepE S c e σ → evalX S.P cf m e c.h = r → r ≠ .bad → t σ c.H (Ok S c r)) : PX X S cf ex m := by
  intro pins s σ c e r I hh he hr nb w
  refine thn (h.run pins s σ c.H _ I (k σ c e r hh he hr nb)) fun u s' ⟨v, H', I', rv, x, c', e1, e2, g, hh', rx⟩ => ?_
  subst e2
  exact ⟨x, c'.h, e1, c', v, I', rfl, g, hh', rx, rv⟩
theorem PX.of {ex : Expr} {m : ME} (h : PE X ex (tX S cf m)) : PX X S cf ex m := px_of h fun σ c e r hh he hr nb => ⟨c, e, r, rfl, hh, he, hr, nb, fun x c' v e1 g hh' rx => ⟨x, c', e1, rfl, g, hh', rx⟩⟩
theorem tX.mk {m : ME} {c : Cf} {e : Env} {σ : L2.St} {r : Res β} {f : MP.X → MH → Res β} {Q : VK} (hh : Held S c) (he : RepE S c e σ) (hr : (evalX S.P cf m e c.h).bind f = r) (nb : r ≠ .bad)
    (k : ∀ x c' v, Gr c c' → Held S c' → RepE S c' e σ → RepX S c c' x v → f x c'.h = r → Q v c'.H) : tX S cf m σ c.H Q := by
  refine ⟨c, e, _, rfl, hh, he, rfl, fun z => ?_, fun x c' v h1 g hh' rx => k x c' v g hh' (he.mono g) rx.rx ?_⟩
  · rw [z] at hr; exact nb hr.symm
  · rw [h1] at hr; exact hr
/-- the end: a value here -/
theorem Ok.of {c0 c : Cf} {x : MP.X} {r : Res MP.X} {v : V} (g : Gr c0 c) (hh : Held S c) (rx : RepF S c0 c x v) (e : Res.ok x c.h = r) : Ok S c0 r v c.H := ⟨x, c, e.symm, rfl, g, hh, rx⟩
theorem Ok.fwd {c0 c1 : Cf} {r : Res MP.X} {v : V} {H' : Hp} (g : Gr c0 c1) : Ok S c1 r v H' → Ok S c0 r v H' := fun ⟨x, c', e, eH, g', hh, rx⟩ => ⟨x, c', e, eH, g.trans g', hh, rx.back g⟩
theorem Ok.ofQ {c0 c : Cf} {z : MP.X} {h' : MH} {r : Res MP.X} {v : V} {H' : Hp} (g : Gr c0 c) (e : Res.ok z h' = r) (q : QX S c z h' v H') : Ok S c0 r v H' := by
  obtain ⟨c', eH, eh, g', hh, rx⟩ := q
  subst eh
  exact ⟨z, c', e.symm, eH, g.trans g', hh, rx.back g⟩

/-! ### argument lists -/
def tXs (S : Sx) (cf : CF) (ms : MEs) : TA := fun σ H Q => ∃ (c : Cf) (e : Env) (r : Res (List D)), c.H = H ∧ Held S c ∧ RepE S c e σ ∧ evalVs S.P cf ms e c.h = r ∧ r ≠ .bad ∧
  ∀ ds c' vs, r = .ok ds c'.h → Gr c c' → Held S c' → RepVs S c' ds vs → Q vs c'.H
theorem tXs.mk {ms : MEs} {c : Cf} {e : Env} {σ : L2.St} {r : Res β} {f : List D → MH → Res β} {Q : List V → Hp → Prop} (hh : Held S c) (he : RepE S c e σ) (hr : (evalVs S.P cf ms e c.h).bind f = r) (nb : r ≠ .bad)
    (k : ∀ ds c' vs, Gr c c' → Held S c' → RepE S c' e σ → RepVs S c' ds vs → f ds c'.h = r → Q vs c'.H) : tXs S cf ms σ c.H Q := by
  refine ⟨c, e, _, rfl, hh, he, rfl, fun z => ?_, fun x c' v h1 g hh' rx => k x c' v g hh' (he.mono g) rx ?_⟩
  · rw [z] at hr; exact nb hr.symm
  · rw [h1] at hr; exact hr
theorem Res.bind_ok {α : Type} (r : Res α) : (r.bind fun a h => .ok a h) = r := by cases r <;> rfl
theorem pas_nil : PA X [] (tXs S cf .n) := pa_nil.imp fun σ H Q ⟨c, e, r, eH, hh, he, er, nb, k⟩ => by
  subst eH; subst er
  exact k [] c [] rfl (Gr.refl c) hh .nil
theorem pas_cons {ex : Expr} {es : List Expr} {m : ME} {ms : MEs} (ha : PX X S cf ex m) (hr : PA X es (tXs S cf ms)) (hs : starEach (ex :: es) X.env = (false, eval ex X.env) :: starEach es X.env := by rfl) : PA X (ex :: es) (tXs S cf (.c m ms)) :=
  (pa_cons ha.pe hr hs).imp fun σ H Q ⟨c, e, r, eH, hh, he, er, nb, k⟩ => by
    subst eH
    refine tX.mk hh he er nb fun x c1 v g1 hh1 he1 rx h1 => ?_
    cases q : x.toV with
    | none => rw [q] at h1; exact absurd h1.symm nb
    | some d =>
      rw [q] at h1
      refine tXs.mk hh1 he1 h1 nb fun ds c2 vs g2 hh2 he2 rs h2 => ?_
      exact k (d :: ds) c2 (v :: vs) h2.symm (g1.trans g2) hh2 (.cons ((rx.toV q).mono g2) rs)

/-- a tuple, a list of written items -/
def MEs.len : MEs → Nat
  | .n => 0
  | .c _ r => r.len + 1
theorem evalVs_len : ∀ (ms : MEs) (e : Env) (h : MH) (ds : List D) (h' : MH), evalVs S.P cf ms e h = .ok ds h' → ds.length = ms.len
  | .n, e, h, ds, h', q => by cases q; rfl
  | .c m r, e, h, ds, h', q => by
    have q : ((evalX S.P cf m e h).bind fun x h => match x.toV with | some v => (evalVs S.P cf r e h).bind fun vs h => .ok (v :: vs) h | none => .bad) = .ok ds h' := q
    cases q1 : evalX S.P cf m e h with
    | bad => rw [q1] at q; cases q
    | exc _ _ _ => rw [q1] at q; cases q
    | ok x h1 =>
      rw [q1] at q
      have q : (match x.toV with | some v => (evalVs S.P cf r e h1).bind fun vs h => .ok (v :: vs) h | none => .bad) = Res.ok ds h' := q
      cases q2 : x.toV with
      | none => rw [q2] at q; cases q
      | some v =>
        rw [q2] at q
        have q : ((evalVs S.P cf r e h1).bind fun vs h => .ok (v :: vs) h) = Res.ok ds h' := q
        cases q3 : evalVs S.P cf r e h1 with
        | bad => rw [q3] at q; cases q
        | exc _ _ _ => rw [q3] at q; cases q
        | ok vs h2 =>
          rw [q3] at q
          cases q
          show vs.length + 1 = _
          rw [evalVs_len r e h1 vs _ q3]
          rfl
theorem px_tup {es : List Expr} {ms : MEs} {x1} {pos : Pos} (h : PA X es (tXs S cf ms)) (hl : ms.len ≤ 1000 := by decide) : PX X S cf (.Tuple es x1 pos) (.tup ms) := px_of (pe_tup h) fun σ c e r hh he hr nb => by
  have hr : ((evalVs S.P cf ms e c.h).bind fun ds h => .ok (.d (.tup ds)) h) = r := hr
  cases q : evalVs S.P cf ms e c.h with
  | bad => rw [q] at hr; exact absurd hr.symm nb
  | exc _ _ _ => rw [q] at hr; exact ⟨c, e, _, rfl, hh, he, q, (fun z => nomatch z), fun _ _ _ z => nomatch z⟩
  | ok ds h1 =>
    rw [q] at hr
    refine ⟨c, e, _, rfl, hh, he, q, (fun z => nomatch z), fun ds' c' vs e1 g hh' rs => ?_⟩
    cases e1
    have l := evalVs_len ms e c.h ds _ q
    refine ⟨by rw [rs.length, l, sizeLine_eq]; omega, fun p hp => Ok.ofQ g hr (QX.newT hh' rs p hp)⟩
theorem px_lst {es : List Expr} {ms : MEs} {pos : Pos} (h : PA X es (tXs S cf ms)) (hl : ms.len ≤ 1000 := by decide) : PX X S cf (.List es pos) (.lst ms) := px_of (pe_lst h) fun σ c e r hh he hr nb => by
  have hr : ((evalVs S.P cf ms e c.h).bind fun ds h => .ok (.l ds) h) = r := hr
  cases q : evalVs S.P cf ms e c.h with
  | bad => rw [q] at hr; exact absurd hr.symm nb
  | exc _ _ _ => rw [q] at hr; exact ⟨c, e, _, rfl, hh, he, q, (fun z => nomatch z), fun _ _ _ z => nomatch z⟩
  | ok ds h1 =>
    rw [q] at hr
    refine ⟨c, e, _, rfl, hh, he, q, (fun z => nomatch z), fun ds' c' vs e1 g hh' rs => ?_⟩
    cases e1
    have l := evalVs_len ms e c.h ds _ q
    refine ⟨by rw [rs.length, l, sizeLine_eq]; omega, fun p hp => Ok.ofQ g hr (QX.newL hh' rs p hp)⟩
end
end MP

/-! MP9: calls of the text's own functions; a function by its body. -/
namespace MP
open PySem PySem.Spec PyProof.Rows L2 Dk

/-! ### statements in the layer's form -/
def FlX (S : Sx) (c : Cf) (D : Ends) : Fl → Prop
  | .nx e => ∀ σ, RepE S c e σ → D.nx σ c.H
  | .rt d => ∀ v, RepV S c d v → D.rt v c.H
def tS (S : Sx) (cf : CF) (m : MS) : TS := fun D σ H => ∃ (c : Cf) (e : Env) (r : Res Fl), c.H = H ∧ Held S c ∧ RepE S c e σ ∧ execS S.P cf m e c.h = r ∧ r ≠ .bad ∧
  ∀ fl c', r = .ok fl c'.h → Gr c c' → Held S c' → FlX S c' D fl
def tSs (S : Sx) (cf : CF) (m : MSs) : TS := fun D σ H => ∃ (c : Cf) (e : Env) (r : Res Fl), c.H = H ∧ Held S c ∧ RepE S c e σ ∧ execSs S.P cf m e c.h = r ∧ r ≠ .bad ∧
  ∀ fl c', r = .ok fl c'.h → Gr c c' → Held S c' → FlX S c' D fl

/-! ### functions -/
/-- a call's end, in our words -/
def Ret (P : Program) (w : World) (S : Sx) (outer : List PySem.Env) (c : Cf) (s : Shared) (r : Res D) (u : Value) (s' : Shared) : Prop :=
  ∃ (c' : Cf) (v : V) (d : D), r = .ok d c'.h ∧ s'.os = s.os ∧ AllBare s'.gens ∧ Un (frs outer) [] c.H c'.H s.heap s'.heap ∧ HOk P w c'.H s'.heap ∧ Gr c c' ∧ Held S c' ∧ RepV S c' d v ∧ RelV v u
def RetR (P : Program) (w : World) (S : Sx) (outer : List PySem.Env) (c : Cf) (s : Shared) (r : Res D) : Result → Shared → Prop
  | .ok (.ret u), s' => Ret P w S outer c s r u s'
  | _, _ => False
/-- the function at f does what the mini function i does -/
def Runs (P : Program) (w : World) (S : Sx) (mg : Str → Option Value) (base : Heap) (cf : CF) (k i : Nat) (f : Addr) (fd : FuncData) (ps : List Str) : Prop :=
  ∀ (A : Around) (outer : List PySem.Env) (s : Shared) (args : Args) (us : List Value) (vs : List V) (c : Cf) (ds : List D) (r : Res D), Room k A → A.guards = some [] → Env0 P w S.K mg base A outer s c.H → BindsTo s fd args (ps.zip us) → Vals vs us →
    vs.length = ps.length → Held S c → RepVs S c ds vs → cf i ds c.h = r → r ≠ .bad → codeAny (model P w) A (.call (.ref f) args) (RetR P w S outer c s r) s
/-- what is known of a function from the text alone -/
structure Stat (K : PySem.W.Frag) (mg : Str → Option Value) (x : Str) (st : Stmt) (N ps : List Str) (f : Addr) (fd : FuncData) : Prop where
  fn : Fun K x x st f fd
  sc : FnScope N ps (defScope st)
  bi : Binds K fd ps []
  mgx : mg x = some (.ref f)

/-- how a body begins -/
def bodyCx (P : Program) (w : World) (S : Sx) (mg : Str → Option Value) (base : Heap) (N : List Str) (qual : Str) (scope : Scope) (f : Addr) (cdv : Value) (A : Around) (outer : List PySem.Env) (s : Shared) (H : Hp) : Cx :=
  (cxOf CX0 P w S.K mg base N qual scope f cdv A outer s H E0).nox
theorem deeper_guards {A : Around} {env : PySem.Env} (h : A.guards = some []) : (A.deeper env).guards = some [] := by
  first
  | exact h
  | simpa [Around.deeper, Around.under, Code.isGuard, guardIds] using h
theorem make_guards {A : Around} {C : Addr} {us : List Value} {kw : List (Str × Value)} (h : A.guards = some []) : (A.under (.builtin "type.__call__" ⟨.ref C :: us, kw⟩)).guards = some [] := by
  have g : (Code.builtin "type.__call__" ⟨.ref C :: us, kw⟩).isGuard = false := by simp [Code.isGuard, guardIds]
  simp [Around.under, Code.guards, g, h, pushGuards]
theorem body_ctx {P : Program} {w : World} {S : Sx} {mg : Str → Option Value} {base : Heap} {N : List Str} {qual : Str} {scope : Scope} {f : Addr} {cdv : Value} {A : Around} {outer : List PySem.Env} {s : Shared} {H : Hp} {k : Nat}
    (hw : w = S.w) (hr : Room (k + 1) A) (hg : A.guards = some []) (nd : N.Nodup) : Ctx (bodyCx P w S mg base N qual scope f cdv A outer s H) S k :=
  ⟨rfl, hw, rfl, hr.deeper _, deeper_guards hg, rfl, nd⟩

theorem repE_start {S : Sx} {c : Cf} {ds : List D} {vs : List V} {N : List Str} (r : RepVs S c ds vs) : RepE S c (ds.map some ++ List.replicate (N.length - ds.length) none) (L2.start N vs) := by
  have l := r.length
  refine ⟨by unfold L2.start; simp [l], fun i d h => ?_⟩
  by_cases hi : i < ds.length
  · rw [List.getElem?_append_left (by simpa using hi), List.getElem?_map] at h
    cases q : ds[i]? with
    | none => rw [q] at h; cases h
    | some d' =>
      rw [q] at h
      cases h
      obtain ⟨v, hv, rv⟩ := r.get q
      refine ⟨v, ?_, rv⟩
      unfold L2.start
      rw [List.getElem?_append_left (by simp [l, hi]), List.getElem?_map, hv]
      rfl
  · rw [List.getElem?_append_right (by simpa using hi), List.getElem?_replicate] at h
    split at h <;> cases h

/-! what a call leaves of the heap -/

section
variable {P : Program} {w : World} {S : Sx} {mg : Str → Option Value} {base : Heap}
/-- the first n places only -/
def Cf.cut (c : Cf) (n : Nat) : Cf := { c with ρ := c.ρ.take n, h := c.h.take n }

theorem cutL_of {c : Cf} {n : Nat} {a : Addr} (q : (c.cut n).L a) : c.L a := by
  rcases q with ⟨i, o, h1, h2, h3⟩ | q
  · have i1 : i < n := by
      rcases Nat.lt_or_ge i n with z | z
      · exact z
      · have h1 : (c.ρ.take n)[i]? = some a := h1
        rw [List.getElem?_take_eq_none z] at h1
        cases h1
    refine .inl ⟨i, o, ?_, ?_, h3⟩
    · rw [← h1]; exact (List.getElem?_take_of_lt i1).symm
    · rw [← h2]; exact (List.getElem?_take_of_lt i1).symm
  · exact .inr q
mutual
theorem RepV.cut {c : Cf} {n : Nat} : ∀ {d : D} {v : V}, d.rb n = true → RepV S c d v → RepV S (c.cut n) d v
  | _, _, _, .non => .non
  | _, _, _, .bl b => .bl b
  | _, _, _, .int i => .int i
  | _, _, _, .str s z e => .str s z e
  | _, _, b, .tup h r => .tup (h.imp (fun h => ⟨h.1, fun q => h.2 (cutL_of q)⟩) id) (RepVs.cut b r)
  | _, _, b, .lst h hn r => .lst h (fun q => hn (cutL_of q)) (RepVs.cut b r)
  | _, _, b, .rol h r => .rol (h.imp (fun h => ⟨h.1, fun q => h.2 (cutL_of q)⟩) id) (RepVs.cut b r)
  | _, _, b, .dct h hn hs r => .dct h (fun q => hn (cutL_of q)) hs (RepKs.cut b r)
  | _, _, b, .ref h => .ref (by
      have b := of_decide_eq_true b
      show (c.ρ.take n)[_]? = _
      rw [List.getElem?_take_of_lt b]; exact h)
theorem RepVs.cut {c : Cf} {n : Nat} : ∀ {d : List D} {v : List V}, rbs n d = true → RepVs S c d v → RepVs S (c.cut n) d v
  | _, _, _, .nil => .nil
  | _, _, b, .cons h t => by
    have b : (_ && _) = true := b
    rw [Bool.and_eq_true] at b
    exact .cons (RepV.cut b.1 h) (RepVs.cut b.2 t)
theorem RepKs.cut {c : Cf} {n : Nat} : ∀ {d : List (D × D)} {v : List DictEntry}, rbk n d = true → RepKs S c d v → RepKs S (c.cut n) d v
  | _, _, _, .nil => .nil
  | _, _, b, .cons h0 h1 h2 h3 h4 h5 h6 t => by
    have b : (_ && _ && _) = true := b
    rw [Bool.and_eq_true, Bool.and_eq_true] at b
    exact .cons h0 h1 h2 (RepV.cut b.1.1 h3) h4 (RepV.cut b.1.2 h5) h6 (RepKs.cut b.2 t)
end
theorem mem_lookN {α : Type} : ∀ {l : List (Nat × α)} {n : Nat} {v : α}, l.lookup n = some v → (n, v) ∈ l
  | (k, w) :: r, n, v, h => by
    rw [List.lookup_cons] at h
    cases e : n == k with
    | true => rw [e] at h; cases h; rw [beq_iff_eq.mp e]; exact List.mem_cons_self
    | false => rw [e] at h; exact List.mem_cons_of_mem _ (mem_lookN h)
theorem ObjR.cut {c : Cf} {n : Nat} {a : Addr} {o : MO} (b : o.rb n = true) (r : ObjR S c a o) : ObjR S (c.cut n) a o := by
  cases o with
  | dead => trivial
  | lst xs =>
    obtain ⟨vs, h, r⟩ := r
    exact ⟨vs, h, r.cut b⟩
  | dct kvs =>
    obtain ⟨es, h, h2, r⟩ := r
    exact ⟨es, h, h2, r.cut b⟩
  | ins k fs =>
    obtain ⟨C, dx, fv, h1, h2, h3, h4, h5⟩ := r
    refine ⟨C, dx, fv, h1, h2, h3, fun f v q => ?_, h5⟩
    obtain ⟨x, e1, e2⟩ := h4 f v q
    have b : (fs.all fun p => D.rb n p.2) = true := b
    rw [List.all_eq_true] at b
    have : (f, v) ∈ fs := mem_lookN q
    exact ⟨x, e1, e2.cut (b _ this)⟩
theorem Held.cut {c : Cf} {n : Nat} (hh : Held S c) (hb : ∀ o ∈ c.h.take n, o.rb n = true) : Held S (c.cut n) := by
  refine ⟨?_, hh.nd.sublist (List.take_sublist _ _), fun a ha => hh.trk a (List.mem_of_mem_take ha), fun i a o h1 h2 => ?_, fun a h => ⟨fun q => (hh.out a h).1 (List.mem_of_mem_take q), (hh.out a h).2⟩⟩
  · show (c.ρ.take n).length = (c.h.take n).length
    rw [List.length_take, List.length_take, hh.len]
  · have h2 : (c.h.take n)[i]? = some o := h2
    have h1 : (c.ρ.take n)[i]? = some a := h1
    have i1 : i < n := by
      rcases Nat.lt_or_ge i n with z | z
      · exact z
      · rw [List.getElem?_take_eq_none z] at h1
        cases h1
    refine (hh.obj i a o ?_ ?_).cut (hb o (List.mem_of_getElem? h2))
    · rw [← h1]; exact (List.getElem?_take_of_lt i1).symm
    · rw [← h2]; exact (List.getElem?_take_of_lt i1).symm
theorem Gr.cut {c c' : Cf} (hh : Held S c) (g : Gr c c') : Gr c (c'.cut c.h.length) := by
  obtain ⟨τ, e⟩ := g.pre
  refine ⟨⟨[], ?_⟩, fun a h => g.live a (cutL_of h), g.per, g.tot, fun a h => g.new a (List.mem_of_mem_take h), g.xx, g.res⟩
  show c'.ρ.take c.h.length = _
  rw [e, ← hh.len, List.take_left, List.append_nil]
open Classical in
/-- behind a body: dead objects go -/
theorem trimmed {c c' : Cf} {d : D} {v : V} (hh : Held S c) (g : Gr c c') (hh' : Held S c') (r : RepV S c' d v) :
    ∃ c2 : Cf, c2.H = c'.H ∧ c2.h = trim c.h.length d c'.h ∧ Gr c c2 ∧ Held S c2 ∧ RepV S c2 d v := by
  unfold trim
  split
  · rename_i h
    obtain ⟨h1, h2⟩ := h
    exact ⟨c'.cut c.h.length, rfl, rfl, g.cut hh, hh'.cut h2, r.cut h1⟩
  · exact ⟨c', rfl, rfl, g, hh', r⟩

/-- THE RULE: a function of the text runs as its mini body does -/
theorem runs_of {Pf : Nat} {k i : Nat} {x : Str} {st : Stmt} {N ps : List Str} {f : Addr} {fd : FuncData} {m : MSs} (hw : w = S.w) (T : Stat S.K mg x st N ps f fd) (hF : S.P.F i = some ⟨ps.length, N.length, m⟩)
    (hb : ∀ (cdv : Value) (A : Around) (outer : List PySem.Env) (s : Shared) (H : Hp), Ctx (bodyCx P w S mg base N x (defScope st) f cdv A outer s H) S k → PSs (bodyCx P w S mg base N x (defScope st) f cdv A outer s H) (defBody st) (tSs S (callF S.P Pf) m)) :
    Runs P w S mg base (callF S.P (Pf + 1)) (k + 1) i f fd ps := by
  intro A outer s args us vs c ds r hr hg e0 bt rv hl hh rd ev nb
  obtain ⟨oc, od, kV, doc, pm, an, cdv, ct, osl, rfl, lk, hcd⟩ := T.fn.ex
  have hdl : ds.length = ps.length := by rw [← rd.length]; exact hl
  -- what the body does
  have ev : (if ds.length = ps.length then (execSs S.P (callF S.P Pf) m (ds.map some ++ List.replicate (N.length - ps.length) none) c.h).bind fun fl h' => Res.ok (match fl with | .nx _ => D.non | .rt v => v) (trim c.h.length (match fl with | .nx _ => D.non | .rt v => v) h') else .bad) = r := by
    rw [← ev]
    show _ = (match S.P.F i with | none => Res.bad | some d => if ds.length = d.np then (execSs S.P (callF S.P Pf) d.body (ds.map some ++ List.replicate (d.ns - d.np) none) c.h).bind fun fl h' => Res.ok (match fl with | .nx _ => D.non | .rt v => v) (trim c.h.length (match fl with | .nx _ => D.non | .rt v => v) h') else .bad)
    rw [hF]
  rw [if_pos hdl] at ev
  have body := hb cdv A outer s c.H (body_ctx hw hr hg T.sc.nd)
  have KX : S.K.In s.heap := e0.mod.kin.keeps fun b o z => (e0.bs b o z).1
  have lim := e0.mod.nolimit.keeps fun b o z => (e0.bs b o z).1
  have par : ∀ y ∈ ps.zip us, (defScope st).names.lookup y.1 = some .local ∨ ((defScope st).names.lookup y.1 = some .cell ∧ ((cellsFrom (s.heap.objs.size + 1) (defScope st).names []).lookup y.1).isSome = true) := by
    rintro ⟨n, v⟩ hy
    rcases T.sc.par n (List.of_mem_zip hy).1 with z | z
    · exact .inl z
    · exact .inr ⟨z, PySem.W.cellsFrom_some _ _ _ (.inl z)⟩
  refine codeAny_call_function hr.depth (KX _ _ lk) rfl T.sc.co T.sc.gen rfl (PySem.W.codeRec_of KX hcd) (bt _ _ _ _ ?_)
  refine wpAny_newFunctionEnv_cells T.sc.kind par fun env he s1 x1 => ?_
  subst he
  refine ⟨lim.keeps x1.toInCall.keep, codeAny_func ?_⟩
  have I0 := inv_start (CX := CX0) (P := P) (w := w) (mg := mg) (base := base) (N := N) (qual := x) (f := f) (cd := cdv) (outer := outer) (E := E0) (us := us) (vs := vs) (H := c.H) T.sc hr.hd e0 hl rv x1
  have I : Inv (bodyCx P w S mg base N x (defScope st) f cdv A outer s c.H) [] (L2.start N vs) c.H s1 := I0.wish _
  have st0 : RepE S c (ds.map some ++ List.replicate (N.length - ps.length) none) (L2.start N vs) := hdl ▸ repE_start rd
  have nb' : execSs S.P (callF S.P Pf) m (ds.map some ++ List.replicate (N.length - ps.length) none) c.h ≠ .bad := fun z => by
    rw [z] at ev; exact nb ev.symm
  refine wpAny_mono (body.run [] s1 (L2.start N vs) c.H { nx := fun _ H' => ∃ (c' : Cf), c'.H = H' ∧ r = .ok .non c'.h ∧ Gr c c' ∧ Held S c', rt := fun v H' => ∃ (c' : Cf) (d : D), c'.H = H' ∧ r = .ok d c'.h ∧ Gr c c' ∧ Held S c' ∧ RepV S c' d v } I ⟨c, _, _, rfl, hh, st0, rfl, nb', fun fl c' hx g hh' => ?_⟩) (fun fl s' hs => ?_) fun _ _ z => False.elim z
  · rw [hx] at ev
    cases fl with
    | nx e' =>
      obtain ⟨c2, e1, e2, g2, h2, _⟩ := trimmed (S := S) (d := .non) (v := .non) hh g hh' .non
      have ev : Res.ok D.non (trim c.h.length .non c'.h) = r := ev
      exact fun σ _ => ⟨c2, e1, by rw [e2]; exact ev.symm, g2, h2⟩
    | rt d =>
      intro v q
      obtain ⟨c2, e1, e2, g2, h2, r2⟩ := trimmed hh g hh' q
      have ev : Res.ok d (trim c.h.length d c'.h) = r := ev
      exact ⟨c2, d, e1, by rw [e2]; exact ev.symm, g2, h2, r2⟩
  · cases fl with
    | ret u =>
      obtain ⟨v, σ', H', J, ru, c', d, rfl, e2, g, h', rp⟩ := hs
      exact ⟨c', v, d, e2, J.os, J.bare, J.base, J.hok, g, h', rp, ru⟩
    | next =>
      obtain ⟨σ', H', J, c', rfl, e2, g, h'⟩ := hs
      exact ⟨c', .non, .non, e2, J.os, J.bare, J.base, J.hok, g, h', .non, rfl⟩
    | brk => obtain ⟨_, _, _, z⟩ := hs; exact z.elim
    | cont => obtain ⟨_, _, _, z⟩ := hs; exact z.elim
end
end MP

/-! MP10: calls. -/
namespace MP
open PySem PySem.Spec PyProof.Rows L2 Dk
section
variable {X : Cx} {S : Sx} {cf : CF} {k i : Nat} {x : Str} {st : Stmt} {N ps : List Str} {f : Addr} {fd : FuncData} {p pos : Pos} {e : Expr} {es : List Expr} {m : ME} {ms : MEs}
theorem run_call (C : Ctx X S k) (T : Stat S.K X.mg x st N ps f fd) (R : Runs X.prog X.w S X.mg X.base cf k i f fd ps) {pins : List (Addr × Obj)} {σ : L2.St} {s : Shared} {us : List Value} {vs : List V} {c : Cf} {ds : List D} {r : Res D}
    (I : Inv X pins σ c.H s) (rv : Vals vs us) (hl : ms.len = ps.length) (hd : ds.length = ms.len) (hh : Held S c) (rd : RepVs S c ds vs) (ev : cf i ds c.h = r) (nb : r ≠ .bad) :
    wpAny (model X.prog X.w) X.A (call (.ref f) us) (EP X pins σ fun v H' => ∃ (c' : Cf) (d : D), r = .ok d c'.h ∧ c'.H = H' ∧ Gr c c' ∧ Held S c' ∧ RepV S c' d v) X.xe s := by
  have l1 : vs.length = ps.length := by rw [rd.length, hd, hl]
  have l2 : (us ++ []).length = ps.length := by rw [List.append_nil, ← rv.length]; exact l1
  have KI : S.K.In s.heap := C.K ▸ I.kIn
  have b := T.bi s us KI l2
  rw [List.append_nil] at b
  have E := I.env0
  rw [C.K] at E
  refine wpAny_call (codeAny_mono (R X.A X.stack s ⟨us, []⟩ us vs c ds r C.room C.gd E b rv l1 hh rd ev nb) fun q s' hq => ?_)
  cases q with
  | error _ => exact False.elim hq
  | ok fl =>
    cases fl with
    | ret u =>
      obtain ⟨c', v, d, e1, os, bare, un, hok, g, h', rp, ru⟩ := hq
      exact I.after (Q := fun v H' => ∃ (c' : Cf) (d : D), r = .ok d c'.h ∧ c'.H = H' ∧ Gr c c' ∧ Held S c' ∧ RepV S c' d v) ⟨v, c'.H, os, bare, un, hok, ru, c', d, e1, rfl, g, h', rp⟩
    | next => exact False.elim hq
    | brk => exact False.elim hq
    | cont => exact False.elim hq
/-- f(..) -/
theorem px_call (C : Ctx X S k) (T : Stat S.K X.mg x st N ps f fd) (R : Runs X.prog X.w S X.mg X.base cf k i f fd ps) (ha : PA X (e :: es) (tXs S cf ms)) (hg : Gl X x := by rfl) (hl : ms.len = ps.length := by rfl) (hdb : (x == ("__debug__" : Str)) = false := by decide)
    (he : starEach (e :: es) X.env = (false, eval e X.env) :: starEach es X.env := by rfl) (hpl : (backTo pos (starEach es X.env)).any (·.1) = false := by rfl) : PX X S cf (.Call (.Name x p) (e :: es) [] pos) (.call i ms) := by
  refine px_of (t := fun σ H Q => tXs S cf ms σ H fun vs H1 => ∃ (c : Cf) (ds : List D) (r : Res D), c.H = H1 ∧ Held S c ∧ RepVs S c ds vs ∧ ds.length = ms.len ∧ cf i ds c.h = r ∧ r ≠ .bad ∧ ∀ c' d v, r = .ok d c'.h → Gr c c' → Held S c' → RepV S c' d v → Q v c'.H)
    ⟨fun pins s σ H Q I h => wpAny_Call_Name_kw (ld_glob I hg T.mgx (PySem.W.callWith_K (h₀ := X.base) I.ok.mod.kin (by rw [C.K]; exact T.fn.kp) (thn (ha.run pos pins s σ H _ I h) fun us s1 ⟨vs, H1, I1, rv, c, ds, r, eH, hh, rd, hd, ev, nb, q⟩ => ⟨I1.kIn, ?_⟩) he hpl) hdb)⟩ fun σ c e r hh he hr nb => ?_
  · subst eH
    refine thn (run_call C T R I1 rv hl hd hh rd ev nb) fun u s2 ⟨v, H2, I2, ru, c2, d, e1, e2, g, hh2, rp⟩ => ?_
    subst e2
    exact ⟨v, c2.H, I2, ru, q c2 d v e1 g hh2 rp⟩
  · have hr : ((evalVs S.P cf ms e c.h).bind fun ds h => (cf i ds h).bind fun v h => .ok (.d v) h) = r := hr
    refine ⟨c, e, _, rfl, hh, he, rfl, fun z => by rw [z] at hr; exact nb hr.symm, fun ds c1 vs q g1 hh1 rs => ?_⟩
    rw [q] at hr
    have hr : ((cf i ds c1.h).bind fun v h => .ok (.d v) h) = r := hr
    refine ⟨c1, ds, _, rfl, hh1, rs, evalVs_len ms e c.h ds _ q, rfl, fun z => by rw [z] at hr; exact nb hr.symm, fun c2 d v e1 g2 hh2 rp => ?_⟩
    rw [e1] at hr
    exact ⟨.d d, c2, hr.symm, rfl, g1.trans g2, hh2, .d rp⟩
/-- f() -/
theorem px_call0 (C : Ctx X S k) (T : Stat S.K X.mg x st N ps f fd) (R : Runs X.prog X.w S X.mg X.base cf k i f fd ps) (hg : Gl X x := by rfl) (hl : 0 = ps.length := by rfl) (hdb : (x == ("__debug__" : Str)) = false := by decide) : PX X S cf (.Call (.Name x p) [] [] pos) (.call i .n) := by
  refine px_of (t := fun σ H Q => ∃ (c : Cf) (r : Res D), c.H = H ∧ Held S c ∧ cf i [] c.h = r ∧ r ≠ .bad ∧ ∀ c' d v, r = .ok d c'.h → Gr c c' → Held S c' → RepV S c' d v → Q v c'.H)
    ⟨fun pins s σ H Q I ⟨c, r, eH, hh, ev, nb, q⟩ => wpAny_Call_Name_kw (ld_glob I hg T.mgx (PySem.W.callWith_K0 I.kIn (by rw [C.K]; exact T.fn.kp) ?_) hdb)⟩ fun σ c e r hh he hr nb => ?_
  · subst eH
    refine thn (run_call (us := []) (ms := .n) C T R I .nil hl rfl hh .nil ev nb) fun u s2 ⟨v, H2, I2, ru, c2, d, e1, e2, g, hh2, rp⟩ => ?_
    subst e2
    exact ⟨v, c2.H, I2, ru, q c2 d v e1 g hh2 rp⟩
  · have hr : ((cf i [] c.h).bind fun v h => .ok (.d v) h) = r := hr
    refine ⟨c, _, rfl, hh, rfl, fun z => by rw [z] at hr; exact nb hr.symm, fun c2 d v e1 g2 hh2 rp => ?_⟩
    rw [e1] at hr
    exact ⟨.d d, c2, hr.symm, rfl, g2, hh2, .d rp⟩
end

/-! ### statements -/
section
variable {X : Cx} {S : Sx} {cf : CF} {k : Nat} {pos : Pos} {β : Type}
theorem pss_nilX : PSs X [] (tSs S cf .n) := pss_nil.imp fun D σ H ⟨c, e, r, eH, hh, he, er, nb, q⟩ => by
  subst eH; subst er
  exact q (.nx e) c rfl (Gr.refl c) hh σ he
theorem pss_consX {st : Stmt} {rest : List Stmt} {m : MS} {ms : MSs} (h1 : PS X st (tS S cf m)) (h2 : PSs X rest (tSs S cf ms)) : PSs X (st :: rest) (tSs S cf (.c m ms)) := (pss_cons h1 h2).imp fun D σ H ⟨c, e, r, eH, hh, he, er, nb, q⟩ => by
  subst eH
  have er : ((execS S.P cf m e c.h).bind fun fl h => match fl with | .nx e1 => execSs S.P cf ms e1 h | .rt v => .ok (.rt v) h) = r := er
  refine ⟨c, e, _, rfl, hh, he, rfl, fun z => by rw [z] at er; exact nb er.symm, fun fl c1 h1 g1 hh1 => ?_⟩
  rw [h1] at er
  cases fl with
  | nx e1 =>
    intro σ1 he1
    exact ⟨c1, e1, r, rfl, hh1, he1, er, nb, fun fl c2 h2 g2 hh2 => q fl c2 h2 (g1.trans g2) hh2⟩
  | rt v => exact q (.rt v) c1 er.symm g1 hh1
theorem ps_passX : PS X (.Pass pos) (tS S cf .pass) := ps_pass.imp fun D σ H ⟨c, e, r, eH, hh, he, er, nb, q⟩ => by
  subst eH; subst er
  exact q (.nx e) c rfl (Gr.refl c) hh σ he
theorem ps_docX {x j pos'} : PS X (.Expr (.Constant (.str x) j pos) pos') (tS S cf .pass) := ps_doc.imp fun D σ H ⟨c, e, r, eH, hh, he, er, nb, q⟩ => by
  subst eH; subst er
  exact q (.nx e) c rfl (Gr.refl c) hh σ he
theorem ps_exprX {ex : Expr} {m : ME} (h : PX X S cf ex m) (hs : swapsWith ex none pos.line X.env = pure false := by rfl) : PS X (.Expr ex pos) (tS S cf (.ex m)) := (ps_expr h.pe hs).imp fun D σ H ⟨c, e, r, eH, hh, he, er, nb, q⟩ => by
  subst eH
  have er : ((evalX S.P cf m e c.h).bind fun _ h => .ok (.nx e) h) = r := er
  exact tX.mk hh he er nb fun x c1 v g1 hh1 he1 rx h1 => q (.nx e) c1 h1.symm g1 hh1 σ he1
theorem vOf_bind {α : Type} {r : Res MP.X} {f : D → MH → Res α} : (vOf r).bind f = r.bind fun x h => (Res.ofO x.toV h).bind f := by cases r <;> rfl
theorem ps_retX {ex : Expr} {m : ME} (h : PX X S cf ex m) : PS X (.Return (some ex) pos) (tS S cf (.ret m)) := (ps_ret h.pe).imp fun D σ H ⟨c, e, r, eH, hh, he, er, nb, q⟩ => by
  subst eH
  have er : ((vOf (evalX S.P cf m e c.h)).bind fun v h => .ok (.rt v) h) = r := er
  rw [vOf_bind] at er
  refine tX.mk hh he er nb fun x c1 v g1 hh1 he1 rx h1 => ?_
  cases t : x.toV with
  | none => rw [t] at h1; exact absurd h1.symm nb
  | some d =>
    rw [t] at h1
    exact q (.rt d) c1 h1.symm g1 hh1 v (rx.toV t)
theorem ps_retNX : PS X (.Return none pos) (tS S cf (.ret .non)) := ps_retN.imp fun D σ H ⟨c, e, r, eH, hh, he, er, nb, q⟩ => by
  subst eH; subst er
  exact q (.rt .non) c rfl (Gr.refl c) hh .non .non
/-- tests in the layer's form -/
def tT (S : Sx) (cf : CF) (m : ME) : TT := fun σ H Q => ∃ (c : Cf) (e : Env) (r : Res Bool), c.H = H ∧ Held S c ∧ RepE S c e σ ∧ tOf (evalX S.P cf m e c.h) = r ∧ r ≠ .bad ∧ ∀ b c', r = .ok b c'.h → Gr c c' → Held S c' → Q b c'.H
theorem PTX.pt {ex : Expr} {m : ME} (h : PTX X S cf ex m) : PT X ex (tT S cf m) := ⟨fun pins s σ H Q I ⟨c, e, r, eH, hh, he, er, nb, q⟩ => by
  subst eH
  refine thn (h _ pins s σ c e r rfl I hh he er nb Wx.any) fun b s1 ⟨h', e1, c1, I1, e2, g, hh1⟩ => ?_
  subst e2
  exact ⟨c1.H, I1, q b c1 e1 g hh1⟩⟩
theorem tT.mk {m : ME} {c : Cf} {e : Env} {σ : L2.St} {r : Res β} {f : Bool → MH → Res β} {Q : Bool → Hp → Prop} (hh : Held S c) (he : RepE S c e σ) (hr : (tOf (evalX S.P cf m e c.h)).bind f = r) (nb : r ≠ .bad)
    (k : ∀ b c', Gr c c' → Held S c' → RepE S c' e σ → f b c'.h = r → Q b c'.H) : tT S cf m σ c.H Q := by
  refine ⟨c, e, _, rfl, hh, he, rfl, fun z => ?_, fun x c' h1 g hh' => k x c' g hh' (he.mono g) ?_⟩
  · rw [z] at hr; exact nb hr.symm
  · rw [h1] at hr; exact hr
theorem ps_ifX {ex : Expr} {a b : List Stmt} {m : ME} {ma mb : MSs} (h : PTX X S cf ex m) (ha : PSs X a (tSs S cf ma)) (hb : PSs X b (tSs S cf mb)) : PS X (.If ex a b pos) (tS S cf (.ite m ma mb)) := (ps_if h.pt ha hb).imp fun D σ H ⟨c, e, r, eH, hh, he, er, nb, q⟩ => by
  subst eH
  have er : ((tOf (evalX S.P cf m e c.h)).bind fun c h => match c with | true => execSs S.P cf ma e h | false => execSs S.P cf mb e h) = r := er
  refine tT.mk hh he er nb fun t c1 g1 hh1 he1 h1 => ?_
  cases t with
  | true => exact ⟨c1, e, r, rfl, hh1, he1, h1, nb, fun fl c2 h2 g2 hh2 => q fl c2 h2 (g1.trans g2) hh2⟩
  | false => exact ⟨c1, e, r, rfl, hh1, he1, h1, nb, fun fl c2 h2 g2 hh2 => q fl c2 h2 (g1.trans g2) hh2⟩
theorem ps_neverX {st : Stmt} : PS X st (tS S cf .never) := ps_never.imp fun D σ H ⟨c, e, r, eH, hh, he, er, nb, q⟩ => nb er.symm

/-! ### targets -/
/-- only these slots differ -/
def Off (vs : List Nat) (σ σ' : L2.St) : Prop := σ'.length = σ.length ∧ ∀ i, i ∉ vs → σ'[i]? = σ[i]?
theorem Off.refl {σ : L2.St} : Off [] σ σ := ⟨rfl, fun _ _ => rfl⟩
theorem Off.trans {vs ws : List Nat} {a b c : L2.St} (x : Off vs a b) (y : Off ws b c) : Off (vs ++ ws) a c := ⟨y.1.trans x.1, fun i h => by
  rw [List.mem_append] at h
  exact (y.2 i fun z => h (.inr z)).trans (x.2 i fun z => h (.inl z))⟩
theorem Off.set {σ : L2.St} {i : Nat} {v : Option V} : Off [i] σ (σ.set i v) := ⟨List.length_set, fun j h => List.getElem?_set_ne fun e => h (by rw [e]; exact List.mem_singleton.mpr rfl)⟩
/-- a target in the layer's form: what stands at v is a value -/
def tG (S : Sx) (t : Tg) : TG := fun v σ H Q => ∃ (c : Cf) (e e' : Env) (d : D), c.H = H ∧ Held S c ∧ RepE S c e σ ∧ RepV S c d v ∧ asgT t d e = some e' ∧ ∀ σ', RepE S c e' σ' → Off t.slots σ σ' → Q σ' H
def tGs (S : Sx) (ts : List Tg) : TGs := fun vs σ H Q => ∃ (c : Cf) (e e' : Env) (ds : List D), c.H = H ∧ Held S c ∧ RepE S c e σ ∧ RepVs S c ds vs ∧ asgTs ts ds e = some e' ∧ ∀ σ', RepE S c e' σ' → Off (Tg.slotss ts) σ σ' → Q σ' H
theorem RepE.set {c : Cf} {e : Env} {σ : L2.St} {d : D} {v : V} (he : RepE S c e σ) (r : RepV S c d v) (i : Nat) : RepE S c (e.set i (some d)) (σ.set i (some v)) := by
  refine ⟨by rw [List.length_set, List.length_set]; exact he.1, fun j d' h => ?_⟩
  by_cases hj : i = j
  · subst hj
    by_cases hi : i < e.length
    · rw [List.getElem?_set_self hi] at h
      cases h
      exact ⟨v, by rw [List.getElem?_set_self (by rw [← he.1]; exact hi)], r⟩
    · rw [List.getElem?_eq_none (by rw [List.length_set]; omega)] at h
      cases h
  · rw [List.getElem?_set_ne hj] at h
    obtain ⟨v', h1, h2⟩ := he.2 j d' h
    exact ⟨v', by rw [List.getElem?_set_ne hj]; exact h1, h2⟩
theorem _root_.L2.PG.imp {X : Cx} {e : Expr} {t t' : TG} (h : PG X e t) (k : ∀ v σ H Q, t' v σ H Q → t v σ H Q) : PG X e t' := ⟨fun pins s σ H v u Q I r q => h.run pins s σ H v u Q I r (k v σ H Q q)⟩
theorem _root_.L2.PGs.imp {X : Cx} {e : List Expr} {t t' : TGs} (h : PGs X e t) (k : ∀ v σ H Q, t' v σ H Q → t v σ H Q) : PGs X e t' := ⟨fun pins s σ H vs us Q I r q => h.run pins s σ H vs us Q I r (k vs σ H Q q)⟩
theorem pg_v {i : Nat} {x : Str} (C : Ctx X S k) (hi : X.N[i]? = some x) (hx : Loc X.env.scope x) (hf : X.fn x = true ∨ X.env.scope.names.lookup x = some .local := by first | exact .inl rfl | exact .inr rfl | assumption) : PG X (.Name x pos) (tG S (.v i)) := (pg_name C.nd hi hx hf).imp fun v σ H Q ⟨c, e, e', d, eH, hh, he, r, h, q⟩ => by
  have h : (if i < e.length then some (e.set i (some d)) else none) = some e' := h
  split at h
  · cases h
    exact q _ (he.set r i) Off.set
  · cases h
theorem pgs_nilX : PGs X [] (tGs S []) := pgs_nil.imp fun vs σ H Q ⟨c, e, e', ds, eH, hh, he, r, h, q⟩ => by
  cases ds with
  | nil =>
    cases r
    cases h
    exact ⟨rfl, q _ he Off.refl⟩
  | cons _ _ => cases h
theorem pgs_consX {ex : Expr} {es : List Expr} {t : Tg} {ts : List Tg} (h1 : PG X ex (tG S t)) (h2 : PGs X es (tGs S ts)) (ha : (assignEach (ex :: es) X.env).map (·.2) = assign ex X.env :: (assignEach es X.env).map (·.2) := by rfl) : PGs X (ex :: es) (tGs S (t :: ts)) :=
  (pgs_cons h1 h2 ha).imp fun vs σ H Q ⟨c, e, e', ds, eH, hh, he, r, h, q⟩ => by
    cases ds with
    | nil => cases h
    | cons d ds =>
      cases r with
      | cons r1 r2 =>
        have h : (match asgT t d e with | some e' => asgTs ts ds e' | none => none) = some e' := h
        cases z : asgT t d e with
        | none => rw [z] at h; cases h
        | some e1 =>
          rw [z] at h
          refine ⟨_, _, rfl, c, e, e1, d, eH, hh, he, r1, z, fun σ1 he1 o1 => ?_⟩
          subst eH
          exact ⟨c, e1, e', ds, rfl, hh, he1, r2, h, fun σ2 he2 o2 => q σ2 he2 (o1.trans o2)⟩
theorem asgTs_len : ∀ (ts : List Tg) (ds : List D) (e e' : Env), asgTs ts ds e = some e' → ds.length = ts.length
  | [], [], _, _, _ => rfl
  | [], _ :: _, _, _, h => by cases h
  | _ :: _, [], _, _, h => by cases h
  | t :: ts, d :: ds, e, e', h => by
    have h : (match asgT t d e with | some e' => asgTs ts ds e' | none => none) = some e' := h
    cases z : asgT t d e with
    | none => rw [z] at h; cases h
    | some e1 =>
      rw [z] at h
      show ds.length + 1 = ts.length + 1
      rw [asgTs_len ts ds e1 e' h]
theorem pg_t {es : List Expr} {j : Nat} {ts : List Tg} (C : Ctx X S k) (h : PGs X es (tGs S ts)) (hn : (assignEach es X.env).length = ts.length := by rfl) (hst : (assignEach es X.env).findIdx? (·.1) = none := by rfl) : PG X (.Tuple es j pos) (tG S (.t ts)) :=
  (pg_tup C.calm h hn hst).imp fun v σ H Q ⟨c, e, e', d, eH, hh, he, r, h, q⟩ => by
    subst eH
    cases d with
    | tup xs =>
      obtain ⟨p, vs, rfl, sq, rs⟩ := RepN.tup (X := X) C.K (show RepN S c (.tup xs) v from r)
      have h : asgTs ts xs e = some e' := h
      exact ⟨p, vs, rfl, sq, by rw [rs.length, asgTs_len ts xs e e' h], c, e, e', xs, rfl, hh, he, rs, h, q⟩
    | _ => cases h
/-- target = value -/
theorem ps_asgX {tg ex : Expr} {t : Tg} {m : ME} (C : Ctx X S k) (h : PX X S cf ex m) (hg : PG X tg (tG S t)) (hs : swapsWithSole [tg] ex pos.line X.env = pure false := by rfl) (hw : swappedStores [tg] ex X.env = pure none := by rfl)
    (h1 : (assignEach [tg] X.env).map (·.2) = [assign tg X.env] := by rfl) : PS X (.Assign [tg] ex pos) (tS S cf (.asg t m)) := (ps_asg h.pe hg hs hw h1).imp fun D σ H ⟨c, e, r, eH, hh, he, er, nb, q⟩ => by
  subst eH
  have er : ((evalX S.P cf m e c.h).bind fun x h => match asgX t x h e with | some e1 => .ok (.nx e1) h | none => .bad) = r := er
  refine tX.mk hh he er nb fun x c1 v g1 hh1 he1 rx h1 => ?_
  cases z : asgX t x c1.h e with
  | none => rw [z] at h1; exact absurd h1.symm nb
  | some e1 =>
    rw [z] at h1
    have fin : ∀ {d : MP.D}, RepV S c1 d v → asgT t d e = some e1 → tG S t v σ c1.H D.nx := fun {d} r a => ⟨c1, e, e1, d, rfl, hh1, he1, r, a, fun σ' he' _ => q (.nx e1) c1 h1.symm g1 hh1 σ' he'⟩
    cases t with
    | v i =>
      have z : (match x.toV with | some d => asgT (.v i) d e | none => none) = some e1 := z
      cases y : x.toV with
      | none => rw [y] at z; cases z
      | some d => rw [y] at z; exact fin (rx.toV y) z
    | t ts =>
      have z : (match norm x c1.h with | some d => asgT (.t ts) d e | none => none) = some e1 := z
      cases y : norm x c1.h with
      | none => rw [y] at z; cases z
      | some d =>
        rw [y] at z
        have rn := norm_rep hh1 rx y
        cases d with
        | tup xs => exact fin (show RepV S c1 (.tup xs) v from rn) z
        | _ => cases z
/-- name = value -/
theorem ps_setX {i : Nat} {x : Str} {ex : Expr} {m : ME} {pos' : Pos} (C : Ctx X S k) (hi : X.N[i]? = some x) (hx : Loc X.env.scope x) (h : PX X S cf ex m) (hs : swapsWith ex (some (.Name x pos')) pos.line X.env = pure false := by rfl)
    (hf : X.fn x = true ∨ X.env.scope.names.lookup x = some .local := by first | exact .inl rfl | exact .inr rfl | assumption) : PS X (.Assign [.Name x pos'] ex pos) (tS S cf (.asg (.v i) m)) := (ps_set C.nd hi hx h.pe hs hf).imp fun D σ H ⟨c, e, r, eH, hh, he, er, nb, q⟩ => by
  subst eH
  have er : ((evalX S.P cf m e c.h).bind fun x h => match asgX (.v i) x h e with | some e1 => .ok (.nx e1) h | none => .bad) = r := er
  refine tX.mk hh he er nb fun x c1 v g1 hh1 he1 rx h1 => ?_
  cases z : asgX (.v i) x c1.h e with
  | none => rw [z] at h1; exact absurd h1.symm nb
  | some e1 =>
    rw [z] at h1
    have z : (match x.toV with | some d => asgT (.v i) d e | none => none) = some e1 := z
    cases y : x.toV with
    | none => rw [y] at z; cases z
    | some d =>
      rw [y] at z
      have z : (if i < e.length then some (e.set i (some d)) else none) = some e1 := z
      split at z
      · cases z
        exact q (.nx _) c1 h1.symm g1 hh1 _ (he1.set (rx.toV y) i)
      · cases z
/-- a, b = x, y -/
theorem ps_parX {i j : Nat} {x y : Str} {a b : Expr} {ma mb : ME} {px py pt : Pos} {kt k2 pt2} (C : Ctx X S k) (hi : X.N[i]? = some x) (hj : X.N[j]? = some y) (hij : i ≠ j)
    (hx : X.env.scope.names.lookup x = some .local) (hy : X.env.scope.names.lookup y = some .local) (ha : PA X [a, b] (tXs S cf (.c ma (.c mb .n))))
    (hw : swappedStores [.Tuple [.Name x px, .Name y py] kt pt] (.Tuple [a, b] k2 pt2) X.env = pure (some [x, y]) := by rfl)
    (hs : swapsWithSole [.Tuple [.Name x px, .Name y py] kt pt] (.Tuple [a, b] k2 pt2) pos.line X.env = pure false := by rfl) :
    PS X (.Assign [.Tuple [.Name x px, .Name y py] kt pt] (.Tuple [a, b] k2 pt2) pos) (tS S cf (.asg (.t [.v i, .v j]) (.tup (.c ma (.c mb .n))))) := (ps_par C.calm C.nd hi hj hij hx hy ha hw hs).imp fun D σ H ⟨c, e, r, eH, hh, he, er, nb, q⟩ => by
  subst eH
  have er : (((evalVs S.P cf (.c ma (.c mb .n)) e c.h).bind fun ds h => .ok (.d (.tup ds)) h).bind fun x h => match asgX (.t [.v i, .v j]) x h e with | some e1 => .ok (.nx e1) h | none => .bad) = r := er
  refine ⟨c, e, _, rfl, hh, he, rfl, fun z => by rw [z] at er; exact nb er.symm, fun ds c1 vs h1 g1 hh1 rs => ?_⟩
  have l := evalVs_len _ e c.h ds _ h1
  rw [h1] at er
  have er : (match asgT (.t [.v i, .v j]) (.tup ds) e with | some e1 => Res.ok (Fl.nx e1) c1.h | none => .bad) = r := er
  cases z : asgT (.t [.v i, .v j]) (.tup ds) e with
  | none => rw [z] at er; exact absurd er.symm nb
  | some e1 =>
    rw [z] at er
    match ds, l, rs with
    | [d1, d2], _, .cons r1 (.cons r2 .nil) =>
      refine ⟨_, _, rfl, ?_⟩
      have z : (match (if i < e.length then some (e.set i (some d1)) else none) with | some e' => (match (if j < e'.length then some (e'.set j (some d2)) else none) with | some e'' => some e'' | none => none) | none => none) = some e1 := z
      split at z
      · rename_i e' h'
        split at h'
        · cases h'
          split at z
          · rename_i e'' h''
            split at h''
            · cases h''
              cases z
              exact q (.nx _) c1 er.symm g1 hh1 _ (((he.mono g1).set r1 i).set r2 j)
            · cases h''
          · cases z
        · cases h'
      · cases z
/-- name += e -/
theorem ps_augX {i : Nat} {x : Str} {ex : Expr} {m : ME} {pos' : Pos} (C : Ctx X S k) (hi : X.N[i]? = some x) (hx : Loc X.env.scope x) (h : PX X S cf ex m)
    (hf : X.fn x = true ∨ X.env.scope.names.lookup x = some .local := by first | exact .inl rfl | exact .inr rfl | assumption) : PS X (.AugAssign (.Name x pos') .Add ex pos) (tS S cf (.aug i .add m)) := (ps_aug C.nd hi hx h.pe ip_add hf).imp fun D σ H ⟨c, e, r, eH, hh, he, er, nb, q⟩ => by
  subst eH
  have er : (match e[i]? with
    | some (some v) => (evalX S.P cf m e c.h).bind fun x h => match v, x with
      | .int p, .d (.int q) => .ok (.nx (e.set i (some (.int (p + q))))) h
      | _, _ => .bad
    | _ => .bad) = r := by
      rw [← er]
      show _ = (match e[i]? with | some (some v) => _ | _ => Res.bad)
      cases e[i]? with
      | none => rfl
      | some o => cases o with
        | none => rfl
        | some v => rfl
  cases z : e[i]? with
  | none => rw [z] at er; exact absurd er.symm nb
  | some o =>
    cases o with
    | none => rw [z] at er; exact absurd er.symm nb
    | some d =>
      rw [z] at er
      obtain ⟨v, hv, rv⟩ := he.2 i d z
      refine ⟨v, hv, tX.mk hh he er nb fun x c1 v' g1 hh1 he1 rx h1 => ?_⟩
      cases d with
      | int p =>
        cases rv
        cases x with
        | d d2 =>
          cases d2 with
          | int q2 =>
            have rx : RepV S c1 (.int q2) v' := rx
            cases rx
            exact ⟨p, q2, rfl, rfl, q (.nx _) c1 h1.symm g1 hh1 _ (he1.set (.int _) i)⟩
          | _ => exact absurd h1.symm nb
        | _ => exact absurd h1.symm nb
      | _ => exact absurd h1.symm nb
end
end MP

/-! MP11: walking; for loops; while. -/
namespace MP
open PySem PySem.Spec PyProof.Rows L2 Dk

/-- J yields what xs mean, as long as the guarded objects stand -/
structure Walks (S : Sx) (c0 : Cf) (xs : List D) (g : List (Nat × MO)) (J : It) : Prop where
  go : ∀ (i : Nat) (c : Cf), Kp c0 c → Held S c → guarded g c.h → i < xs.length → J.go i c.H
  yld : ∀ (i : Nat) (c : Cf) (v : V) (H' : Hp), Kp c0 c → Held S c → guarded g c.h → i < xs.length → J.yld i c.H v H' → ∃ (c' : Cf) (d : D), c'.H = H' ∧ c'.h = c.h ∧ Gr c c' ∧ Held S c' ∧ xs[i]? = some d ∧ RepV S c' d v
  stop : ∀ (i : Nat) (c : Cf), Kp c0 c → Held S c → guarded g c.h → xs.length ≤ i → J.stop i c.H
def tW (S : Sx) (cf : CF) (m : ME) : TI := fun σ H R => ∃ (c : Cf) (e : Env) (r : Res MP.X), c.H = H ∧ Held S c ∧ RepE S c e σ ∧ evalX S.P cf m e c.h = r ∧ r ≠ .bad ∧
  ∀ x c', r = .ok x c'.h → Gr c c' → Held S c' → ∃ p, items x c'.h = some p ∧ ∀ J, Walks S c' p.1 p.2 J → R J c'.H
section
variable {X : Cx} {S : Sx} {cf : CF} {k : Nat} {pos : Pos} {β : Type} {tg : Expr}
theorem _root_.L2.PI.imp {X : Cx} {tg e : Expr} {t t' : TI} (h : PI X tg e t) (k : ∀ σ H R, t' σ H R → t σ H R) : PI X tg e t' := ⟨fun pins s σ H R I q => h.run pins s σ H R I (k σ H R q)⟩
theorem _root_.L2.PI.or {X : Cx} {tg e : Expr} {t t' : TI} (h : PI X tg e t) (h' : PI X tg e t') : PI X tg e (fun σ H R => t σ H R ∨ t' σ H R) := ⟨fun pins s σ H R I q => q.elim (fun q => h.run pins s σ H R I q) fun q => h'.run pins s σ H R I q⟩
theorem tW.mk {m : ME} {c : Cf} {e : Env} {σ : L2.St} {r : Res β} {f : List D → List (Nat × MO) → MH → Res β} {R : It → Hp → Prop} (hh : Held S c) (he : RepE S c e σ)
    (hr : ((evalX S.P cf m e c.h).bind fun x h => match items x h with | some (xs, g) => f xs g h | none => .bad) = r) (nb : r ≠ .bad)
    (k : ∀ xs g c' J, Gr c c' → Held S c' → RepE S c' e σ → f xs g c'.h = r → Walks S c' xs g J → R J c'.H) : tW S cf m σ c.H R := by
  refine ⟨c, e, _, rfl, hh, he, rfl, fun z => ?_, fun x c' h1 g hh' => ?_⟩
  · rw [z] at hr; exact nb hr.symm
  · rw [h1] at hr
    have hr : (match items x c'.h with | some (xs, g) => f xs g c'.h | none => .bad) = r := hr
    cases q : items x c'.h with
    | none => rw [q] at hr; exact absurd hr.symm nb
    | some p =>
      rw [q] at hr
      exact ⟨p, rfl, fun J W => k p.1 p.2 c' J g hh' (he.mono g) hr W⟩

theorem drop_get {α : Type} {xs : List α} {i : Nat} {x : α} (h : xs[i]? = some x) : xs.drop i = x :: xs.drop (i + 1) := by
  obtain ⟨h1, h2⟩ := List.getElem?_eq_some_iff.mp h
  rw [List.drop_eq_getElem_cons h1, h2]
open Classical in
/-- for target in ..: -/
theorem ps_forX {iter : Expr} {body : List Stmt} {t : Tg} {mi : ME} {mb : MSs} (C : Ctx X S k) (hi : PI X tg iter (tW S cf mi)) (hg : PG X tg (tG S t)) (hb : PSs X body (tSs S cf mb)) (hs : ∀ x, foldedSetIterable iter X.env x = pure x := by intro _; rfl) :
    PS X (.For tg iter body [] pos) (tS S cf (.for_ t mi mb)) := (ps_for C.pass C.calm hi hg hb hs).imp fun En σ H ⟨c, e, r, eH, hh, he, er, nb, q⟩ => by
  subst eH
  have er : ((evalX S.P cf mi e c.h).bind fun x h => match items x h with
    | some (xs, g) => loopS g (fun d e h => match asgT t d e with
      | some e1 => execSs S.P cf mb e1 h
      | none => .bad) xs e h
    | none => .bad) = r := er
  refine tW.mk (f := fun xs g h => loopS g (fun d e h => match asgT t d e with
      | some e1 => execSs S.P cf mb e1 h
      | none => .bad) xs e h) hh he er nb fun xs g c1 J g1 hh1 he1 h1 wk => ?_
  refine ⟨fun i n σ H => ∃ (c2 : Cf) (e2 : Env), c2.H = H ∧ Held S c2 ∧ Gr c1 c2 ∧ RepE S c2 e2 σ ∧ i ≤ xs.length ∧ n = xs.length - i ∧ loopS g (fun d e h => match asgT t d e with
      | some e1 => execSs S.P cf mb e1 h
      | none => .bad) (xs.drop i) e2 c2.h = r, ⟨_, c1, e, rfl, hh1, Gr.refl _, he1, Nat.zero_le _, rfl, h1⟩, ?_⟩
  rintro i n σ2 H2 ⟨c2, e2, rfl, hh2, g2, he2, hi, hn, h2⟩
  rcases Nat.lt_or_ge i xs.length with hlt | hge
  · have gt : xs[i]? = some xs[i] := List.getElem?_eq_getElem hlt
    rw [drop_get gt] at h2
    have h2 : (if guarded g c2.h then ((match asgT t xs[i] e2 with
      | some e1 => execSs S.P cf mb e1 c2.h
      | none => .bad)).bind (fun fl h1 => match fl with
      | .nx e1 => loopS g (fun d e h => match asgT t d e with
      | some e1 => execSs S.P cf mb e1 h
      | none => .bad) (xs.drop (i + 1)) e1 h1
      | .rt v => .ok (.rt v) h1) else .bad) = r := h2
    split at h2
    · rename_i hgd
      refine .inr ⟨wk.go i c2 g2.sub hh2 hgd hlt, fun σ' H' => ∃ (c3 : Cf) (e3 : Env), c3.H = H' ∧ Held S c3 ∧ Gr c1 c3 ∧ RepE S c3 e3 σ' ∧ loopS g (fun d e h => match asgT t d e with
      | some e1 => execSs S.P cf mb e1 h
      | none => .bad) (xs.drop (i + 1)) e3 c3.h = r, fun σ' H' ⟨c3, e3, eH, hh3, g3, he3, h3⟩ => ⟨xs.length - (i + 1), by omega, c3, e3, eH, hh3, g3, he3, by omega, rfl, h3⟩, fun v H' hy => ?_⟩
      obtain ⟨c3, d, rfl, e3, g3, hh3, hd, rd⟩ := wk.yld i c2 v H' g2.sub hh2 hgd hlt hy
      rw [gt] at hd
      cases hd
      cases z : asgT t xs[i] e2 with
      | none => rw [z] at h2; exact absurd h2.symm nb
      | some e4 =>
        rw [z] at h2
        refine ⟨c3, e2, e4, _, rfl, hh3, he2.mono g3, rd, z, fun σ4 he4 _ => ?_⟩
        rw [← e3] at h2
        have h2 : ((execSs S.P cf mb e4 c3.h).bind (fun fl h1 => match fl with
      | .nx e1 => loopS g (fun d e h => match asgT t d e with
      | some e1 => execSs S.P cf mb e1 h
      | none => .bad) (xs.drop (i + 1)) e1 h1
      | .rt v => .ok (.rt v) h1)) = r := h2
        refine ⟨c3, e4, _, rfl, hh3, he4, rfl, fun z => by rw [z] at h2; exact nb h2.symm, fun fl c5 h5 g5 hh5 => ?_⟩
        rw [h5] at h2
        cases fl with
        | nx e5 => exact fun σ5 he5 => ⟨c5, e5, rfl, hh5, g2.trans (g3.trans g5), he5, h2⟩
        | rt d => exact q (.rt d) c5 h2.symm (g1.trans (g2.trans (g3.trans g5))) hh5
    · exact absurd h2.symm nb
  · have he : i = xs.length := Nat.le_antisymm hi hge
    rw [List.drop_of_length_le hge] at h2
    have h2 : (if guarded g c2.h then Res.ok (Fl.nx e2) c2.h else .bad) = r := h2
    split at h2
    · rename_i hgd
      exact .inl ⟨wk.stop i c2 g2.sub hh2 hgd hge, q (.nx e2) c2 h2.symm (g1.trans g2) hh2 σ2 he2⟩
    · exact absurd h2.symm nb
/-- while test: -/
theorem ps_whileX {test : Expr} {body : List Stmt} {mt : ME} {mb : MSs} (C : Ctx X S k) (ht : PTX X S cf test mt) (hb : PSs X body (tSs S cf mb)) : PS X (.While test body [] pos) (tS S cf (.whl mt mb)) := (ps_while C.pass ht.pt hb).imp fun En σ H ⟨c, e, r, eH, hh, he, er, nb, q⟩ => by
  subst eH
  have er : loopW (fun e h => tOf (evalX S.P cf mt e h)) (fun e h => execSs S.P cf mb e h) WF e c.h = r := er
  refine ⟨fun n σ H => ∃ (c2 : Cf) (e2 : Env), c2.H = H ∧ Held S c2 ∧ Gr c c2 ∧ RepE S c2 e2 σ ∧ loopW (fun e h => tOf (evalX S.P cf mt e h)) (fun e h => execSs S.P cf mb e h) n e2 c2.h = r, ⟨WF, c, e, rfl, hh, Gr.refl _, he, er⟩, ?_⟩
  rintro n σ2 H2 ⟨c2, e2, rfl, hh2, g2, he2, h2⟩
  cases n with
  | zero => exact absurd h2.symm nb
  | succ n =>
    have h2 : ((tOf (evalX S.P cf mt e2 c2.h)).bind fun b h1 => match b with
      | true => (execSs S.P cf mb e2 h1).bind fun fl h2 => match fl with
        | .nx e1 => loopW (fun e h => tOf (evalX S.P cf mt e h)) (fun e h => execSs S.P cf mb e h) n e1 h2
        | .rt v => .ok (.rt v) h2
      | false => .ok (.nx e2) h1) = r := h2
    refine tT.mk hh2 he2 h2 nb fun b c3 g3 hh3 he3 h3 => ?_
    cases b with
    | false => exact q (.nx e2) c3 h3.symm (g2.trans g3) hh3 σ2 he3
    | true =>
      have h3 : ((execSs S.P cf mb e2 c3.h).bind fun fl h2 => match fl with
        | .nx e1 => loopW (fun e h => tOf (evalX S.P cf mt e h)) (fun e h => execSs S.P cf mb e h) n e1 h2
        | .rt v => .ok (.rt v) h2) = r := h3
      rw [if_pos rfl]
      refine ⟨fun σ H => ∃ (c5 : Cf) (e5 : Env), c5.H = H ∧ Held S c5 ∧ Gr c c5 ∧ RepE S c5 e5 σ ∧ loopW (fun e h => tOf (evalX S.P cf mt e h)) (fun e h => execSs S.P cf mb e h) n e5 c5.h = r, fun σ' H' ⟨c5, e5, z⟩ => ⟨n, Nat.lt_succ_self _, c5, e5, z⟩, c3, e2, _, rfl, hh3, he3, rfl, fun z => by rw [z] at h3; exact nb h3.symm, fun fl c5 h5 g5 hh5 => ?_⟩
      rw [h5] at h3
      cases fl with
      | nx e5 => exact fun σ5 he5 => ⟨c5, e5, rfl, hh5, g2.trans (g3.trans g5), he5, h3⟩
      | rt d => exact q (.rt d) c5 h3.symm (g2.trans (g3.trans g5)) hh5

/-! ### what is walked -/
theorem walks_list {c0 : Cf} {xs : List D} {g : List (Nat × MO)} {a : Addr} (h : ∀ c, Kp c0 c → Held S c → guarded g c.h → ∃ vs, c.H a = some (.lst vs) ∧ RepVs S c xs vs) : Walks S c0 xs g (Itl S.K a) := by
  refine ⟨fun i c g0 hh gd hi => ?_, fun i c v H' g0 hh gd hi hy => ?_, fun i c g0 hh gd hi => ?_⟩
  · obtain ⟨vs, h1, r⟩ := h c g0 hh gd
    obtain ⟨v, hv, _⟩ := r.get (List.getElem?_eq_getElem hi)
    exact ⟨vs, v, .of h1, hv⟩
  · obtain ⟨vs, h1, r⟩ := h c g0 hh gd
    obtain ⟨e1, e2⟩ := hy
    obtain ⟨v', hv, rv⟩ := r.get (List.getElem?_eq_getElem hi)
    have := e2 vs (.of h1)
    rw [hv] at this
    cases this
    exact ⟨c, _, e1.symm, rfl, Gr.refl c, hh, List.getElem?_eq_getElem hi, rv⟩
  · obtain ⟨vs, h1, r⟩ := h c g0 hh gd
    exact ⟨vs, .of h1, by rw [r.length]; exact hi⟩
theorem walks_tup {c0 : Cf} {xs : List D} {g : List (Nat × MO)} {a : Addr} {vs : List V} (h : (c0.H a = some (.tup vs) ∧ ¬ c0.L a) ∨ KTup S.K a vs) (r : RepVs S c0 xs vs) : Walks S c0 xs g (Itt S.K a) := by
  have sq : ∀ c, Kp c0 c → SqT S.K c.H a vs := fun c g0 => h.imp (fun h => .inl (g0.per _ _ h.2 h.1)) id
  refine ⟨fun i c g0 hh gd hi => ?_, fun i c v H' g0 hh gd hi hy => ?_, fun i c g0 hh gd hi => ?_⟩
  · obtain ⟨v, hv, _⟩ := r.get (List.getElem?_eq_getElem hi)
    exact ⟨vs, v, sq c g0, hv⟩
  · obtain ⟨e1, e2⟩ := hy
    obtain ⟨v', hv, rv⟩ := r.get (List.getElem?_eq_getElem hi)
    have := e2 vs (sq c g0)
    rw [hv] at this
    cases this
    exact ⟨c, _, e1.symm, rfl, Gr.refl c, hh, List.getElem?_eq_getElem hi, rv.sub g0⟩
  · exact ⟨vs, sq c g0, by rw [r.length]; exact hi⟩
theorem walks_range {c0 : Cf} {g : List (Nat × MO)} {lo : Int} {n : Nat} : Walks S c0 (rangeD lo n) g (Itr lo n) := by
  have l : (rangeD lo n).length = n := by simp [rangeD]
  refine ⟨fun i c g0 hh gd hi => by rw [l] at hi; exact hi, fun i c v H' g0 hh gd hi hy => ?_, fun i c g0 hh gd hi => by rw [l] at hi; exact hi⟩
  obtain ⟨e1, rfl⟩ := hy
  rw [l] at hi
  exact ⟨c, .int (lo + i), e1.symm, rfl, Gr.refl c, hh, by simp [rangeD, hi], .int _⟩
theorem walks_str {c0 : Cf} {g : List (Nat × MO)} {s : List Nat} {z : Str} (e : z.cps.toList = s) : Walks S c0 (chars s) g (Its z) := by
  have l : (chars s).length = z.cps.size := by rw [← e]; simp [chars]
  refine ⟨fun i c g0 hh gd hi => by rw [l] at hi; exact hi, fun i c v H' g0 hh gd hi hy => ?_, fun i c g0 hh gd hi => by rw [l] at hi; exact hi⟩
  obtain ⟨e1, q, hq, rfl⟩ := hy
  refine ⟨c, .str [q], e1.symm, rfl, Gr.refl c, hh, ?_, .str _ _ rfl⟩
  unfold chars
  rw [List.getElem?_map, ← e, Array.getElem?_toList, hq]
  rfl
/-- a list, a tuple, a text as it comes -/
theorem pix_val (C : Ctx X S k) {iter : Expr} {m : ME} (h : PX X S cf iter m) : PI X tg iter (tW S cf m) := by
  refine ((pi_list h.pe).or ((pi_tup h.pe).or (pi_str h.pe))).imp fun σ H R ⟨c, e, r, eH, hh, he, er, nb, q⟩ => ?_
  subst eH
  cases r with
  | bad => exact absurd rfl nb
  | exc _ _ _ => exact .inl ⟨c, e, _, rfl, hh, he, er, nb, fun _ _ _ z => nomatch z⟩
  | ok x h1 =>
    have use : ∀ {Q : VK}, (∀ c' v, c'.h = h1 → Gr c c' → Held S c' → RepX S c c' x v → Q v c'.H) → tX S cf m σ c.H Q := fun {Q} f => ⟨c, e, _, rfl, hh, he, er, nb, fun x' c' v e1 g hh' rx => by cases e1; exact f c' v rfl g hh' rx.rx⟩
    have lst : ∀ {xs : List MP.D} {g : List (Nat × MO)}, items x h1 = some (xs, g) → (∀ c' v, c'.h = h1 → Gr c c' → Held S c' → RepX S c c' x v → ∃ a, v = .ref a ∧ (∃ vs, c'.H a = some (.lst vs)) ∧ ∀ c2, Kp c' c2 → Held S c2 → guarded g c2.h → ∃ vs, c2.H a = some (.lst vs) ∧ RepVs S c2 xs vs) → iList X.K (tX S cf m) σ c.H R := fun {xs g} hi f => use fun c' v e1 g1 hh1 rx => by
      subst e1
      obtain ⟨a, ev, ⟨vs, hv⟩, w⟩ := f c' v rfl g1 hh1 rx
      refine ⟨a, ev, ⟨vs, .of hv⟩, ?_⟩
      rw [C.K]
      obtain ⟨p, hp, k⟩ := q x c' rfl g1 hh1
      have hp : some (xs, g) = some p := hi ▸ hp
      cases hp
      exact k _ (walks_list w)
    have no : items x h1 = none → iList X.K (tX S cf m) σ c.H R := fun z => use fun c' v e1 g1 hh1 rx => by
      subst e1
      obtain ⟨p, hp, k⟩ := q x c' rfl g1 hh1
      rw [z] at hp
      cases hp
    cases x with
    | l xs =>
      refine .inl (lst rfl fun c' v e1 g1 hh1 rx => ?_)
      obtain ⟨a, vs, rfl, ha, hn, _, _, rs⟩ := rx
      exact ⟨a, rfl, ⟨vs, ha⟩, fun c2 g2 _ _ => ⟨vs, g2.per _ _ hn ha, rs.sub g2⟩⟩
    | k kvs => exact .inl (no rfl)
    | it xs g => exact .inl (use fun c' v e1 g1 hh1 rx => rx.elim)
    | d d =>
      cases d with
      | lst xs =>
        refine .inl (lst rfl fun c' v e1 g1 hh1 rx => ?_)
        have rx : RepV S c' (.lst xs) v := rx
        cases rx with
        | lst ha hn rs => exact ⟨_, rfl, ⟨_, ha⟩, fun c2 g2 _ _ => ⟨_, g2.per _ _ hn ha, rs.sub g2⟩⟩
      | tup xs =>
        refine .inr (.inl (use fun c' v e1 g1 hh1 rx => ?_))
        subst e1
        have rx : RepV S c' (.tup xs) v := rx
        cases rx with
        | tup ha rs =>
          refine ⟨_, rfl, ⟨_, (ha.imp (fun h => .inl h.1) fun h => C.K ▸ h)⟩, ?_⟩
          rw [C.K]
          obtain ⟨p, hp, k⟩ := q _ c' rfl g1 hh1
          have hp : some (xs, []) = some p := hp
          cases hp
          exact k _ (walks_tup ha rs)
      | str s =>
        refine .inr (.inr (use fun c' v e1 g1 hh1 rx => ?_))
        subst e1
        obtain ⟨z, rfl, ez⟩ := RepN.str (show RepN S c' (.str s) v from rx)
        obtain ⟨p, hp, k⟩ := q _ c' rfl g1 hh1
        have hp : some (chars s, []) = some p := hp
        cases hp
        exact ⟨z, rfl, k _ (walks_str ez)⟩
      | ref n =>
        cases hr : h1[n]? with
        | none => exact .inl (no (by show (match h1[n]? with | some (.lst xs) => some (xs, [(n, MO.lst xs)]) | _ => none) = _; rw [hr]))
        | some o =>
          cases o with
          | lst xs =>
            refine .inl (lst (xs := xs) (g := [(n, .lst xs)]) (by show (match h1[n]? with | some (.lst xs) => some (xs, [(n, MO.lst xs)]) | _ => none) = _; rw [hr]) fun c' v e1 g1 hh1 rx => ?_)
            subst e1
            have rx : RepV S c' (.ref n) v := rx
            cases rx with
            | ref hn =>
              rename_i a
              obtain ⟨vs, ha, _⟩ := hh1.obj n a _ hn hr
              refine ⟨a, rfl, ⟨vs, ha⟩, fun c2 g2 hh2 gd => ?_⟩
              exact hh2.obj n a _ (g2.pl hn) (gd (n, .lst xs) List.mem_cons_self)
          | _ => exact .inl (no (by show (match h1[n]? with | some (.lst xs) => some (xs, [(n, MO.lst xs)]) | _ => none) = _; rw [hr]))
      | _ => exact .inl (no rfl)
end
end MP

/-! MP12: changing objects; is; chains; subscripts; slices. -/
namespace MP
open PySem PySem.Spec PyProof.Rows L2 Dk
section
variable {X : Cx} {S : Sx} {cf : CF} {k : Nat} {pos : Pos} {a b d : Expr} {ma mb md : ME}

/-! ### an object is written, made, let go -/
def Cf.wr (c : Cf) (n : Nat) (p : Addr) (o : HO) (mo : MO) : Cf := { c with H := upd c.H p o, h := c.h.set n mo }
theorem Held.inj {c : Cf} (hh : Held S c) {i j : Nat} {p : Addr} (h1 : c.ρ[i]? = some p) (h2 : c.ρ[j]? = some p) : i = j := by
  obtain ⟨l1, e1⟩ := List.getElem?_eq_some_iff.mp h1
  obtain ⟨l2, e2⟩ := List.getElem?_eq_some_iff.mp h2
  exact (List.getElem_inj hh.nd).mp (e1.trans e2.symm)
theorem Gr.wr {c : Cf} {n : Nat} {p : Addr} {o : HO} {mo o0 : MO} (hh : Held S c) (hn : c.ρ[n]? = some p) (hl : c.h[n]? = some o0) (h0 : o0 ≠ .dead) : Gr c (c.wr n p o mo) := by
  have hL : c.L p := .inl ⟨n, o0, hn, hl, h0⟩
  refine ⟨⟨[], by simp [Cf.wr]⟩, fun q h => .inl ?_, fun q u hq h => ?_, fun q h => ?_, fun q h => .inl h, rfl, fun q h => ?_⟩
  · rcases h with ⟨i, u, h1, h2, h3⟩ | h
    · have h2 : (c.h.set n mo)[i]? = some u := h2
      have h1 : c.ρ[i]? = some q := h1
      by_cases e : n = i
      · subst e
        rw [hn] at h1
        cases h1
        exact hL
      · rw [List.getElem?_set_ne e] at h2
        exact .inl ⟨i, u, h1, h2, h3⟩
    · exact .inr h
  · show upd c.H p o q = _
    rw [upd_ne (fun e => hq (by rw [e]; exact hL))]
    exact h
  · show upd c.H p o q ≠ none
    by_cases e : q = p
    · subst e; rw [upd_same]; simp
    · rw [upd_ne e]; exact h
  · show upd c.H p o q = _
    rw [upd_ne (fun e => (hh.out q h).1 (by rw [e]; exact List.mem_of_getElem? hn))]
theorem Held.wr {c : Cf} {n : Nat} {p : Addr} {o : HO} {mo o0 : MO} (hh : Held S c) (hn : c.ρ[n]? = some p) (hl : c.h[n]? = some o0) (h0 : o0 ≠ .dead) (hob : ObjR S (c.wr n p o mo) p mo) : Held S (c.wr n p o mo) := by
  have g : Gr c (c.wr n p o mo) := Gr.wr hh hn hl h0
  refine ⟨by show c.ρ.length = (c.h.set n mo).length; rw [List.length_set]; exact hh.len, hh.nd, fun q hq => g.tot q (hh.trk q hq), fun i q u h1 h2 => ?_, fun q h => ⟨(hh.out q h).1, g.tot q (hh.out q h).2⟩⟩
  have h1 : c.ρ[i]? = some q := h1
  have h2 : (c.h.set n mo)[i]? = some u := h2
  by_cases e : n = i
  · subst e
    rw [hn] at h1
    cases h1
    obtain ⟨l, _⟩ := List.getElem?_eq_some_iff.mp hl
    rw [List.getElem?_set_self l] at h2
    cases h2
    exact hob
  · rw [List.getElem?_set_ne e] at h2
    refine (hh.obj i q u h1 h2).mono g fun _ => ?_
    show upd c.H p o q = _
    rw [upd_ne]
    rintro rfl
    exact e (hh.inj hn h1)
/-- a changing list is written -/
theorem QX.wrL {c : Cf} {n : Nat} {p : Addr} {xs ys : List D} {vs : List V} {z : MP.X} {v : V} (hh : Held S c) (hn : c.ρ[n]? = some p) (hl : c.h[n]? = some (.lst xs)) (r : RepVs S c ys vs) (rz : ∀ c', Gr c c' → RepF S c c' z v) : QX S c z (c.h.set n (.lst ys)) v (upd c.H p (.lst vs)) := by
  have g : Gr c (c.wr n p (.lst vs) (.lst ys)) := Gr.wr hh hn hl (fun z => nomatch z)
  exact ⟨c.wr n p (.lst vs) (.lst ys), rfl, rfl, g, hh.wr hn hl (fun z => nomatch z) ⟨vs, upd_same, r.mono g⟩, rz _ g⟩
/-- from now on it changes -/
def Cf.own (c : Cf) (p : Addr) (mo : MO) : Cf := { c with ρ := c.ρ ++ [p], h := c.h ++ [mo] }
theorem own_L {c : Cf} {p q : Addr} {mo : MO} (hh : Held S c) (h : (c.own p mo).L q) : c.L q ∨ q = p := by
  rcases h with ⟨i, u, h1, h2, h3⟩ | h
  · have h1 : (c.ρ ++ [p])[i]? = some q := h1
    have h2 : (c.h ++ [mo])[i]? = some u := h2
    rcases Nat.lt_or_ge i c.ρ.length with l | l
    · rw [List.getElem?_append_left l] at h1
      rw [List.getElem?_append_left (hh.len ▸ l)] at h2
      exact .inl (.inl ⟨i, u, h1, h2, h3⟩)
    · rw [List.getElem?_append_right l] at h1
      have : q ∈ [p] := List.mem_of_getElem? h1
      exact .inr (by simpa using this)
  · exact .inl (.inr h)
theorem Gr.own {c0 c : Cf} {p : Addr} {mo : MO} (g : Gr c0 c) (hh : Held S c) (h0 : c0.H p = none) : Gr c0 (c.own p mo) := by
  obtain ⟨τ, e⟩ := g.pre
  refine ⟨⟨τ ++ [p], by show c.ρ ++ [p] = _; rw [e, List.append_assoc]⟩, fun q h => ?_, g.per, g.tot, fun q h => ?_, g.xx, g.res⟩
  · rcases own_L hh h with h | rfl
    · exact g.live q h
    · exact .inr h0
  · have h : q ∈ c.ρ ++ [p] := h
    rcases List.mem_append.mp h with h | h
    · exact g.new q h
    · have : q = p := by simpa using h
      subst this
      exact .inr h0
theorem own_held {c : Cf} {p : Addr} {mo : MO} (hh : Held S c) (hp : p ∉ c.ρ) (hH : c.H p ≠ none) (hd : Held S (c.del p)) (hn : Gr (c.del p) (c.own p mo) → ObjR S (c.own p mo) p mo) : Held S (c.own p mo) := by
  have nx : ¬ c.x p := fun z => (hd.out p z).2 (by show (if p = p then none else c.H p) = none; rw [if_pos rfl])
  have ne : ∀ q, q ∈ c.ρ → q ≠ p := fun q h e => hp (e ▸ h)
  have g : Gr (c.del p) (c.own p mo) := by
    refine ⟨⟨[p], rfl⟩, fun q h => ?_, fun q u _ h => ?_, fun q h => ?_, fun q h => ?_, rfl, fun q h => ?_⟩
    · rcases own_L hh h with h | rfl
      · exact .inl h
      · exact .inr (by show (if q = q then none else c.H q) = none; rw [if_pos rfl])
    · have h : (if q = p then none else c.H q) = some u := h
      by_cases e : q = p
      · rw [if_pos e] at h; cases h
      · rw [if_neg e] at h; exact h
    · have h : (if q = p then none else c.H q) ≠ none := h
      by_cases e : q = p
      · rw [if_pos e] at h; exact absurd rfl h
      · rw [if_neg e] at h; exact h
    · have h : q ∈ c.ρ ++ [p] := h
      rcases List.mem_append.mp h with h | h
      · exact .inl h
      · have : q = p := by simpa using h
        exact .inr (by show (if q = p then none else c.H q) = none; rw [if_pos this])
    · show c.H q = (if q = p then none else c.H q)
      rw [if_neg]
      rintro rfl
      exact nx h
  have same : ∀ q, q ≠ p → (c.own p mo).H q = (c.del p).H q := fun q e => by show c.H q = (if q = p then none else c.H q); rw [if_neg e]
  refine ⟨by show (c.ρ ++ [p]).length = (c.h ++ [mo]).length; simp [hh.len], ?_, fun q h => ?_, fun i q u h1 h2 => ?_, fun q h => ⟨fun z => ?_, (hh.out q h).2⟩⟩
  · show (c.ρ ++ [p]).Nodup
    rw [List.nodup_append]
    exact ⟨hh.nd, by simp, fun a ha b hb => by
      have : b = p := by simpa using hb
      rw [this]
      exact ne a ha⟩
  · have h : q ∈ c.ρ ++ [p] := h
    rcases List.mem_append.mp h with h | h
    · exact hh.trk q h
    · have : q = p := by simpa using h
      rw [this]
      exact hH
  · have h1 : (c.ρ ++ [p])[i]? = some q := h1
    have h2 : (c.h ++ [mo])[i]? = some u := h2
    rcases Nat.lt_or_ge i c.ρ.length with l | l
    · rw [List.getElem?_append_left l] at h1
      rw [List.getElem?_append_left (hh.len ▸ l)] at h2
      exact (hd.obj i q u h1 h2).mono g fun _ => same q (ne q (List.mem_of_getElem? h1))
    · rw [List.getElem?_append_right l] at h1
      rw [List.getElem?_append_right (hh.len ▸ l)] at h2
      have e1 : q = p := by simpa using List.mem_of_getElem? h1
      have e2 : u = mo := by simpa using List.mem_of_getElem? h2
      subst e1; subst e2
      exact hn g
  · have z : q ∈ c.ρ ++ [p] := z
    rcases List.mem_append.mp z with z | z
    · exact (hh.out q h).1 z
    · have : q = p := by simpa using z
      exact nx (this ▸ h)
/-- a new list, a new dict that will change -/
theorem px_mut (ha : PX X S cf a ma) : PX X S cf a (.b1 .mut ma) := by
  intro pins s σ c e r I hh he hr nb w
  have hr : ((evalX S.P cf ma e c.h).bind fun x h => match x with
      | .l xs => .ok (.d (.ref h.length)) (h ++ [.lst xs])
      | .k kvs => .ok (.d (.ref h.length)) (h ++ [.dct kvs])
      | _ => .bad) = r := hr
  refine ha.seqF I hh he hr nb w fun u s1 x c1 v I1 hh1 he1 g1 rx rv hr1 w1 => ?_
  obtain ⟨rx, fr⟩ := rx
  have fin : ∀ {p : Addr} {mo : MO}, v = .ref p → c.H p = none → p ∉ c1.ρ → c1.H p ≠ none → Held S (c1.del p) → (Gr (c1.del p) (c1.own p mo) → ObjR S (c1.own p mo) p mo) → Res.ok (.d (.ref c1.h.length)) (c1.h ++ [mo]) = r → ∃ x h', r = .ok x h' ∧ Out X S c x h' pins σ u s1 := fun {p mo} ev h0 hp hH hd hn er => by
    refine ⟨_, _, er.symm, c1.own p mo, v, I1, rfl, g1.own hh1 h0, own_held hh1 hp hH hd hn, .d ?_, rv⟩
    rw [ev]
    refine .ref ?_
    show (c1.ρ ++ [p])[c1.h.length]? = some p
    rw [← hh1.len, List.getElem?_append_right (Nat.le_refl _), Nat.sub_self]
    rfl
  cases x with
  | l xs =>
    obtain ⟨p, vs, ev, hp, _, h0, hr0, rs⟩ := rx
    obtain ⟨hd, vs', hp', rs'⟩ := fr p ev
    exact fin (mo := .lst xs) ev h0 hr0 (by rw [hp]; simp) hd (fun g => ⟨vs', hp', rs'.mono g⟩) hr1
  | k kvs =>
    obtain ⟨p, vs, ev, hp, _, h0, hr0, hs, rs⟩ := rx
    obtain ⟨hd, vs', hp', rs'⟩ := fr p ev
    exact fin (mo := .dct kvs) ev h0 hr0 (by rw [hp]; simp) hd (fun g => ⟨vs', hp', hs, rs'.mono g⟩) hr1
  | d d => exact absurd hr1.symm nb
  | it xs g => exact absurd hr1.symm nb
/-- from now on it stays as it is -/
def Cf.let (c : Cf) (n : Nat) : Cf := { c with h := c.h.set n .dead }
theorem let_L {c : Cf} {n : Nat} {q : Addr} (h : (c.let n).L q) : c.L q := by
  rcases h with ⟨i, u, h1, h2, h3⟩ | h
  · have h2 : (c.h.set n .dead)[i]? = some u := h2
    by_cases e : n = i
    · subst e
      by_cases l : n < c.h.length
      · rw [List.getElem?_set_self l] at h2
        cases h2
        exact absurd rfl h3
      · rw [List.getElem?_eq_none (by rw [List.length_set]; omega)] at h2
        cases h2
    · rw [List.getElem?_set_ne e] at h2
      exact .inl ⟨i, u, h1, h2, h3⟩
  · exact .inr h
theorem Gr.let {c : Cf} {n : Nat} : Gr c (c.let n) := ⟨⟨[], by simp [Cf.let]⟩, fun q h => .inl (let_L h), fun _ _ _ h => h, fun _ h => h, fun _ h => .inl h, rfl, fun _ _ => rfl⟩
theorem Held.let {c : Cf} {n : Nat} (hh : Held S c) : Held S (c.let n) := by
  refine ⟨by show c.ρ.length = (c.h.set n .dead).length; rw [List.length_set]; exact hh.len, hh.nd, hh.trk, fun i q u h1 h2 => ?_, hh.out⟩
  have h2 : (c.h.set n .dead)[i]? = some u := h2
  by_cases e : n = i
  · subst e
    by_cases l : n < c.h.length
    · rw [List.getElem?_set_self l] at h2
      cases h2
      trivial
    · rw [List.getElem?_eq_none (by rw [List.length_set]; omega)] at h2
      cases h2
  · rw [List.getElem?_set_ne e] at h2
    exact (hh.obj i q u h1 h2).mono Gr.let fun _ => rfl
theorem let_notL {c : Cf} {n : Nat} {q : Addr} (hh : Held S c) (hn : c.ρ[n]? = some q) : ¬ (c.let n).L q := by
  rintro (⟨i, u, h1, h2, h3⟩ | h)
  · have e : n = i := hh.inj hn h1
    subst e
    have h2 : (c.h.set n .dead)[n]? = some u := h2
    by_cases l : n < c.h.length
    · rw [List.getElem?_set_self l] at h2
      cases h2
      exact h3 rfl
    · rw [List.getElem?_eq_none (by rw [List.length_set]; omega)] at h2
      cases h2
  · exact (hh.out q h).1 (List.mem_of_getElem? hn)
theorem px_frz (ha : PX X S cf a ma) : PX X S cf a (.b1 .frz ma) := by
  intro pins s σ c e r I hh he hr nb w
  have hr : ((evalX S.P cf ma e c.h).bind fun x h => match x with
      | .d (.ref r) => match h[r]? with
        | some (.lst xs) => .ok (.d (.lst xs)) (h.set r .dead)
        | some (.dct kvs) => .ok (.d (.dct kvs)) (h.set r .dead)
        | _ => .ok x h
      | _ => .ok x h) = r := hr
  refine ha.seqF I hh he hr nb w fun u s1 x c1 v I1 hh1 he1 g1 rx rv hr1 w1 => ?_
  have thru : Res.ok x c1.h = r → ∃ x h', r = .ok x h' ∧ Out X S c x h' pins σ u s1 := fun er => ⟨x, c1.h, er.symm, c1, v, I1, rfl, g1, hh1, rx, rv⟩
  cases x with
  | d d =>
    cases d with
    | ref n =>
      have hr1 : (match c1.h[n]? with
        | some (.lst xs) => Res.ok (.d (.lst xs)) (c1.h.set n .dead)
        | some (.dct kvs) => .ok (.d (.dct kvs)) (c1.h.set n .dead)
        | _ => .ok (.d (.ref n)) c1.h) = r := hr1
      have r0 : RepV S c1 (.ref n) v := rx.rx
      cases q : c1.h[n]? with
      | none => rw [q] at hr1; exact thru hr1
      | some o =>
        rw [q] at hr1
        cases r0 with
        | ref hn =>
          have ro := hh1.obj n _ o hn q
          cases o with
          | lst xs =>
            obtain ⟨vs, h1, h2⟩ := ro
            exact ⟨_, _, hr1.symm, c1.let n, _, I1, rfl, g1.trans Gr.let, hh1.let, .d (.lst h1 (let_notL hh1 hn) (h2.mono Gr.let)), rv⟩
          | dct kvs =>
            obtain ⟨es, h1, h2, h3⟩ := ro
            exact ⟨_, _, hr1.symm, c1.let n, _, I1, rfl, g1.trans Gr.let, hh1.let, .d (.dct h1 (let_notL hh1 hn) h2 (h3.mono Gr.let)), rv⟩
          | dead => exact thru hr1
          | ins k fs => exact thru hr1
    | _ => exact thru hr1
  | _ => exact thru hr1
end
end MP

/-! MP13: is; chains; subscripts; slices. -/
namespace MP
open PySem PySem.Spec PyProof.Rows L2 Dk
section
variable {X : Cx} {S : Sx} {cf : CF} {k : Nat} {pos : Pos} {a b d : Expr} {ma mb md : ME}

theorem ptx_of {ex : Expr} {m : ME} {t : TT} (h : PT X ex t) (k : ∀ (σ : L2.St) (c : Cf) (e : Env) (r : Res Bool), Held S c → RepE S c e σ → tOf (evalX S.P cf m e c.h) = r → r ≠ .bad → t σ c.H (fun q H' => ∃ c', r = .ok q c'.h ∧ c'.H = H' ∧ Gr c c' ∧ Held S c')) : PTX X S cf ex m := by
  intro whole pins s σ c e r hw I hh he hr nb w
  subst hw
  refine thn (h.run pins s σ c.H _ I (k σ c e r hh he hr nb)) fun u s' ⟨H', I', c', e1, e2, g, hh'⟩ => ?_
  subst e2
  exact ⟨c'.h, e1, c', I', rfl, g, hh'⟩
theorem tOf_bind' {α : Type} {r : Res α} {f : α → MH → Res MP.X} {q : Res Bool} (h : tOf (r.bind f) = q) : (r.bind fun a h => tOf (f a h)) = q := by rw [← tOf_bind]; exact h
theorem isn_iff {c0 c : Cf} {x : MP.X} {v : V} (r : RepX S c0 c x v) : (v = .non ↔ x = .d .non) := by
  cases x with
  | d d =>
    have r : RepV S c d v := r
    cases r <;> simp
  | l xs => obtain ⟨p, vs, rfl, _⟩ := r; simp
  | k kvs => obtain ⟨p, vs, rfl, _⟩ := r; simp
  | it xs g => exact r.elim
/-- what `is None` gives -/
def isnX (neg : Bool) (x : MP.X) (h : MH) : Res MP.X := match x with
    | .d .non => .ok (.d (.bl (!neg))) h
    | .it _ _ => .bad
    | _ => .ok (.d (.bl neg)) h
theorem isnX_eq {neg : Bool} {c0 c : Cf} {x : MP.X} {v : V} {h : MH} (r : RepX S c0 c x v) : isnX neg x h = .ok (.d (.bl (if neg = true then !decide (v = .non) else decide (v = .non)))) h := by
  have i := isn_iff r
  cases x with
  | d d =>
    cases d with
    | non =>
      have e := i.mpr rfl
      subst e
      cases neg <;> rfl
    | _ =>
      have e : decide (v = .non) = false := decide_eq_false fun z => nomatch i.mp z
      rw [e]
      cases neg <;> rfl
  | l xs =>
    have e : decide (v = .non) = false := decide_eq_false fun z => nomatch i.mp z
    rw [e]
    cases neg <;> rfl
  | k xs =>
    have e : decide (v = .non) = false := decide_eq_false fun z => nomatch i.mp z
    rw [e]
    cases neg <;> rfl
  | it xs g => exact r.elim
def rIsn (neg : Bool) : R2 := fun x y H Q => y = .non ∧ Q (.bl (if neg = true then !decide (x = .non) else decide (x = .non))) H
theorem op_isn (neg : Bool) : OpR X (compareOp (if neg = true then .IsNot else .Is)) (rIsn neg) := by
  cases neg with
  | true => exact op_notN
  | false => exact op_isN
theorem px_isn (neg : Bool) {j : Nat} {p1 : Pos} (ha : PX X S cf a ma) : PX X S cf (.Compare a [if neg = true then .IsNot else .Is] [.Constant .none j p1] pos) (.isn neg ma) :=
  px_of (pe_cmpR (op_isn neg) ha.pe pe_non (by cases neg <;> rfl)) fun σ c e r hh he hr nb => by
    have hr : ((evalX S.P cf ma e c.h).bind (isnX neg)) = r := hr
    refine tX.mk hh he hr nb fun x c1 v g1 hh1 he1 rx h1 => ?_
    rw [isnX_eq rx] at h1
    exact ⟨rfl, .of g1 hh1 (.d (.bl _)) h1⟩
theorem ptx_isn (neg : Bool) {j : Nat} {p1 : Pos} (ha : PX X S cf a ma) : PTX X S cf (.Compare a [if neg = true then .IsNot else .Is] [.Constant .none j p1] pos) (.isn neg ma) :=
  ptx_of (pt_cmpR (op_isn neg) ha.pe pe_non (by cases neg <;> rfl)) fun σ c e r hh he hr nb => by
    have hr : tOf ((evalX S.P cf ma e c.h).bind (isnX neg)) = r := hr
    show tX S cf ma σ c.H (fun x H1 => rIsn neg x .non H1 fun z H' => ∃ k, z = .bl k ∧ ∃ c', r = .ok k c'.h ∧ c'.H = H' ∧ Gr c c' ∧ Held S c')
    refine tX.mk hh he (tOf_bind' hr) nb fun x c1 v g1 hh1 he1 rx h1 => ?_
    rw [isnX_eq rx] at h1
    exact ⟨rfl, _, rfl, c1, h1.symm, rfl, g1, hh1⟩
/-- is True, is False -/
def rIsb (neg : Bool) : R2 := fun x y H Q => ∃ a b : Bool, x = .bl a ∧ y = .bl b ∧ Q (.bl (if neg = true then !decide (a = b) else decide (a = b))) H
theorem op_isb (neg : Bool) : OpR X (compareOp (if neg = true then .IsNot else .Is)) (rIsb neg) := by
  cases neg with
  | true => exact op_notBl
  | false => exact op_isBl
theorem px_isb (neg t : Bool) {j : Nat} {p1 : Pos} (ha : PX X S cf a ma) : PX X S cf (.Compare a [if neg = true then .IsNot else .Is] [.Constant (.bool t) j p1] pos) (.isb neg ma t) :=
  px_of (pe_cmpR (op_isb neg) ha.pe pe_bl (by cases neg <;> rfl)) fun σ c e r hh he hr nb => by
    have hr : ((evalX S.P cf ma e c.h).bind fun x h => match x with
      | .d (.bl c) => .ok (.d (.bl (if neg = true then !decide (c = t) else decide (c = t)))) h
      | _ => .bad) = r := hr
    refine tX.mk hh he hr nb fun x c1 v g1 hh1 he1 rx h1 => ?_
    cases x with
    | d d =>
      cases d with
      | bl q =>
        have rx : RepV S c1 (.bl q) v := rx
        cases rx
        exact ⟨q, t, rfl, rfl, .of g1 hh1 (.d (.bl _)) h1⟩
      | _ => exact absurd h1.symm nb
    | _ => exact absurd h1.symm nb
theorem ptx_isb (neg t : Bool) {j : Nat} {p1 : Pos} (ha : PX X S cf a ma) : PTX X S cf (.Compare a [if neg = true then .IsNot else .Is] [.Constant (.bool t) j p1] pos) (.isb neg ma t) :=
  ptx_of (pt_cmpR (op_isb neg) ha.pe pe_bl (by cases neg <;> rfl)) fun σ c e r hh he hr nb => by
    have hr : tOf ((evalX S.P cf ma e c.h).bind fun x h => match x with
      | .d (.bl c) => .ok (.d (.bl (if neg = true then !decide (c = t) else decide (c = t)))) h
      | _ => .bad) = r := hr
    show tX S cf ma σ c.H (fun x H1 => rIsb neg x (.bl t) H1 fun z H' => ∃ k, z = .bl k ∧ ∃ c', r = .ok k c'.h ∧ c'.H = H' ∧ Gr c c' ∧ Held S c')
    refine tX.mk hh he (tOf_bind' hr) nb fun x c1 v g1 hh1 he1 rx h1 => ?_
    cases x with
    | d d =>
      cases d with
      | bl q =>
        have rx : RepV S c1 (.bl q) v := rx
        cases rx
        exact ⟨q, t, rfl, rfl, _, rfl, c1, h1.symm, rfl, g1, hh1⟩
      | _ => exact absurd h1.symm nb
    | _ => exact absurd h1.symm nb

/-! ### chains -/
/-- an operation on results, in the layer's form -/
def rOf (S : Sx) (op : MP.X → MP.X → MH → Option MP.X) : R2 := fun x y H Q => ∃ (c0 c : Cf) (a b z : MP.X), c.H = H ∧ Held S c ∧ RepX S c0 c a x ∧ RepX S c0 c b y ∧ op a b c.h = some z ∧ ∀ v H', QX S c z c.h v H' → Q v H'
theorem OpX.r {f : Value → Value → Sem Value} {op : MP.X → MP.X → MH → Option MP.X} (h : OpX X S f op) : OpR X f (rOf S op) := by
  intro pins s σ H x y v u Q I rx ry ⟨c0, c, a, b, z, eH, hh, ra, rb, ho, k⟩
  subst eH
  refine thn (h pins s σ c0 c a b z x y v u I hh ra rx rb ry ho) fun u' s' ⟨c', v', I', e1, g, hh', rz, rv⟩ => ?_
  exact ⟨v', c'.H, I', rv, k v' c'.H ⟨c', rfl, e1, g, hh', rz⟩⟩
theorem chn_core {o1 o2 : COp} {e : Env} {h : MH} : evalX S.P cf (.chn o1 o2 ma mb md) e h = (evalX S.P cf ma e h).bind fun x h => (evalX S.P cf mb e h).bind fun y h => match cmpX o1 x y h with
    | some true => (evalX S.P cf md e h).bind fun z h => .ofO ((cmpX o2 y z h).map fun c => .d (.bl c)) h
    | some false => .ok (.d (.bl false)) h
    | none => .bad := rfl
theorem px_chn (C : Ctx X S k) (o1 o2 : COp) (ha : PX X S cf a ma) (hb : PX X S cf b mb) (hd : PX X S cf d md) (hm : lastMarks [cop o1, cop o2] [b, d] = false := by with_unfolding_all rfl) : PX X S cf (.Compare a [cop o1, cop o2] [b, d] pos) (.chn o1 o2 ma mb md) :=
  px_of (pe_chain (OpX.r (cmpX_ok C.K C.w C.un o1)) (OpX.r (cmpX_ok C.K C.w C.un o2)) ha.pe hb.pe hd.pe hm) fun σ c e r hh he hr nb => by
    rw [chn_core] at hr
    refine tX.mk hh he hr nb fun x c1 v g1 hh1 he1 rx h1 => tX.mk hh1 he1 h1 nb fun y c2 v2 g2 hh2 he2 ry h2 => ?_
    cases q : cmpX o1 x y c2.h with
    | none => rw [q] at h2; exact absurd h2.symm nb
    | some t =>
      rw [q] at h2
      refine ⟨c, c2, x, y, .d (.bl t), rfl, hh2, rx.mono g2, ry.back g1, by show (cmpX o1 x y c2.h).map _ = _; rw [q]; rfl, fun v' H' ⟨c3, eH, eh, g3, hh3, rz⟩ => ?_⟩
      have rz : RepV S c3 (.bl t) v' := rz.rx
      cases rz
      subst eH
      refine ⟨t, rfl, ?_⟩
      rw [← eh] at h2
      cases t with
      | false => exact .of (g1.trans (g2.trans g3)) hh3 (.d (.bl _)) h2
      | true =>
        rw [if_pos rfl]
        refine tX.mk hh3 (he2.mono g3) h2 nb fun z c4 v4 g4 hh4 he4 rz4 h4 => ?_
        obtain ⟨w, hw, er⟩ := ofO_ok h4 nb
        exact ⟨c1, c4, y, z, w, rfl, hh4, ry.mono (g3.trans g4), rz4.back (g2.trans g3), hw, fun v5 H5 q5 => .ofQ (g1.trans (g2.trans (g3.trans g4))) er.symm q5⟩
theorem ptx_chn (C : Ctx X S k) (o1 o2 : COp) (ha : PX X S cf a ma) (hb : PX X S cf b mb) (hd : PX X S cf d md) (hm : lastMarks [cop o1, cop o2] [b, d] = false := by with_unfolding_all rfl) : PTX X S cf (.Compare a [cop o1, cop o2] [b, d] pos) (.chn o1 o2 ma mb md) :=
  ptx_of (pt_chain (OpX.r (cmpX_ok C.K C.w C.un o1)) (OpX.r (cmpX_ok C.K C.w C.un o2)) ha.pe hb.pe hd.pe hm) fun σ c e r hh he hr nb => by
    rw [chn_core] at hr
    show tX S cf ma σ c.H (fun x H1 => tX S cf mb σ H1 fun y H2 => rOf S (cmpO o1) x y H2 fun z H3 => ∃ k, z = .bl k ∧ (if k = true then tX S cf md σ H3 fun w H4 => rOf S (cmpO o2) y w H4 fun z H' => ∃ k, z = .bl k ∧ ∃ c', r = .ok k c'.h ∧ c'.H = H' ∧ Gr c c' ∧ Held S c' else ∃ k', V.bl false = .bl k' ∧ ∃ c', r = .ok k' c'.h ∧ c'.H = H3 ∧ Gr c c' ∧ Held S c'))
    refine tX.mk hh he (tOf_bind' hr) nb fun x c1 v g1 hh1 he1 rx h1 => tX.mk hh1 he1 (tOf_bind' h1) nb fun y c2 v2 g2 hh2 he2 ry h2 => ?_
    cases q : cmpX o1 x y c2.h with
    | none => rw [q] at h2; exact absurd h2.symm nb
    | some t =>
      rw [q] at h2
      refine ⟨c, c2, x, y, .d (.bl t), rfl, hh2, rx.mono g2, ry.back g1, by show (cmpX o1 x y c2.h).map _ = _; rw [q]; rfl, fun v' H' ⟨c3, eH, eh, g3, hh3, rz⟩ => ?_⟩
      have rz : RepV S c3 (.bl t) v' := rz.rx
      cases rz
      subst eH
      refine ⟨t, rfl, ?_⟩
      rw [← eh] at h2
      cases t with
      | false => exact ⟨false, rfl, c3, h2.symm, rfl, g1.trans (g2.trans g3), hh3⟩
      | true =>
        rw [if_pos rfl]
        refine tX.mk hh3 (he2.mono g3) (tOf_bind' h2) nb fun z c4 v4 g4 hh4 he4 rz4 h4 => ?_
        have h4 : tOf (Res.ofO ((cmpX o2 y z c4.h).map fun c => .d (.bl c)) c4.h) = r := h4
        cases q2 : cmpX o2 y z c4.h with
        | none => rw [q2] at h4; exact absurd h4.symm nb
        | some t2 =>
          rw [q2] at h4
          refine ⟨c1, c4, y, z, .d (.bl t2), rfl, hh4, ry.mono (g3.trans g4), rz4.back (g2.trans g3), by show (cmpX o2 y z c4.h).map _ = _; rw [q2]; rfl, fun v5 H5 ⟨c5, eH5, eh5, g5, hh5, rz5⟩ => ?_⟩
          have rz5 : RepV S c5 (.bl t2) v5 := rz5.rx
          cases rz5
          refine ⟨t2, rfl, c5, ?_, eH5, g1.trans (g2.trans (g3.trans (g4.trans g5))), hh5⟩
          rw [eh5]
          exact h4.symm

/-! ### subscripts -/
theorem atD_atI {xs : List D} {i : Int} {x : D} (h : atD xs i = some x) : ∃ j, ixN xs.length i = some j ∧ xs[j]? = some x := by
  unfold atD at h
  split at h
  · rename_i h0
    obtain ⟨l, _⟩ := List.getElem?_eq_some_iff.mp h
    refine ⟨i.toNat, ?_, h⟩
    unfold ixN
    rw [if_pos h0, if_pos (by omega)]
  · rename_i h0
    split at h
    · rename_i h1
      refine ⟨((xs.length : Int) + i).toNat, ?_, h⟩
      unfold ixN
      rw [if_neg h0, if_pos (by omega), Int.add_comm]
    · cases h
theorem atI_of {α : Type} {vs : List α} {i : Int} {j : Nat} {v : α} (h1 : ixN vs.length i = some j) (h2 : vs[j]? = some v) : atI vs i = some v := by
  unfold atI
  rw [h1]
  exact h2
def rIxX (S : Sx) : R2 := fun x y H Q => ∃ (c0 c : Cf) (a : MP.X) (b z : D), c.H = H ∧ Held S c ∧ RepX S c0 c a x ∧ RepV S c b y ∧ ixX a b c.h = some z ∧ ∀ v, RepV S c z v → Q v H
theorem ix_any (C : Ctx X S k) : IxR X (rIxX S) := by
  intro value slice pins s σ H x y v u Q I rx ry h hs
  obtain ⟨c0, c, a, b, z, eH, hh, ra, rb, hz, q⟩ := h
  subst eH
  unfold ixX at hz
  cases n1 : norm a c.h with
  | none => rw [n1] at hz; cases hz
  | some da =>
    rw [n1] at hz
    have r1 := norm_rep hh ra n1
    have hz : ixD da b = some z := hz
    unfold ixD at hz
    split at hz
    · rename_i xs i _
      obtain ⟨p, vs, rfl, sq, rs⟩ := r1.tup C.K
      cases rb
      obtain ⟨j, e1, e2⟩ := atD_atI hz
      obtain ⟨w, hw, rw'⟩ := rs.get e2
      exact ix_tup value slice pins s σ c.H _ _ v u Q I rx ry ⟨p, vs, i, w, rfl, rfl, sq, atI_of (by rw [rs.length]; exact e1) hw, q w rw'⟩ hs
    · rename_i xs i _
      obtain ⟨p, vs, rfl, sq, rs⟩ := r1
      cases rb
      obtain ⟨j, e1, e2⟩ := atD_atI hz
      obtain ⟨w, hw, rw'⟩ := rs.get e2
      exact ix_list value slice pins s σ c.H _ _ v u Q I rx ry ⟨p, vs, i, w, rfl, rfl, .of sq, atI_of (by rw [rs.length]; exact e1) hw, q w rw'⟩ hs
    · rename_i xs i _
      have r1 : RepV S c (.rol xs) x := r1
      cases r1 with
      | rol hq rs =>
        cases rb
        obtain ⟨j, e1, e2⟩ := atD_atI hz
        obtain ⟨w, hw, rw'⟩ := rs.get e2
        exact ix_list value slice pins s σ c.H _ _ v u Q I rx ry ⟨_, _, i, w, rfl, rfl, hq.imp (fun h => h.1) (fun h => C.K ▸ h), atI_of (by rw [rs.length]; exact e1) hw, q w rw'⟩ hs
    · rename_i t i _
      split at hz
      · rename_i hl
        obtain ⟨w, rfl, ew⟩ := r1.str
        cases rb
        obtain ⟨j, e1, e2⟩ := atD_atI hz
        have lc : (chars t).length = t.length := by simp [chars]
        have hc : ∃ q0, t[j]? = some q0 ∧ z = .str [q0] := by
          unfold chars at e2
          rw [List.getElem?_map] at e2
          cases g : t[j]? with
          | none => rw [g] at e2; cases e2
          | some q0 => rw [g] at e2; cases e2; exact ⟨q0, rfl, rfl⟩
        obtain ⟨q0, hq, rfl⟩ := hc
        have l2 := strLen ew
        have := maxl
        exact ix_str value slice pins s σ c.H _ _ v u Q I rx ry ⟨w, i, q0, rfl, rfl, by rw [l2]; omega, atI_of (by rw [ew, ← lc]; exact e1) (by rw [ew]; exact hq), q _ (.str _ _ rfl)⟩ hs
      · cases hz
    · rename_i kvs kk _
      split at hz
      · rename_i ok
        obtain ⟨p, es, rfl, hD, ⟨hsm, ap⟩, rk⟩ := r1
        cases rx
        obtain ⟨nk, hk, hd⟩ := okKey_some ok
        obtain ⟨xs, o, ep, kr, _, raw⟩ := raw_of C.K I hD ap rk
        have kh : KeyHere s.heap nk u := ⟨rb.nested C.K I _ _ _ _ hk ry, hd⟩
        rcases look_rel hk kr with ⟨h1, h2⟩ | ⟨x', vv, uu, h1, h2, h3, h4⟩
        · rw [h1] at hz; cases hz
        · rw [h1] at hz
          cases hz
          refine tail_any raw.typeIs F.slot_dict_getitem.lookup (item_any (w := X.w) (by have := C.un; omega) kh (C.w ▸ raw) h2 ⟨vv, c.H, I.tok _, h4, q vv h3⟩) hs
      · cases hz
    · cases hz
end
end MP

/-! MP14: subscripts, slices, built-in functions of one value. -/
namespace MP
open PySem PySem.Spec PyProof.Rows L2 Dk
section
variable {X : Cx} {S : Sx} {cf : CF} {k : Nat} {pos p : Pos} {a b d lo hi : Expr} {ma mb md ml mh : ME}

theorem px_ix (C : Ctx X S k) (ha : PX X S cf a ma) (hb : PX X S cf b mb) (hs : PlainIx b := by exact fun _ _ => rfl) : PX X S cf (.Subscript a b pos) (.ix ma mb) := px_of (pe_ix (ix_any C) ha.pe hb.pe hs) fun σ c e r hh he hr nb => by
  have hr : ((evalX S.P cf ma e c.h).bind fun x h => (evalX S.P cf mb e h).bind fun y h => match y.toV with
    | some k => .ofO ((ixX x k h).map .d) h
    | none => .bad) = r := hr
  refine tX.mk hh he hr nb fun x c1 v g1 hh1 he1 rx h1 => tX.mk hh1 he1 h1 nb fun y c2 v2 g2 hh2 he2 ry h2 => ?_
  cases q : y.toV with
  | none => rw [q] at h2; exact absurd h2.symm nb
  | some kk =>
    rw [q] at h2
    obtain ⟨z, hz, er⟩ := ofO_ok h2 nb
    obtain ⟨w, hw, rfl⟩ := Option.map_eq_some_iff.mp hz
    exact ⟨c, c2, x, kk, w, rfl, hh2, rx.mono g2, ry.toV q, hw, fun v3 r3 => .of (g1.trans g2) hh2 (.d r3) er.symm⟩

/-! ### slices -/
theorem cut_ix {n d : Nat} {o : Option Int} : HT.sIx n d o = cutN n d o := by
  cases o with
  | none => rfl
  | some i => rfl
theorem cut_rep {c : Cf} {xs : List D} {vs : List V} (r : RepVs S c xs vs) (lo hi : Option Int) : RepVs S c (cutL xs (cutN xs.length 0 lo) (cutN xs.length xs.length hi)) (cutV vs lo hi) := by
  unfold cutL cutV
  rw [r.length, cut_ix, cut_ix]
  exact (r.drop _).take _
def rSlX (S : Sx) : V → Option Int → Option Int → Hp → VK → Prop := fun x lo hi H Q => ∃ (c0 c : Cf) (a z : MP.X), c.H = H ∧ Held S c ∧ RepX S c0 c a x ∧ slX a lo hi c.h = some z ∧ ∀ w H', QX S c z c.h w H' → Q w H'
theorem sl_any (C : Ctx X S k) : SlR X (rSlX S) := by
  intro pins s σ H x v vl vu lo hi sl Q I rx hs pl pu h
  obtain ⟨c0, c, a, z, eH, hh, ra, hz, q⟩ := h
  subst eH
  unfold slX at hz
  cases n1 : norm a c.h with
  | none => rw [n1] at hz; cases hz
  | some da =>
    rw [n1] at hz
    have r1 := norm_rep hh ra n1
    cases da with
    | tup xs =>
      cases hz
      obtain ⟨p, vs, rfl, sq, rs⟩ := r1.tup C.K
      refine sl_tupA pins s σ c.H _ v vl vu lo hi sl Q I rx hs pl pu ⟨p, vs, rfl, sq, fun hw => ?_, fun _ p' hp' => ?_⟩
      · rw [rs.length, cut_ix, cut_ix] at hw
        obtain ⟨e1, e2⟩ := hw
        refine q _ _ (.here hh ?_)
        rw [e1, e2]
        have e3 : cutL xs 0 xs.length = xs := by unfold cutL; simp
        rw [e3]
        exact (show RepV S c (.tup xs) (.ref p) from r1)
      · exact q _ _ (.newT hh (cut_rep rs lo hi) p' hp')
    | lst xs =>
      cases hz
      obtain ⟨p, vs, rfl, sq, rs⟩ := r1
      exact sl_list pins s σ c.H _ v vl vu lo hi sl Q I rx hs pl pu ⟨p, vs, rfl, .of sq, fun p' hp' => q _ _ (.newL hh (cut_rep rs lo hi) p' hp')⟩
    | str t =>
      have hz : (if t.length ≤ MAXL then some (MP.X.d (.str (cutL t (cutN t.length 0 lo) (cutN t.length t.length hi)))) else none) = some z := hz
      split at hz
      · rename_i hl
        cases hz
        obtain ⟨y, rfl, ey⟩ := r1.str
        have l2 := strLen ey
        have := maxl
        refine sl_str pins s σ c.H _ v vl vu lo hi sl Q I rx hs pl pu ⟨y, rfl, by rw [l2]; omega, q _ _ (.here hh (.str _ _ ?_))⟩
        show (((y.cps.toList.drop (HT.sIx y.length 0 lo)).take (HT.sIx y.length y.length hi - HT.sIx y.length 0 lo)).toArray).toList = _
        rw [l2, cut_ix, cut_ix, ey]
        rfl
      · cases hz
    | _ => cases hz
theorem sl_ev {e : Env} {h : MH} : evalX S.P cf (.sl ma ml mh) e h = (evalX S.P cf ma e h).bind fun x h => (evalX S.P cf ml e h).bind fun y h => match slP ml y with
    | some l => (evalX S.P cf mh e h).bind fun z h => match slP mh z with
      | some u => .ofO (slX x l u h) h
      | none => .bad
    | none => .bad := rfl
theorem part_int {c0 c : Cf} {y : MP.X} {v : V} {l : Option Int} (hn : ml.isNon = false) (h : slP ml y = some l) (ry : RepX S c0 c y v) : ∃ i, v = .int i ∧ l = some i := by
  unfold slP at h
  rw [hn, if_neg Bool.false_ne_true] at h
  cases y with
  | d u =>
    cases u with
    | int i =>
      cases h
      have ry : RepV S c (.int i) v := ry
      cases ry
      exact ⟨i, rfl, rfl⟩
    | _ => cases h
  | _ => cases h
theorem sl_end {c0 c3 : Cf} {x : MP.X} {vx : V} {r : Res MP.X} {lo hi : Option Int} (g : Gr c0 c3) (hh : Held S c3) (rx : RepX S c0 c3 x vx) (nb : r ≠ .bad)
    (h : Res.ofO (slX x lo hi c3.h) c3.h = r) : rSlX S vx lo hi c3.H (Ok S c0 r) := by
  obtain ⟨t, ht, er⟩ := ofO_ok h nb
  exact ⟨c0, c3, x, t, rfl, hh, rx, ht, fun w' H' q => .ofQ g er.symm q⟩
theorem px_sl00 (C : Ctx X S k) {p2 : Pos} (ha : PX X S cf a ma) : PX X S cf (.Subscript a (.Slice none none none p2) pos) (.sl ma .non .non) := px_of (pe_slice (sl_any C) ha.pe po_none po_none) fun σ c e r hh he hr nb => by
  rw [sl_ev] at hr
  exact tX.mk hh he hr nb fun x c1 v g1 hh1 he1 rx h1 => sl_end g1 hh1 rx nb h1
theorem px_sl10 (C : Ctx X S k) {p2 : Pos} (ha : PX X S cf a ma) (hl : PX X S cf lo ml) (nl : ml.isNon = false := by rfl) : PX X S cf (.Subscript a (.Slice (some lo) none none p2) pos) (.sl ma ml .non) := px_of (pe_slice (sl_any C) ha.pe (po_some hl.pe) po_none) fun σ c e r hh he hr nb => by
  rw [sl_ev] at hr
  refine tX.mk hh he hr nb fun x c1 v g1 hh1 he1 rx h1 => tX.mk hh1 he1 h1 nb fun y c2 v2 g2 hh2 he2 ry h2 => ?_
  cases q : slP ml y with
  | none => rw [q] at h2; exact absurd h2.symm nb
  | some l =>
    rw [q] at h2
    obtain ⟨i, rfl, rfl⟩ := part_int nl q ry
    exact ⟨i, rfl, sl_end (g1.trans g2) hh2 (rx.mono g2) nb h2⟩
theorem px_sl01 (C : Ctx X S k) {p2 : Pos} (ha : PX X S cf a ma) (hu : PX X S cf hi mh) (nu : mh.isNon = false := by rfl) : PX X S cf (.Subscript a (.Slice none (some hi) none p2) pos) (.sl ma .non mh) := px_of (pe_slice (sl_any C) ha.pe po_none (po_some hu.pe)) fun σ c e r hh he hr nb => by
  rw [sl_ev] at hr
  refine tX.mk hh he hr nb fun x c1 v g1 hh1 he1 rx h1 => ?_
  have h1 : ((evalX S.P cf mh e c1.h).bind fun z h => match slP mh z with
      | some u => .ofO (slX x none u h) h
      | none => .bad) = r := h1
  show tX S cf mh σ c1.H (fun x H' => ∃ i, x = .int i ∧ rSlX S v none (some i) H' (Ok S c r))
  refine tX.mk hh1 he1 h1 nb fun y c2 v2 g2 hh2 he2 ry h2 => ?_
  cases q : slP mh y with
  | none => rw [q] at h2; exact absurd h2.symm nb
  | some l =>
    rw [q] at h2
    obtain ⟨i, rfl, rfl⟩ := part_int nu q ry
    exact ⟨i, rfl, sl_end (g1.trans g2) hh2 (rx.mono g2) nb h2⟩
theorem px_sl11 (C : Ctx X S k) {p2 : Pos} (ha : PX X S cf a ma) (hl : PX X S cf lo ml) (hu : PX X S cf hi mh) (nl : ml.isNon = false := by rfl) (nu : mh.isNon = false := by rfl) : PX X S cf (.Subscript a (.Slice (some lo) (some hi) none p2) pos) (.sl ma ml mh) := px_of (pe_slice (sl_any C) ha.pe (po_some hl.pe) (po_some hu.pe)) fun σ c e r hh he hr nb => by
  rw [sl_ev] at hr
  refine tX.mk hh he hr nb fun x c1 v g1 hh1 he1 rx h1 => tX.mk hh1 he1 h1 nb fun y c2 v2 g2 hh2 he2 ry h2 => ?_
  cases q : slP ml y with
  | none => rw [q] at h2; exact absurd h2.symm nb
  | some l =>
    rw [q] at h2
    obtain ⟨i, rfl, rfl⟩ := part_int nl q ry
    refine ⟨i, rfl, tX.mk hh2 he2 h2 nb fun z c3 v3 g3 hh3 he3 rz h3 => ?_⟩
    cases q2 : slP mh z with
    | none => rw [q2] at h3; exact absurd h3.symm nb
    | some l2 =>
      rw [q2] at h3
      obtain ⟨j, rfl, rfl⟩ := part_int nu q2 rz
      exact ⟨j, rfl, sl_end (g1.trans (g2.trans g3)) hh3 (rx.mono (g2.trans g3)) nb h3⟩

/-! ### built-in functions and types of one value -/
theorem px_b1B {n : Str} {id : String} {f : B1} {r : List V → Hp → VK → Prop} (hc : CallR X (.builtin id) r) (hg : Gl X n) (hm : X.mg n = none) (hv : bootBuiltins n = some (.builtin id))
    (hf : ∀ e h, evalX S.P cf (.b1 f ma) e h = (evalX S.P cf ma e h).bind fun x h => .ofO (b1X f x h) h) (key : ∀ c0 c x z v, Held S c → RepX S c0 c x v → b1X f x c.h = some z → r [v] c.H (QX S c z c.h)) (mono : ∀ vs H Q Q', (∀ v H', Q v H' → Q' v H') → r vs H Q → r vs H Q') (ha : PX X S cf a ma)
    (hn : n ≠ "__name__" := by decide) (hdb : (n == ("__debug__" : Str)) = false := by decide) (he : starEach [a] X.env = (false, eval a X.env) :: starEach [] X.env := by rfl) : PX X S cf (.Call (.Name n p) [a] [] pos) (.b1 f ma) :=
  px_of (pe_callB hc hg hm hv (pa_cons ha.pe pa_nil he) hn hdb he rfl) fun σ c e rr hh he' hr nb => by
    rw [hf] at hr
    refine tX.mk hh he' hr nb fun x c1 v g1 hh1 he1 rx h1 => ?_
    obtain ⟨z, hz, er⟩ := ofO_ok h1 nb
    exact mono _ _ _ _ (fun v' H' q => .ofQ g1 er.symm q) (key c c1 x z v hh1 rx hz)
theorem px_b1T {n : Str} {T : String} {f : B1} {r : List V → Hp → VK → Prop} (hc : CallR X (.type T) r) (hg : Gl X n) (hm : X.mg n = none) (hv : bootBuiltins n = some (.type T))
    (hf : ∀ e h, evalX S.P cf (.b1 f ma) e h = (evalX S.P cf ma e h).bind fun x h => .ofO (b1X f x h) h) (key : ∀ c0 c x z v, Held S c → RepX S c0 c x v → b1X f x c.h = some z → r [v] c.H (QX S c z c.h)) (mono : ∀ vs H Q Q', (∀ v H', Q v H' → Q' v H') → r vs H Q → r vs H Q') (ha : PX X S cf a ma)
    (hn : n ≠ "__name__" := by decide) (hdb : (n == ("__debug__" : Str)) = false := by decide) (he : starEach [a] X.env = (false, eval a X.env) :: starEach [] X.env := by rfl) : PX X S cf (.Call (.Name n p) [a] [] pos) (.b1 f ma) :=
  px_of (pe_callTy hc hg hm hv (pa_cons ha.pe pa_nil he) hn hdb he rfl) fun σ c e rr hh he' hr nb => by
    rw [hf] at hr
    refine tX.mk hh he' hr nb fun x c1 v g1 hh1 he1 rx h1 => ?_
    obtain ⟨z, hz, er⟩ := ofO_ok h1 nb
    exact mono _ _ _ _ (fun v' H' q => .ofQ g1 er.symm q) (key c c1 x z v hh1 rx hz)
/-- any such function, by a rule of our own -/
def CallX (X : Cx) (S : Sx) (fn : Value) (g : MP.X → MH → Option MP.X) : Prop :=
  ∀ (pins : List (Addr × Obj)) (s : Shared) (σ : L2.St) (c0 c : Cf) (x z : MP.X) (v : V) (u : Value), Inv X pins σ c.H s → Held S c → RepX S c0 c x v → RelV v u → g x c.h = some z →
    wpAny (model X.prog X.w) X.A (call fn [u]) (EP X pins σ (QX S c z c.h)) X.xe s
def rCall (S : Sx) (g : MP.X → MH → Option MP.X) : List V → Hp → VK → Prop := fun vs H Q => ∃ (c0 c : Cf) (x z : MP.X) (v : V), vs = [v] ∧ c.H = H ∧ Held S c ∧ RepX S c0 c x v ∧ g x c.h = some z ∧ ∀ v' H', QX S c z c.h v' H' → Q v' H'
theorem CallX.r {fn : Value} {g : MP.X → MH → Option MP.X} (h : CallX X S fn g) : CallR X fn (rCall S g) := by
  intro pins s σ H vs us Q I r ⟨c0, c, x, z, v, ev, eH, hh, rx, hz, q⟩
  subst ev; subst eH
  obtain ⟨u, rfl, ru⟩ := vals1 r
  exact thn (h pins s σ c0 c x z v u I hh rx ru hz) fun u' s' ⟨v', H', I', r', q'⟩ => ⟨v', H', I', r', q v' H' q'⟩
theorem px_fB {n : Str} {id : String} {f : B1} (hc : CallX X S (.builtin id) (b1X f)) (hm : X.mg n = none) (hv : bootBuiltins n = some (.builtin id)) (ha : PX X S cf a ma)
    (hf : ∀ e h, evalX S.P cf (.b1 f ma) e h = (evalX S.P cf ma e h).bind fun x h => .ofO (b1X f x h) h := by intro _ _; rfl)
    (hg : Gl X n := by rfl) (hn : n ≠ "__name__" := by decide) (hdb : (n == ("__debug__" : Str)) = false := by decide) (he : starEach [a] X.env = (false, eval a X.env) :: starEach [] X.env := by rfl) : PX X S cf (.Call (.Name n p) [a] [] pos) (.b1 f ma) :=
  px_b1B hc.r hg hm hv hf (fun c0 c x z v hh rx hz => ⟨c0, c, x, z, v, rfl, rfl, hh, rx, hz, fun _ _ q => q⟩) (fun vs H Q Q' k ⟨c0, c, x, z, v, h1, h2, h3, h4, h5, h6⟩ => ⟨c0, c, x, z, v, h1, h2, h3, h4, h5, fun v' H' q => k v' H' (h6 v' H' q)⟩) ha hn hdb he
theorem px_fT {n : Str} {T : String} {f : B1} (hc : CallX X S (.type T) (b1X f)) (hm : X.mg n = none) (hv : bootBuiltins n = some (.type T)) (ha : PX X S cf a ma)
    (hf : ∀ e h, evalX S.P cf (.b1 f ma) e h = (evalX S.P cf ma e h).bind fun x h => .ofO (b1X f x h) h := by intro _ _; rfl)
    (hg : Gl X n := by rfl) (hn : n ≠ "__name__" := by decide) (hdb : (n == ("__debug__" : Str)) = false := by decide) (he : starEach [a] X.env = (false, eval a X.env) :: starEach [] X.env := by rfl) : PX X S cf (.Call (.Name n p) [a] [] pos) (.b1 f ma) :=
  px_b1T hc.r hg hm hv hf (fun c0 c x z v hh rx hz => ⟨c0, c, x, z, v, rfl, rfl, hh, rx, hz, fun _ _ q => q⟩) (fun vs H Q Q' k ⟨c0, c, x, z, v, h1, h2, h3, h4, h5, h6⟩ => ⟨c0, c, x, z, v, h1, h2, h3, h4, h5, fun v' H' q => k v' H' (h6 v' H' q)⟩) ha hn hdb he
end
end MP

/-! MP15: the built-in functions. -/
namespace MP
open PySem PySem.Spec PyProof.Rows L2 Dk
section
variable {X : Cx} {S : Sx} {cf : CF} {k : Nat} {pos p : Pos} {a b d : Expr} {ma mb : ME}
theorem CallX.of {fn : Value} {g : MP.X → MH → Option MP.X} {r : List V → Hp → VK → Prop} (hc : CallR X fn r) (key : ∀ c0 c x z v, Held S c → RepX S c0 c x v → g x c.h = some z → r [v] c.H (QX S c z c.h)) : CallX X S fn g := by
  intro pins s σ c0 c x z v u I hh rx ru hz
  exact hc pins s σ c.H [v] [u] _ I (.cons ru .nil) (key c0 c x z v hh rx hz)
theorem cx_len (C : Ctx X S k) : CallX X S (.builtin "len") (b1X .len) := .of call_len fun c0 c x z v hh rx hz => by
  have hz : (lenX x c.h).map (fun (n : Nat) => MP.X.d (.int (n : Int))) = some z := hz
  obtain ⟨n, hn, rfl⟩ := Option.map_eq_some_iff.mp hz
  unfold lenX at hn
  cases q : norm x c.h with
  | none => rw [q] at hn; cases hn
  | some d =>
    rw [q] at hn
    have r := norm_rep hh rx q
    cases d with
    | str s =>
      have hn : (if s.length ≤ MAXL then some s.length else none) = some n := hn
      split at hn
      · cases hn
        obtain ⟨y, rfl, e⟩ := r.str
        have := maxl
        exact ⟨_, y.length, rfl, ⟨by rw [strLen e]; omega, rfl⟩, by rw [strLen e]; exact .here hh (.int _)⟩
      · cases hn
    | tup xs =>
      cases hn
      obtain ⟨p, vs, rfl, sq, rs⟩ := r.tup C.K
      exact ⟨_, vs.length, rfl, .inr ⟨vs, sq, rfl⟩, by rw [rs.length]; exact .here hh (.int _)⟩
    | lst xs =>
      cases hn
      obtain ⟨p, vs, rfl, sq, rs⟩ := r
      exact ⟨_, vs.length, rfl, .inl ⟨vs, .of sq, rfl⟩, by rw [rs.length]; exact .here hh (.int _)⟩
    | rol xs =>
      cases hn
      have r : RepV S c (.rol xs) v := r
      cases r with
      | rol hq rs => exact ⟨_, _, rfl, .inl ⟨_, hq.imp (fun h => h.1) (fun h => C.K ▸ h), rfl⟩, by rw [rs.length]; exact .here hh (.int _)⟩
    | _ => cases hn
theorem cx_abs : CallX X S (.builtin "abs") (b1X .abs) := .of call_abs fun c0 c x z v hh rx hz => by
  have hz : absX x = some z := hz
  cases x with
  | d d =>
    cases d with
    | int i =>
      cases hz
      have rx : RepV S c (.int i) v := rx
      cases rx
      exact ⟨i, rfl, .here hh (.int _)⟩
    | _ => cases hz
  | _ => cases hz
theorem cx_int : CallX X S (.type "int") (b1X .int) := by
  intro pins s σ c0 c x z v u I hh rx ru hz
  have hz : intX x = some z := hz
  cases x with
  | d d =>
    cases d with
    | bl t =>
      cases hz
      have rx : RepV S c (.bl t) v := rx
      cases rx
      exact call_int1 pins s σ c.H [_] [u] _ I (.cons ru .nil) (.inr ⟨t, rfl, .here hh (.int _)⟩)
    | int i =>
      cases hz
      have rx : RepV S c (.int i) v := rx
      cases rx
      exact call_int1 pins s σ c.H [_] [u] _ I (.cons ru .nil) (.inl ⟨i, rfl, .here hh (.int _)⟩)
    | str t =>
      have hz : (if t.length ≤ 640 then (PySem.intText? ⟨t.toArray⟩).map (fun i => MP.X.d (.int i)) else none) = some z := hz
      split at hz
      · rename_i hl
        obtain ⟨i, hi, rfl⟩ := Option.map_eq_some_iff.mp hz
        obtain ⟨y, rfl, e⟩ := RepN.str (show RepN S c (.str t) v from rx)
        rw [← str_eq e] at hi
        exact call_int_str pins s σ c.H [_] [u] _ I (.cons ru .nil) ⟨y, i, rfl, hi, by rw [strLen e]; exact hl, .here hh (.int _)⟩
      · cases hz
    | _ => cases hz
  | _ => cases hz
theorem cx_str : CallX X S (.type "str") (b1X .str) := by
  intro pins s σ c0 c x z v u I hh rx ru hz
  have hz : strX x = some z := hz
  cases x with
  | d d =>
    cases d with
    | int i =>
      have hz : (if i.natAbs.log2 < 1920 then some (MP.X.d (.str (strOfInt i))) else none) = some z := hz
      split at hz
      · rename_i hl
        cases hz
        have rx : RepV S c (.int i) v := rx
        cases rx
        exact call_str_int pins s σ c.H [_] [u] _ I (.cons ru .nil) ⟨i, rfl, hl, .here hh (.str _ _ rfl)⟩
      · cases hz
    | str t =>
      cases hz
      obtain ⟨y, rfl, e⟩ := RepN.str (show RepN S c (.str t) v from rx)
      exact SkE.call_str_str pins s σ c.H [_] [u] _ I (.cons ru .nil) ⟨y, rfl, .here hh (.str _ _ e)⟩
    | bl b =>
      cases hz
      have rx : RepV S c (.bl b) v := rx
      cases rx
      exact Bo.call_str_bool pins s σ c.H [_] [u] _ I (.cons ru .nil) ⟨b, rfl, .here hh (.str _ _ (by cases b <;> decide))⟩
    | _ => cases hz
  | _ => cases hz
theorem ints_rep {c : Cf} : ∀ {xs : List D} {vs : List V} {is : List Int}, intsOf xs = some is → RepVs S c xs vs → vs = is.map V.int
  | [], _, is, h, .nil => by cases h; rfl
  | x :: r, _, is, h, .cons r1 r2 => by
    cases x with
    | int i =>
      obtain ⟨js, hj, rfl⟩ := Option.map_eq_some_iff.mp (show (intsOf r).map (i :: ·) = some is from h)
      cases r1
      rw [ints_rep hj r2]
      rfl
    | _ => cases h
theorem bls_rep {c : Cf} : ∀ {xs : List D} {vs : List V} {is : List Bool}, blsOf xs = some is → RepVs S c xs vs → vs = is.map V.bl
  | [], _, is, h, .nil => by cases h; rfl
  | x :: r, _, is, h, .cons r1 r2 => by
    cases x with
    | bl i =>
      obtain ⟨js, hj, rfl⟩ := Option.map_eq_some_iff.mp (show (blsOf r).map (i :: ·) = some is from h)
      cases r1
      rw [bls_rep hj r2]
      rfl
    | _ => cases h
theorem norm_lst {c0 c : Cf} {x : MP.X} {v : V} {xs : List D} (hh : Held S c) (rx : RepX S c0 c x v) (h : norm x c.h = some (.lst xs)) : ∃ p vs, v = .ref p ∧ c.H p = some (.lst vs) ∧ RepVs S c xs vs := norm_rep hh rx h
theorem cx_all (C : Ctx X S k) : CallX X S (.builtin "all") (b1X .all) := .of (cr_all C.calm) fun c0 c x z v hh rx hz => by
  have hz : allX x c.h = some z := hz
  unfold allX at hz
  split at hz
  · rename_i xs hn
    obtain ⟨bs, hb, rfl⟩ := Option.map_eq_some_iff.mp hz
    obtain ⟨p, vs, rfl, hp, rs⟩ := norm_lst hh rx hn
    exact ⟨p, bs, rfl, by rw [← bls_rep hb rs]; exact .of hp, .here hh (.bl _)⟩
  · cases hz
theorem cx_any (C : Ctx X S k) : CallX X S (.builtin "any") (b1X .any) := .of (cr_any C.calm) fun c0 c x z v hh rx hz => by
  have hz : anyX x c.h = some z := hz
  unfold anyX at hz
  split at hz
  · rename_i xs hn
    obtain ⟨bs, hb, rfl⟩ := Option.map_eq_some_iff.mp hz
    obtain ⟨p, vs, rfl, hp, rs⟩ := norm_lst hh rx hn
    exact ⟨p, bs, rfl, by rw [← bls_rep hb rs]; exact .of hp, .here hh (.bl _)⟩
  · cases hz
theorem cx_sum (C : Ctx X S k) : CallX X S (.builtin "sum") (b1X .sum) := .of (cr_sum C.calm) fun c0 c x z v hh rx hz => by
  have hz : sumX x c.h = some z := hz
  unfold sumX at hz
  split at hz
  · rename_i xs hn
    obtain ⟨bs, hb, rfl⟩ := Option.map_eq_some_iff.mp hz
    obtain ⟨p, vs, rfl, hp, rs⟩ := norm_lst hh rx hn
    exact ⟨p, bs, rfl, by rw [← ints_rep hb rs]; exact .of hp, .here hh (.int _)⟩
  · cases hz
theorem foldl_max (r : List Int) : ∀ x : Int, x ≤ r.foldl max x ∧ (∀ y ∈ r, y ≤ r.foldl max x) ∧ (r.foldl max x = x ∨ r.foldl max x ∈ r) := by
  induction r with
  | nil => intro x; exact ⟨Int.le_refl _, by simp, .inl rfl⟩
  | cons y r ih =>
    intro x
    obtain ⟨h1, h2, h3⟩ := ih (max x y)
    rw [List.foldl_cons]
    refine ⟨by omega, fun z hz => ?_, ?_⟩
    · rcases List.mem_cons.mp hz with rfl | hz
      · omega
      · exact h2 z hz
    · rcases h3 with h3 | h3
      · rcases Int.le_total x y with l | l
        · exact .inr (by rw [h3, show max x y = y by omega]; exact List.mem_cons_self)
        · exact .inl (by rw [h3]; omega)
      · exact .inr (List.mem_cons_of_mem _ h3)
theorem foldl_min (r : List Int) : ∀ x : Int, r.foldl min x ≤ x ∧ (∀ y ∈ r, r.foldl min x ≤ y) ∧ (r.foldl min x = x ∨ r.foldl min x ∈ r) := by
  induction r with
  | nil => intro x; exact ⟨Int.le_refl _, by simp, .inl rfl⟩
  | cons y r ih =>
    intro x
    obtain ⟨h1, h2, h3⟩ := ih (min x y)
    rw [List.foldl_cons]
    refine ⟨by omega, fun z hz => ?_, ?_⟩
    · rcases List.mem_cons.mp hz with rfl | hz
      · omega
      · exact h2 z hz
    · rcases h3 with h3 | h3
      · rcases Int.le_total x y with l | l
        · exact .inl (by rw [h3]; omega)
        · exact .inr (by rw [h3, show min x y = y by omega]; exact List.mem_cons_self)
      · exact .inr (List.mem_cons_of_mem _ h3)
theorem cx_max (C : Ctx X S k) : CallX X S (.builtin "max") (b1X .max) := .of (cr_max C.calm) fun c0 c x z v hh rx hz => by
  have hz : maxX x c.h = some z := hz
  unfold maxX at hz
  split at hz
  · rename_i xs hn
    split at hz
    · rename_i is hb
      obtain ⟨i, hi, rfl⟩ := Option.map_eq_some_iff.mp hz
      obtain ⟨p, vs, rfl, hp, rs⟩ := norm_lst hh rx hn
      cases is with
      | nil => cases hi
      | cons y r =>
        cases hi
        obtain ⟨h1, h2, h3⟩ := foldl_max r y
        refine ⟨p, y :: r, rfl, by rw [← ints_rep hb rs]; exact .of hp, by simp, fun m hm hx => ?_⟩
        have e : m = r.foldl max y := by
          apply Int.le_antisymm
          · rcases List.mem_cons.mp hm with rfl | hm
            · exact h1
            · exact h2 m hm
          · apply hx
            rcases h3 with h3 | h3
            · rw [h3]; exact List.mem_cons_self
            · exact List.mem_cons_of_mem _ h3
        rw [e]
        exact .here hh (.int _)
    · cases hz
  · cases hz
theorem cx_min (C : Ctx X S k) : CallX X S (.builtin "min") (b1X .min) := .of (cr_min C.calm) fun c0 c x z v hh rx hz => by
  have hz : minX x c.h = some z := hz
  unfold minX at hz
  split at hz
  · rename_i xs hn
    split at hz
    · rename_i is hb
      obtain ⟨i, hi, rfl⟩ := Option.map_eq_some_iff.mp hz
      obtain ⟨p, vs, rfl, hp, rs⟩ := norm_lst hh rx hn
      cases is with
      | nil => cases hi
      | cons y r =>
        cases hi
        obtain ⟨h1, h2, h3⟩ := foldl_min r y
        refine ⟨p, y :: r, rfl, by rw [← ints_rep hb rs]; exact .of hp, by simp, fun m hm hx => ?_⟩
        have e : m = r.foldl min y := by
          apply Int.le_antisymm
          · apply hx
            rcases h3 with h3 | h3
            · rw [h3]; exact List.mem_cons_self
            · exact List.mem_cons_of_mem _ h3
          · rcases List.mem_cons.mp hm with rfl | hm
            · exact h1
            · exact h2 m hm
        rw [e]
        exact .here hh (.int _)
    · cases hz
  · cases hz
theorem cx_list (C : Ctx X S k) : CallX X S (.type "list") (b1X .list) := .of call_list_of fun c0 c x z v hh rx hz => by
  have hz : listX x c.h = some z := hz
  unfold listX at hz
  split at hz
  · rename_i xs hn
    cases hz
    obtain ⟨p, vs, rfl, hp, rs⟩ := norm_lst hh rx hn
    exact ⟨p, vs, rfl, .inl (.of hp), QX.newL hh rs⟩
  · rename_i xs hn
    cases hz
    obtain ⟨p, vs, rfl, sq, rs⟩ := (norm_rep hh rx hn).tup C.K
    exact ⟨p, vs, rfl, .inr sq, QX.newL hh rs⟩
  · cases hz
theorem cx_tuple (C : Ctx X S k) : CallX X S (.type "tuple") (b1X .tuple) := .of call_tuple_of fun c0 c x z v hh rx hz => by
  have hz : tupleX x c.h = some z := hz
  unfold tupleX at hz
  split at hz
  · rename_i xs hn
    cases hz
    obtain ⟨p, vs, rfl, hp, rs⟩ := norm_lst hh rx hn
    exact ⟨p, vs, rfl, .inl ⟨.of hp, QX.newT hh rs⟩⟩
  · rename_i xs hn
    cases hz
    have r := norm_rep hh rx hn
    obtain ⟨p, vs, rfl, sq, rs⟩ := r.tup C.K
    exact ⟨p, vs, rfl, .inr ⟨sq, .here hh (show RepV S c (.tup xs) _ from r)⟩⟩
  · cases hz
end
end MP

/-! MP16: repr; max, min of two; range. -/
namespace MP
open PySem PySem.Spec PyProof.Rows L2 Dk Rk
section
variable {X : Cx} {S : Sx} {cf : CF} {k : Nat} {pos p : Pos} {a b d : Expr} {ma mb : ME}

theorem reads_of (C : Ctx X S k) {pins : List (Addr × Obj)} {s : Shared} {σ : L2.St} {c : Cf} (I : Inv X pins σ c.H s) (d : D) (v : V) (u : Value) (h : d.sh = true) (r : RepV S c d v) (ru : RelV v u) : RdX s.heap u (toPD d) := reads_ofK C.K I d v u h r ru
theorem readsAll_of (C : Ctx X S k) {pins : List (Addr × Obj)} {s : Shared} {σ : L2.St} {c : Cf} (I : Inv X pins σ c.H s) (xs : List D) (vs : List V) (us : List Value) (h : shs xs = true) (r : RepVs S c xs vs) (ru : Vals vs us) : RdXs s.heap us (toPDs xs) := readsAll_ofK C.K I xs vs us h r ru
theorem readsKv_of (C : Ctx X S k) {pins : List (Addr × Obj)} {s : Shared} {σ : L2.St} {c : Cf} (I : Inv X pins σ c.H s) (kvs : List (D × D)) (es : List DictEntry) (h : shk kvs = true) (r : RepKs S c kvs es) : RdXs s.heap (es.map (·.key)) (kvs.map fun p => toPD p.1) ∧ RdXs s.heap (es.map (·.val)) (kvs.map fun p => toPD p.2) := readsKv_ofK C.K I kvs es h r
theorem cx_repr (C : Ctx X S k) : CallX X S (.builtin "repr") (b1X .repr) := by
  intro pins s σ c0 c x z v u I hh rx ru hz
  have hz : reprX x c.h = some z := hz
  unfold reprX at hz
  split at hz
  · rename_i d hn
    split at hz
    · rename_i hg
      obtain ⟨h1, h2, h3, h4⟩ := hg
      cases hz
      have rn := norm_rep hh rx hn
      have un := C.un
      have ml := maxl
      have fin : ∀ (y : Str) (h' : Heap) (u' : Tok) (tk : Nat), y = (toPD d).shown → (∀ b o, s.heap.get? b = some o → h'.get? b = some o) → EP X pins σ (QX S c (.d (.str (reprD d))) c.h) (.str y u') { s with heap := h', toks := tk } := fun y h' u' tk e hk =>
        ⟨.str y, c.H, I.kept hk, ⟨u', rfl⟩, .here hh (.str _ _ (by rw [e]; rfl))⟩
      have hsz : (toPD d).shown.length ≤ sizeLine := by
        have e : (toPD d).shown.length = (reprD d).length := by
          unfold reprD
          simp [Str.length]
        omega
      have byRef : ∀ {q : Addr}, u = .ref q → RdX s.heap (.ref q) (toPD d) → wpAny (model X.prog X.w) X.A (call (.builtin "repr") [u]) (EP X pins σ (QX S c (.d (.str (reprD d))) c.h)) X.xe s := fun {q} eu ra => by
        subst eu
        exact repr_x ra h2 hsz C.gd (by omega) fun h' u' tk hk => fin _ h' u' tk rfl hk
      cases d with
      | non =>
        have rn : RepV S c .non v := rn
        cases rn
        cases ru
        exact PySem.P.repr_of_none (fin _ s.heap _ _ rfl fun _ _ e => e)
      | bl t =>
        have rn : RepV S c (.bl t) v := rn
        cases rn
        cases ru
        exact PySem.P.repr_of_bool (fin _ s.heap _ _ (by cases t <;> rfl) fun _ _ e => e)
      | int i =>
        have e := rn.int
        subst e
        obtain ⟨t, rfl⟩ := ru
        exact PySem.P.repr_of_int (of_decide_eq_true h2) (fin _ s.heap _ _ rfl fun _ _ e => e)
      | str t =>
        obtain ⟨y, rfl, e⟩ := rn.str
        obtain ⟨tk, rfl⟩ := ru
        have ey := str_eq e
        subst ey
        exact PySem.P.repr_of_str (fin _ s.heap _ _ rfl fun _ _ e => e) hsz
      | tup xs =>
        have rn : RepV S c (.tup xs) v := rn
        have ra := reads_of C I _ _ _ h1 rn ru
        cases rn
        cases ru
        exact byRef rfl ra
      | lst xs =>
        obtain ⟨q, vs, rfl, hq, rs⟩ := rn
        cases ru
        obtain ⟨z, its, n, r, hl, e⟩ := I.lstM hq
        exact byRef rfl (.list e rfl rfl (by simpa using readsAll_of C I xs vs its (show shs xs = true from h1) rs r))
      | dct kvs =>
        obtain ⟨q, es, rfl, hq, ⟨hsm, ap⟩, rk⟩ := rn
        cases ru
        obtain ⟨⟨o, ep, ho, hx, hd⟩, _⟩ := I.hok _ _ hq
        obtain ⟨r1, r2⟩ := readsKv_of C I kvs es (show shk kvs = true from h1) rk
        exact byRef rfl (.dict (es := es.toArray) ho hx.1 hd hsm (by rw [toPDk_fst]; simpa using r1) (by rw [toPDk_snd]; simpa using r2))
      | rol xs => cases h1
      | ref n => cases h1
    · cases hz
  · cases hz

/-! ### two values -/
theorem px_b2B {n : Str} {id : String} {f : B2} {r : List V → Hp → VK → Prop} (hc : CallR X (.builtin id) r) (hg : Gl X n) (hm : X.mg n = none) (hv : bootBuiltins n = some (.builtin id))
    (key : ∀ c0 c x y z v w, Held S c → RepX S c0 c x v → RepX S c0 c y w → b2X f x y c.h = some z → r [v, w] c.H (QX S c z c.h)) (mono : ∀ vs H Q Q', (∀ v H', Q v H' → Q' v H') → r vs H Q → r vs H Q') (ha : PX X S cf a ma) (hb : PX X S cf b mb)
    (hn : n ≠ "__name__" := by decide) (hdb : (n == ("__debug__" : Str)) = false := by decide) (he : starEach [a, b] X.env = (false, eval a X.env) :: starEach [b] X.env := by rfl) (he2 : starEach [b] X.env = (false, eval b X.env) :: starEach [] X.env := by rfl)
    (hpl : (backTo pos (starEach [b] X.env)).any (·.1) = false := by rfl) : PX X S cf (.Call (.Name n p) [a, b] [] pos) (.b2 f ma mb) :=
  px_of (pe_callB hc hg hm hv (pa_cons ha.pe (pa_cons hb.pe pa_nil he2) he) hn hdb he hpl) fun σ c e rr hh he' hr nb => by
    have hr : ((evalX S.P cf ma e c.h).bind fun x h => (evalX S.P cf mb e h).bind fun y h => .ofO (b2X f x y h) h) = rr := hr
    show tX S cf ma σ c.H (fun x H1 => tX S cf mb σ H1 fun y H2 => r [x, y] H2 (Ok S c rr))
    refine tX.mk hh he' hr nb fun x c1 v g1 hh1 he1 rx h1 => tX.mk hh1 he1 h1 nb fun y c2 w g2 hh2 he2 ry h2 => ?_
    obtain ⟨z, hz, er⟩ := ofO_ok h2 nb
    exact mono _ _ _ _ (fun v' H' q => .ofQ (g1.trans g2) er.symm q) (key c c2 x y z v w hh2 (rx.mono g2) (ry.back g1) hz)
theorem two_ints {c0 c c0' c' : Cf} {x y : MP.X} {v w : V} {f : Int → Int → Option MP.X} {z : MP.X} (rx : RepX S c0 c x v) (ry : RepX S c0' c' y w) (h : i2 f x y = some z) : ∃ i j, v = .int i ∧ w = .int j ∧ f i j = some z := by
  cases x with
  | d d1 =>
    cases y with
    | d d2 =>
      cases d1 with
      | int i =>
        cases d2 with
        | int j =>
          have rx : RepV S c (.int i) v := rx
          have ry : RepV S c' (.int j) w := ry
          cases rx; cases ry
          exact ⟨i, j, rfl, rfl, h⟩
        | _ => cases h
      | _ => cases h
    | _ => cases d1 <;> cases h
  | _ => cases h
theorem px_max2 (C : Ctx X S k) (hm : X.mg "max" = none) (ha : PX X S cf a ma) (hb : PX X S cf b mb) (hg : Gl X "max" := by rfl) (he : starEach [a, b] X.env = (false, eval a X.env) :: starEach [b] X.env := by rfl) (he2 : starEach [b] X.env = (false, eval b X.env) :: starEach [] X.env := by rfl) (hpl : (backTo pos (starEach [b] X.env)).any (·.1) = false := by rfl) : PX X S cf (.Call (.Name "max" p) [a, b] [] pos) (.b2 .max ma mb) :=
  px_b2B (call_max2 C.calm) hg hm (by decide +kernel) (fun c0 c x y z v w hh rx ry hz => by
    obtain ⟨i, j, rfl, rfl, e⟩ := two_ints rx ry (show i2 _ x y = some z from hz)
    cases e
    exact ⟨_, _, rfl, .here hh (.int _)⟩) (fun vs H Q Q' kk ⟨i, j, e, q⟩ => ⟨i, j, e, kk _ _ q⟩) ha hb (by decide) (by decide) he he2 hpl
theorem px_min2 (C : Ctx X S k) (hm : X.mg "min" = none) (ha : PX X S cf a ma) (hb : PX X S cf b mb) (hg : Gl X "min" := by rfl) (he : starEach [a, b] X.env = (false, eval a X.env) :: starEach [b] X.env := by rfl) (he2 : starEach [b] X.env = (false, eval b X.env) :: starEach [] X.env := by rfl) (hpl : (backTo pos (starEach [b] X.env)).any (·.1) = false := by rfl) : PX X S cf (.Call (.Name "min" p) [a, b] [] pos) (.b2 .min ma mb) :=
  px_b2B (call_min2 C.calm) hg hm (by decide +kernel) (fun c0 c x y z v w hh rx ry hz => by
    obtain ⟨i, j, rfl, rfl, e⟩ := two_ints rx ry (show i2 _ x y = some z from hz)
    cases e
    exact ⟨_, _, rfl, .here hh (.int _)⟩) (fun vs H Q Q' kk ⟨i, j, e, q⟩ => ⟨i, j, e, kk _ _ q⟩) ha hb (by decide) (by decide) he he2 hpl

/-! ### range -/
theorem pix_range1 (C : Ctx X S k) {tg : Expr} (hm : X.mg "range" = none) (ha : PX X S cf a ma) (hg : Gl X "range" := by rfl) (hs : starEach [a] X.env = [(false, eval a X.env)] := by rfl) : PI X tg (.Call (.Name "range" p) [a] [] pos) (tW S cf (.b1 .range ma)) :=
  (pi_range1 hg hm (pa_cons ha.pe pa_nil hs) hs).imp fun σ H R ⟨c, e, r, eH, hh, he, er, nb, q⟩ => by
    subst eH
    have er : ((evalX S.P cf ma e c.h).bind fun x h => .ofO (rangeX x) h) = r := er
    show tX S cf ma σ c.H (fun x H1 => ∃ j : Int, [x] = [V.int j] ∧ -(2 ^ 62) ≤ j ∧ j < 2 ^ 62 ∧ R (Itr 0 j.toNat) H1)
    refine tX.mk hh he er nb fun x c1 v g1 hh1 he1 rx h1 => ?_
    obtain ⟨z, hz, er⟩ := ofO_ok h1 nb
    unfold rangeX at hz
    split at hz
    · rename_i n
      split at hz
      · rename_i hl
        cases hz
        have rx : RepV S c1 (.int n) v := rx
        cases rx
        have hM : MAXL = 1000000 := rfl
        refine ⟨n, rfl, by omega, by omega, ?_⟩
        obtain ⟨pp, hp, kk⟩ := q _ c1 er g1 hh1
        cases hp
        exact kk _ walks_range
      · cases hz
    · cases hz
theorem pix_range2 (C : Ctx X S k) {tg : Expr} (hm : X.mg "range" = none) (ha : PX X S cf a ma) (hb : PX X S cf b mb) (hg : Gl X "range" := by rfl) (hs : starEach [a, b] X.env = [(false, eval a X.env), (false, eval b X.env)] := by rfl) (hs2 : starEach [b] X.env = [(false, eval b X.env)] := by rfl) : PI X tg (.Call (.Name "range" p) [a, b] [] pos) (tW S cf (.b2 .range ma mb)) :=
  (pi_range2 hg hm (pa_cons ha.pe (pa_cons hb.pe pa_nil hs2) (by rw [hs, hs2])) hs hs2).imp fun σ H R ⟨c, e, r, eH, hh, he, er, nb, q⟩ => by
    subst eH
    have er : ((evalX S.P cf ma e c.h).bind fun x h => (evalX S.P cf mb e h).bind fun y h => .ofO (b2X .range x y h) h) = r := er
    show tX S cf ma σ c.H (fun x H1 => tX S cf mb σ H1 fun y H2 => ∃ i j : Int, [x, y] = [V.int i, V.int j] ∧ (-(2 ^ 62) ≤ i ∧ i < 2 ^ 62 ∧ -(2 ^ 62) ≤ j ∧ j < 2 ^ 62) ∧ R (Itr i (j - i).toNat) H2)
    refine tX.mk hh he er nb fun x c1 v g1 hh1 he1 rx h1 => tX.mk hh1 he1 h1 nb fun y c2 w g2 hh2 he2 ry h2 => ?_
    obtain ⟨z, hz, er⟩ := ofO_ok h2 nb
    obtain ⟨i, j, rfl, rfl, e⟩ := two_ints rx ry (show i2 _ x y = some z from hz)
    have e : (if -(2 ^ 60) ≤ i ∧ i ≤ MAXL ∧ j ≤ MAXL ∧ -(2 ^ 60) ≤ j ∧ j - i ≤ MAXL then some (MP.X.it (rangeD i (j - i).toNat) []) else none) = some z := e
    split at e
    · rename_i hl
      cases e
      have hM : MAXL = 1000000 := rfl
      refine ⟨i, j, rfl, by omega, ?_⟩
      obtain ⟨pp, hp, kk⟩ := q _ c2 er (g1.trans g2) hh2
      cases hp
      exact kk _ walks_range
    · cases e
end
end MP

/-! MP17: methods of built-in types; stores; dict displays. -/
namespace MP
open PySem PySem.Spec PyProof.Rows L2 Dk
section
variable {X : Cx} {S : Sx} {cf : CF} {k : Nat} {pos p : Pos} {a b d : Expr} {ma mb mo : ME}

def MtX (X : Cx) (S : Sx) (id : String) (g : MP.X → List D → MH → Option (MP.X × MH)) : Prop :=
  ∀ (pins : List (Addr × Obj)) (s : Shared) (σ : L2.St) (c0 c : Cf) (x : MP.X) (ds : List D) (z : MP.X) (h' : MH) (v : V) (vs : List V) (u : Value) (us : List Value), Inv X pins σ c.H s → Held S c → RepX S c0 c x v → RelV v u → RepVs S c ds vs → Vals vs us → g x ds c.h = some (z, h') →
    wpAny (model X.prog X.w) X.A (call (.builtin id) (u :: us)) (EP X pins σ (QX S c z h')) X.xe s
def tyName : Nat → String
  | 0 => "list"
  | 1 => "dict"
  | 2 => "str"
  | _ => "tuple"
theorem kind_ty (C : Ctx X S k) {pins : List (Addr × Obj)} {s : Shared} {σ : L2.St} {c0 c : Cf} {x : MP.X} {v : V} {u : Value} {n : Nat} (I : Inv X pins σ c.H s) (hh : Held S c) (rx : RepX S c0 c x v) (ru : RelV v u) (h : kindX x c.h = n) (hn : n < 3) :
    s.TypeIs u (tyName n) ∧ ∀ q, u = .ref q → ∃ ob, s.heap.get? q = some ob ∧ ob.dict = none := by
  unfold kindX at h
  split at h
  · rename_i xs hx
    subst h
    obtain ⟨q, vs, rfl, hq, _⟩ := norm_lst hh rx hx
    cases ru
    obtain ⟨_, its, m, _, _, e⟩ := I.lstM hq
    exact ⟨⟨_, e, rfl⟩, fun q' e' => by cases e'; exact ⟨_, e, rfl⟩⟩
  · rename_i xs hx
    subst h
    obtain ⟨q, es, rfl, hq, _⟩ := norm_rep hh rx hx
    cases ru
    obtain ⟨⟨o, ep, ho, hex, hd⟩, _⟩ := I.hok _ _ hq
    exact ⟨⟨o, ho, hex.1⟩, fun q' e' => by cases e'; exact ⟨o, ho, hex.2.1⟩⟩
  · rename_i t hx
    subst h
    obtain ⟨y, rfl, _⟩ := (norm_rep hh rx hx).str
    obtain ⟨tk, rfl⟩ := ru
    exact ⟨typeIs_str s y tk, fun _ e => nomatch e⟩
  · subst h; omega
  · subst h; omega
variable {o ex : Expr} {es : List Expr} {name : Str} {apos cpos : Pos} {T id : String} {m : MB} {ms : MEs}
theorem px_mb (C : Ctx X S k) (pa : PlainAttrs T) (slot : Slot T name id) (hty : typeOf (.builtin id) = pure (.type "method_descriptor")) (hm : MtX X S id (mbX m)) (ho : PX X S cf o mo) (ha : PA X (ex :: es) (tXs S cf ms)) (hT : T = tyName m.kind := by rfl) (hk : m.kind < 3 := by decide)
    (hbase : attributeBase o name X.env (eval o X.env) = eval o X.env := by rfl)
    (hfew : ((backTo cpos (starEach (ex :: es) X.env)).all (fun x => !x.1) && (backToKw cpos (keywordEach [] X.env)).all (fun x => x.1.isSome)
      && decide ((ex :: es).length + ([] : List Keyword).length + (if ([] : List Keyword).isEmpty then 0 else 1) < 30)) = true := by rfl)
    (hline : (apos.endLine == cpos.line) = true := by rfl) (hs : starEach (ex :: es) X.env = (false, eval ex X.env) :: starEach es X.env := by rfl) (hplain : (backTo cpos (starEach es X.env)).any (·.1) = false := by rfl) :
    PX X S cf (.Call (.Attribute o name apos) (ex :: es) [] cpos) (.mb m mo ms) := by
  intro pins s σ c e r I hh he hr nb w
  have hr : ((evalX S.P cf mo e c.h).bind fun x h => if kindX x h = m.kind then (evalVs S.P cf ms e h).bind fun ds h => match mbX m x ds h with
      | some (v, h') => .ok v h'
      | none => .bad
    else .bad) = r := hr
  refine wpAny_Call_method_late hbase hfew hline rfl (ho.seq I hh he hr nb w fun u s1 x c1 v I1 hh1 he1 g1 rx rv hr1 w1 => ?_)
  by_cases hkk : kindX x c1.h = m.kind
  · rw [if_pos hkk] at hr1
    obtain ⟨h1, h2⟩ := kind_ty C I1 hh1 rx rv hkk hk
    rw [← hT] at h1
    refine ⟨T, id, pa, slot, hty, h1, h2, ?_⟩
    have hA := ha.run cpos pins s1 σ c1.H (fun vs H2 => ∃ (c2 : Cf) (ds : List D), c2.H = H2 ∧ Gr c1 c2 ∧ Held S c2 ∧ RepVs S c2 ds vs ∧ (match mbX m x ds c2.h with
      | some (v, h') => Res.ok v h'
      | none => .bad) = r) I1 (tXs.mk hh1 he1 hr1 nb fun ds c2 vs g2 hh2 he2 rs h2 => ⟨c2, ds, rfl, g2, hh2, rs, h2⟩)
    rw [hs] at hA ⊢
    refine Calls.callWith_builtin (by show (false || (backTo cpos (starEach es X.env)).any (·.1)) = false; rw [hplain] <;> rfl) (Calls.evalArgs_plain ?_)
    refine thn hA fun us s2 ⟨vs, H2, I2, r2, c2, ds, eH, g2, hh2, rs, h3⟩ => ?_
    subst eH
    cases q : mbX m x ds c2.h with
    | none => rw [q] at h3; exact absurd h3.symm nb
    | some zz =>
      rw [q] at h3
      obtain ⟨z, h'⟩ := zz
      refine thn (hm pins s2 σ c c2 x ds z h' v vs u us I2 hh2 (rx.mono g2) rv rs r2 q) fun u' s' ⟨v', H', I', rv', c', eH, eh, g', hh', rz⟩ => ?_
      subst eH
      exact ⟨z, h', h3.symm, c', v', I', eh, g1.trans (g2.trans g'), hh', rz.back (g1.trans g2), rv'⟩
  · rw [if_neg hkk] at hr1
    exact absurd hr1.symm nb
theorem px_mb0 (C : Ctx X S k) (pa : PlainAttrs T) (slot : Slot T name id) (hty : typeOf (.builtin id) = pure (.type "method_descriptor")) (hm : MtX X S id (mbX m)) (ho : PX X S cf o mo) (hT : T = tyName m.kind := by rfl) (hk : m.kind < 3 := by decide)
    (hbase : attributeBase o name X.env (eval o X.env) = eval o X.env := by rfl) (hline : (apos.endLine == cpos.line) = true := by rfl) :
    PX X S cf (.Call (.Attribute o name apos) [] [] cpos) (.mb m mo .n) := by
  intro pins s σ c e r I hh he hr nb w
  have hr : ((evalX S.P cf mo e c.h).bind fun x h => if kindX x h = m.kind then (match mbX m x [] h with
      | some (v, h') => .ok v h'
      | none => .bad)
    else .bad) = r := hr
  refine wpAny_Call_method0_late hbase hline (ho.seq I hh he hr nb w fun u s1 x c1 v I1 hh1 he1 g1 rx rv hr1 w1 => ?_)
  by_cases hkk : kindX x c1.h = m.kind
  · rw [if_pos hkk] at hr1
    obtain ⟨h1, h2⟩ := kind_ty C I1 hh1 rx rv hkk hk
    rw [← hT] at h1
    refine ⟨T, id, pa, slot, hty, h1, h2, ?_⟩
    refine Calls.callWith_builtin rfl (PySem.evalArgs_none ?_)
    cases q : mbX m x [] c1.h with
    | none => rw [q] at hr1; exact absurd hr1.symm nb
    | some zz =>
      rw [q] at hr1
      obtain ⟨z, h'⟩ := zz
      refine thn (hm pins s1 σ c c1 x [] z h' v [] u [] I1 hh1 rx rv .nil .nil q) fun u' s' ⟨v', H', I', rv', c', eH, eh, g', hh', rz⟩ => ?_
      subst eH
      exact ⟨z, h', hr1.symm, c', v', I', eh, g1.trans g', hh', rz.back g1, rv'⟩
  · rw [if_neg hkk] at hr1
    exact absurd hr1.symm nb

/-! ### methods of lists -/
theorem lst_at {c0 c : Cf} {x : MP.X} {v : V} {n : Nat} {xs : List D} (hh : Held S c) (rx : RepX S c0 c x v) (h : lstAt x c.h = some (n, xs)) : ∃ q vs, v = .ref q ∧ c.ρ[n]? = some q ∧ c.h[n]? = some (.lst xs) ∧ c.H q = some (.lst vs) ∧ RepVs S c xs vs := by
  unfold lstAt at h
  split at h
  · rename_i r
    split at h
    · rename_i ys hy
      cases h
      have rx : RepV S c (.ref n) v := rx
      cases rx with
      | ref hn =>
        obtain ⟨vs, h1, h2⟩ := hh.obj _ _ _ hn hy
        exact ⟨_, vs, rfl, hn, hy, h1, h2⟩
    · cases h
  · cases h
theorem rep1 {c : Cf} {x : D} {vs : List V} (r : RepVs S c [x] vs) : ∃ v, vs = [v] ∧ RepV S c x v := by
  cases r with
  | cons h t => cases t; exact ⟨_, rfl, h⟩
theorem rep2 {c : Cf} {x y : D} {vs : List V} (r : RepVs S c [x, y] vs) : ∃ v w, vs = [v, w] ∧ RepV S c x v ∧ RepV S c y w := by
  cases r with
  | cons h t => obtain ⟨w, rfl, h2⟩ := rep1 t; exact ⟨_, w, rfl, h, h2⟩
theorem RepVs.erase {c : Cf} : ∀ {xs : List D} {ws : List V} (j : Nat), RepVs S c xs ws → RepVs S c (xs.eraseIdx j) (ws.eraseIdx j)
  | _, _, _, .nil => .nil
  | _, _, 0, .cons _ t => t
  | _, _, j + 1, .cons h t => .cons h (t.erase j)
theorem mx_append : MtX X S "list.append" (mbX .append) := by
  intro pins s σ c0 c x ds z h' v vs u us I hh rx ru rs rvs hz
  have hz : appendX x ds c.h = some (z, h') := hz
  unfold appendX at hz
  split at hz
  · rename_i n xs y hl _
    split at hz
    · rename_i hlen
      cases hz
      obtain ⟨q, ws, rfl, hn, hy, hq, rq⟩ := lst_at hh rx hl
      obtain ⟨w, rfl, rw'⟩ := rep1 rs
      have := maxl
      exact mt_append pins s σ c.H _ _ u us _ I ru rvs ⟨q, ws, w, rfl, rfl, hq, by rw [rq.length]; omega, QX.wrL hh hn hy (rq.append (.cons rw' .nil)) fun c' g => .d .non⟩
    · cases hz
  · cases hz
theorem mx_popAt : MtX X S "list.pop" (mbX .pop0) := by
  intro pins s σ c0 c x ds z h' v vs u us I hh rx ru rs rvs hz
  have hz : popAtX x ds c.h = some (z, h') := hz
  unfold popAtX at hz
  split at hz
  · rename_i n xs i hl _
    split at hz
    · rename_i hi
      split at hz
      · rename_i y hy0
        cases hz
        obtain ⟨q, ws, rfl, hn, hy, hq, rq⟩ := lst_at hh rx hl
        obtain ⟨w, rfl, rw'⟩ := rep1 rs
        cases rw'
        obtain ⟨wy, h1, h2⟩ := rq.get hy0
        obtain ⟨hl1, _⟩ := List.getElem?_eq_some_iff.mp h1
        refine mt_popAt pins s σ c.H _ _ u us _ I ru rvs ⟨q, ws, i, i.toNat, wy, rfl, rfl, hq, by omega, by omega, seqIndex_of hi.1 (by omega), h1, QX.wrL hh hn hy (rq.erase _) fun c' g => .d (h2.mono g)⟩
      · cases hz
    · cases hz
  · cases hz
theorem mx_pop : MtX X S "list.pop" (mbX .pop) := by
  intro pins s σ c0 c x ds z h' v vs u us I hh rx ru rs rvs hz
  have hz : popX x ds c.h = some (z, h') := hz
  unfold popX at hz
  split at hz
  · rename_i n xs hl _
    split at hz
    · rename_i y hy0
      cases hz
      obtain ⟨q, ws, rfl, hn, hy, hq, rq⟩ := lst_at hh rx hl
      cases rs
      rw [List.getLast?_eq_getElem?] at hy0
      obtain ⟨wy, h1, h2⟩ := rq.get hy0
      have e : RepVs S c xs.dropLast ws.dropLast := by
        rw [List.dropLast_eq_take, List.dropLast_eq_take, rq.length]
        exact rq.take _
      exact mt_pop pins s σ c.H _ _ u us _ I ru rvs ⟨q, ws, wy, rfl, rfl, hq, by rw [rq.length]; exact h1, QX.wrL hh hn hy e fun c' g => .d (h2.mono g)⟩
    · cases hz
  · cases hz

/-! ### methods of dicts -/
theorem mx_get (C : Ctx X S k) : MtX X S "dict.get" (mbX .get) := by
  intro pins s σ c0 c x ds z h' v vs u us I hh rx ru rs rvs hz
  have hz : getX x ds c.h = some (z, h') := hz
  unfold getX at hz
  split at hz
  · rename_i kvs kk hn _
    split at hz
    · rename_i ok
      cases hz
      obtain ⟨q, es, rfl, hq, ⟨hsm, ap⟩, rk⟩ := norm_rep hh rx hn
      cases ru
      obtain ⟨w, rfl, rw'⟩ := rep1 rs
      obtain ⟨uk, rfl, ruk⟩ := vals1 rvs
      obtain ⟨nk, hk, hd⟩ := okKey_some ok
      obtain ⟨xs, ob, ep, kr, _, raw⟩ := raw_of C.K I hq ap rk
      have kh : KeyHere s.heap nk uk := ⟨rw'.nested C.K I _ _ _ _ hk ruk, hd⟩
      refine get1_any (w := X.w) (by have := C.un; omega) kh hsm (C.w ▸ raw) ?_
      rcases look_rel hk kr with ⟨h1, h2⟩ | ⟨x', vv, uu, h1, h2, h3, h4⟩
      · rw [h1, h2]
        exact ⟨.non, c.H, I.tok _, rfl, .here hh .non⟩
      · rw [h1, h2]
        exact ⟨vv, c.H, I.tok _, h4, .here hh h3⟩
    · cases hz
  · cases hz
theorem mx_get2 (C : Ctx X S k) : MtX X S "dict.get" (mbX .get2) := by
  intro pins s σ c0 c x ds z h' v vs u us I hh rx ru rs rvs hz
  have hz : get2X x ds c.h = some (z, h') := hz
  unfold get2X at hz
  split at hz
  · rename_i kvs kk d0 hn _
    split at hz
    · rename_i ok
      cases hz
      obtain ⟨q, es, rfl, hq, ⟨hsm, ap⟩, rk⟩ := norm_rep hh rx hn
      cases ru
      obtain ⟨w, w2, rfl, rw', rw2⟩ := rep2 rs
      obtain ⟨uk, u2, rfl, ruk, ru2⟩ := vals2 rvs
      obtain ⟨nk, hk, hd⟩ := okKey_some ok
      obtain ⟨xs, ob, ep, kr, _, raw⟩ := raw_of C.K I hq ap rk
      have kh : KeyHere s.heap nk uk := ⟨rw'.nested C.K I _ _ _ _ hk ruk, hd⟩
      refine get2_any (w := X.w) (by have := C.un; omega) kh hsm (C.w ▸ raw) ?_
      rcases look_rel hk kr with ⟨h1, h2⟩ | ⟨x', vv, uu, h1, h2, h3, h4⟩
      · rw [h1, h2]
        exact ⟨w2, c.H, I.tok _, ru2, .here hh rw2⟩
      · rw [h1, h2]
        exact ⟨vv, c.H, I.tok _, h4, .here hh h3⟩
    · cases hz
  · cases hz
end
end MP

/-! MP18: places that are being filled; dict displays; stores. -/
namespace MP
open PySem PySem.Spec PyProof.Rows L2 Dk
section
variable {X : Cx} {S : Sx} {cf : CF} {k : Nat} {pos p : Pos} {a b d : Expr} {ma mb mo : ME}

/-! ### a place that is being filled -/
def Cf.rsv (c : Cf) (q : Addr) (o : HO) : Cf := { c with H := upd c.H q o, x := fun a => c.x a ∨ a = q }
def Cf.fin (c : Cf) (x : Addr → Prop) : Cf := { c with x := x }
def Cf.at (c : Cf) (q : Addr) (o : HO) : Cf := { c with H := upd c.H q o }
theorem rsv_L {c : Cf} {q a : Addr} {o : HO} : (c.rsv q o).L a ↔ c.L a ∨ a = q := by
  constructor
  · rintro (h | h | h)
    · exact .inl (.inl h)
    · exact .inl (.inr h)
    · exact .inr h
  · rintro ((h | h) | h)
    · exact .inl h
    · exact .inr (.inl h)
    · exact .inr (.inr h)
theorem rsv_sub {c : Cf} {q : Addr} {o : HO} (hq : c.H q = none) : Kp c (c.rsv q o) := by
  refine ⟨fun a u _ h => ?_, fun a u hn h hl => ?_, fun h => h⟩
  · show upd c.H q o a = _
    rw [upd_ne (ne_of_none h hq)]
    exact h
  · rcases rsv_L.mp hl with hl | rfl
    · exact hn hl
    · rw [hq] at h; cases h
theorem ObjR.sub {c c' : Cf} {q : Addr} {o : MO} (g : Kp c c') (hs : o ≠ .dead → c'.H q = c.H q) (r : ObjR S c q o) : ObjR S c' q o := by
  cases o with
  | dead => trivial
  | lst xs =>
    obtain ⟨vs, h, r⟩ := r
    exact ⟨vs, by rw [hs (fun z => nomatch z)]; exact h, r.sub g⟩
  | dct kvs =>
    obtain ⟨es, h, h2, r⟩ := r
    exact ⟨es, by rw [hs (fun z => nomatch z)]; exact h, h2, r.sub g⟩
  | ins k fs =>
    obtain ⟨C, dx, fv, h1, h2, h3, h4, h5⟩ := r
    exact ⟨C, dx, fv, h1, by rw [hs (fun z => nomatch z)]; exact h2, h3, fun f v z => let ⟨x, a, b⟩ := h4 f v z; ⟨x, a, b.sub g⟩, h5⟩
theorem Held.sub {c c' : Cf} (hh : Held S c) (g : Kp c c') (e1 : c'.ρ = c.ρ) (e2 : c'.h = c.h) (hs : ∀ a ∈ c.ρ, c'.H a = c.H a) (ho : ∀ a, c'.x a → a ∉ c.ρ ∧ c'.H a ≠ none) : Held S c' := by
  refine ⟨by rw [e1, e2]; exact hh.len, by rw [e1]; exact hh.nd, fun a ha => ?_, fun i a u h1 h2 => ?_, fun a h => by rw [e1]; exact ho a h⟩
  · rw [e1] at ha
    rw [hs a ha]
    exact hh.trk a ha
  · rw [e1] at h1
    rw [e2] at h2
    exact (hh.obj i a u h1 h2).sub g fun _ => hs a (List.mem_of_getElem? h1)
theorem rsv_held {c : Cf} {q : Addr} {o : HO} (hh : Held S c) (hq : c.H q = none) : Held S (c.rsv q o) := by
  have nq : q ∉ c.ρ := hh.notMem hq
  refine hh.sub (rsv_sub hq) rfl rfl (fun a ha => ?_) fun a h => ?_
  · show upd c.H q o a = _
    rw [upd_ne]
    rintro rfl
    exact nq ha
  · rcases h with h | rfl
    · refine ⟨(hh.out a h).1, ?_⟩
      show upd c.H q o a ≠ none
      rw [upd_ne]
      · exact (hh.out a h).2
      · rintro rfl
        exact (hh.out a h).2 hq
    · exact ⟨nq, by show upd c.H a o a ≠ none; rw [upd_same]; simp⟩
/-- growth, but for what stands at the place -/
structure GrX (q : Addr) (c c' : Cf) : Prop where
  pre : ∃ τ, c'.ρ = c.ρ ++ τ
  live : ∀ a, c'.L a → c.L a ∨ c.H a = none
  per : ∀ a o, ¬ c.L a → c.H a = some o → c'.H a = some o
  tot : ∀ a, c.H a ≠ none → c'.H a ≠ none
  new : ∀ a ∈ c'.ρ, a ∈ c.ρ ∨ c.H a = none
  xx : c'.x = c.x
  res : ∀ a, c.x a → a ≠ q → c'.H a = c.H a
theorem Gr.gx {c c' : Cf} {q : Addr} (g : Gr c c') : GrX q c c' := ⟨g.pre, g.live, g.per, g.tot, g.new, g.xx, fun a h _ => g.res a h⟩
theorem GrX.trans {q : Addr} {a b c : Cf} (x : GrX q a b) (y : GrX q b c) : GrX q a c := by
  obtain ⟨τ, e1⟩ := x.pre
  obtain ⟨τ', e2⟩ := y.pre
  refine ⟨⟨τ ++ τ', by rw [e2, e1, List.append_assoc]⟩, fun p h => ?_, fun p o hn h => ?_, fun p h => y.tot p (x.tot p h), fun p h => ?_, y.xx.trans x.xx, fun p h hp => (y.res p (x.xx ▸ h) hp).trans (x.res p h hp)⟩
  · rcases y.live p h with h | h
    · exact x.live p h
    · exact .inr (Classical.byContradiction fun q => x.tot p q h)
  · refine y.per p o (fun hl => ?_) (x.per p o hn h)
    rcases x.live p hl with q | q
    · exact hn q
    · rw [q] at h; cases h
  · rcases y.new p h with h | h
    · exact x.new p h
    · exact .inr (Classical.byContradiction fun q => x.tot p q h)
theorem GrX.sub {q : Addr} {c c' : Cf} (g : GrX q c c') : Kp c c' := by
  refine ⟨g.per, fun a o hn h hl => ?_, fun {n a} h => ?_⟩
  · rcases g.live a hl with z | z
    · exact hn z
    · rw [z] at h; cases h
  · obtain ⟨τ, e⟩ := g.pre
    rw [e, List.getElem?_append_left (List.getElem?_eq_some_iff.mp h).1]
    exact h
/-- the place is written -/
theorem GrX.at {q : Addr} {c : Cf} {o : HO} (hx : c.x q) : GrX q c (c.at q o) := by
  have hL : c.L q := .inr hx
  refine ⟨⟨[], by simp [Cf.at]⟩, fun a h => .inl h, fun a u hn h => ?_, fun a h => ?_, fun a h => .inl h, rfl, fun a _ h => ?_⟩
  · show upd c.H q o a = _
    rw [upd_ne (fun e => hn (by rw [e]; exact hL))]
    exact h
  · show upd c.H q o a ≠ none
    by_cases e : a = q
    · subst e; rw [upd_same]; simp
    · rw [upd_ne e]; exact h
  · show upd c.H q o a = _
    rw [upd_ne h]
theorem at_held {q : Addr} {c : Cf} {o : HO} (hh : Held S c) (hx : c.x q) : Held S (c.at q o) := by
  refine hh.sub (GrX.at hx).sub rfl rfl (fun a ha => ?_) fun a h => ⟨(hh.out a h).1, ?_⟩
  · show upd c.H q o a = _
    rw [upd_ne]
    rintro rfl
    exact (hh.out a hx).1 ha
  · exact (GrX.at hx).tot a (hh.out a h).2
/-- done: from the state ahead -/
theorem GrX.done {c c2 : Cf} {q : Addr} {o : HO} (hh : Held S c) (hq : c.H q = none) (g : GrX q (c.rsv q o) c2) : Gr c (c2.fin c.x) := by
  obtain ⟨τ, e⟩ := g.pre
  have lv : ∀ a, (c2.fin c.x).L a → c2.L a := fun a h => by
    rcases h with h | h
    · exact .inl h
    · exact .inr (by rw [g.xx]; exact .inl h)
  have up : ∀ a u, c.H a = some u → (c.rsv q o).H a = some u := fun a u h => by
    show upd c.H q o a = _
    rw [upd_ne (ne_of_none h hq)]
    exact h
  have dn : ∀ a, (c.rsv q o).H a = none → c.H a = none := fun a h => by
    cases z : c.H a with
    | none => rfl
    | some u => rw [up a u z] at h; cases h
  refine ⟨⟨τ, e⟩, fun a h => ?_, fun a u hn h => ?_, fun a h => ?_, fun a h => ?_, rfl, fun a h => ?_⟩
  · rcases g.live a (lv a h) with h | h
    · rcases rsv_L.mp h with h | rfl
      · exact .inl h
      · exact .inr hq
    · exact .inr (dn a h)
  · exact g.per a u ((rsv_sub hq).nl a u hn h) (up a u h)
  · exact g.tot a fun z => h (dn a z)
  · rcases g.new a h with h | h
    · exact .inl h
    · exact .inr (dn a h)
  · have hne : a ≠ q := by
      rintro rfl
      exact (hh.out a h).2 hq
    rw [show (c2.fin c.x).H a = c2.H a from rfl, g.res a (.inl h) hne]
    show upd c.H q o a = _
    rw [upd_ne hne]
theorem fin_sub {c2 : Cf} {q : Addr} {x : Addr → Prop} (hx : ∀ a, x a → c2.x a) : Kp c2 (c2.fin x) := ⟨fun _ _ _ h => h, fun a o hn h hl => hn (hl.elim .inl fun z => .inr (hx a z)), fun h => h⟩
theorem fin_held {c c2 : Cf} {q : Addr} {o : HO} (g : GrX q (c.rsv q o) c2) (hh : Held S c2) : Held S (c2.fin c.x) := by
  have hx : ∀ a, c.x a → c2.x a := fun a h => by rw [g.xx]; exact .inl h
  exact hh.sub (fin_sub (q := q) hx) rfl rfl (fun _ _ => rfl) fun a h => hh.out a (hx a h)
/-- without the place, the others stand -/
theorem fin_del {c c2 : Cf} {q : Addr} {o : HO} (hq : c.H q = none) (hh0 : Held S c) (g : GrX q (c.rsv q o) c2) (hh : Held S c2) : Kp c2 ((c2.fin c.x).del q) ∧ Held S ((c2.fin c.x).del q) := by
  have xq : c2.x q := by rw [g.xx]; exact .inr rfl
  have hx : ∀ a, c.x a → c2.x a := fun a h => by rw [g.xx]; exact .inl h
  have same : ∀ a, a ≠ q → ((c2.fin c.x).del q).H a = c2.H a := fun a h => by
    show (if a = q then none else c2.H a) = _
    rw [if_neg h]
  have s : Kp c2 ((c2.fin c.x).del q) := by
    refine ⟨fun a u hn h => ?_, fun a u hn h hl => hn (hl.elim .inl fun z => .inr (hx a z)), fun h => h⟩
    rw [same a (fun e => hn (.inr (by rw [e]; exact xq)))]
    exact h
  refine ⟨s, hh.sub s rfl rfl (fun a ha => same a fun e => (hh.out q xq).1 (by rw [← e]; exact ha)) fun a h => ⟨(hh.out a (hx a h)).1, ?_⟩⟩
  rw [same a]
  · exact (hh.out a (hx a h)).2
  · rintro rfl
    exact (hh0.out a h).2 hq
theorem fin_notL {c c2 : Cf} {q : Addr} {o : HO} (hq : c.H q = none) (hh0 : Held S c) (g : GrX q (c.rsv q o) c2) (hh : Held S c2) : ¬ (c2.fin c.x).L q := by
  have xq : c2.x q := by rw [g.xx]; exact .inr rfl
  rintro (⟨i, u, h1, _, _⟩ | h)
  · exact (hh.out q xq).1 (List.mem_of_getElem? h1)
  · exact (hh0.out q h).2 hq
/-- a list that was filled is a new list -/
theorem filled_l {c c2 : Cf} {q : Addr} {o : HO} {xs : List D} {vs : List V} (hq : c.H q = none) (hh0 : Held S c) (g : GrX q (c.rsv q o) c2) (hh : Held S c2) (hL : c2.H q = some (.lst vs)) (r : RepVs S c2 xs vs) : RepF S c (c2.fin c.x) (.l xs) (.ref q) := by
  have xq : c2.x q := by rw [g.xx]; exact .inr rfl
  obtain ⟨s, hd⟩ := fin_del hq hh0 g hh
  have hx : ∀ a, c.x a → c2.x a := fun a h => by rw [g.xx]; exact .inl h
  exact ⟨⟨q, vs, rfl, hL, fin_notL hq hh0 g hh, hq, (hh.out q xq).1, r.sub (fin_sub (q := q) hx)⟩, fun q' e => by cases e; exact ⟨hd, vs, hL, r.sub s⟩⟩
theorem filled_k {c c2 : Cf} {q : Addr} {o : HO} {kvs : List (D × D)} {es : List DictEntry} (hq : c.H q = none) (hh0 : Held S c) (g : GrX q (c.rsv q o) c2) (hh : Held S c2) (hL : c2.H q = some (DO q es)) (hs : (q == sysModules) = false ∧ Apart kvs) (r : RepKs S c2 kvs es) : RepF S c (c2.fin c.x) (.k kvs) (.ref q) := by
  have xq : c2.x q := by rw [g.xx]; exact .inr rfl
  obtain ⟨s, hd⟩ := fin_del hq hh0 g hh
  have hx : ∀ a, c.x a → c2.x a := fun a h => by rw [g.xx]; exact .inl h
  exact ⟨⟨q, es, rfl, hL, fin_notL hq hh0 g hh, hq, (hh.out q xq).1, hs, r.sub (fin_sub (q := q) hx)⟩, fun q' e => by cases e; exact ⟨hd, es, hL, r.sub s⟩⟩
end
end MP

/-! MP19: list comprehensions. -/
namespace MP
open PySem PySem.Spec PyProof.Rows L2 Dk
section
variable {X : Cx} {S : Sx} {cf : CF} {k : Nat} {pos p : Pos}

theorem wipe_get {σ : L2.St} {i : Nat} : ∀ vs : List Nat, (L2.wipe σ vs)[i]? = if i ∈ vs then (σ[i]?).map (fun _ => none) else σ[i]?
  | [] => by simp [L2.wipe]
  | v :: vs => by
    unfold L2.wipe
    by_cases e : v = i
    · subst e
      rw [if_pos List.mem_cons_self]
      by_cases l : v < σ.length
      · rw [List.getElem?_set_self (by rw [L2.wipe_length]; exact l), List.getElem?_eq_getElem l]; rfl
      · rw [List.getElem?_eq_none (by rw [List.length_set, L2.wipe_length]; omega), List.getElem?_eq_none (by omega)]; rfl
    · rw [List.getElem?_set_ne e, wipe_get vs]
      by_cases m : i ∈ vs
      · rw [if_pos m, if_pos (List.mem_cons_of_mem _ m)]
      · rw [if_neg m, if_neg]
        intro h
        rcases List.mem_cons.mp h with h | h
        · exact e h.symm
        · exact m h
theorem Off.wipe {vs own : List Nat} {σ σ' : L2.St} (o : MP.Off vs (L2.wipe σ own) σ') (h : ∀ i ∈ vs, i ∈ own) : L2.wipe σ' own = L2.wipe σ own := by
  apply List.ext_getElem?
  intro i
  rw [wipe_get, wipe_get]
  by_cases m : i ∈ own
  · rw [if_pos m, if_pos m]
    have l : σ'.length = σ.length := by rw [o.1, L2.wipe_length]
    by_cases l2 : i < σ.length
    · rw [List.getElem?_eq_getElem l2, List.getElem?_eq_getElem (by omega)]; rfl
    · rw [List.getElem?_eq_none (by omega), List.getElem?_eq_none (by omega)]
  · rw [if_neg m, if_neg m, o.2 i fun z => m (h i z), wipe_get, if_neg m]
theorem RepE.wipe {c : Cf} {e : Env} {σ : L2.St} (he : RepE S c e σ) (own : List Nat) : RepE S c (MP.wipe e own) (L2.wipe σ own) := by
  have mg : ∀ (own : List Nat) (e : Env) (i : Nat), (MP.wipe e own)[i]? = if i ∈ own then (e[i]?).map (fun _ => none) else e[i]? := by
    intro own e i
    have ln : ∀ own : List Nat, (MP.wipe e own).length = e.length := by
      intro own
      induction own with
      | nil => rfl
      | cons v vs ih => show ((MP.wipe e vs).set v none).length = _; rw [List.length_set, ih]
    induction own with
    | nil => simp [MP.wipe]
    | cons v vs ih =>
      show ((MP.wipe e vs).set v none)[i]? = _
      by_cases q : v = i
      · subst q
        rw [if_pos List.mem_cons_self]
        by_cases l : v < e.length
        · rw [List.getElem?_set_self (by rw [ln]; exact l), List.getElem?_eq_getElem l]; rfl
        · rw [List.getElem?_eq_none (by rw [List.length_set, ln]; omega), List.getElem?_eq_none (by omega)]; rfl
      · rw [List.getElem?_set_ne q, ih]
        by_cases m : i ∈ vs
        · rw [if_pos m, if_pos (List.mem_cons_of_mem _ m)]
        · rw [if_neg m, if_neg]
          intro h
          rcases List.mem_cons.mp h with h | h
          · exact q h.symm
          · exact m h
  have ln : ∀ own : List Nat, (MP.wipe e own).length = e.length := by
    intro own
    induction own with
    | nil => rfl
    | cons v vs ih => show ((MP.wipe e vs).set v none).length = _; rw [List.length_set, ih]
  refine ⟨by rw [ln, L2.wipe_length]; exact he.1, fun i d h => ?_⟩
  rw [mg] at h
  by_cases m : i ∈ own
  · rw [if_pos m] at h
    cases q : e[i]? with
    | none => rw [q] at h; cases h
    | some o => rw [q] at h; cases h
  · rw [if_neg m] at h
    obtain ⟨v, h1, h2⟩ := he.2 i d h
    exact ⟨v, by rw [wipe_get, if_neg m]; exact h1, h2⟩
theorem _root_.L2.PTs.imp {X : Cx} {e : List Expr} {t t' : TT} (h : PTs X e t) (k : ∀ σ H Q, t' σ H Q → t σ H Q) : PTs X e t' := ⟨fun pins s σ H Q I q => h.run pins s σ H Q I (k σ H Q q)⟩
theorem pts_0 : PTs X [] (tT S cf (.bl true)) := pts_nil.imp fun σ H Q ⟨c, e, r, eH, hh, he, er, nb, q⟩ => by
  subst eH
  exact q true c er.symm (Gr.refl c) hh
theorem pts_1 {ex : Expr} {m : ME} (h : PTX X S cf ex m) : PTs X [ex] (tT S cf m) := pts_one h.pt

/-- one turn of a list comprehension -/
noncomputable def lcF (S : Sx) (cf : CF) (own : List Nat) (t : Tg) (mc me : ME) (e : Env) : D → MH → Res (Option D) := fun d h => match asgT t d (MP.wipe e own) with
        | some e1 => (evalX S.P cf mc e1 h).bind fun y h => match MP.truthy y h with
          | some true => (vOf (evalX S.P cf me e1 h)).bind fun v h => .ok (some v) h
          | some false => .ok none h
          | none => .bad
        | none => .bad
theorem lcF_eq {own : List Nat} {t : Tg} {mc me : ME} {e e1 : Env} {d : D} {h : MH} (q : asgT t d (MP.wipe e own) = some e1) : lcF S cf own t mc me e d h = (tOf (evalX S.P cf mc e1 h)).bind fun b h => match b with
    | true => (evalX S.P cf me e1 h).bind fun x h => (Res.ofO x.toV h).bind fun v h => .ok (some v) h
    | false => .ok none h := by
  unfold lcF
  rw [q]
  show (evalX S.P cf mc e1 h).bind _ = _
  cases evalX S.P cf mc e1 h with
  | bad => rfl
  | exc _ _ _ => rfl
  | ok y h1 =>
    show (match MP.truthy y h1 with | some true => _ | some false => _ | none => _) = (Res.ofO (MP.truthy y h1) h1).bind _
    cases MP.truthy y h1 with
    | none => rfl
    | some b =>
      cases b with
      | true => exact vOf_bind
      | false => rfl
open Classical in
theorem lc_key {ws : List Nat} {t : Tg} {mi mc me : ME} (hso : ∀ i ∈ t.slots, i ∈ ws) (σ : L2.St) (c : Cf) (e : Env) (r : Res MP.X) (hh : Held S c) (he' : RepE S c e σ) (er : evalX S.P cf (.lc ws t mi mc me) e c.h = r) (nb : r ≠ .bad) :
    tLc (tW S cf mi) (tG S t) (tT S cf mc) (tX S cf me) ws σ c.H (Ok S c r) := by
  have er : ((evalX S.P cf mi e c.h).bind fun x h => match items x h with
    | some (xs, g) => if xs.length ≤ MAXL then (loopL g (lcF S cf ws t mc me e) xs h).bind fun ys h => .ok (.l ys) h else .bad
    | none => .bad) = r := er
  refine tW.mk (f := fun xs g h => if xs.length ≤ MAXL then (loopL g (lcF S cf ws t mc me e) xs h).bind fun ys h => .ok (.l ys) h else .bad) hh he' er nb fun xs g c1 J g1 hh1 he1 h1 wk => ?_
  intro q hq
  by_cases hM : xs.length ≤ MAXL
  case neg => rw [if_neg hM] at h1; exact absurd h1.symm nb
  rw [if_pos hM] at h1
  -- the state with the new list reserved
  have hr := rsv_held (o := .lst []) hh1 hq
  refine ⟨fun i n H => ∃ (c2 : Cf) (acc : List D) (vs : List V), c2.H = H ∧ Held S c2 ∧ GrX q (c1.rsv q (.lst [])) c2 ∧ c2.H q = some (.lst vs) ∧ RepVs S c2 acc vs ∧ i ≤ xs.length ∧ n = xs.length - i ∧ acc.length ≤ i ∧
    ((loopL g (lcF S cf ws t mc me e) (xs.drop i) c2.h).bind fun ys h => .ok (.l (acc ++ ys)) h) = r, ⟨_, c1.rsv q (.lst []), [], [], rfl, hr, (Gr.refl _).gx, upd_same, .nil, Nat.zero_le _, rfl, Nat.le_refl _, h1⟩, ?_⟩
  rintro i n H2 ⟨c2, acc, vs, rfl, hh2, g2, hL, ra, hil, hn, hacc, h2⟩
  rcases Nat.lt_or_ge i xs.length with hlt | hge
  · have gt : xs[i]? = some xs[i] := List.getElem?_eq_getElem hlt
    rw [drop_get gt] at h2
    have h2 : ((if guarded g c2.h then (lcF S cf ws t mc me e xs[i] c2.h).bind fun y h1 => (loopL g (lcF S cf ws t mc me e) (xs.drop (i + 1)) h1).bind fun ys h2 => .ok (match y with | some v => v :: ys | none => ys) h2 else .bad).bind fun ys h => .ok (.l (acc ++ ys)) h) = r := h2
    split at h2
    · rename_i hgd
      have kp : Kp c1 c2 := (rsv_sub hq).trans g2.sub
      refine .inr ⟨wk.go i c2 kp hh2 hgd hlt, fun H' => ∃ (c3 : Cf) (acc : List MP.D) (vs : List V), c3.H = H' ∧ Held S c3 ∧ GrX q (c1.rsv q (.lst [])) c3 ∧ c3.H q = some (.lst vs) ∧ RepVs S c3 acc vs ∧ acc.length ≤ i + 1 ∧
        ((loopL g (lcF S cf ws t mc me e) (xs.drop (i + 1)) c3.h).bind fun ys h => .ok (.l (acc ++ ys)) h) = r, fun H' ⟨c3, acc, vs, e1, e2, e3, e4, e5, e6, e7⟩ => ⟨xs.length - (i + 1), by omega, c3, acc, vs, e1, e2, e3, e4, e5, by omega, rfl, e6, e7⟩, fun v H' hy => ?_⟩
      obtain ⟨c3, d, rfl, e3, g3, hh3, hd, rd⟩ := wk.yld i c2 v H' kp hh2 hgd hlt hy
      rw [gt] at hd
      cases hd
      have xq : c2.x q := by rw [g2.xx]; exact .inr rfl
      cases z : asgT t xs[i] (MP.wipe e ws) with
      | none =>
        exfalso
        have : lcF S cf ws t mc me e xs[i] c2.h = .bad := by unfold lcF; rw [z]
        rw [this] at h2
        exact nb h2.symm
      | some e4 =>
        rw [lcF_eq z] at h2
        have he3 : RepE S c3 (MP.wipe e ws) (L2.wipe σ ws) := ((he1.wipe _).sub' (kp.trans g3.sub))
        refine ⟨c3, _, e4, _, rfl, hh3, he3, rd, z, fun σ4 he4 o4 => ⟨o4.wipe hso, ?_⟩⟩
        rw [← e3] at h2
        have h2 : ((tOf (evalX S.P cf mc e4 c3.h)).bind fun b h => (((match b with
          | true => (evalX S.P cf me e4 h).bind fun x h => (Res.ofO x.toV h).bind fun v h => .ok (some v) h
          | false => .ok none h).bind fun y h1 => (loopL g (lcF S cf ws t mc me e) (xs.drop (i + 1)) h1).bind fun ys h2 => .ok (match y with | some v => v :: ys | none => ys) h2).bind fun ys h => .ok (.l (acc ++ ys)) h)) = r := by
          rw [← h2]
          cases tOf (evalX S.P cf mc e4 c3.h) <;> rfl
        refine tT.mk hh3 he4 h2 nb fun b c5 g5 hh5 he5 h5 => ?_
        cases b with
        | false =>
          rw [if_neg Bool.false_ne_true]
          refine ⟨c5, acc, vs, rfl, hh5, g2.trans (g3.gx.trans g5.gx), ?_, ra.mono (g3.trans g5), by omega, ?_⟩
          · rw [g5.res q (by rw [g3.xx]; exact xq), g3.res q xq]; exact hL
          · rw [← h5]
            show _ = (((Res.ok none c5.h).bind fun y h1 => _).bind _)
            show _ = ((loopL g (lcF S cf ws t mc me e) (xs.drop (i + 1)) c5.h).bind fun ys h2 => Res.ok ys h2).bind _
            rw [Res.bind_ok]
        | true =>
          rw [if_pos rfl]
          have h5 : ((evalX S.P cf me e4 c5.h).bind fun x h => ((((Res.ofO x.toV h).bind fun v h => Res.ok (some v) h).bind fun y h1 => (loopL g (lcF S cf ws t mc me e) (xs.drop (i + 1)) h1).bind fun ys h2 => .ok (match y with | some v => v :: ys | none => ys) h2).bind fun ys h => .ok (.l (acc ++ ys)) h)) = r := by
            rw [← h5]
            show _ = ((((evalX S.P cf me e4 c5.h).bind fun x h => (Res.ofO x.toV h).bind fun v h => Res.ok (some v) h).bind _).bind _)
            cases evalX S.P cf me e4 c5.h <;> rfl
          refine tX.mk hh5 he5 h5 nb fun x c6 v6 g6 hh6 he6 rx h6 => ?_
          cases y : x.toV with
          | none => rw [y] at h6; exact absurd h6.symm nb
          | some d6 =>
            rw [y] at h6
            have xq6 : c6.x q := by rw [g6.xx, g5.xx, g3.xx]; exact xq
            have hL6 : c6.H q = some (.lst vs) := by rw [g6.res q (by rw [g5.xx, g3.xx]; exact xq), g5.res q (by rw [g3.xx]; exact xq), g3.res q xq]; exact hL
            have g26 := g3.trans (g5.trans g6)
            have la : acc.length < sizeLine := by have := maxl; omega
            refine ⟨vs, hL6, by rw [ra.length]; exact la, c6.at q (.lst (vs ++ [v6])), acc ++ [d6], vs ++ [v6], rfl, at_held hh6 xq6, g2.trans (g26.gx.trans (GrX.at xq6)), upd_same, ?_, by simp; omega, ?_⟩
            · exact ((ra.mono g26).append (.cons (rx.toV y) .nil)).sub (GrX.at xq6).sub
            · rw [← h6]
              show _ = ((((Res.ok d6 c6.h).bind fun v h => Res.ok (some v) h).bind _).bind _)
              show _ = ((loopL g (lcF S cf ws t mc me e) (xs.drop (i + 1)) c6.h).bind fun ys h2 => Res.ok (d6 :: ys) h2).bind _
              show (loopL g _ _ c6.h).bind _ = _
              cases loopL g (lcF S cf ws t mc me e) (xs.drop (i + 1)) c6.h with
              | bad => rfl
              | exc _ _ _ => rfl
              | ok ys h =>
                show Res.ok (MP.X.l (acc ++ [d6] ++ ys)) h = Res.ok (MP.X.l (acc ++ d6 :: ys)) h
                rw [List.append_assoc]
                rfl
    · exact absurd h2.symm nb
  · rw [List.drop_of_length_le hge] at h2
    have h2 : ((if guarded g c2.h then Res.ok ([] : List MP.D) c2.h else .bad).bind fun ys h => .ok (.l (acc ++ ys)) h) = r := h2
    split at h2
    · rename_i hgd
      have kp : Kp c1 c2 := (rsv_sub hq).trans g2.sub
      refine .inl ⟨wk.stop i c2 kp hh2 hgd hge, ?_⟩
      have h2 : Res.ok (MP.X.l (acc ++ [])) c2.h = r := h2
      rw [List.append_nil] at h2
      exact ⟨.l acc, c2.fin c1.x, h2.symm, rfl, g1.trans (g2.done hh1 hq), fin_held g2 hh2, (filled_l hq hh1 g2 hh2 hL ra).back g1⟩
    · exact absurd h2.symm nb
theorem px_lc {elt tg iter : Expr} {ifs : List Expr} {scope : Scope} {own : List (Str × Nat)} {t : Tg} {mi mc me : ME} (C : Ctx X S k) (hi : PI X tg iter (tW S cf mi)) (ok : BlkOk X.N X.env.scope scope own)
    (hg : ∀ (s : Shared) (H : Hp) (c : Addr) (cl : List (Str × Addr)) (fp : List Addr), PG (X.blk s H scope (compEnvC scope cl c X.env) fp) tg (tG S t)) (ht : ∀ (s : Shared) (H : Hp) (c : Addr) (cl : List (Str × Addr)) (fp : List Addr), PTs (X.blk s H scope (compEnvC scope cl c X.env) fp) ifs (tT S cf mc))
    (he : ∀ (s : Shared) (H : Hp) (c : Addr) (cl : List (Str × Addr)) (fp : List Addr), PX (X.blk s H scope (compEnvC scope cl c X.env) fp) S cf elt me) (hso : ∀ i ∈ t.slots, i ∈ own.map (·.2) := by decide) (hs : ∀ x, foldedSetIterable iter X.env x = pure x := by intro _; rfl) :
    PX X S cf (.ListComp elt [⟨tg, iter, ifs, 0⟩] scope pos) (.lc (own.map (·.2)) t mi mc me) :=
  px_of (pe_lc C.calm C.nd hi ok hg ht (fun s H c cl fp => (he s H c cl fp).pe) hs) (lc_key hso)
theorem tLc_mono {mi : ME} {g : TG} {tt : TT} {te : TE} {ws : List Nat} {σ : L2.St} {H : Hp} {Q Q' : VK} (h : tLc (tW S cf mi) g tt te ws σ H Q) (k : ∀ v H', Q v H' → Q' v H') : tLc (tW S cf mi) g tt te ws σ H Q' := by
  obtain ⟨c, e, r, e1, e2, e3, e4, e5, e6⟩ := h
  refine ⟨c, e, r, e1, e2, e3, e4, e5, fun x c' h1 h2 h3 => ?_⟩
  obtain ⟨pp, hp, hJ⟩ := e6 x c' h1 h2 h3
  refine ⟨pp, hp, fun J W D hD => ?_⟩
  obtain ⟨W, hW, step⟩ := hJ J W D hD
  exact ⟨W, hW, fun i m H' hw => (step i m H' hw).imp (fun ⟨a, b⟩ => ⟨a, k _ _ b⟩) id⟩
/-- name = [..] on one line -/
theorem ps_setLcX {i : Nat} {y : Str} {py spos : Pos} {elt tg iter : Expr} {ifs : List Expr} {scope : Scope} {own : List (Str × Nat)} {t : Tg} {mi mc me : ME} (C : Ctx X S k) (hy : X.N[i]? = some y) (hyl : X.env.scope.names.lookup y = some .local) (hi : PI X tg iter (tW S cf mi)) (ok : BlkOk X.N X.env.scope scope own)
    (hg : ∀ (s : Shared) (H : Hp) (c : Addr) (cl : List (Str × Addr)) (fp : List Addr), PG (X.blk s H scope (compEnvC scope cl c X.env) fp) tg (tG S t)) (ht : ∀ (s : Shared) (H : Hp) (c : Addr) (cl : List (Str × Addr)) (fp : List Addr), PTs (X.blk s H scope (compEnvC scope cl c X.env) fp) ifs (tT S cf mc))
    (he : ∀ (s : Shared) (H : Hp) (c : Addr) (cl : List (Str × Addr)) (fp : List Addr), PX (X.blk s H scope (compEnvC scope cl c X.env) fp) S cf elt me) (hsw : swapsWith (.ListComp elt [⟨tg, iter, ifs, 0⟩] scope pos) (some (.Name y py)) spos.line X.env = pure true := by rfl) (hso : ∀ i ∈ t.slots, i ∈ own.map (·.2) := by decide) (hs : ∀ x, foldedSetIterable iter X.env x = pure x := by intro _; rfl) :
    PS X (.Assign [.Name y py] (.ListComp elt [⟨tg, iter, ifs, 0⟩] scope pos) spos) (tS S cf (.asg (.v i) (.lc (own.map (·.2)) t mi mc me))) :=
  (ps_setLc C.calm C.nd hy hyl hsw hi ok hg ht (fun s H c cl fp => (he s H c cl fp).pe) hs).imp fun En σ H ⟨c, e, r, eH, hh, he', er, nb, q⟩ => by
    subst eH
    have er : ((evalX S.P cf (.lc (own.map (·.2)) t mi mc me) e c.h).bind fun x h => match asgX (.v i) x h e with | some e1 => .ok (.nx e1) h | none => .bad) = r := er
    show tLc (tW S cf mi) (tG S t) (tT S cf mc) (tX S cf me) (own.map (·.2)) σ c.H (fun x H1 => En.nx (σ.set i (some x)) H1)
    refine tLc_mono (lc_key hso σ c e _ hh he' rfl fun z => by rw [z] at er; exact nb er.symm) fun v H' ⟨x, c1, h1, eH, g1, hh1, rx⟩ => ?_
    subst eH
    rw [h1] at er
    have er : (match asgX (.v i) x c1.h e with | some e1 => Res.ok (Fl.nx e1) c1.h | none => .bad) = r := er
    have z : asgX (.v i) x c1.h e = match x.toV with | some d => asgT (.v i) d e | none => none := rfl
    cases y : x.toV with
    | none => rw [z, y] at er; exact absurd er.symm nb
    | some d =>
      rw [z, y] at er
      have er : (match (if i < e.length then some (e.set i (some d)) else none) with | some e1 => Res.ok (Fl.nx e1) c1.h | none => .bad) = r := er
      split at er
      · rename_i e1 he1
        split at he1
        · cases he1
          exact q (.nx _) c1 er.symm g1 hh1 _ ((he'.mono g1).set (rx.rx.toV y) i)
        · cases he1
      · exact absurd er.symm nb
end
end MP

/-! MP20: dict displays; stores into lists and dicts. -/
namespace MP
open PySem PySem.Spec PyProof.Rows L2 Dk

section
variable {prog : Program} {w : World} {A : Around} {E : Value → Shared → Prop}
def storesE (xs : List Ent) : List Ent → List Ent
  | [] => xs
  | k :: r => storesE (storeE xs k.1 k.2.1 k.2.2) r
theorem storeE_len (xs : List Ent) (k : NestedKey) (u v : Value) : (storeE xs k u v).length ≤ xs.length + 1 := by
  unfold storeE
  split
  · rw [List.length_map]; omega
  · rw [List.length_append]; exact Nat.le_refl _
theorem stores_any (hu : A.units + 9 < cLine) {q : Addr} : ∀ (ks : List Ent) (xs : List Ent) (s : Shared) (o : Obj) (es : Array DictEntry) (ep : Nat) (Q : PUnit → Shared → Prop), (∀ k ∈ ks, KeyHere s.heap k.1 k.2.1) → Raw w s.heap q xs o es ep → xs.length + ks.length ≤ sizeLine →
    (∀ h' o' es' ep' tk, Raw w h' q (storesE xs ks) o' es' ep' → Heap.SameBut q s.heap h' → Q PUnit.unit { s with heap := h', toks := tk }) → wpAny (model prog w) A (storeAll q (ks.map fun k => (k.2.1, k.2.2))) Q E s
  | [], xs, s, o, es, ep, Q, hk, r, hz, h => by
    unfold storeAll
    rw [List.map_nil, List.forIn_nil]
    exact wpAny_pure (h s.heap o es ep s.toks r ⟨rfl, fun _ _ => rfl⟩)
  | k :: ks, xs, s, o, es, ep, Q, hk, r, hz, h => by
    unfold storeAll
    rw [List.map_cons, List.forIn_cons]
    obtain ⟨k1, k2, k3⟩ := k
    have hl := storeE_len xs k1 k2 k3
    rw [List.length_cons] at hz
    refine wpAny_bind (wpAny_bind (set_any (by omega) (hk _ List.mem_cons_self) r (by omega) fun h1 o1 es1 ep1 r1 sb1 => wpAny_pure ?_))
    exact stores_any hu ks _ { s with heap := h1, toks := s.toks + k1.draws } o1 es1 ep1 Q (fun k' hk' => key_keeps (hk k' (List.mem_cons_of_mem _ hk')) r.at_ r.dat sb1) r1 (by show (storeE xs k1 k2 k3).length + ks.length ≤ sizeLine; omega) fun h' o' es' ep' tk r' sb' =>
      h h' o' es' ep' tk r' ⟨sb'.1.trans sb1.1, fun b hb => (sb'.2 b hb).trans (sb1.2 b hb)⟩
end
section
variable {X : Cx} {S : Sx} {cf : CF} {k : Nat} {pos p : Pos} {a b d : Expr} {ma mb mo : ME}
theorem stores_rel {c : Cf} : ∀ (ps : List (D × D)) (ks : List Ent) (kvs : List (D × D)) (xs : List Ent), okKeys ps = true → KRel S c ps ks → KRel S c kvs xs → Apart kvs → KRel S c (dputs kvs ps) (storesE xs ks) ∧ Apart (dputs kvs ps)
  | [], _, kvs, xs, _, .nil, q, ap => ⟨q, ap⟩
  | (x, y) :: ps, _, kvs, xs, ok, .cons (b := kk) (l₂ := r2) ⟨h0, h1, ⟨kv, h2, h3⟩, vv, h4, h5⟩ t, q, ap => by
    have ok : (okKey x && okKeys ps) = true := ok
    rw [Bool.and_eq_true] at ok
    exact stores_rel ps r2 _ _ ok.2 t (put_rel h0 h1 h2 h3 h4 h5 q) (ap.put h0)
/-- a dict's object is written -/
theorem wr_dict {pins : List (Addr × Obj)} {σ : L2.St} {s : Shared} {H : Hp} {q : Addr} {es es2 : List DictEntry} {h' : Heap} {o' : Obj} {ep' tk : Nat} (I : Inv X pins σ H s) (hq : H q = some (DO q es)) (sb : Heap.SameBut q s.heap h') (ho : h'.get? q = some o') (hx : o'.ExactDict) (hd : o'.data = .dict es2.toArray ep') :
    Inv X pins σ (upd H q (DO q es2)) { s with heap := h', toks := tk } := by
  refine I.write (x := q) (e := q) (by rw [hq]; trivial) (.inl rfl) (fun b u hb h => (sb.2 b hb).trans h) ⟨o', ho⟩ ⟨⟨o', ep', ho, hx, hd⟩, ⟨o', ho⟩, fun h1 h2 ⟨o, ep, a1, a2, a3⟩ k => ⟨o, ep, k o a1, a2, a3⟩⟩
/-- the pairs of a display, as they are evaluated -/
def PairsAre (S : Sx) (c : Cf) : List (D × D) → List (Value × Value) → Prop := Paired fun (p : D × D) (u : Value × Value) => (∃ kv, RepV S c p.1 kv ∧ RelV kv u.1) ∧ ∃ vv, RepV S c p.2 vv ∧ RelV vv u.2
theorem PairsAre.mono {c c' : Cf} (g : Gr c c') : ∀ {ps : List (D × D)} {us : List (Value × Value)}, PairsAre S c ps us → PairsAre S c' ps us
  | _, _, .nil => .nil
  | _, _, .cons ⟨⟨kv, a1, a2⟩, vv, b1, b2⟩ t => .cons ⟨⟨kv, a1.mono g, a2⟩, vv, b1.mono g, b2⟩ (PairsAre.mono g t)
def PD (X : Cx) (S : Sx) (cf : CF) (keys : List (Option Expr)) (values : List Expr) (ms : MEs) : Prop :=
  ∀ (pos : Pos) (pins : List (Addr × Obj)) (s : Shared) (σ : L2.St) (c : Cf) (e : Env) (r : Res (List D)), Inv X pins σ c.H s → Held S c → RepE S c e σ → evalVs S.P cf ms e c.h = r → r ≠ .bad →
    wpAny (model X.prog X.w) X.A (evalPairs (pairTrees keys values X.env pos)) (fun us s' => ∃ (c' : Cf) (ds : List D) (ps : List (D × D)), r = .ok ds c'.h ∧ Inv X pins σ c'.H s' ∧ Gr c c' ∧ Held S c' ∧ pairUp ds = some ps ∧ PairsAre S c' ps us) X.xe s
theorem pd_nil : PD X S cf [] [] .n := fun pos pins s σ c e r I hh he er nb => by
  subst er
  exact pairTrees_nil_walk ⟨c, [], [], rfl, I, Gr.refl c, hh, rfl, .nil⟩
theorem pd_cons {kx vx : Expr} {ks : List (Option Expr)} {vs : List Expr} {mk mv : ME} {ms : MEs} (hk : PX X S cf kx mk) (hv : PX X S cf vx mv) (hr : PD X S cf ks vs ms) : PD X S cf (some kx :: ks) (vx :: vs) (.c mk (.c mv ms)) := fun pos pins s σ c e r I hh he er nb => by
  have er : ((evalX S.P cf mk e c.h).bind fun x h => match x.toV with
    | some v => (((evalX S.P cf mv e h).bind fun x h => match x.toV with
      | some v => (evalVs S.P cf ms e h).bind fun vs h => .ok (v :: vs) h
      | none => .bad)).bind fun vs h => .ok (v :: vs) h
    | none => .bad) = r := er
  refine pairTrees_cons_walk (hk.seq I hh he er nb Wx.any fun u s1 x c1 v I1 hh1 he1 g1 rx rv h1 w1 => ?_)
  cases q : x.toV with
  | none => rw [q] at h1; exact absurd h1.symm nb
  | some d1 =>
    rw [q] at h1
    have h1 : ((evalX S.P cf mv e c1.h).bind fun x h => (((match x.toV with
      | some v => (evalVs S.P cf ms e h).bind fun vs h => .ok (v :: vs) h
      | none => .bad)).bind fun vs h => .ok (d1 :: vs) h)) = r := by
      rw [← h1]
      cases evalX S.P cf mv e c1.h <;> rfl
    refine hv.seq I1 hh1 he1 h1 nb Wx.any fun u2 s2 y c2 v2 I2 hh2 he2 g2 ry rv2 h2 w2 => ?_
    cases q2 : y.toV with
    | none => rw [q2] at h2; exact absurd h2.symm nb
    | some d2 =>
      rw [q2] at h2
      have h2 : (((evalVs S.P cf ms e c2.h).bind fun vs h => .ok (d2 :: vs) h).bind fun vs h => .ok (d1 :: vs) h) = r := h2
      refine thn (hr pos pins s2 σ c2 e _ I2 hh2 he2 rfl fun z => by rw [z] at h2; exact nb h2.symm) fun us s3 ⟨c3, ds, ps, e3, I3, g3, hh3, hp, pa⟩ => ?_
      rw [e3] at h2
      refine ⟨c3, d1 :: d2 :: ds, (d1, d2) :: ps, h2.symm, I3, g1.trans (g2.trans g3), hh3, ?_, .cons ⟨⟨v, (rx.toV q).mono (g2.trans g3), rv⟩, v2, (ry.toV q2).mono g3, rv2⟩ pa⟩
      show (pairUp ds).map _ = _
      rw [hp]
      rfl
theorem ents_of {c : Cf} : ∀ {ps : List (D × D)} {us : List (Value × Value)}, okKeys ps = true → PairsAre S c ps us → ∃ ks : List Ent, us = ks.map (fun k => (k.2.1, k.2.2)) ∧ KRel S c ps ks
  | [], _, _, .nil => ⟨[], rfl, .nil⟩
  | (x, y) :: ps, _, ok, .cons (b := u) ⟨⟨kv, a1, a2⟩, vv, b1, b2⟩ t => by
    have ok : (okKey x && okKeys ps) = true := ok
    rw [Bool.and_eq_true] at ok
    obtain ⟨nk, hk, hd⟩ := okKey_some ok.1
    obtain ⟨ks, e1, kr⟩ := ents_of ok.2 t
    exact ⟨(nk, u.1, u.2) :: ks, by rw [e1]; rfl, .cons ⟨hk, hd, ⟨kv, a1, a2⟩, vv, b1, b2⟩ kr⟩
theorem RepKs.sub' {c c' : Cf} (g : Kp c c') {kvs : List (D × D)} {es : List DictEntry} (r : RepKs S c kvs es) : RepKs S c' kvs es := r.sub g
theorem DO_new {pins : List (Addr × Obj)} {σ : L2.St} {s : Shared} {H : Hp} (I : Inv X pins σ H s) : Inv X pins σ (upd H s.heap.objs.size (DO s.heap.objs.size [])) { s with heap := s.heap.push { cls := .type "dict", data := .dict #[] } } :=
  I.laid (a := s.heap.objs.size) (o := DO s.heap.objs.size []) (t' := s.toks) (fun _ _ q => Heap.get?_push_of_some _ q) (Nat.le_refl _) ⟨⟨_, 0, Heap.get?_push_size _ rfl, ⟨rfl, rfl, rfl⟩, rfl⟩, ⟨_, Heap.get?_push_size _ rfl⟩, fun h1 h2 ⟨o, ep, a1, a2, a3⟩ k => ⟨o, ep, k o a1, a2, a3⟩⟩
theorem px_dct0 (C : Ctx X S k) : PX X S cf (.Dict [] [] pos) (.dct .n) := by
  intro pins s σ c e r I hh he er nb w
  have hq : c.H s.heap.objs.size = none := I.hok.fresh (Nat.le_refl _)
  have J := DO_new I
  have hs : (s.heap.objs.size == sysModules) = false := by
    exact beq_eq_false_iff_ne.mpr (Nat.ne_of_gt I.big)
  have g0 : GrX s.heap.objs.size (c.rsv s.heap.objs.size (DO s.heap.objs.size [])) (c.rsv s.heap.objs.size (DO s.heap.objs.size [])) := (Gr.refl _).gx
  have hr := rsv_held (o := DO s.heap.objs.size []) hh hq
  have er : Res.ok (MP.X.k []) c.h = r := by
    rw [← er]
    show _ = (if okKeys [] = true ∧ ([] : List (MP.D × MP.D)).length ≤ 15 then Res.ok (MP.X.k (dputs [] [])) c.h else .bad)
    rw [if_pos ⟨rfl, by decide⟩]
    rfl
  exact wpAny_Dict_empty ⟨_, _, er.symm, (c.rsv s.heap.objs.size (DO s.heap.objs.size [])).fin c.x, .ref _, J, rfl, g0.done hh hq, fin_held g0 hr, filled_k hq hh g0 hr upd_same ⟨hs, Apart.nil⟩ .nil, rfl⟩
theorem px_dct (C : Ctx X S k) {keys : List (Option Expr)} {values : List Expr} {ms : MEs} (h : PD X S cf keys values ms) (hall : keys.all (·.isSome) = true := by rfl) (hl : keys.length = values.length := by rfl) (h0 : keys ≠ [] := by exact fun z => nomatch z) (hlen : keys.length ≤ 15 := by decide) : PX X S cf (.Dict keys values pos) (.dct ms) := by
  intro pins s σ c e r I hh he er nb w
  have er : ((evalVs S.P cf ms e c.h).bind fun ds h => match pairUp ds with
    | some kvs => if okKeys kvs = true ∧ kvs.length ≤ 15 then .ok (.k (dputs [] kvs)) h else .bad
    | none => .bad) = r := er
  have hq : c.H s.heap.objs.size = none := I.hok.fresh (Nat.le_refl _)
  have J := DO_new I
  have hs : (s.heap.objs.size == sysModules) = false := by
    exact beq_eq_false_iff_ne.mpr (Nat.ne_of_gt I.big)
  have hr := rsv_held (o := DO s.heap.objs.size []) hh hq
  refine wpAny_Dict_any hall hl h0 hlen ?_
  generalize s.heap.objs.size = q at *
  refine thn (h pos pins _ σ (c.rsv q (DO q [])) e _ J hr (he.sub' (rsv_sub hq)) rfl fun z => by
    have z : evalVs S.P cf ms e c.h = .bad := z
    rw [z] at er; exact nb er.symm) fun us s2 ⟨c2, ds, ps, e2, I2, g2, hh2, hp, pa⟩ => ?_
  have e2 : evalVs S.P cf ms e c.h = .ok ds c2.h := e2
  rw [e2] at er
  have er : (match pairUp ds with
    | some kvs => if okKeys kvs = true ∧ kvs.length ≤ 15 then Res.ok (.k (dputs [] kvs)) c2.h else .bad
    | none => .bad) = r := er
  rw [hp] at er
  have er : (if okKeys ps = true ∧ ps.length ≤ 15 then Res.ok (MP.X.k (dputs [] ps)) c2.h else .bad) = r := er
  split at er
  · rename_i hok
    have xq : (c.rsv q (DO q [])).x q := .inr rfl
    have hD : c2.H q = some (DO q []) := by rw [g2.res q xq]; exact upd_same
    obtain ⟨ks, eu, kr⟩ := ents_of hok.1 pa
    subst eu
    obtain ⟨⟨o, ep, ho, hx, hd⟩, _⟩ := I2.hok _ _ hD
    have raw : Raw X.w s2.heap q [] o #[] ep := ⟨ho, hx, hd, rfl, (fun _ z => nomatch z), List.nodup_nil⟩
    have l15 : ks.length = ps.length := kr.length
    refine stores_any (by have := C.un; omega) ks [] s2 o #[] ep _ (fun x hx => kr.here C.K I2 x hx) raw (by rw [List.length_nil, sizeLine_eq]; omega) fun h' o' es' ep' tk r' sb => ?_
    obtain ⟨kr2, ap2⟩ := stores_rel ps ks [] [] hok.1 kr .nil Apart.nil
    have ee : es' = ((storesE [] ks).map (ent X.w)).toArray := by rw [← r'.es]
    have I3 := wr_dict (es2 := (storesE [] ks).map (ent S.w)) (tk := tk) I2 hD sb r'.at_ r'.ex (by rw [r'.dat, ee, C.w])
    have x2 : c2.x q := by rw [g2.xx]; exact xq
    have g3 : GrX q (c.rsv q (DO q [])) (c2.at q (DO q ((storesE [] ks).map (ent S.w)))) := g2.gx.trans (GrX.at x2)
    have hh3 : Held S (c2.at q (DO q ((storesE [] ks).map (ent S.w)))) := at_held hh2 x2
    exact ⟨_, _, er.symm, (c2.at q (DO q ((storesE [] ks).map (ent S.w)))).fin c.x, .ref q, I3, rfl, g3.done hh hq, fin_held g3 hh3, filled_k hq hh g3 hh3 upd_same ⟨hs, ap2⟩ (kr2.reps.sub (GrX.at x2).sub), rfl⟩
  · exact absurd er.symm nb
end
end MP

/-! MP21: stores into lists and dicts; extend, insert. -/
namespace MP
open PySem PySem.Spec PyProof.Rows L2 Dk
section
variable {X : Cx} {S : Sx} {cf : CF} {k : Nat} {pos p : Pos} {a b d : Expr} {ma mb mo : ME}
theorem RepVs.set {c : Cf} {d : D} {v : V} (r : RepV S c d v) : ∀ {xs : List D} {vs : List V} (i : Nat), RepVs S c xs vs → RepVs S c (xs.set i d) (vs.set i v)
  | _, _, _, .nil => .nil
  | _, _, 0, .cons _ t => .cons r t
  | _, _, i + 1, .cons h t => .cons h (RepVs.set r i t)
def tSetX (S : Sx) : TSet := fun o i v H Q => ∃ (c0 c : Cf) (x : MP.X) (kd d : D) (h' : MH), c.H = H ∧ Held S c ∧ RepX S c0 c x o ∧ RepV S c kd i ∧ RepV S c d v ∧ setX x kd d c.h = some h' ∧ ∀ c', c'.h = h' → Gr c c' → Held S c' → Q c'.H
theorem set_any' (C : Ctx X S k) : PSet X (tSetX S) := by
  intro pins s σ H o i v ov iv u Q I ro ri rv h
  obtain ⟨c0, c, x, kd, d, h', eH, hh, rx, rk, rd, hs, q⟩ := h
  subst eH
  unfold setX at hs
  split at hs
  · rename_i n
    have rx : RepV S c (.ref n) o := rx
    cases rx with
    | ref hn =>
      rename_i p
      split at hs
      · rename_i xs hx
        split at hs
        · rename_i j
          split at hs
          · rename_i hj
            cases hs
            cases rk
            obtain ⟨vs, h1, h2⟩ := hh.obj _ _ _ hn hx
            have l := h2.length
            refine set_list pins s σ c.H _ _ v ov iv u Q I ro ri rv ⟨p, vs, j, j.toNat, rfl, rfl, h1, ?_, ?_⟩
            · unfold ixN
              rw [if_pos hj.1, if_pos (by omega)]
            · have g : Gr c (c.wr n p (.lst (vs.set j.toNat v)) (.lst (xs.set j.toNat d))) := Gr.wr hh hn hx (fun z => nomatch z)
              exact q (c.wr n p (.lst (vs.set j.toNat v)) (.lst (xs.set j.toNat d))) rfl g (hh.wr hn hx (fun z => nomatch z) ⟨_, upd_same, (RepVs.set rd _ h2).mono g⟩)
          · cases hs
        · cases hs
      · rename_i kvs hx
        split at hs
        · rename_i hok
          cases hs
          obtain ⟨es, h1, ⟨hsm, ap⟩, rk2⟩ := hh.obj _ _ _ hn hx
          cases ro
          obtain ⟨nk, hk, hd⟩ := okKey_some hok.1
          obtain ⟨xs, ob, ep, kr, _, raw⟩ := raw_of C.K I h1 ap rk2
          have kh : KeyHere s.heap nk iv := ⟨rk.nested C.K I _ _ _ _ hk ri, hd⟩
          have ml := maxl
          refine put_any (w := X.w) (by have := C.un; omega) kh (C.w ▸ raw) (by rw [kr.length]; omega) fun h2 o2 es2 ep2 r2 sb => ?_
          have kr2 := put_rel hk hd rk ri rd rv kr
          have ee : es2 = ((storeE xs nk iv u).map (ent X.w)).toArray := by rw [← r2.es]
          have I3 := wr_dict (es2 := (storeE xs nk iv u).map (ent S.w)) (tk := s.toks + nk.draws) I h1 sb r2.at_ r2.ex (by rw [r2.dat, ee, C.w])
          have g : Gr c (c.wr n p (DO p ((storeE xs nk iv u).map (ent S.w))) (.dct (dput kvs kd d))) := Gr.wr hh hn hx (fun z => nomatch z)
          exact ⟨_, I3, q _ rfl g (hh.wr hn hx (fun z => nomatch z) ⟨_, upd_same, ⟨hsm, ap.put hk⟩, kr2.reps.mono g⟩)⟩
        · cases hs
      · cases hs
  · cases hs
/-- o[i] = value -/
theorem ps_isetX (C : Ctx X S k) {o i ex : Expr} {mi m : ME} {p1 : Pos} (ho : PX X S cf o mo) (hi : PX X S cf i mi) (h : PX X S cf ex m) (hs : swapsWithSole [.Subscript o i p1] ex pos.line X.env = pure false := by rfl) (hw : swappedStores [.Subscript o i p1] ex X.env = pure none := by rfl)
    (h1 : (assignEach [.Subscript o i p1] X.env).map (·.2) = [assign (.Subscript o i p1) X.env] := by rfl)
    (ha : ∀ v, assign (.Subscript o i p1) X.env v = (do
      let ov ← holding [v] (eval o X.env)
      let iv ← holding [v, ov] (eval i X.env)
      standAt p1
      holding [v, ov, iv] (setItem ov iv v)
      release [v, ov, iv] []) := by intro _; rfl) : PS X (.Assign [.Subscript o i p1] ex pos) (tS S cf (.iset mo mi m)) := (ps_asg h.pe (pg_sub ho.pe hi.pe (set_any' C) ha) hs hw h1).imp fun En σ H ⟨c, e, r, eH, hh, he, er, nb, q⟩ => by
  subst eH
  have er : ((vOf (evalX S.P cf m e c.h)).bind fun v h => (evalX S.P cf mo e h).bind fun x h => (vOf (evalX S.P cf mi e h)).bind fun k h => match setX x k v h with
    | some h' => .ok (.nx e) h'
    | none => .bad) = r := er
  rw [vOf_bind] at er
  show tX S cf m σ c.H (fun x H1 => tX S cf mo σ H1 fun o H2 => tX S cf mi σ H2 fun i H3 => tSetX S o i x H3 fun H4 => En.nx σ H4)
  refine tX.mk hh he er nb fun x c1 v g1 hh1 he1 rx h1 => ?_
  cases t : x.toV with
  | none => rw [t] at h1; exact absurd h1.symm nb
  | some d1 =>
    rw [t] at h1
    have h1 : ((evalX S.P cf mo e c1.h).bind fun x h => (vOf (evalX S.P cf mi e h)).bind fun k h => match setX x k d1 h with
      | some h' => .ok (.nx e) h'
      | none => .bad) = r := h1
    refine tX.mk hh1 he1 h1 nb fun y c2 v2 g2 hh2 he2 ry h2 => ?_
    rw [vOf_bind] at h2
    refine tX.mk hh2 he2 h2 nb fun z c3 v3 g3 hh3 he3 rz h3 => ?_
    cases t2 : z.toV with
    | none => rw [t2] at h3; exact absurd h3.symm nb
    | some d3 =>
      rw [t2] at h3
      have h3 : (match setX y d3 d1 c3.h with
        | some h' => Res.ok (.nx e) h'
        | none => .bad) = r := h3
      cases t3 : setX y d3 d1 c3.h with
      | none => rw [t3] at h3; exact absurd h3.symm nb
      | some h' =>
        rw [t3] at h3
        refine ⟨c1, c3, y, d3, d1, h', rfl, hh3, ry.mono g3, rz.toV t2, (rx.toV t).mono (g2.trans g3), t3, fun c4 e4 g4 hh4 => ?_⟩
        subst e4
        exact q (.nx e) c4 h3.symm (g1.trans (g2.trans (g3.trans g4))) hh4 σ (he3.mono g4)

/-! ### methods whose argument is looked into -/
def MtW (X : Cx) (S : Sx) (id : String) (g : MP.X → MP.X → MH → Option (MP.X × MH)) : Prop :=
  ∀ (pins : List (Addr × Obj)) (s : Shared) (σ : L2.St) (c0 c1 c : Cf) (x y : MP.X) (z : MP.X) (h' : MH) (v w : V) (u t : Value), Inv X pins σ c.H s → Held S c → RepX S c0 c x v → RelV v u → RepX S c1 c y w → RelV w t → g x y c.h = some (z, h') →
    wpAny (model X.prog X.w) X.A (call (.builtin id) [u, t]) (EP X pins σ (QX S c z h')) X.xe s
variable {o ex : Expr} {name : Str} {apos cpos : Pos} {T id : String} {m : MB}
theorem px_mw (C : Ctx X S k) (pa : PlainAttrs T) (slot : Slot T name id) (hty : typeOf (.builtin id) = pure (.type "method_descriptor")) (hm : MtW X S id (mbW m)) (ho : PX X S cf o mo) (ha : PX X S cf ex ma) (hT : T = tyName m.kind := by rfl) (hk : m.kind < 3 := by decide)
    (hbase : attributeBase o name X.env (eval o X.env) = eval o X.env := by rfl)
    (hfew : ((backTo cpos (starEach [ex] X.env)).all (fun x => !x.1) && (backToKw cpos (keywordEach [] X.env)).all (fun x => x.1.isSome)
      && decide ([ex].length + ([] : List Keyword).length + (if ([] : List Keyword).isEmpty then 0 else 1) < 30)) = true := by rfl)
    (hline : (apos.endLine == cpos.line) = true := by rfl) (hs : starEach [ex] X.env = (false, eval ex X.env) :: starEach [] X.env := by rfl) (hplain : (backTo cpos (starEach [] X.env)).any (·.1) = false := by rfl) :
    PX X S cf (.Call (.Attribute o name apos) [ex] [] cpos) (.mw m mo ma) := by
  intro pins s σ c e r I hh he hr nb w
  have hr : ((evalX S.P cf mo e c.h).bind fun x h => if kindX x h = m.kind then (evalX S.P cf ma e h).bind fun y h => match mbW m x y h with
      | some (v, h') => .ok v h'
      | none => .bad
    else .bad) = r := hr
  refine wpAny_Call_method_late hbase hfew hline rfl (ho.seq I hh he hr nb w fun u s1 x c1 v I1 hh1 he1 g1 rx rv hr1 w1 => ?_)
  by_cases hkk : kindX x c1.h = m.kind
  · rw [if_pos hkk] at hr1
    obtain ⟨h1, h2⟩ := kind_ty C I1 hh1 rx rv hkk hk
    rw [← hT] at h1
    refine ⟨T, id, pa, slot, hty, h1, h2, ?_⟩
    have hA := (pa_cons ha.pe pa_nil hs).run cpos pins s1 σ c1.H (fun vs H2 => ∃ (c2 : Cf) (y : MP.X) (w : V), vs = [w] ∧ c2.H = H2 ∧ Gr c1 c2 ∧ Held S c2 ∧ RepX S c1 c2 y w ∧ (match mbW m x y c2.h with
      | some (v, h') => Res.ok v h'
      | none => .bad) = r) I1 (tX.mk hh1 he1 hr1 nb fun y c2 w g2 hh2 he2 ry h2 => ⟨c2, y, w, rfl, rfl, g2, hh2, ry, h2⟩)
    rw [hs] at hA ⊢
    refine Calls.callWith_builtin (by show (false || (backTo cpos (starEach [] X.env)).any (·.1)) = false; rw [hplain] <;> rfl) (Calls.evalArgs_plain ?_)
    refine thn hA fun us s2 ⟨vs, H2, I2, r2, c2, y, w, ev, eH, g2, hh2, ry, h3⟩ => ?_
    subst eH; subst ev
    obtain ⟨t, rfl, rt⟩ := vals1 r2
    cases q : mbW m x y c2.h with
    | none => rw [q] at h3; exact absurd h3.symm nb
    | some zz =>
      rw [q] at h3
      obtain ⟨z, h'⟩ := zz
      refine thn (hm pins s2 σ c c1 c2 x y z h' v w u t I2 hh2 (rx.mono g2) rv ry rt q) fun u' s' ⟨v', H', I', rv', c', eH, eh, g', hh', rz⟩ => ?_
      subst eH
      exact ⟨z, h', h3.symm, c', v', I', eh, g1.trans (g2.trans g'), hh', rz.back (g1.trans g2), rv'⟩
  · rw [if_neg hkk] at hr1
    exact absurd hr1.symm nb
theorem list_extend_tupW (l : Addr) (items : Array Value) (n : Nat) (b : Addr) (items2 : Array Value) (n2 : Nat) (dd : Option Addr) (sl : Array (Option Value)) (hs0 : ¬(!items.isEmpty && Builtin.List.listTooLong (items.size + items2.size)) = true) (hs1 : items.size ≤ sizeLine) (hs2 : items.size + items2.size ≤ sizeLine + 1) :
    Meets (Builtin.«list.extend» ⟨[.ref l, .ref b], []⟩) (fun _ R s => s.heap.get? l = some { cls := .type "list", dict := none, data := .seq items n, slots := #[] } ∧ s.heap.get? b = some { cls := .type "tuple", dict := dd, data := .seq items2 n2, slots := sl } ∧ R (.ok (.ret Value.none)) { s with heap := s.heap.update l (Obj.mapSeq fun x => x ++ items2), toks := s.toks }) :=
  .of_wp fun prog w A R s h => by
    obtain ⟨hp, g, d, tk, os⟩ := s; obtain ⟨hl, hb, h⟩ := h; have f1 := PySem.AutoSeq1.idx_int; have f2 := PySem.AutoSeq1.sub_tuple_tuple; have f3 := PySem.AutoSeq1.sub_list_list; have f4 := PySem.AutoSeq1.sub_tuple_list; have f5 := PySem.AutoSeq1.sub_list_tuple;
    have hz' : (items ++ items2).size ≤ sizeLine + 1 := by rw [Array.size_append]; exact hs2
    wp_walk using (wpAny_updateSeq hl rfl (hz := hs1) (_hz' := hz')), PySem.AutoSeq1.wpAny_loadPart' hl, PySem.AutoSeq1.wpAny_loadPart' hb; exact ⟨_, rfl, h⟩
def rExtendT (K : PySem.W.Frag) : V → List V → Hp → VK → Prop := fun x vs H Q => ∃ l b xs zs, x = .ref l ∧ vs = [.ref b] ∧ H l = some (.lst xs) ∧ SqT K H b zs ∧ xs.length + zs.length ≤ sizeLine ∧ Q .non (upd H l (.lst (xs ++ zs)))
theorem mt_extendT : MtM X "list.extend" (rExtendT X.K) := by
  intro pins s σ H x vs v us Q I rx rv h
  obtain ⟨l, b, xs, zs, rfl, rfl, hH, hB, hz, q⟩ := h
  cases rx
  obtain ⟨u, rfl, ru⟩ := rv.one
  cases ru
  obtain ⟨z, its, n, r, hl, e⟩ := I.lstM hH
  obtain ⟨its2, r2, ⟨⟨oc, od, oda, os⟩, e2, hc2, n2, hd2⟩, hz2⟩ := I.tuple hB
  simp only at hc2 hd2
  subst hc2; subst hd2
  have hl2 := r2.length
  have hsz : its.toArray.size + its2.toArray.size ≤ sizeLine := by rw [List.size_toArray, List.size_toArray]; omega
  have hlong : ¬ (!its.toArray.isEmpty && Builtin.List.listTooLong (its.toArray.size + its2.toArray.size)) = true := by
    rw [notLongL hsz, Bool.and_false]
    exact Bool.false_ne_true
  refine call_meets F.slot_list_extend ⟨_, e, rfl⟩ F.entry_list_extend (F.args_list_extend_2 _ _)
    (list_extend_tupW l its.toArray n b its2.toArray n2 od os hlong (by rw [List.size_toArray]; omega) (by omega)) ⟨e, e2, ?_⟩
  refine ⟨.non, _, I.lset (its' := its ++ its2) hH e (by simp) (r.append r2) ?_, rfl, q⟩
  rw [List.length_append]
  omega
theorem mx_extend (C : Ctx X S k) : MtW X S "list.extend" (mbW .extend) := by
  intro pins s σ c0 c1 c x y z h' v w u t I hh rx ru ry rt hz
  have hz : extendX x y c.h = some (z, h') := hz
  unfold extendX at hz
  split at hz
  · rename_i n xs ys hl hn
    split at hz
    · rename_i hlen
      cases hz
      obtain ⟨q, ws, rfl, h1, h2, h3, rq⟩ := lst_at hh rx hl
      obtain ⟨q2, ws2, rfl, h4, rq2⟩ := norm_lst hh ry hn
      have := maxl
      exact mt_extend pins s σ c.H _ _ u [t] _ I ru (.cons rt .nil) ⟨q, q2, ws, ws2, rfl, rfl, h3, h4, by rw [rq.length, rq2.length]; omega, QX.wrL hh h1 h2 (rq.append rq2) fun c' g => .d .non⟩
    · cases hz
  · rename_i n xs ys hl hn
    split at hz
    · rename_i hlen
      cases hz
      obtain ⟨q, ws, rfl, h1, h2, h3, rq⟩ := lst_at hh rx hl
      obtain ⟨q2, ws2, rfl, h4, rq2⟩ := (norm_rep hh ry hn).tup C.K
      have := maxl
      exact mt_extendT pins s σ c.H _ _ u [t] _ I ru (.cons rt .nil) ⟨q, q2, ws, ws2, rfl, rfl, h3, h4, by rw [rq.length, rq2.length]; omega, QX.wrL hh h1 h2 (rq.append rq2) fun c' g => .d .non⟩
    · cases hz
  · cases hz
end
end MP

/-! MP22: the head of a law. -/
namespace MP
open PySem PySem.Spec PyProof.Rows L2 Dk
/-- all functions of a text run as the mini program does -/
def AllR (P : Program) (w : World) (S : Sx) (mg : Str → Option Value) (base : Heap) (fa : Nat → Addr) (fd : Nat → FuncData) (ps : Nat → List Str) (cf : CF) (k : Nat) : Prop :=
  ∀ i, Runs P w S mg base cf k i (fa i) (fd i) (ps i)
theorem AllR.zero {P : Program} {w : World} {S : Sx} {mg : Str → Option Value} {base : Heap} {fa : Nat → Addr} {fd : Nat → FuncData} {ps : Nat → List Str} {k : Nat} : AllR P w S mg base fa fd ps (callF S.P 0) k :=
  fun i A outer s args us vs c ds r _ _ _ _ _ _ _ _ ev nb => absurd ev.symm nb
theorem Runs.mono {P : Program} {w : World} {S : Sx} {mg : Str → Option Value} {base : Heap} {cf : CF} {j k i : Nat} {f : Addr} {fd : FuncData} {ps : List Str} (h : Runs P w S mg base cf j i f fd ps) (l : j ≤ k) : Runs P w S mg base cf k i f fd ps :=
  fun A outer s args us vs c ds r hr => h A outer s args us vs c ds r (hr.mono l)
theorem AllR.all {P : Program} {w : World} {S : Sx} {mg : Str → Option Value} {base : Heap} {fa : Nat → Addr} {fd : Nat → FuncData} {ps : Nat → List Str} (step : ∀ n, AllR P w S mg base fa fd ps (callF S.P n) (3 * n) → AllR P w S mg base fa fd ps (callF S.P (n + 1)) (3 * n + 3)) : ∀ n, AllR P w S mg base fa fd ps (callF S.P n) (3 * n)
  | 0 => .zero
  | n + 1 => fun i => (step n (AllR.all step n) i).mono (by omega)
/-- a function that is none -/
theorem runs_none {P : Program} {w : World} {S : Sx} {mg : Str → Option Value} {base : Heap} {n k i : Nat} {f : Addr} {fd : FuncData} {ps : List Str} (h : S.P.F i = none) : Runs P w S mg base (callF S.P (n + 1)) k i f fd ps := fun A outer s args us vs c ds r _ _ _ _ _ _ _ _ ev nb => by
  have e : callF S.P (n + 1) i ds c.h = .bad := by
    show (match S.P.F i with | none => Res.bad | some d => _) = _
    rw [h]
  exact absurd (ev.symm.trans e) nb

/-- THE HEAD -/
theorem law_run {P : Program} {w : World} {S : Sx} {mg mb : Str → Option Value} {cf : CF} {k i : Nat} {fa q : Addr} {fd : FuncData} {x : Str} {st : Shared} {us : List Value} {ns : List Int}
    (KX : S.K.In st.heap) (g1 : st.heap.Ns mainGlobals mg) (g2 : st.heap.Ns builtinsNs mb) (g3 : ∀ y : Str, y ≠ "__name__" → mb y = bootBuiltins y) (g4 : st.heap.NoLimit) (g5 : st.gens = #[])
    (at_ : st.heap.get? q = some { cls := .type "list", data := .seq us.toArray }) (its0 : IntsAre us ns) (short : ns.length ≤ sizeLine) (room : Room k callerA)
    (F : ∀ base : Heap, S.K.In base → base.Ns mainGlobals mg → Runs P w S mg base cf k i fa fd [x]) (bd : ∀ (s : Shared) (u : Value), BindsTo s fd ⟨[u], []⟩ [(x, u)])
    (sp : ∃ h', cf i [.rol (ns.map D.int)] [] = .ok (.bl true) h') :
    codeAny (model P w) callerA (.call (.ref fa) ⟨[.ref q], []⟩) (fun r s' => r = .ok (.ret (.bool true)) ∧ OldK st.heap s'.heap ∧ s'.os = st.os ∧ AllBare s'.gens) st := by
  have rv := vals_ints its0
  have ln := its0.length
  obtain ⟨hend, sp⟩ := sp
  have main : ∀ H : Hp, Only H → SqL S.K H q (ns.map V.int) → HOk P w H st.heap → (∀ b, H b ≠ none → b = q) → (H q ≠ none → S.K.lookup q = none) →
      codeAny (model P w) callerA (.call (.ref fa) ⟨[.ref q], []⟩) (fun r s' => r = .ok (.ret (.bool true)) ∧ OldK st.heap s'.heap ∧ s'.os = st.os ∧ AllBare s'.gens) st := by
    intro H only sq hok alone apart
    have free : ∀ {b : Addr} {o : Obj} {es : Array DictEntry} {ep : Nat}, st.heap.get? b = some o → o.data = .dict es ep → H b = none := by
      intro b o es ep e d
      by_cases z : H b = none
      · exact z
      · have eb := alone b z
        rw [eb, at_] at e
        cases e
        cases (show Data.seq us.toArray _ = Data.dict es ep from d)
    have names : ∀ {b : Addr} {m : Str → Option Value}, st.heap.Ns b m → (hidT st.heap H).Ns b m := by
      rintro b m ⟨o, es, ep, e, d, r⟩
      exact ⟨o, es, ep, hidT_get e (free e d), d, r⟩
    have kb : S.K.In (hidT st.heap H) := by
      intro b o e
      refine hidT_get (KX b o e) ?_
      by_cases z : H b = none
      · exact z
      · have eb := alone b z
        rw [eb] at e z
        rw [apart z] at e
        cases e
    obtain ⟨mc, l1, l2⟩ := g4
    have en : Env0 P w S.K mg (hidT st.heap H) callerA [] st H := ⟨rfl, ⟨kb, names g1, ⟨mb, names g2, g3⟩, ⟨mc, names l1, l2⟩⟩, fun b o e => of_hidT e, Nat.le_of_eq (hidT_size _ _), trivial, fun b hb => absurd (show b ∈ ([] : List Addr) from hb) (by simp), hok, .of_eq g5⟩
    -- the state at the entry
    let c : Cf := ⟨[], [], H, fun _ => False⟩
    have nl : ∀ b, ¬ c.L b := by
      rintro b (⟨j, o, h1, _, _⟩ | h)
      · have h1 : ([] : List Addr)[j]? = some b := h1
        rw [List.getElem?_nil] at h1
        cases h1
      · exact h
    have hh : Held S c := by
      refine ⟨rfl, List.nodup_nil, fun _ z => ?_, fun j p o h1 _ => ?_, fun p h => False.elim h⟩
      · cases z
      · have h1 : ([] : List Addr)[j]? = some p := h1
        rw [List.getElem?_nil] at h1
        cases h1
    have ri : ∀ ns : List Int, RepVs S c (ns.map D.int) (ns.map V.int) := by
      intro ns
      induction ns with
      | nil => exact .nil
      | cons n r ih => exact .cons (.int n) ih
    have rs : RepVs S c [.rol (ns.map D.int)] [.ref q] := .cons (.rol (sq.imp (fun h => ⟨h, nl q⟩) id) (ri ns)) .nil
    refine codeAny_mono (F _ kb (names g1) callerA [] st ⟨[.ref q], []⟩ [.ref q] [.ref q] c _ _ room rfl en (bd st (.ref q)) (.cons rfl .nil) rfl hh rs sp fun z => nomatch z) fun r s' hq => ?_
    cases r with
    | error _ => exact False.elim hq
    | ok fl =>
      cases fl with
      | next => exact False.elim hq
      | brk => exact False.elim hq
      | cont => exact False.elim hq
      | ret u =>
        obtain ⟨c', v, d, e1, os, bare, un, hok', g, h', rp, ru⟩ := hq
        cases e1
        cases rp
        cases ru
        refine ⟨rfl, OldK.of_keep fun b o e => ?_, os, bare⟩
        rcases only b with z | ⟨ob, xs, z⟩
        · exact un.keep b o e z (by intro m; exact absurd (show b ∈ ([] : List Addr) from m) (by simp)) (by simp)
        · obtain ⟨a1, _⟩ := hok b _ z
          obtain ⟨a2, _⟩ := hok' b _ (un.frzs b ob _ z)
          rw [e] at a1
          cases a1
          exact a2
  cases hk : S.K.lookup q with
  | some o =>
    have e := KX q o hk
    rw [at_] at e
    cases e
    exact main (fun _ => none) (fun _ => .inl rfl) (.inr ⟨_, us.toArray, _, hk, rfl, rfl, rfl, by rw [List.size_toArray, ln]; exact short, by simpa using rv⟩) (fun b u z => nomatch (show (none : Option HO) = some u from z)) (fun b z => absurd rfl z) fun z => absurd rfl z
  | none =>
    refine main (upd (fun _ => none) q (.frz { cls := .type "list", data := .seq us.toArray } (.lst (ns.map V.int)))) (fun b => ?_) (.inl (.inr ⟨_, upd_same⟩)) (fun b u z => ?_) (fun b z => ?_) fun _ => hk
    · by_cases eb : b = q
      · subst eb; exact .inr ⟨_, _, upd_same⟩
      · exact .inl (upd_ne eb)
    · by_cases eb : b = q
      · subst eb
        rw [upd_same] at z
        cases z
        exact ⟨at_, by rw [List.length_map]; exact short, us, _, rv, at_⟩
      · rw [upd_ne eb] at z
        cases z
    · by_cases eb : b = q
      · exact eb
      · exact absurd (upd_ne eb) z
/-- what is left of a law: its promise on the mini program -/
theorem walk_mini {l : PySem.W.OpenLaw} {n k i : Nat} {q : Program} {loose : List Str} {XP : (Str → Option Value) → Heap → Prop} {YP : World → Heap → Prop} {d : DefRec} {K : Params → PySem.W.Frag} {x : Str} {cf : CF}
    (hn : l.most = some n) (n2 : n ≤ sizeLine) (df : d.params.defaults = []) (room : Room k callerA) (hY : ∀ (w : World) (h : Heap), YP w h → (K w.params).In h)
    (F : ∀ (w : World) (mg : Str → Option Value) (fa : Addr) (h : Heap), (K w.params).In h → h.Ns mainGlobals mg → mg d.name = some (.ref fa) →
      ∃ (fd : FuncData) (S : Sx), S.K = K w.params ∧ (∀ (s : Shared) (u : Value), BindsTo s fd ⟨[u], []⟩ [(x, u)]) ∧ ∀ base : Heap, (K w.params).In base → base.Ns mainGlobals mg → Runs l.prog w S mg base cf k i fa fd [x])
    (sp : ∀ ns : List Int, ns.length ≤ n → ∃ h', cf i [.rol (ns.map D.int)] [] = .ok (.bl true) h') :
    PySem.W.WalkO q loose XP YP l.row.toRowW d [] (fun f vs => PySem.call f vs) := by
  refine Att.attach_call hn df fun w s₀ st mg mb fa o pm cd doc a us ns G Y ho hd hcd hmg obj its0 len gens => ?_
  have KX := hY w _ Y
  obtain ⟨fd, S, eK, bd, run⟩ := F w mg fa _ KX G.T.g hmg
  exact law_run (eK ▸ KX) G.T.g G.T.b G.T.builtins G.T.nolimit gens obj its0 (Nat.le_trans len n2) room (fun base h1 h2 => run base (eK ▸ h1) h2) bd (sp ns len)
end MP

/-! MP23: words for printed proofs: the judgements as structures (the unifier shall not look within). -/
namespace MP
open PySem PySem.Spec PyProof.Rows L2 Dk
structure EX (X : Cx) (S : Sx) (cf : CF) (e : Expr) (m : ME) : Prop where
  h : PX X S cf e m
structure AX (X : Cx) (S : Sx) (cf : CF) (e : List Expr) (m : MEs) : Prop where
  h : PA X e (tXs S cf m)
structure TX (X : Cx) (S : Sx) (cf : CF) (e : Expr) (m : ME) : Prop where
  h : PTX X S cf e m
structure WX (X : Cx) (S : Sx) (cf : CF) (e : Expr) (m : ME) : Prop where
  h : PWX X S cf e m
structure SX (X : Cx) (S : Sx) (cf : CF) (e : Stmt) (m : MS) : Prop where
  h : PS X e (tS S cf m)
structure BX (X : Cx) (S : Sx) (cf : CF) (e : List Stmt) (m : MSs) : Prop where
  h : PSs X e (tSs S cf m)
structure GX (X : Cx) (S : Sx) (e : Expr) (m : Tg) : Prop where
  h : PG X e (tG S m)
structure GsX (X : Cx) (S : Sx) (e : List Expr) (m : List Tg) : Prop where
  h : PGs X e (tGs S m)
structure IX (X : Cx) (S : Sx) (cf : CF) (tg e : Expr) (m : ME) : Prop where
  h : PI X tg e (tW S cf m)
structure CsX (X : Cx) (S : Sx) (cf : CF) (e : List Expr) (m : ME) : Prop where
  h : PTs X e (tT S cf m)
structure DX (X : Cx) (S : Sx) (cf : CF) (ks : List (Option Expr)) (vs : List Expr) (m : MEs) : Prop where
  h : PD X S cf ks vs m
section
variable {X : Cx} {S : Sx} {cf : CF} {k : Nat} {pos p : Pos} {a b d ex o lo hi : Expr} {es rest : List Expr} {m ma mb md mo ml mh : ME} {ms : MEs}
theorem e_non {j : Nat} : EX X S cf (.Constant .none j pos) .non := ⟨px_non⟩
theorem e_bl {t : Bool} {j : Nat} : EX X S cf (.Constant (.bool t) j pos) (.bl t) := ⟨px_bl⟩
theorem e_int {i : Int} {j : Nat} : EX X S cf (.Constant (.int i) j pos) (.int i) := ⟨px_int⟩
theorem e_str {z : Str} {j : Nat} {l : List Nat} (h : z.cps.toList = l := by decide +kernel) : EX X S cf (.Constant (.str z) j pos) (.str l) := ⟨px_str h⟩
theorem e_var (i : Nat) {x : Str} (hN : X.N[i]? = some x := by rfl) (hv : Vis X.env.scope x := by first | exact .inl rfl | exact .inr (.inl rfl) | exact .inr (.inr rfl)) (hd : (x == ("__debug__" : Str)) = false := by decide) (hcd : (x == ("__classdict__" : Str)) = false := by decide) : EX X S cf (.Name x pos) (.var i) := ⟨px_var hN hv hd hcd⟩
theorem e_mut (h : EX X S cf a ma) : EX X S cf a (.b1 .mut ma) := ⟨px_mut h.h⟩
theorem e_frz (h : EX X S cf a ma) : EX X S cf a (.b1 .frz ma) := ⟨px_frz h.h⟩
theorem a_nil : AX X S cf [] .n := ⟨pas_nil⟩
theorem a_cons (ha : EX X S cf ex m) (hr : AX X S cf es ms) (hs : starEach (ex :: es) X.env = (false, eval ex X.env) :: starEach es X.env := by rfl) : AX X S cf (ex :: es) (.c m ms) := ⟨pas_cons ha.h hr.h hs⟩
theorem e_tup {x1} (h : AX X S cf es ms) (hl : ms.len ≤ 1000 := by decide) : EX X S cf (.Tuple es x1 pos) (.tup ms) := ⟨px_tup h.h hl⟩
theorem e_lst (h : AX X S cf es ms) (hl : ms.len ≤ 1000 := by decide) : EX X S cf (.List es pos) (.lst ms) := ⟨px_lst h.h hl⟩
theorem d_nil : DX X S cf [] [] .n := ⟨pd_nil⟩
theorem d_cons {kx vx : Expr} {ks : List (Option Expr)} {vs : List Expr} {mk mv : ME} (hk : EX X S cf kx mk) (hv : EX X S cf vx mv) (hr : DX X S cf ks vs ms) : DX X S cf (some kx :: ks) (vx :: vs) (.c mk (.c mv ms)) := ⟨pd_cons hk.h hv.h hr.h⟩
theorem e_dct0 (C : Ctx X S k) : EX X S cf (.Dict [] [] pos) (.dct .n) := ⟨px_dct0 C⟩
theorem e_dct (C : Ctx X S k) {keys : List (Option Expr)} {values : List Expr} (h : DX X S cf keys values ms) (hall : keys.all (·.isSome) = true := by rfl) (hl : keys.length = values.length := by rfl) (h0 : keys ≠ [] := by exact fun z => nomatch z) (hlen : keys.length ≤ 15 := by decide) : EX X S cf (.Dict keys values pos) (.dct ms) := ⟨px_dct C h.h hall hl h0 hlen⟩
theorem e_bin (C : Ctx X S k) (op : BOp) (ha : EX X S cf a ma) (hb : EX X S cf b mb) : EX X S cf (.BinOp a (bop op) b pos) (.bin op ma mb) := ⟨px_bin C.K op ha.h hb.h⟩
theorem e_neg (ha : EX X S cf a ma) : EX X S cf (.UnaryOp .USub a pos) (.b1 .neg ma) := ⟨px_neg ha.h⟩
theorem e_not (C : Ctx X S k) (ha : EX X S cf a ma) : EX X S cf (.UnaryOp .Not a pos) (.b1 .not ma) := ⟨px_not C.K ha.h⟩
theorem e_one {op : BoolOp} (h : EX X S cf a ma) : EX X S cf (.BoolOp op [a] pos) ma := ⟨px_one h.h⟩
theorem e_and (C : Ctx X S k) (ha : EX X S cf a ma) (hb : EX X S cf (.BoolOp .And (b :: rest) pos) mb) : EX X S cf (.BoolOp .And (a :: b :: rest) pos) (.and ma mb) := ⟨px_and C.K ha.h hb.h⟩
theorem e_or (C : Ctx X S k) (ha : EX X S cf a ma) (hb : EX X S cf (.BoolOp .Or (b :: rest) pos) mb) : EX X S cf (.BoolOp .Or (a :: b :: rest) pos) (.or ma mb) := ⟨px_or C.K ha.h hb.h⟩
theorem e_cmp (C : Ctx X S k) (op : COp) (ha : EX X S cf a ma) (hb : EX X S cf b mb) (hm : behindInMarks (cop op) b = false := by rfl) : EX X S cf (.Compare a [cop op] [b] pos) (.cmp op ma mb) := ⟨px_cmp C.K C.w C.un op hm ha.h hb.h⟩
theorem e_isn (neg : Bool) {j : Nat} {p1 : Pos} (ha : EX X S cf a ma) : EX X S cf (.Compare a [if neg = true then .IsNot else .Is] [.Constant .none j p1] pos) (.isn neg ma) := ⟨px_isn neg ha.h⟩
theorem e_isb (neg t : Bool) {j : Nat} {p1 : Pos} (ha : EX X S cf a ma) : EX X S cf (.Compare a [if neg = true then .IsNot else .Is] [.Constant (.bool t) j p1] pos) (.isb neg ma t) := ⟨px_isb neg t ha.h⟩
theorem e_chn (C : Ctx X S k) (o1 o2 : COp) (ha : EX X S cf a ma) (hb : EX X S cf b mb) (hd : EX X S cf d md) (hm : lastMarks [cop o1, cop o2] [b, d] = false := by with_unfolding_all rfl) : EX X S cf (.Compare a [cop o1, cop o2] [b, d] pos) (.chn o1 o2 ma mb md) := ⟨px_chn C o1 o2 ha.h hb.h hd.h hm⟩
theorem t_of (h : WX X S cf a ma) : TX X S cf a ma := ⟨h.h.pt⟩
theorem t_val (C : Ctx X S k) (ha : EX X S cf a ma) (hp : plainTest a = true := by rfl) : TX X S cf a ma := ⟨ptx_val C.K ha.h hp⟩
theorem t_cmp (C : Ctx X S k) (op : COp) (ha : EX X S cf a ma) (hb : EX X S cf b mb) (hm : behindInMarks (cop op) b = false := by rfl) : TX X S cf (.Compare a [cop op] [b] pos) (.cmp op ma mb) := ⟨(ptx_cmp C.K C.w C.un op hm ha.h hb.h).pt⟩
theorem t_isn (neg : Bool) {j : Nat} {p1 : Pos} (ha : EX X S cf a ma) : TX X S cf (.Compare a [if neg = true then .IsNot else .Is] [.Constant .none j p1] pos) (.isn neg ma) := ⟨ptx_isn neg ha.h⟩
theorem t_isb (neg t : Bool) {j : Nat} {p1 : Pos} (ha : EX X S cf a ma) : TX X S cf (.Compare a [if neg = true then .IsNot else .Is] [.Constant (.bool t) j p1] pos) (.isb neg ma t) := ⟨ptx_isb neg t ha.h⟩
theorem t_chn (C : Ctx X S k) (o1 o2 : COp) (ha : EX X S cf a ma) (hb : EX X S cf b mb) (hd : EX X S cf d md) (hm : lastMarks [cop o1, cop o2] [b, d] = false := by with_unfolding_all rfl) : TX X S cf (.Compare a [cop o1, cop o2] [b, d] pos) (.chn o1 o2 ma mb md) := ⟨ptx_chn C o1 o2 ha.h hb.h hd.h hm⟩
theorem w_and1 (ha : TX X S cf a ma) : WX X S cf (.BoolOp .And [a] pos) ma := ⟨pw_and1X ha.h⟩
theorem w_or1 (ha : TX X S cf a ma) : WX X S cf (.BoolOp .Or [a] pos) ma := ⟨pw_or1X ha.h⟩
theorem w_and (ha : TX X S cf a ma) (hb : WX X S cf (.BoolOp .And (b :: rest) pos) mb) : WX X S cf (.BoolOp .And (a :: b :: rest) pos) (.and ma mb) := ⟨pw_andX ha.h hb.h⟩
theorem w_or (ha : TX X S cf a ma) (hb : WX X S cf (.BoolOp .Or (b :: rest) pos) mb) : WX X S cf (.BoolOp .Or (a :: b :: rest) pos) (.or ma mb) := ⟨pw_orX ha.h hb.h⟩
theorem w_not (ha : TX X S cf a ma) : WX X S cf (.UnaryOp .Not a pos) (.b1 .not ma) := ⟨ptx_not ha.h⟩
theorem e_ite {t : Expr} {mt : ME} (ht : TX X S cf t mt) (ha : EX X S cf a ma) (hb : EX X S cf b mb) : EX X S cf (.IfExp t a b pos) (.ite mt ma mb) := ⟨px_ite ht.h ha.h hb.h⟩
theorem e_ix (C : Ctx X S k) (ha : EX X S cf a ma) (hb : EX X S cf b mb) (hs : PlainIx b := by exact fun _ _ => rfl) : EX X S cf (.Subscript a b pos) (.ix ma mb) := ⟨px_ix C ha.h hb.h hs⟩
theorem e_sl00 (C : Ctx X S k) {p2 : Pos} (ha : EX X S cf a ma) : EX X S cf (.Subscript a (.Slice none none none p2) pos) (.sl ma .non .non) := ⟨px_sl00 C ha.h⟩
theorem e_sl10 (C : Ctx X S k) {p2 : Pos} (ha : EX X S cf a ma) (hl : EX X S cf lo ml) (nl : ml.isNon = false := by rfl) : EX X S cf (.Subscript a (.Slice (some lo) none none p2) pos) (.sl ma ml .non) := ⟨px_sl10 C ha.h hl.h nl⟩
theorem e_sl01 (C : Ctx X S k) {p2 : Pos} (ha : EX X S cf a ma) (hu : EX X S cf hi mh) (nu : mh.isNon = false := by rfl) : EX X S cf (.Subscript a (.Slice none (some hi) none p2) pos) (.sl ma .non mh) := ⟨px_sl01 C ha.h hu.h nu⟩
theorem e_sl11 (C : Ctx X S k) {p2 : Pos} (ha : EX X S cf a ma) (hl : EX X S cf lo ml) (hu : EX X S cf hi mh) (nl : ml.isNon = false := by rfl) (nu : mh.isNon = false := by rfl) : EX X S cf (.Subscript a (.Slice (some lo) (some hi) none p2) pos) (.sl ma ml mh) := ⟨px_sl11 C ha.h hl.h hu.h nl nu⟩
theorem e_fB {n : Str} {id : String} {f : B1} (hc : CallX X S (.builtin id) (b1X f)) (hm : X.mg n = none) (hv : bootBuiltins n = some (.builtin id)) (ha : EX X S cf a ma)
    (hf : ∀ e h, evalX S.P cf (.b1 f ma) e h = (evalX S.P cf ma e h).bind fun x h => .ofO (b1X f x h) h := by intro _ _; rfl) (hg : Gl X n := by rfl)
    (hn : n ≠ "__name__" := by decide) (hdb : (n == ("__debug__" : Str)) = false := by decide) (he : starEach [a] X.env = (false, eval a X.env) :: starEach [] X.env := by rfl) : EX X S cf (.Call (.Name n p) [a] [] pos) (.b1 f ma) := ⟨px_fB hc hm hv ha.h hf hg hn hdb he⟩
theorem e_fT {n : Str} {T : String} {f : B1} (hc : CallX X S (.type T) (b1X f)) (hm : X.mg n = none) (hv : bootBuiltins n = some (.type T)) (ha : EX X S cf a ma)
    (hf : ∀ e h, evalX S.P cf (.b1 f ma) e h = (evalX S.P cf ma e h).bind fun x h => .ofO (b1X f x h) h := by intro _ _; rfl) (hg : Gl X n := by rfl)
    (hn : n ≠ "__name__" := by decide) (hdb : (n == ("__debug__" : Str)) = false := by decide) (he : starEach [a] X.env = (false, eval a X.env) :: starEach [] X.env := by rfl) : EX X S cf (.Call (.Name n p) [a] [] pos) (.b1 f ma) := ⟨px_fT hc hm hv ha.h hf hg hn hdb he⟩
theorem e_max2 (C : Ctx X S k) (hm : X.mg "max" = none) (ha : EX X S cf a ma) (hb : EX X S cf b mb) (hg : Gl X "max" := by rfl) (he : starEach [a, b] X.env = (false, eval a X.env) :: starEach [b] X.env := by rfl) (he2 : starEach [b] X.env = (false, eval b X.env) :: starEach [] X.env := by rfl) (hpl : (backTo pos (starEach [b] X.env)).any (·.1) = false := by rfl) : EX X S cf (.Call (.Name "max" p) [a, b] [] pos) (.b2 .max ma mb) := ⟨px_max2 C hm ha.h hb.h hg he he2 hpl⟩
theorem e_min2 (C : Ctx X S k) (hm : X.mg "min" = none) (ha : EX X S cf a ma) (hb : EX X S cf b mb) (hg : Gl X "min" := by rfl) (he : starEach [a, b] X.env = (false, eval a X.env) :: starEach [b] X.env := by rfl) (he2 : starEach [b] X.env = (false, eval b X.env) :: starEach [] X.env := by rfl) (hpl : (backTo pos (starEach [b] X.env)).any (·.1) = false := by rfl) : EX X S cf (.Call (.Name "min" p) [a, b] [] pos) (.b2 .min ma mb) := ⟨px_min2 C hm ha.h hb.h hg he he2 hpl⟩
theorem e_call {i : Nat} {x : Str} {st : Stmt} {N ps : List Str} {f : Addr} {fd : FuncData} {e : Expr} (C : Ctx X S k) (T : Stat S.K X.mg x st N ps f fd) (R : Runs X.prog X.w S X.mg X.base cf k i f fd ps) (ha : AX X S cf (e :: es) ms) (hg : Gl X x := by rfl) (hl : ms.len = ps.length := by rfl) (hdb : (x == ("__debug__" : Str)) = false := by decide)
    (he : starEach (e :: es) X.env = (false, eval e X.env) :: starEach es X.env := by rfl) (hpl : (backTo pos (starEach es X.env)).any (·.1) = false := by rfl) : EX X S cf (.Call (.Name x p) (e :: es) [] pos) (.call i ms) := ⟨px_call C T R ha.h hg hl hdb he hpl⟩
theorem e_call0 {i : Nat} {x : Str} {st : Stmt} {N ps : List Str} {f : Addr} {fd : FuncData} (C : Ctx X S k) (T : Stat S.K X.mg x st N ps f fd) (R : Runs X.prog X.w S X.mg X.base cf k i f fd ps) (hg : Gl X x := by rfl) (hl : 0 = ps.length := by rfl) (hdb : (x == ("__debug__" : Str)) = false := by decide) : EX X S cf (.Call (.Name x p) [] [] pos) (.call i .n) := ⟨px_call0 C T R hg hl hdb⟩
variable {name : Str} {apos cpos : Pos} {T id : String} {mm : MB}
theorem e_mb (C : Ctx X S k) (pa : PlainAttrs T) (slot : Slot T name id) (hty : typeOf (.builtin id) = pure (.type "method_descriptor")) (hm : MtX X S id (mbX mm)) (ho : EX X S cf o mo) (ha : AX X S cf (ex :: es) ms) (hT : T = tyName mm.kind := by rfl) (hk : mm.kind < 3 := by decide)
    (hbase : attributeBase o name X.env (eval o X.env) = eval o X.env := by rfl)
    (hfew : ((backTo cpos (starEach (ex :: es) X.env)).all (fun x => !x.1) && (backToKw cpos (keywordEach [] X.env)).all (fun x => x.1.isSome) && decide ((ex :: es).length + ([] : List Keyword).length + (if ([] : List Keyword).isEmpty then 0 else 1) < 30)) = true := by rfl)
    (hline : (apos.endLine == cpos.line) = true := by rfl) (hs : starEach (ex :: es) X.env = (false, eval ex X.env) :: starEach es X.env := by rfl) (hplain : (backTo cpos (starEach es X.env)).any (·.1) = false := by rfl) :
    EX X S cf (.Call (.Attribute o name apos) (ex :: es) [] cpos) (.mb mm mo ms) := ⟨px_mb C pa slot hty hm ho.h ha.h hT hk hbase hfew hline hs hplain⟩
theorem e_mb0 (C : Ctx X S k) (pa : PlainAttrs T) (slot : Slot T name id) (hty : typeOf (.builtin id) = pure (.type "method_descriptor")) (hm : MtX X S id (mbX mm)) (ho : EX X S cf o mo) (hT : T = tyName mm.kind := by rfl) (hk : mm.kind < 3 := by decide)
    (hbase : attributeBase o name X.env (eval o X.env) = eval o X.env := by rfl) (hline : (apos.endLine == cpos.line) = true := by rfl) :
    EX X S cf (.Call (.Attribute o name apos) [] [] cpos) (.mb mm mo .n) := ⟨px_mb0 C pa slot hty hm ho.h hT hk hbase hline⟩
theorem e_mw (C : Ctx X S k) (pa : PlainAttrs T) (slot : Slot T name id) (hty : typeOf (.builtin id) = pure (.type "method_descriptor")) (hm : MtW X S id (mbW mm)) (ho : EX X S cf o mo) (ha : EX X S cf ex ma) (hT : T = tyName mm.kind := by rfl) (hk : mm.kind < 3 := by decide)
    (hbase : attributeBase o name X.env (eval o X.env) = eval o X.env := by rfl)
    (hfew : ((backTo cpos (starEach [ex] X.env)).all (fun x => !x.1) && (backToKw cpos (keywordEach [] X.env)).all (fun x => x.1.isSome) && decide ([ex].length + ([] : List Keyword).length + (if ([] : List Keyword).isEmpty then 0 else 1) < 30)) = true := by rfl)
    (hline : (apos.endLine == cpos.line) = true := by rfl) (hs : starEach [ex] X.env = (false, eval ex X.env) :: starEach [] X.env := by rfl) (hplain : (backTo cpos (starEach [] X.env)).any (·.1) = false := by rfl) :
    EX X S cf (.Call (.Attribute o name apos) [ex] [] cpos) (.mw mm mo ma) := ⟨px_mw C pa slot hty hm ho.h ha.h hT hk hbase hfew hline hs hplain⟩
/-! targets, walking -/
theorem g_v (i : Nat) {x : Str} (C : Ctx X S k) (hi : X.N[i]? = some x := by rfl) (hx : Loc X.env.scope x := by first | exact .inl rfl | exact .inr rfl) (hf : X.fn x = true ∨ X.env.scope.names.lookup x = some .local := by first | exact .inl rfl | exact .inr rfl) : GX X S (.Name x pos) (.v i) := ⟨pg_v C hi hx hf⟩
theorem gs_nil : GsX X S [] [] := ⟨pgs_nilX⟩
theorem gs_cons {t : Tg} {ts : List Tg} (h1 : GX X S ex t) (h2 : GsX X S es ts) (ha : (assignEach (ex :: es) X.env).map (·.2) = assign ex X.env :: (assignEach es X.env).map (·.2) := by rfl) : GsX X S (ex :: es) (t :: ts) := ⟨pgs_consX h1.h h2.h ha⟩
theorem g_t {j : Nat} {ts : List Tg} (C : Ctx X S k) (h : GsX X S es ts) (hn : (assignEach es X.env).length = ts.length := by rfl) (hst : (assignEach es X.env).findIdx? (·.1) = none := by rfl) : GX X S (.Tuple es j pos) (.t ts) := ⟨pg_t C h.h hn hst⟩
theorem i_range1 (C : Ctx X S k) {tg : Expr} (hm : X.mg "range" = none) (ha : EX X S cf a ma) (hg : Gl X "range" := by rfl) (hs : starEach [a] X.env = [(false, eval a X.env)] := by rfl) : IX X S cf tg (.Call (.Name "range" p) [a] [] pos) (.b1 .range ma) := ⟨pix_range1 C hm ha.h hg hs⟩
theorem i_range2 (C : Ctx X S k) {tg : Expr} (hm : X.mg "range" = none) (ha : EX X S cf a ma) (hb : EX X S cf b mb) (hg : Gl X "range" := by rfl) (hs : starEach [a, b] X.env = [(false, eval a X.env), (false, eval b X.env)] := by rfl) (hs2 : starEach [b] X.env = [(false, eval b X.env)] := by rfl) : IX X S cf tg (.Call (.Name "range" p) [a, b] [] pos) (.b2 .range ma mb) := ⟨pix_range2 C hm ha.h hb.h hg hs hs2⟩
theorem i_val (C : Ctx X S k) {tg : Expr} (ha : EX X S cf a ma) : IX X S cf tg a ma := ⟨pix_val C ha.h⟩
theorem c_0 : CsX X S cf [] (.bl true) := ⟨pts_0⟩
theorem c_1 (h : TX X S cf ex m) : CsX X S cf [ex] m := ⟨pts_1 h.h⟩
variable {elt tg iter : Expr} {ifs : List Expr} {scope : Scope} {own : List (Str × Nat)} {t : Tg} {mi mc me : ME}
theorem e_lc (C : Ctx X S k) (own : List (Str × Nat)) (hi : IX X S cf tg iter mi) (ok : BlkOk X.N X.env.scope scope own)
    (hg : ∀ (s : Shared) (H : Hp) (c : Addr) (cl : List (Str × Addr)) (fp : List Addr), GX (X.blk s H scope (compEnvC scope cl c X.env) fp) S tg t) (ht : ∀ (s : Shared) (H : Hp) (c : Addr) (cl : List (Str × Addr)) (fp : List Addr), CsX (X.blk s H scope (compEnvC scope cl c X.env) fp) S cf ifs mc)
    (he : ∀ (s : Shared) (H : Hp) (c : Addr) (cl : List (Str × Addr)) (fp : List Addr), EX (X.blk s H scope (compEnvC scope cl c X.env) fp) S cf elt me) (hso : ∀ i ∈ t.slots, i ∈ own.map (·.2) := by decide) (hs : ∀ x, foldedSetIterable iter X.env x = pure x := by intro _; rfl) :
    EX X S cf (.ListComp elt [⟨tg, iter, ifs, 0⟩] scope pos) (.lc (own.map (·.2)) t mi mc me) := ⟨px_lc C hi.h ok (fun s H c cl fp => (hg s H c cl fp).h) (fun s H c cl fp => (ht s H c cl fp).h) (fun s H c cl fp => (he s H c cl fp).h) hso hs⟩
/-! statements -/
theorem b_nil : BX X S cf [] .n := ⟨pss_nilX⟩
theorem b_cons {st : Stmt} {sts : List Stmt} {m : MS} {ms : MSs} (h1 : SX X S cf st m) (h2 : BX X S cf sts ms) : BX X S cf (st :: sts) (.c m ms) := ⟨pss_consX h1.h h2.h⟩
theorem s_pass : SX X S cf (.Pass pos) .pass := ⟨ps_passX⟩
theorem s_doc {x j pos'} : SX X S cf (.Expr (.Constant (.str x) j pos) pos') .pass := ⟨ps_docX⟩
theorem s_never {st : Stmt} : SX X S cf st .never := ⟨ps_neverX⟩
theorem s_ex (h : EX X S cf ex m) (hs : swapsWith ex none pos.line X.env = pure false := by rfl) : SX X S cf (.Expr ex pos) (.ex m) := ⟨ps_exprX h.h hs⟩
theorem s_ret (h : EX X S cf ex m) : SX X S cf (.Return (some ex) pos) (.ret m) := ⟨ps_retX h.h⟩
theorem s_retN : SX X S cf (.Return none pos) (.ret .non) := ⟨ps_retNX⟩
theorem s_if {a b : List Stmt} {ma mb : MSs} (h : TX X S cf ex m) (ha : BX X S cf a ma) (hb : BX X S cf b mb) : SX X S cf (.If ex a b pos) (.ite m ma mb) := ⟨ps_ifX h.h ha.h hb.h⟩
theorem s_set (i : Nat) {x : Str} {pos' : Pos} (C : Ctx X S k) (h : EX X S cf ex m) (hi : X.N[i]? = some x := by rfl) (hx : Loc X.env.scope x := by first | exact .inl rfl | exact .inr rfl) (hs : swapsWith ex (some (.Name x pos')) pos.line X.env = pure false := by rfl)
    (hf : X.fn x = true ∨ X.env.scope.names.lookup x = some .local := by first | exact .inl rfl | exact .inr rfl) : SX X S cf (.Assign [.Name x pos'] ex pos) (.asg (.v i) m) := ⟨ps_setX C hi hx h.h hs hf⟩
theorem s_asg {t : Tg} (C : Ctx X S k) (h : EX X S cf ex m) (hg : GX X S tg t) (hs : swapsWithSole [tg] ex pos.line X.env = pure false := by rfl) (hw : swappedStores [tg] ex X.env = pure none := by rfl)
    (h1 : (assignEach [tg] X.env).map (·.2) = [assign tg X.env] := by rfl) : SX X S cf (.Assign [tg] ex pos) (.asg t m) := ⟨ps_asgX C h.h hg.h hs hw h1⟩
theorem s_par (i j : Nat) {x y : Str} {px py pt : Pos} {kt k2 pt2} (C : Ctx X S k) (ha : AX X S cf [a, b] (.c ma (.c mb .n))) (hi : X.N[i]? = some x := by rfl) (hj : X.N[j]? = some y := by rfl) (hij : i ≠ j := by decide)
    (hx : X.env.scope.names.lookup x = some .local := by rfl) (hy : X.env.scope.names.lookup y = some .local := by rfl)
    (hw : swappedStores [.Tuple [.Name x px, .Name y py] kt pt] (.Tuple [a, b] k2 pt2) X.env = pure (some [x, y]) := by rfl)
    (hs : swapsWithSole [.Tuple [.Name x px, .Name y py] kt pt] (.Tuple [a, b] k2 pt2) pos.line X.env = pure false := by rfl) :
    SX X S cf (.Assign [.Tuple [.Name x px, .Name y py] kt pt] (.Tuple [a, b] k2 pt2) pos) (.asg (.t [.v i, .v j]) (.tup (.c ma (.c mb .n)))) := ⟨ps_parX C hi hj hij hx hy ha.h hw hs⟩
theorem s_iset (C : Ctx X S k) {o i : Expr} {mi : ME} {p1 : Pos} (ho : EX X S cf o mo) (hi : EX X S cf i mi) (h : EX X S cf ex m) (hs : swapsWithSole [.Subscript o i p1] ex pos.line X.env = pure false := by rfl) (hw : swappedStores [.Subscript o i p1] ex X.env = pure none := by rfl)
    (h1 : (assignEach [.Subscript o i p1] X.env).map (·.2) = [assign (.Subscript o i p1) X.env] := by rfl)
    (ha : ∀ v, assign (.Subscript o i p1) X.env v = (do
      let ov ← holding [v] (eval o X.env)
      let iv ← holding [v, ov] (eval i X.env)
      standAt p1
      holding [v, ov, iv] (setItem ov iv v)
      release [v, ov, iv] []) := by intro _; rfl) : SX X S cf (.Assign [.Subscript o i p1] ex pos) (.iset mo mi m) := ⟨ps_isetX C ho.h hi.h h.h hs hw h1 ha⟩
theorem s_aug (i : Nat) {x : Str} {pos' : Pos} (C : Ctx X S k) (h : EX X S cf ex m) (hi : X.N[i]? = some x := by rfl) (hx : Loc X.env.scope x := by first | exact .inl rfl | exact .inr rfl)
    (hf : X.fn x = true ∨ X.env.scope.names.lookup x = some .local := by first | exact .inl rfl | exact .inr rfl) : SX X S cf (.AugAssign (.Name x pos') .Add ex pos) (.aug i .add m) := ⟨ps_augX C hi hx h.h hf⟩
theorem s_for {body : List Stmt} {mb : MSs} (C : Ctx X S k) (hi : IX X S cf tg iter mi) (hg : GX X S tg t) (hb : BX X S cf body mb) (hs : ∀ x, foldedSetIterable iter X.env x = pure x := by intro _; rfl) :
    SX X S cf (.For tg iter body [] pos) (.for_ t mi mb) := ⟨ps_forX C hi.h hg.h hb.h hs⟩
theorem s_while {test : Expr} {body : List Stmt} {mt : ME} {mb : MSs} (C : Ctx X S k) (ht : TX X S cf test mt) (hb : BX X S cf body mb) : SX X S cf (.While test body [] pos) (.whl mt mb) := ⟨ps_whileX C ht.h hb.h⟩
theorem s_setLc (i : Nat) {y : Str} {py spos : Pos} (C : Ctx X S k) (own : List (Str × Nat)) (hi : IX X S cf tg iter mi) (ok : BlkOk X.N X.env.scope scope own)
    (hg : ∀ (s : Shared) (H : Hp) (c : Addr) (cl : List (Str × Addr)) (fp : List Addr), GX (X.blk s H scope (compEnvC scope cl c X.env) fp) S tg t) (ht : ∀ (s : Shared) (H : Hp) (c : Addr) (cl : List (Str × Addr)) (fp : List Addr), CsX (X.blk s H scope (compEnvC scope cl c X.env) fp) S cf ifs mc)
    (he : ∀ (s : Shared) (H : Hp) (c : Addr) (cl : List (Str × Addr)) (fp : List Addr), EX (X.blk s H scope (compEnvC scope cl c X.env) fp) S cf elt me) (hy : X.N[i]? = some y := by rfl) (hyl : X.env.scope.names.lookup y = some .local := by rfl) (hsw : swapsWith (.ListComp elt [⟨tg, iter, ifs, 0⟩] scope pos) (some (.Name y py)) spos.line X.env = pure true := by rfl) (hso : ∀ i ∈ t.slots, i ∈ own.map (·.2) := by decide) (hs : ∀ x, foldedSetIterable iter X.env x = pure x := by intro _; rfl) :
    SX X S cf (.Assign [.Name y py] (.ListComp elt [⟨tg, iter, ifs, 0⟩] scope pos) spos) (.asg (.v i) (.lc (own.map (·.2)) t mi mc me)) := ⟨ps_setLcX C hy hyl hi.h ok (fun s H c cl fp => (hg s H c cl fp).h) (fun s H c cl fp => (ht s H c cl fp).h) (fun s H c cl fp => (he s H c cl fp).h) hsw hso hs⟩
end
theorem bt_len : bootBuiltins "len" = some (.builtin "len") := by decide +kernel
theorem bt_abs : bootBuiltins "abs" = some (.builtin "abs") := by decide +kernel
theorem bt_all : bootBuiltins "all" = some (.builtin "all") := by decide +kernel
theorem bt_any : bootBuiltins "any" = some (.builtin "any") := by decide +kernel
theorem bt_sum : bootBuiltins "sum" = some (.builtin "sum") := by decide +kernel
theorem bt_repr : bootBuiltins "repr" = some (.builtin "repr") := by decide +kernel
theorem bt_max : bootBuiltins "max" = some (.builtin "max") := by decide +kernel
theorem bt_min : bootBuiltins "min" = some (.builtin "min") := by decide +kernel
theorem bt_int : bootBuiltins "int" = some (.type "int") := by decide +kernel
theorem bt_str : bootBuiltins "str" = some (.type "str") := by decide +kernel
theorem bt_list : bootBuiltins "list" = some (.type "list") := by decide +kernel
theorem bt_tuple : bootBuiltins "tuple" = some (.type "tuple") := by decide +kernel
end MP

/-! MP24: isinstance of built-in types; constants of the module; pairs and triples of names. -/
namespace MP
open PySem PySem.Spec PyProof.Rows L2 Dk
section
variable {X : Cx} {S : Sx} {cf : CF} {k : Nat} {pos p p2 : Pos} {a b d : Expr} {ma mb md : ME}
def tyS : Nat → String
  | 0 => "NoneType"
  | 1 => "bool"
  | 2 => "int"
  | 3 => "str"
  | 4 => "tuple"
  | 5 => "list"
  | _ => "dict"
theorem kit_num (n m : Nat) (hn : n ≤ 6) (hm : 1 ≤ m ∧ m ≤ 6) {K : PySem.W.Frag} : PySem.W.kitOne K (.type (tyS n)) (.type (tyS m)) = some (isN2 n m) := by
  refine kit_ty ?_
  have main : ∀ n ∈ List.range 7, ∀ m ∈ [1, 2, 3, 4, 5, 6], kitB (tyS n) (tyS m) = some (isN2 n m) := by decide +kernel
  refine main n (List.mem_range.mpr (by omega)) m ?_
  have : m = 1 ∨ m = 2 ∨ m = 3 ∨ m = 4 ∨ m = 5 ∨ m = 6 := by omega
  rcases this with rfl | rfl | rfl | rfl | rfl | rfl <;> simp
theorem tyN_le {x : D} {h : MH} {n : Nat} (e : tyN x h = some n) : n ≤ 6 := by
  unfold tyN at e
  split at e <;> first | (cases e; decide) | (split at e <;> cases e <;> decide)
theorem kit_rep (hK : X.K = S.K) {c : Cf} {pins : List (Addr × Obj)} {σ : L2.St} {s : Shared} {x : D} {v : V} {u : Value} {n : Nat} (I : Inv X pins σ c.H s) (hh : Held S c) (rx : RepV S c x v) (ru : RelV v u) (e : tyN x c.h = some n) :
    ∃ P : Heap → Prop, PySem.W.KitX X.K u (.type (tyS n)) P ∧ P s.heap ∧ u ≠ .builtin "__main__.__loader__#opaque" := by
  have lst : ∀ {a : Addr} {vs : List V}, c.H a = some (.lst vs) → ∃ P : Heap → Prop, PySem.W.KitX X.K (.ref a) (.type "list") P ∧ P s.heap ∧ Value.ref a ≠ .builtin "__main__.__loader__#opaque" := fun {a vs} h => by
    obtain ⟨_, _, m, _, h1⟩ := (show ObjOk X.prog X.w c.H s.heap a (.lst vs) from I.hok a _ h)
    exact ⟨_, PySem.W.kitx_list, ⟨_, h1, rfl⟩, fun z => nomatch z⟩
  have dct : ∀ {a : Addr} {es : List DictEntry}, c.H a = some (DO a es) → ∃ P : Heap → Prop, PySem.W.KitX X.K (.ref a) (.type "dict") P ∧ P s.heap ∧ Value.ref a ≠ .builtin "__main__.__loader__#opaque" := fun {a es} h => by
    obtain ⟨o, ep, h1, h2, _⟩ := (show (∃ o ep, s.heap.get? a = some o ∧ o.ExactDict ∧ o.data = .dict es.toArray ep) ∧ _ from I.hok a _ h).1
    exact ⟨_, PySem.W.kitx_dict, ⟨o, h1, h2.1⟩, fun z => nomatch z⟩
  cases rx with
  | non => cases e; cases (show u = Value.none from ru); exact ⟨_, PySem.W.kitx_none, True.intro, fun z => nomatch z⟩
  | bl y => cases e; cases (show u = Value.bool y from ru); exact ⟨_, PySem.W.kitx_bool, True.intro, fun z => nomatch z⟩
  | int i => cases e; obtain ⟨t, q⟩ := (show ∃ t, u = Value.int i t from ru); cases q; exact ⟨_, PySem.W.kitx_int, True.intro, fun z => nomatch z⟩
  | str s z h => cases e; obtain ⟨t, q⟩ := (show ∃ t, u = Value.str z t from ru); cases q; exact ⟨_, PySem.W.kitx_str, True.intro, fun z => nomatch z⟩
  | @tup xs vs a h r =>
    cases e
    cases (show u = Value.ref a from ru)
    rcases h with ⟨h, _⟩ | ⟨o, its, m, h1, h2, _⟩
    · obtain ⟨_, _, _, o, h1, h2, _⟩ := (show ObjOk X.prog X.w c.H s.heap a (.tup vs) from I.hok a _ h)
      exact ⟨_, PySem.W.kitx_tuple, ⟨o, h1, h2⟩, fun z => nomatch z⟩
    · exact ⟨_, PySem.W.kitx_tuple, ⟨o, I.kIn a o (hK ▸ h1), h2⟩, fun z => nomatch z⟩
  | @lst xs vs a h hn r =>
    cases e
    cases (show u = Value.ref a from ru)
    exact lst h
  | @rol xs vs a h r =>
    cases e
    cases (show u = Value.ref a from ru)
    rcases h with ⟨h | ⟨ob, h⟩, _⟩ | ⟨o, its, m, h1, h2, _⟩
    · exact lst h
    · obtain ⟨_, _, _, m, _, h1⟩ := (show ObjOk X.prog X.w c.H s.heap a (.frz ob (.lst vs)) from I.hok a _ h)
      exact ⟨_, PySem.W.kitx_list, ⟨_, h1, rfl⟩, fun z => nomatch z⟩
    · exact ⟨_, PySem.W.kitx_list, ⟨o, I.kIn a o (hK ▸ h1), h2⟩, fun z => nomatch z⟩
  | @dct kvs es a h hn r1 r2 =>
    cases e
    cases (show u = Value.ref a from ru)
    exact dct h
  | @ref r a h =>
    cases (show u = Value.ref a from ru)
    have e : (match c.h[r]? with | some (.lst _) => some 5 | some (.dct _) => some 6 | _ => none) = some n := e
    split at e
    · rename_i xs q
      cases e
      obtain ⟨vs, h1, _⟩ := (show ∃ vs, c.H a = some (.lst vs) ∧ RepVs S c xs vs from hh.obj r a _ h q)
      exact lst h1
    · rename_i kvs q
      cases e
      obtain ⟨es, h1, _⟩ := (show ∃ es, c.H a = some (DO a es) ∧ _ ∧ _ from hh.obj r a _ h q)
      exact dct h1
    · cases e
def rIsiM (S : Sx) : List V → Hp → VK → Prop := fun xs H Q => ∃ (c : Cf) (d : D) (v : V) (n m : Nat), xs = [v, .ty (tyS m)] ∧ (1 ≤ m ∧ m ≤ 6) ∧ c.H = H ∧ Held S c ∧ RepV S c d v ∧ tyN d c.h = some n ∧ Q (.bl (isN2 n m)) H
theorem call_isiM (hK : X.K = S.K) : CallR X (.builtin "isinstance") (rIsiM S) := by
  intro pins s σ H xs us Q I r h
  obtain ⟨c, d, v, n, m, rfl, hm, eH, hh, rd, e, q⟩ := h
  subst eH
  obtain ⟨u1, u2, rfl, r1, r2⟩ := vals2 r
  cases (show u2 = Value.type (tyS m) from r2)
  obtain ⟨P, Z, p, hx⟩ := kit_rep hK I hh rd r1 e
  exact PySem.W.kia_one Z I.kIn p (kit_num n m (tyN_le e) hm) hx fun tk => ⟨.bl _, c.H, I.tok tk, rfl, q⟩
theorem px_isi (C : Ctx X S k) {T : Str} {t : Ty} {m : Nat} (ht : t.num = some m) (hm : 1 ≤ m ∧ m ≤ 6) (hi : X.mg "isinstance" = none) (hT : X.mg T = none) (hv : bootBuiltins T = some (.type (tyS m))) (ha : PX X S cf a ma)
    (hg : Gl X "isinstance" := by rfl) (hgT : Gl X T := by rfl) (hn : T ≠ "__name__" := by decide) (hdb : (T == ("__debug__" : Str)) = false := by decide)
    (he : starEach [a, .Name T p2] X.env = (false, eval a X.env) :: starEach [.Name T p2] X.env := by rfl) (he2 : starEach [.Name T p2] X.env = (false, eval (.Name T p2) X.env) :: starEach [] X.env := by rfl)
    (hpl : (backTo pos (starEach [.Name T p2] X.env)).any (·.1) = false := by rfl) : PX X S cf (.Call (.Name "isinstance" p) [a, .Name T p2] [] pos) (.isi [t] ma) :=
  px_of (pe_callB (call_isiM C.K) hg hi (by decide +kernel) (pa_cons ha.pe (pa_cons (pe_bltn (v := .ty (tyS m)) hgT hT hv rfl hn hdb) pa_nil he2) he) (by decide) (by decide) he hpl) fun σ c e rr hh he' hr nb => by
    have hr : ((evalX S.P cf ma e c.h).bind fun x h => match x.toV with
      | some v => .ofO ((isTys v h [t]).map fun b => .d (.bl b)) h
      | none => .bad) = rr := hr
    show tX S cf ma σ c.H (fun x H1 => rIsiM S [x, .ty (tyS m)] H1 (Ok S c rr))
    refine tX.mk hh he' hr nb fun x c1 v g1 hh1 he1 rx h1 => ?_
    cases q : x.toV with
    | none => rw [q] at h1; exact absurd h1.symm nb
    | some d =>
      rw [q] at h1
      obtain ⟨z, hz, er⟩ := ofO_ok h1 nb
      obtain ⟨w, hw, rfl⟩ := Option.map_eq_some_iff.mp hz
      have hw : (match isTy d c1.h t with | some true => some true | some false => isTys d c1.h [] | none => none) = some w := hw
      have e1 : isTy d c1.h t = (tyN d c1.h).map fun n => isN2 n m := by
        unfold isTy
        rw [ht]
        cases tyN d c1.h <;> rfl
      rw [e1] at hw
      cases tn : tyN d c1.h with
      | none => rw [tn] at hw; cases hw
      | some n =>
        rw [tn] at hw
        have ew : w = isN2 n m := by
          show w = isN2 n m
          cases hb : isN2 n m with
          | true =>
            have hw : (match some (isN2 n m) with | some true => some true | some false => isTys d c1.h [] | none => none) = some w := hw
            rw [hb] at hw
            cases hw; rfl
          | false =>
            have hw : (match some (isN2 n m) with | some true => some true | some false => isTys d c1.h [] | none => none) = some w := hw
            rw [hb] at hw
            cases hw; rfl
        subst ew
        exact ⟨c1, d, v, n, m, rfl, hm, rfl, hh1, rx.toV q, tn, .of g1 hh1 (.d (.bl _)) er.symm⟩
/-! ### constants of the module -/
def codes : Value → Option (List Nat)
  | .str z _ => some z.cps.toList
  | _ => none
/-- a constant of the written part: a number, a text, a tuple of texts -/
inductive KRep (K : PySem.W.Frag) : D → Value → Prop where
  | int (i : Int) (t : Tok) : KRep K (.int i) (.int i t)
  | str (z : Str) (s : List Nat) (t : Tok) : z.cps.toList = s → KRep K (.str s) (.str z t)
  | tup (xs : List (List Nat)) (a : Addr) (o : Obj) (its : Array Value) (n : Nat) : K.lookup a = some o → o.cls = .type "tuple" → o.data = .seq its n → its.size ≤ 1000 → its.toList.map codes = xs.map some → KRep K (.tup (xs.map D.str)) (.ref a)
theorem codes_reps : ∀ {us : List Value} {xs : List (List Nat)}, us.map codes = xs.map some → ∃ vs, Vals vs us ∧ ∀ c : Cf, RepVs S c (xs.map D.str) vs
  | [], [], _ => ⟨[], .nil, fun _ => .nil⟩
  | [], _ :: _, h => nomatch h
  | _ :: _, [], h => nomatch h
  | u :: us, x :: xs, h => by
    have h1 : codes u = some x := (List.cons.inj h).1
    obtain ⟨vs, r1, r2⟩ := codes_reps (us := us) (xs := xs) (List.cons.inj h).2
    cases u with
    | str z t => exact ⟨.str z :: vs, .cons ⟨t, rfl⟩ r1, fun c => .cons (.str _ z (Option.some.inj h1)) (r2 c)⟩
    | _ => cases h1
theorem KRep.rep {d : D} {u : Value} (h : KRep S.K d u) : ∃ v, RelV v u ∧ ∀ c : Cf, RepV S c d v := by
  cases h with
  | int i t => exact ⟨.int i, ⟨t, rfl⟩, fun c => .int i⟩
  | str z s t e => exact ⟨.str z, ⟨t, rfl⟩, fun c => .str s z e⟩
  | tup xs a o its n h1 h2 h3 h4 h5 =>
    obtain ⟨vs, r1, r2⟩ := codes_reps (S := S) h5
    have ml := maxl
    have m2 : MAXL = 1000000 := rfl
    exact ⟨.ref a, rfl, fun c => .tup (.inr ⟨o, its, n, h1, h2, h3, by omega, r1⟩) (r2 c)⟩
/-- the module's name x stands for the constant d -/
def GlbOk (K : PySem.W.Frag) (mg : Str → Option Value) (x : Str) (d : D) : Prop := ∃ u, mg x = some u ∧ KRep K d u
theorem px_glb (C : Ctx X S k) {x : Str} {d : D} {g : Nat} (h : GlbOk S.K X.mg x d) (hG : S.P.G g = some d) (hg : Gl X x) (hd : (x == ("__debug__" : Str)) = false := by decide) : PX X S cf (.Name x pos) (.glb g) := by
  obtain ⟨u, hm, kr⟩ := h
  obtain ⟨v, rv, rep⟩ := kr.rep (S := S)
  refine px_of (pe_glob (pos := pos) hg hm rv hd) fun σ c e r hh he hr nb => ?_
  have hr : (match S.P.G g with | some v => Res.ok (MP.X.d v) c.h | none => .bad) = r := hr
  rw [hG] at hr
  exact .of (Gr.refl c) hh (.d (rep c)) hr
/-! ### three names at once -/
theorem asg3 {i j l : Nat} {d1 d2 d3 : D} {e e1 : Env} (z : asgT (.t [.v i, .v j, .v l]) (.tup [d1, d2, d3]) e = some e1) : e1 = ((e.set i (some d1)).set j (some d2)).set l (some d3) := by
  have z : (match (if i < e.length then some (e.set i (some d1)) else none) with
    | some e' => (match (if j < e'.length then some (e'.set j (some d2)) else none) with
      | some e'' => (match (if l < e''.length then some (e''.set l (some d3)) else none) with
        | some e3 => some e3
        | none => none)
      | none => none)
    | none => none) = some e1 := z
  split at z
  · rename_i e' h'
    split at h'
    · cases h'
      split at z
      · rename_i e'' h''
        split at h''
        · cases h''
          split at z
          · rename_i e3 h3
            split at h3
            · cases h3
              cases z; rfl
            · cases h3
          · cases z
        · cases h''
      · cases z
    · cases h'
  · cases z
theorem ps_par3X {i j l : Nat} {x y z : Str} {ma mb md : ME} {px py pz pt : Pos} {kt k2 pt2} (C : Ctx X S k) (hi : X.N[i]? = some x) (hj : X.N[j]? = some y) (hl : X.N[l]? = some z) (hij : i ≠ j) (hil : i ≠ l) (hjl : j ≠ l)
    (hx : X.env.scope.names.lookup x = some .local) (hy : X.env.scope.names.lookup y = some .local) (hz : X.env.scope.names.lookup z = some .local) (ha : PA X [a, b, d] (tXs S cf (.c ma (.c mb (.c md .n)))))
    (hw : swappedStores [.Tuple [.Name x px, .Name y py, .Name z pz] kt pt] (.Tuple [a, b, d] k2 pt2) X.env = pure (some [x, y, z]) := by rfl)
    (hs : swapsWithSole [.Tuple [.Name x px, .Name y py, .Name z pz] kt pt] (.Tuple [a, b, d] k2 pt2) pos.line X.env = pure false := by rfl) :
    PS X (.Assign [.Tuple [.Name x px, .Name y py, .Name z pz] kt pt] (.Tuple [a, b, d] k2 pt2) pos) (tS S cf (.asg (.t [.v i, .v j, .v l]) (.tup (.c ma (.c mb (.c md .n)))))) := (ps_par3 C.calm C.nd hi hj hl hij hil hjl hx hy hz ha hw hs).imp fun D σ H ⟨c, e, r, eH, hh, he, er, nb, q⟩ => by
  subst eH
  have er : (((evalVs S.P cf (.c ma (.c mb (.c md .n))) e c.h).bind fun ds h => .ok (.d (.tup ds)) h).bind fun x h => match asgX (.t [.v i, .v j, .v l]) x h e with | some e1 => .ok (.nx e1) h | none => .bad) = r := er
  refine ⟨c, e, _, rfl, hh, he, rfl, fun z => by rw [z] at er; exact nb er.symm, fun ds c1 vs h1 g1 hh1 rs => ?_⟩
  have l := evalVs_len _ e c.h ds _ h1
  rw [h1] at er
  have er : (match asgT (.t [.v i, .v j, .v _]) (.tup ds) e with | some e1 => Res.ok (Fl.nx e1) c1.h | none => .bad) = r := er
  cases z : asgT (.t [.v i, .v j, .v _]) (.tup ds) e with
  | none => rw [z] at er; exact absurd er.symm nb
  | some e1 =>
    rw [z] at er
    have er2 : Res.ok (Fl.nx e1) c1.h = r := er
    clear er
    match ds, l, rs with
    | [d1, d2, d3], _, .cons r1 (.cons r2 (.cons r3 .nil)) =>
      refine ⟨_, _, _, rfl, ?_⟩
      rw [asg3 z] at er2
      exact q (.nx _) c1 er2.symm g1 hh1 _ ((((he.mono g1).set r1 i).set r2 j).set r3 _)
/-! ### words -/
theorem e_isi (C : Ctx X S k) {T : Str} {t : Ty} {m : Nat} (ht : t.num = some m) (hm : 1 ≤ m ∧ m ≤ 6) (hi : X.mg "isinstance" = none) (hT : X.mg T = none) (hv : bootBuiltins T = some (.type (tyS m))) (ha : EX X S cf a ma)
    (hg : Gl X "isinstance" := by rfl) (hgT : Gl X T := by rfl) (hn : T ≠ "__name__" := by decide) (hdb : (T == ("__debug__" : Str)) = false := by decide)
    (he : starEach [a, .Name T p2] X.env = (false, eval a X.env) :: starEach [.Name T p2] X.env := by rfl) (he2 : starEach [.Name T p2] X.env = (false, eval (.Name T p2) X.env) :: starEach [] X.env := by rfl)
    (hpl : (backTo pos (starEach [.Name T p2] X.env)).any (·.1) = false := by rfl) : EX X S cf (.Call (.Name "isinstance" p) [a, .Name T p2] [] pos) (.isi [t] ma) := ⟨px_isi C ht hm hi hT hv ha.h hg hgT hn hdb he he2 hpl⟩
theorem e_glb (C : Ctx X S k) {x : Str} {d : D} {g : Nat} (h : GlbOk S.K X.mg x d) (hG : S.P.G g = some d := by rfl) (hg : Gl X x := by rfl) (hd : (x == ("__debug__" : Str)) = false := by decide) : EX X S cf (.Name x pos) (.glb g) := ⟨px_glb C h hG hg hd⟩
theorem s_par3 (i j l : Nat) {x y z : Str} {ma mb md : ME} {px py pz pt : Pos} {kt k2 pt2} (C : Ctx X S k) (ha : AX X S cf [a, b, d] (.c ma (.c mb (.c md .n)))) (hi : X.N[i]? = some x := by rfl) (hj : X.N[j]? = some y := by rfl) (hl : X.N[l]? = some z := by rfl)
    (hij : i ≠ j := by decide) (hil : i ≠ l := by decide) (hjl : j ≠ l := by decide)
    (hx : X.env.scope.names.lookup x = some .local := by rfl) (hy : X.env.scope.names.lookup y = some .local := by rfl) (hz : X.env.scope.names.lookup z = some .local := by rfl)
    (hw : swappedStores [.Tuple [.Name x px, .Name y py, .Name z pz] kt pt] (.Tuple [a, b, d] k2 pt2) X.env = pure (some [x, y, z]) := by rfl)
    (hs : swapsWithSole [.Tuple [.Name x px, .Name y py, .Name z pz] kt pt] (.Tuple [a, b, d] k2 pt2) pos.line X.env = pure false := by rfl) :
    SX X S cf (.Assign [.Tuple [.Name x px, .Name y py, .Name z pz] kt pt] (.Tuple [a, b, d] k2 pt2) pos) (.asg (.t [.v i, .v j, .v l]) (.tup (.c ma (.c mb (.c md .n))))) := ⟨ps_par3X C hi hj hl hij hil hjl hx hy hz ha.h hw hs⟩
end
end MP

/-! MP25: sorted of a list or a tuple of alike data. -/
namespace MP
open PySem PySem.Spec PySem.W PySem.Calls PyProof.Rows L2 Dk
section
variable {prog : Program} {w : World} {A : Around} {E : Value → Shared → Prop} {s : Shared}
theorem sorted_any {x : Addr} {T : String} {o : Obj} {vs : List Value} {n : Nat} {kw : List (Str × Value)} {Q : Value → Shared → Prop} (hT : T = "list" ∨ T = "tuple") (ho : s.heap.get? x = some o) (hc : o.cls = .type T) (hd : o.data = .seq vs.toArray n) (hL : vs.length ≤ sizeLine)
    (ha1 : argsOk "sorted" ⟨[.ref x], kw⟩) (ha2 : ∀ x, argsOk "list.sort" ⟨[.ref x], kw⟩)
    (body : ∀ h1 : Heap, (∀ b o, s.heap.get? b = some o → h1.get? b = some o) → ∀ E' : Value → Shared → Prop, wpAny (model prog w) A.in1.in1 (Builtin.«list.sort» ⟨[.ref h1.objs.size], kw⟩) (fun f s' => f = .done (.ret .none) ∧ Q (.ref h1.objs.size) s') E' { s with heap := h1.push (seqObj "list" vs.toArray 0) }) :
    wpAny (model prog w) A (call (.builtin "sorted") [.ref x] kw) Q E s := by
  refine call_function_entry_kw kind_sorted plain_sorted entry_sorted ha1 ?_
  unfold Builtin.«sorted»
  refine wpAny_bind (m := checkCount "sorted" 1 1 _) (wpAny_pure ?_)
  refine wpAny_bind (wpAny_collect_seq x hT ho hc hd (fun h1 keep => ?_) (by rw [List.size_toArray]; exact hL))
  rw [List.toList_toArray]
  refine wpAny_bind (wpAny_newList ?_ hL)
  have at_ : (h1.push (seqObj "list" vs.toArray 0)).get? h1.objs.size = some (seqObj "list" vs.toArray 0) := Heap.get?_push_size _ rfl
  refine wpAny_bind (wpAny_holding (wpAny_call_entry_kw slot_list_sort ⟨_, at_, rfl⟩ entry_list_sort ?body (ha2 _)))
  case body =>
    refine wpAny_mono (body h1 keep _) (fun f s' hf => ?_) fun _ _ e => e
    obtain ⟨rfl, hq⟩ := hf
    exact ⟨_, rfl, wpAny_pure ⟨_, rfl, hq⟩⟩
end
section
variable {X : Cx} {S : Sx} {cf : CF} {k : Nat} {pos p : Pos} {a b d : Expr} {ma mb md : ME}
/-- a real value of a mini value -/
def RR (S : Sx) (c : Cf) (u : Value) (d : D) : Prop := ∃ v, RelV v u ∧ RepV S c d v
theorem rr_of {c : Cf} : ∀ {ds : List D} {vs : List V} {us : List Value}, RepVs S c ds vs → Vals vs us → EachIs (RR S c) us ds
  | _, _, _, .nil, .nil => .nil
  | _, _, _, .cons r t, .cons q u => .cons ⟨_, q, r⟩ (rr_of t u)
theorem rr_to {c : Cf} : ∀ {us : List Value} {ds : List D}, EachIs (RR S c) us ds → ∃ vs, Vals vs us ∧ RepVs S c ds vs
  | _, _, .nil => ⟨[], .nil, .nil⟩
  | _, _, .cons ⟨v, q, r⟩ t => by
    obtain ⟨vs, h1, h2⟩ := rr_to t
    exact ⟨v :: vs, .cons q h1, .cons r h2⟩
theorem rr_reads (hK : X.K = S.K) {c : Cf} {pins : List (Addr × Obj)} {σ : L2.St} {s : Shared} (I : Inv X pins σ c.H s) : ∀ {us : List Value} {ds : List D}, pls ds 30 = true → EachIs (RR S c) us ds → EachIs (fun u d => ∃ as, Reads s.heap u (toPD d) as) us ds
  | _, _, _, .nil => .nil
  | _, _, h, .cons ⟨v, q, r⟩ t => by
    simp only [pls, Bool.and_eq_true] at h
    exact .cons (Dp.reads I _ v _ (r.dp hK _ _ _ h.1) q) (rr_reads hK I h.2 t)
/-- a list or a tuple, as it lies -/
theorem seq_at (hK : X.K = S.K) {c0 c : Cf} {x : MP.X} {v : V} {u : Value} {ds : List D} {pins : List (Addr × Obj)} {σ : L2.St} {s : Shared} (I : Inv X pins σ c.H s) (hh : Held S c) (rx : RepX S c0 c x v) (ru : RelV v u) (e : seqX x c.h = some ds) :
    ∃ (l : Addr) (T : String) (o : Obj) (us : List Value) (n : Nat), u = .ref l ∧ (T = "list" ∨ T = "tuple") ∧ s.heap.get? l = some o ∧ o.cls = .type T ∧ o.data = .seq us.toArray n ∧ us.length ≤ sizeLine ∧ EachIs (RR S c) us ds := by
  unfold seqX at e
  split at e
  · rename_i xs hn
    cases e
    obtain ⟨l, vs, rfl, hp, rs⟩ := norm_lst hh rx hn
    obtain ⟨hz, its, n, rv, hl⟩ := (show ObjOk X.prog X.w c.H s.heap l (.lst vs) from I.hok l _ hp)
    cases (show u = Value.ref l from ru)
    exact ⟨l, "list", _, its, n, rfl, .inl rfl, hl, rfl, rfl, by rw [← rv.length]; exact hz, rr_of rs rv⟩
  · rename_i xs hn
    cases e
    obtain ⟨l, vs, rfl, sq, rs⟩ := (norm_rep hh rx hn).tup hK
    cases (show u = Value.ref l from ru)
    obtain ⟨its, rv, ⟨o, h1, h2, n, h3⟩, hz⟩ := I.tuple sq
    exact ⟨l, "tuple", o, its, n, rfl, .inr rfl, h1, h2, h3, by rw [← rv.length]; exact hz, rr_of rs rv⟩
  · cases e
theorem rr_len {c : Cf} {us : List Value} {ds : List D} (h : EachIs (RR S c) us ds) : us.length = ds.length := h.length
theorem rr_mono {c c' : Cf} (g : Gr c c') {us : List Value} {ds : List D} (h : EachIs (RR S c) us ds) : EachIs (RR S c') us ds := h.mono fun _ _ ⟨v, q, r⟩ => ⟨v, q, r.mono g⟩
theorem depths {ds : List D} {n : Nat} (h : pls ds n = true) {d : D} (hd : d ∈ ds) : (toPD d).depth ≤ n := by
  have : d.pl n = true := by
    induction ds with
    | nil => cases hd
    | cons x r ih =>
      simp only [pls, Bool.and_eq_true] at h
      rcases List.mem_cons.mp hd with rfl | q
      · exact h.1
      · exact ih h.2 q
  exact (pl_can _ _ this).2
theorem cx_sorted (C : Ctx X S k) : CallX X S (.builtin "sorted") (b1X .sorted) := by
  intro pins s σ c0 c x z v u I hh rx ru hz
  have hz : sortedX x c.h = some z := hz
  unfold sortedX at hz
  cases e : seqX x c.h with
  | none => rw [e] at hz; cases hz
  | some ds =>
    rw [e] at hz
    obtain ⟨ys, hs, rfl⟩ := Option.map_eq_some_iff.mp hz
    unfold sortD at hs
    split at hs
    · rename_i hc
      cases hs
      obtain ⟨h1, h2, h3, h4⟩ := hc
      obtain ⟨l, T, o, us, n, rfl, hT, ho, ht, hd, hu, er⟩ := seq_at C.K I hh rx ru e
      have ml := maxl
      have un := C.un
      have ee : ds.map toPD = toPDs ds := (toPDs_map ds).symm
      refine sorted_any hT ho ht hd hu (args_sorted1 _) (fun _ => args_list_sort _) fun h1' keep E' => ?_
      have at_ : (h1'.push (seqObj "list" us.toArray 0)).get? h1'.objs.size = some (seqObj "list" us.toArray 0) := Heap.get?_push_size _ rfl
      have kp : ∀ b o, s.heap.get? b = some o → (sortingHeap (h1'.push (seqObj "list" us.toArray 0)) h1'.objs.size us).get? b = some o := fun b o q =>
        sortingHeap_old (Nat.ne_of_lt (Heap.lt_size (keep b o q))) (Heap.get?_push_of_some _ (keep b o q))
      have rd : EachIs (fun u d => ∃ as, Reads (sortingHeap (h1'.push (seqObj "list" us.toArray 0)) h1'.objs.size us) u (toPD d) as) us ds :=
        (rr_reads C.K I h1 er).mono fun _ _ ⟨as, r⟩ => ⟨as, PyProof.Rows.Reads.keeps kp r⟩
      have hal : AllAlike (ds.map toPD) := ee ▸ h2
      have hsk : Sortable (ds.map toPD) := ee ▸ h3
      have So := SortsAt.data (prog := X.prog) (w := X.w) (A := X.A.in1.in1) (s := { s with heap := sortingHeap (h1'.push (seqObj "list" us.toArray 0)) h1'.objs.size us }) (each_map (R := fun u d => ∃ as, Reads (sortingHeap (h1'.push (seqObj "list" us.toArray 0)) h1'.objs.size us) u d as) toPD rd) hal hsk (bound_map (A := X.A.in1.in1) (enc := toPD) (bs := ds) fun d q => by
        have := depths h1 q
        show X.A.units + 1 + 1 + _ < cLine
        omega)
      refine list_sort_vals (s := { s with heap := h1'.push (seqObj "list" us.toArray 0) }) at_ So hu ⟨rfl, ?_⟩
      have es := sortVals_data (h' := sortingHeap (h1'.push (seqObj "list" us.toArray 0)) h1'.objs.size us) (enc := toPD) false er rd hal
      obtain ⟨vs', q1, q2⟩ := rr_to es
      have I1 : Inv X pins σ c.H { s with heap := h1', toks := s.toks } := I.kept keep
      obtain ⟨ep, he⟩ := PyProof.Rows.sortedHeap_at (vs := us) (out := (sortVals (dataKind (sortingHeap (h1'.push (seqObj "list" us.toArray 0)) h1'.objs.size us) (ds.map toPD)) false us us).toArray) at_
      have ln : vs'.length ≤ sizeLine := by
        have e1 := q2.length
        have e2 := rr_len er
        rw [List.length_mergeSort] at e1
        omega
      refine ⟨.ref _, upd c.H h1'.objs.size (.lst vs'), I1.laid (t' := s.toks) (fun b o q => ?_) (Nat.le_refl _) ⟨ln, _, ep, q1, he⟩, rfl, QX.newL hh q2 _ (I1.hok.fresh (Nat.le_refl _))⟩
      have q : h1'.get? b = some o := q
      refine (PyProof.Rows.sortedHeap_old (Nat.ne_of_lt (Heap.lt_size q)) ?_).trans (Heap.get?_push_of_some _ q)
      exact Nat.lt_of_lt_of_le (Heap.lt_size q) (by rw [size_push']; exact Nat.le_succ _)
    · cases hs
end
end MP

/-! MP26: dict comprehensions whose keys are any nested keys. -/
namespace MP
open PySem PySem.Spec PyProof.Rows L2 Dk
section
variable {X : Cx} {S : Sx} {cf : CF} {k : Nat} {pos p : Pos}
/-- what a store into the dict at q asks -/
def PutM (S : Sx) (q : Addr) (yk yv : V) (H : Hp) (Nx : Hp → Prop) : Prop := ∃ (c : Cf) (kvs : List (D × D)) (kd vd : D) (es : List DictEntry), c.H = H ∧ Held S c ∧ RepV S c kd yk ∧ RepV S c vd yv ∧ okKey kd = true ∧
  c.H q = some (DO q es) ∧ RepKs S c kvs es ∧ Apart kvs ∧ kvs.length ≤ sizeLine ∧ ∀ es', RepKs S c (dput kvs kd vd) es' → Apart (dput kvs kd vd) → Nx (upd c.H q (DO q es'))
def tDcM (S : Sx) (wi : TI) (g : TG) (tt : TT) (tk tv : TE) (ws : List Nat) : TE := fun σ H Q => wi σ H fun J H1 => ∀ q, H1 q = none → (q == sysModules) = false → ∃ W : Nat → Nat → Hp → Prop, (∃ m, W 0 m (upd H1 q (DO q []))) ∧ ∀ i m H, W i m H →
  (J.stop i H ∧ Q (.ref q) H) ∨ (J.go i H ∧ ∃ Nx : Hp → Prop, (∀ H', Nx H' → ∃ m', m' < m ∧ W (i + 1) m' H') ∧ ∀ x H', J.yld i H x H' → g x (L2.wipe σ ws) H' fun σ2 H2 => L2.wipe σ2 ws = L2.wipe σ ws ∧ tt σ2 H2 fun b H3 =>
    if b = true then tk σ2 H3 fun yk H4 => tv σ2 H4 fun yv H5 => PutM S q yk yv H5 Nx else Nx H3)
/-- the store itself -/
theorem put_run {Y : Cx} (hK : Y.K = S.K) (hw : Y.w = S.w) (hu : Y.A.units + 200 < cLine) {pins : List (Addr × Obj)} {σ : L2.St} {H : Hp} {s : Shared} {E : Value → Shared → Prop} {q : Addr} {yk yv : V} {u r : Value} {Nx : Hp → Prop} {Q : Unit → Shared → Prop}
    (I : Inv Y pins σ H s) (rk : RelV yk u) (rv : RelV yv r) (h : PutM S q yk yv H Nx) (fin : ∀ s' H', Inv Y pins σ H' s' → Nx H' → Q () s') : wpAny (model Y.prog Y.w) Y.A (dictSet q u r) Q E s := by
  obtain ⟨c, kvs, kd, vd, es, eH, hh, r1, r2, ok, hq, ks, ap, hz, nx⟩ := h
  subst eH
  obtain ⟨nk, hk, hd⟩ := okKey_some ok
  obtain ⟨xs, o, ep, kr, ee, raw⟩ := raw_of hK I hq ap ks
  have kh : KeyHere s.heap nk u := ⟨r1.nested hK I _ _ _ _ hk rk, hd⟩
  have lz : xs.length ≤ sizeLine := by rw [kr.length]; exact hz
  refine set_any (w := Y.w) (by omega) kh (hw ▸ raw) lz fun h' o' es' ep' raw' sb => ?_
  have kr2 := put_rel hk hd r1 rk r2 rv kr
  have e2 : es' = ((storeE xs nk u r).map (ent Y.w)).toArray := by rw [← raw'.es]
  have I2 := wr_dict (es2 := (storeE xs nk u r).map (ent S.w)) (tk := s.toks + nk.draws) I hq sb raw'.at_ raw'.ex (by rw [raw'.dat, e2, hw])
  exact fin _ _ I2 (nx _ kr2.reps (ap.put hk))
/-- {k: v for target in iter if ..}: what the model does of it -/
theorem dcm_core {pins : List (Addr × Obj)} {s : Shared} {σ : L2.St} {H : Hp} {Q : VK} {use : Option (Value → Sem Unit)} {Qf : Value → Shared → Prop} {pos' : Pos} {kx vx tg iter : Expr} {ifs : List Expr} {scope : Scope} {own : List (Str × Nat)} {wi : TI} {g : TG} {tt : TT} {tk tv : TE} (C : Ctx X S k) (hi : PI X tg iter wi) (ok : BlkOk X.N X.env.scope scope own)
    (hg : ∀ (s : Shared) (H : Hp) (c : Addr) (cl : List (Str × Addr)) (fp : List Addr), PG (X.blk s H scope (compEnvC scope cl c X.env) fp) tg g)
    (ht : ∀ (s : Shared) (H : Hp) (c : Addr) (cl : List (Str × Addr)) (fp : List Addr), PTs (X.blk s H scope (compEnvC scope cl c X.env) fp) ifs tt)
    (hk : ∀ (s : Shared) (H : Hp) (c : Addr) (cl : List (Str × Addr)) (fp : List Addr), PE (X.blk s H scope (compEnvC scope cl c X.env) fp) kx tk)
    (hv : ∀ (s : Shared) (H : Hp) (c : Addr) (cl : List (Str × Addr)) (fp : List Addr), PE (X.blk s H scope (compEnvC scope cl c X.env) fp) vx tv)
    (hs : ∀ x, foldedSetIterable iter X.env x = pure x) (I : Inv X pins σ H s) (h : tDcM S wi g tt tk tv (own.map (·.2)) σ H Q)
    (out : ∀ D L s' m H', Inv X pins σ H' s' → Q (.ref D) H' → s'.heap.Ns L m → FpOk X pins H' L → compPost (model X.prog X.w) X.A X.xe use Qf (.ref D) L (.ok .next) s') :
    wpAny (model X.prog X.w) X.A (comprehension (.DictComp kx vx [⟨tg, iter, ifs, 0⟩] scope pos) scope X.env pos' newDict false (eval iter X.env) use) Qf X.xe s := by
  have free : ∀ y ∈ scope.names, y.2 = .free → ∃ c, X.env.cells.lookup y.1 = some c := fun y hy e => (ok.free y hy e).elim (fun z => I.ok.has _ (.inl z)) fun z => I.ok.has _ (.inr z)
  refine wpAny_comprehension_free (use := use) rfl hs (closure_ok free) ok.kind (fun y hy e => by rw [ok.uniq y hy, e]) (thn (hi.run pins s σ H _ I h) fun xv s1 hx => thn hx fun itv s2 ⟨it, fp, tn, J, H2, ei, I2, T, t2, f2, q⟩ => ?_)
  subst ei
  refine wpAny_newObj_type (newEnv_comp ?_)
  -- the new dict, at the heap's end
  obtain ⟨D, hD⟩ : ∃ D, s2.heap.objs.size = D := ⟨_, rfl⟩
  have nD : H2 D = none := I2.hok.fresh (Nat.le_of_eq hD)
  have lD : (D == sysModules) = false := beq_eq_false_iff_ne.mpr (by rw [← hD]; exact Nat.ne_of_gt I2.big)
  obtain ⟨W, ⟨m0, w0⟩, turn⟩ := q D nD lD
  have I3 := DO_new I2
  rw [hD] at I3 ⊢
  obtain ⟨s3, hs3⟩ : ∃ s3 : Shared, { s2 with heap := s2.heap.push { cls := .type "dict", data := .dict #[] } } = s3 := ⟨_, rfl⟩
  have h3 : s3.heap = s2.heap.push { cls := .type "dict", data := .dict #[] } := by rw [← hs3]
  have I3 : Inv X pins σ (upd H2 D (DO D [])) s3 := by rw [← hs3]; exact I3
  have low : ∀ b ∈ fp, b < s2.heap.objs.size := fun b hb => Heap.lt_size (T.obj _ _ t2 b hb).choose_spec.1
  have f3 : ∀ b ∈ fp, FpOk X pins (upd H2 D (DO D [])) b ∧ b < s3.heap.objs.size := fun b hb =>
    ⟨⟨by rw [upd_ne (Nat.ne_of_lt (hD ▸ low b hb))]; exact (f2 b hb).1, (f2 b hb).2⟩, by rw [h3, Heap.size_push]; exact Nat.lt_succ_of_lt (low b hb)⟩
  have t3 : tn 0 s3.heap := T.keep _ _ _ t2 fun b _ o e => by rw [h3]; exact Heap.get?_push_of_some _ e
  have I4 := block_start I3 ok C.nd f3
  -- the block's frame
  obtain ⟨cl, hcl⟩ : ∃ cl, cellsFrom (s3.heap.objs.size + 1) scope.names (cloFrom X.env.cells scope.names []) = cl := ⟨_, rfl⟩
  obtain ⟨H3, hH3⟩ : ∃ H3, upd H2 D (DO D []) = H3 := ⟨_, rfl⟩
  obtain ⟨L, hL⟩ : ∃ L, s3.heap.objs.size = L := ⟨_, rfl⟩
  rw [hs3]
  rw [hH3] at I3 I4 w0
  have nfp : ∀ b ∈ fp, H3 b = none := fun b hb => hH3 ▸ (f3 b hb).1.1
  rw [hcl, hL] at I4
  have pg := hg s3 H3 L cl fp
  have pt := ht s3 H3 L cl fp
  have pk := hk s3 H3 L cl fp
  have pv := hv s3 H3 L cl fp
  show codeAny _ _ (.compStart (.DictComp kx vx [⟨tg, iter, ifs, 0⟩] scope pos) 0 (.ref it) (.ref D) (compEnvC scope (cellsFrom (s3.heap.objs.size + 1) scope.names (cloFrom X.env.cells scope.names [])) s3.heap.objs.size X.env)) (compPost (model X.prog X.w) X.A X.xe use Qf (.ref D) s3.heap.objs.size) { s3 with heap := pushCells (s3.heap.push { cls := .type "dict", data := .dict #[] }) scope.names }
  rw [hcl, hL]
  obtain ⟨ce, hce⟩ : ∃ ce, compEnvC scope cl L X.env = ce := ⟨_, rfl⟩
  have cL : ce.locals = L := by rw [← hce]; rfl
  rw [hce] at I4 pg pt pk pv ⊢
  obtain ⟨s4, hs4⟩ : ∃ s4 : Shared, { s3 with heap := pushCells (s3.heap.push { cls := .type "dict", data := .dict #[] }) scope.names } = s4 := ⟨_, rfl⟩
  rw [hs4] at I4 ⊢
  have t4 : tn 0 s4.heap := T.keep _ _ _ t3 fun b _ o e => by rw [← hs4]; exact pushCells_keeps _ _ _ _ (Heap.get?_push_of_some _ e)
  have still : ∀ {σ' : L2.St} {H' : Hp} {s' : Shared}, Inv (X.blk s3 H3 scope ce fp) [] σ' H' s' → (∀ b ∈ fp, H' b = none) → ∀ b ∈ fp, FpOk (X.blk s3 H3 scope ce fp) [] H' b := fun I' hn b hb =>
    ⟨hn b hb, (I'.ok.exf b hb).1, I'.ok.exfs b hb, .inl hb, (I'.ok.exf b hb).2, fun p hp => absurd (show p ∈ ([] : List (Addr × Obj)) ++ [] from hp) (by simp)⟩
  have loop : codeAny (model X.prog X.w) X.A (.compLoop (.DictComp kx vx [⟨tg, iter, ifs, 0⟩] scope pos) 0 (.ref it) (.ref D) ce) (compPost (model X.prog X.w) X.A X.xe use Qf (.ref D) L) s4 := by
    refine compLoop_anyD (fun n s' => ∃ i H', Inv (X.blk s3 H3 scope ce fp) [] (L2.wipe σ (own.map (·.2))) H' s' ∧ tn i s'.heap ∧ (∀ b ∈ fp, H' b = none) ∧ W i n H') (fun n s5 ⟨i, H5, I5, t5, n5, w5⟩ => ?_) m0 ⟨0, H3, I4, t4, nfp, w0⟩
    rcases turn i n H5 w5 with ⟨stop, done⟩ | ⟨go, Nx, less, body⟩
    · refine thnF (T.done (X.blk s3 H3 scope ce fp) rfl rfl rfl C.calm i [] s5 _ H5 (fun _ _ => False) I5 (still I5 n5) t5 stop) fun r s6 ⟨hr, I6⟩ => ?_
      subst hr
      have I7 : Inv X pins σ H5 s6 := I3.call' (ch := fp) I6.os I6.base I6.hok I6.bare fun b hb =>
        let z := (f3 b hb).1
        ⟨z.2.2.2.1, z.2.1, z.2.2.2.2.1, z.2.2.2.2.2⟩
      have nL : H5 L = none := cL ▸ I6.free
      obtain ⟨m, hn, _⟩ := I6.loc
      have hn : s6.heap.Ns L m := cL ▸ hn
      exact out D L s6 m H5 I7 done hn (I3.fpOk (Nat.le_of_eq hL) nL)
    · refine thnF (T.item (X.blk s3 H3 scope ce fp) rfl rfl rfl C.calm i [] s5 _ H5 (fun _ _ => False) I5 (still I5 n5) t5 go) fun r s6 ⟨u, hr, h6⟩ => ?_
      subst hr
      refine thnF h6 fun _ s7 ⟨x, H7, I7, r7, y7, t7, n7⟩ => ?_
      have J7 := I7.pinned (still I7 n7) (T.obj _ _ t7)
      refine thnF (pg.run _ s7 _ H7 x u _ J7 r7 (body x H7 y7)) fun _ s8 ⟨σ8, H8, I8, hw8, q8⟩ => thnF (pt.run _ s8 σ8 H8 _ I8 q8) fun b s9 ⟨H9, I9, q9⟩ => ?_
      have fin : ∀ (s' : Shared) (H' : Hp), Inv (X.blk s3 H3 scope ce fp) ([] ++ pinsAt fp s7.heap) σ8 H' s' → Nx H' → ∃ m, m < n ∧ ∃ i H', Inv (X.blk s3 H3 scope ce fp) [] (L2.wipe σ (own.map (·.2))) H' s' ∧ tn i s'.heap ∧ (∀ b ∈ fp, H' b = none) ∧ W i m H' := fun s' H' I' nx => by
        obtain ⟨m', hm, w'⟩ := less H' nx
        have kept : ∀ b ∈ fp, ∀ o, s7.heap.get? b = some o → s'.heap.get? b = some o ∧ H' b = none := fun b hb o e =>
          have z := I'.pin (b, o) (List.mem_append_right _ (List.mem_append_right _ (mem_pinsAt hb e)))
          ⟨z.1, z.2.1⟩
        refine ⟨m', hm, i + 1, H', (I'.unpinned (pins := [])).weak (by rw [← hw8, wipe_length]) (fun j v e => ?_), T.keep _ _ _ t7 fun b hb o e => (kept b hb o e).1, fun b hb => ?_, w'⟩
        · rw [← hw8] at e
          exact (wipe_some e).1
        · obtain ⟨o, e, _⟩ := T.obj _ _ t7 b hb
          exact (kept b hb o e).2
      cases b with
      | false =>
        simp only [Bool.false_eq_true, if_false] at q9 ⊢
        exact fin _ _ I9 q9
      | true =>
        simp only [if_true] at q9 ⊢
        refine thnF (pk.run _ s9 σ8 H9 _ I9 q9) fun u1 s10 ⟨yk, H10, I10, r10, q10⟩ => thnF (pv.run _ s10 σ8 H10 _ I10 q10) fun u2 s11 ⟨yv, H11, I11, r11, q11⟩ => ?_
        exact put_run (Y := X.blk s3 H3 scope ce fp) C.K C.w C.un I11 r10 r11 q11 fin
  exact codeAny_compStart_dict loop (T.self X.A 0 _ _ _ t4 loop)
open Classical in
/-- one turn of a dict comprehension -/
noncomputable def dcF (S : Sx) (cf : CF) (ws : List Nat) (t : Tg) (mc mk mv : ME) (e : Env) : D → MH → Res (Option (D × D)) := fun d h => match asgT t d (MP.wipe e ws) with
        | some e1 => (evalX S.P cf mc e1 h).bind fun y h => match MP.truthy y h with
          | some true => (vOf (evalX S.P cf mk e1 h)).bind fun a h => (vOf (evalX S.P cf mv e1 h)).bind fun b h => .ok (some (a, b)) h
          | some false => .ok none h
          | none => .bad
        | none => .bad
theorem dcF_eq {ws : List Nat} {t : Tg} {mc mk mv : ME} {e e1 : Env} {d : D} {h : MH} (q : asgT t d (MP.wipe e ws) = some e1) : dcF S cf ws t mc mk mv e d h = (tOf (evalX S.P cf mc e1 h)).bind fun b h => match b with
    | true => (evalX S.P cf mk e1 h).bind fun x h => (Res.ofO x.toV h).bind fun a h => (evalX S.P cf mv e1 h).bind fun y h => (Res.ofO y.toV h).bind fun b h => .ok (some (a, b)) h
    | false => .ok none h := by
  unfold dcF
  rw [q]
  show (evalX S.P cf mc e1 h).bind _ = _
  cases evalX S.P cf mc e1 h with
  | bad => rfl
  | exc _ _ _ => rfl
  | ok y h1 =>
    show (match MP.truthy y h1 with | some true => _ | some false => _ | none => _) = (Res.ofO (MP.truthy y h1) h1).bind _
    cases MP.truthy y h1 with
    | none => rfl
    | some b =>
      cases b with
      | false => rfl
      | true =>
        refine vOf_bind.trans ?_
        show (evalX S.P cf mk e1 h1).bind _ = (evalX S.P cf mk e1 h1).bind _
        congr 1
        funext x h2
        cases x.toV with
        | none => rfl
        | some a => exact vOf_bind
theorem Res.bind_assoc {α β γ : Type} (r : Res α) (f : α → MH → Res β) (g : β → MH → Res γ) : (r.bind f).bind g = r.bind fun a h => (f a h).bind g := by cases r <;> rfl
open Classical in
theorem dc_key {ws : List Nat} {t : Tg} {mi mc mk mv : ME} (hso : ∀ i ∈ t.slots, i ∈ ws) (σ : L2.St) (c : Cf) (e : Env) (r : Res MP.X) (hh : Held S c) (he' : RepE S c e σ) (er : evalX S.P cf (.dc ws t mi mc mk mv) e c.h = r) (nb : r ≠ .bad) :
    tDcM S (tW S cf mi) (tG S t) (tT S cf mc) (tX S cf mk) (tX S cf mv) ws σ c.H (Ok S c r) := by
  obtain ⟨F, hF⟩ : ∃ F, dcF S cf ws t mc mk mv e = F := ⟨_, rfl⟩
  have er : ((evalX S.P cf mi e c.h).bind fun x h => match items x h with
    | some (xs, g) => (loopD g F xs [] h).bind fun ys h => .ok (.k ys) h
    | none => .bad) = r := by rw [← hF]; exact er
  refine tW.mk (f := fun xs g h => (loopD g F xs [] h).bind fun ys h => .ok (.k ys) h) hh he' er nb fun xs g c1 J g1 hh1 he1 h1 wk => ?_
  intro q hq hsm
  have hr := rsv_held (o := DO q []) hh1 hq
  refine ⟨fun i n H => ∃ (c2 : Cf) (acc : List (D × D)) (es : List DictEntry), c2.H = H ∧ Held S c2 ∧ GrX q (c1.rsv q (DO q [])) c2 ∧ c2.H q = some (DO q es) ∧ RepKs S c2 acc es ∧ Apart acc ∧ i ≤ xs.length ∧ n = xs.length - i ∧
    ((loopD g F (xs.drop i) acc c2.h).bind fun ys h => .ok (.k ys) h) = r, ⟨_, c1.rsv q (DO q []), [], [], rfl, hr, (Gr.refl _).gx, upd_same, .nil, Apart.nil, Nat.zero_le _, rfl, h1⟩, ?_⟩
  rintro i n H2 ⟨c2, acc, es, rfl, hh2, g2, hL, ra, ap, hil, hn, h2⟩
  rcases Nat.lt_or_ge i xs.length with hlt | hge
  · have gt : xs[i]? = some xs[i] := List.getElem?_eq_getElem hlt
    rw [drop_get gt] at h2
    have h2 : ((if guarded g c2.h then (F xs[i] c2.h).bind fun y h1 => match y with
      | some (k, v) => if okKey k = true ∧ acc.length < MAXL then loopD g F (xs.drop (i + 1)) (dput acc k v) h1 else .bad
      | none => loopD g F (xs.drop (i + 1)) acc h1 else .bad).bind fun ys h => .ok (.k ys) h) = r := h2
    split at h2
    · rename_i hgd
      have kp : Kp c1 c2 := (rsv_sub hq).trans g2.sub
      refine .inr ⟨wk.go i c2 kp hh2 hgd hlt, fun H' => ∃ (c3 : Cf) (acc : List (MP.D × MP.D)) (es : List DictEntry), c3.H = H' ∧ Held S c3 ∧ GrX q (c1.rsv q (DO q [])) c3 ∧ c3.H q = some (DO q es) ∧ RepKs S c3 acc es ∧ Apart acc ∧
        ((loopD g F (xs.drop (i + 1)) acc c3.h).bind fun ys h => .ok (.k ys) h) = r, fun H' ⟨c3, acc, es, e1, e2, e3, e4, e5, e6, e7⟩ => ⟨xs.length - (i + 1), by omega, c3, acc, es, e1, e2, e3, e4, e5, e6, by omega, rfl, e7⟩, fun v H' hy => ?_⟩
      obtain ⟨c3, d, rfl, e3, g3, hh3, hd, rd⟩ := wk.yld i c2 v H' kp hh2 hgd hlt hy
      rw [gt] at hd
      cases hd
      have xq : c2.x q := by rw [g2.xx]; exact .inr rfl
      cases z : asgT t xs[i] (MP.wipe e ws) with
      | none =>
        exfalso
        have : F xs[i] c2.h = .bad := by rw [← hF]; unfold dcF; rw [z]
        rw [this] at h2
        exact nb h2.symm
      | some e4 =>
        rw [← hF, dcF_eq z, hF] at h2
        have he3 : RepE S c3 (MP.wipe e ws) (L2.wipe σ ws) := ((he1.wipe _).sub' (kp.trans g3.sub))
        refine ⟨c3, _, e4, _, rfl, hh3, he3, rd, z, fun σ4 he4 o4 => ⟨o4.wipe hso, ?_⟩⟩
        rw [← e3, Res.bind_assoc, Res.bind_assoc] at h2
        refine tT.mk hh3 he4 h2 nb fun b c5 g5 hh5 he5 h5 => ?_
        cases b with
        | false =>
          rw [if_neg Bool.false_ne_true]
          refine ⟨c5, acc, es, rfl, hh5, g2.trans (g3.gx.trans g5.gx), ?_, ra.mono (g3.trans g5), ap, h5⟩
          rw [g5.res q (by rw [g3.xx]; exact xq), g3.res q xq]; exact hL
        | true =>
          rw [if_pos rfl]
          have h5 : (((evalX S.P cf mk e4 c5.h).bind fun x h => (Res.ofO x.toV h).bind fun a h => (evalX S.P cf mv e4 h).bind fun y h => (Res.ofO y.toV h).bind fun b h => Res.ok (some (a, b)) h).bind fun a h => (match a with
            | some (k, v) => if okKey k = true ∧ acc.length < MAXL then loopD g F (xs.drop (i + 1)) (dput acc k v) h else .bad
            | none => loopD g F (xs.drop (i + 1)) acc h).bind fun ys h => .ok (.k ys) h) = r := h5
          rw [Res.bind_assoc] at h5
          refine tX.mk hh5 he5 h5 nb fun x c6 v6 g6 hh6 he6 rx h6 => ?_
          cases y : x.toV with
          | none => rw [y] at h6; exact absurd h6.symm nb
          | some d6 =>
            rw [y] at h6
            have h6 : (((evalX S.P cf mv e4 c6.h).bind fun y h => (Res.ofO y.toV h).bind fun b h => Res.ok (some (d6, b)) h).bind fun a h => (match a with
              | some (k, v) => if okKey k = true ∧ acc.length < MAXL then loopD g F (xs.drop (i + 1)) (dput acc k v) h else .bad
              | none => loopD g F (xs.drop (i + 1)) acc h).bind fun ys h => .ok (.k ys) h) = r := h6
            rw [Res.bind_assoc] at h6
            refine tX.mk hh6 he6 h6 nb fun x7 c7 v7 g7 hh7 he7 rx7 h7 => ?_
            cases y7 : x7.toV with
            | none => rw [y7] at h7; exact absurd h7.symm nb
            | some d7 =>
              rw [y7] at h7
              have h7 : ((if okKey d6 = true ∧ acc.length < MAXL then loopD g F (xs.drop (i + 1)) (dput acc d6 d7) c7.h else .bad).bind fun ys h => .ok (.k ys) h) = r := h7
              split at h7
              · rename_i hok
                have xq7 : c7.x q := by rw [g7.xx, g6.xx, g5.xx, g3.xx]; exact xq
                have hL7 : c7.H q = some (DO q es) := by rw [g7.res q (by rw [g6.xx, g5.xx, g3.xx]; exact xq), g6.res q (by rw [g5.xx, g3.xx]; exact xq), g5.res q (by rw [g3.xx]; exact xq), g3.res q xq]; exact hL
                have g37 := g3.trans (g5.trans (g6.trans g7))
                have ml := maxl
                refine ⟨c7, acc, d6, d7, es, rfl, hh7, (rx.toV y).mono g7, rx7.toV y7, hok.1, hL7, ra.mono g37, ap, by omega, fun es' rk ap' => ?_⟩
                exact ⟨c7.at q (DO q es'), dput acc d6 d7, es', rfl, at_held hh7 xq7, g2.trans (g37.gx.trans (GrX.at xq7)), upd_same, rk.sub (GrX.at xq7).sub, ap', h7⟩
              · exact absurd h7.symm nb
    · exact absurd h2.symm nb
  · rw [List.drop_of_length_le hge] at h2
    have h2 : ((if guarded g c2.h then Res.ok acc c2.h else .bad).bind fun ys h => .ok (.k ys) h) = r := h2
    split at h2
    · rename_i hgd
      have kp : Kp c1 c2 := (rsv_sub hq).trans g2.sub
      refine .inl ⟨wk.stop i c2 kp hh2 hgd hge, ?_⟩
      have h2 : Res.ok (MP.X.k acc) c2.h = r := h2
      exact ⟨.k acc, c2.fin c1.x, h2.symm, rfl, g1.trans (g2.done hh1 hq), fin_held g2 hh2, (filled_k hq hh1 g2 hh2 hL ⟨hsm, ap⟩ ra).back g1⟩
    · exact absurd h2.symm nb
theorem pe_dcm {kx vx tg iter : Expr} {ifs : List Expr} {scope : Scope} {own : List (Str × Nat)} {wi : TI} {g : TG} {tt : TT} {tk tv : TE} (C : Ctx X S k) (hi : PI X tg iter wi) (ok : BlkOk X.N X.env.scope scope own)
    (hg : ∀ (s : Shared) (H : Hp) (c : Addr) (cl : List (Str × Addr)) (fp : List Addr), PG (X.blk s H scope (compEnvC scope cl c X.env) fp) tg g)
    (ht : ∀ (s : Shared) (H : Hp) (c : Addr) (cl : List (Str × Addr)) (fp : List Addr), PTs (X.blk s H scope (compEnvC scope cl c X.env) fp) ifs tt)
    (hk : ∀ (s : Shared) (H : Hp) (c : Addr) (cl : List (Str × Addr)) (fp : List Addr), PE (X.blk s H scope (compEnvC scope cl c X.env) fp) kx tk)
    (hv : ∀ (s : Shared) (H : Hp) (c : Addr) (cl : List (Str × Addr)) (fp : List Addr), PE (X.blk s H scope (compEnvC scope cl c X.env) fp) vx tv)
    (hs : ∀ x, foldedSetIterable iter X.env x = pure x) : PE X (.DictComp kx vx [⟨tg, iter, ifs, 0⟩] scope pos) (tDcM S wi g tt tk tv (own.map (·.2))) := by
  refine ⟨fun pins s σ H Q I h => ?_⟩
  rw [arm_eval_DictComp]
  refine dcm_core C hi ok hg ht hk hv hs I h fun D L s' m H' I' q hn f => ⟨m, hn, fun h'' sb => ?_⟩
  obtain ⟨f0, f1, f2, f3, f4, f5⟩ := f
  exact ⟨.ref D, H', I'.turned (t' := s'.toks) (fun b o hb e => (sb.2 b hb).trans e) f0 f1 f3 f4 f5, rfl, q⟩
theorem px_dc {kx vx tg iter : Expr} {ifs : List Expr} {scope : Scope} {own : List (Str × Nat)} {t : Tg} {mi mc mk mv : ME} (C : Ctx X S k) (hi : PI X tg iter (tW S cf mi)) (ok : BlkOk X.N X.env.scope scope own)
    (hg : ∀ (s : Shared) (H : Hp) (c : Addr) (cl : List (Str × Addr)) (fp : List Addr), PG (X.blk s H scope (compEnvC scope cl c X.env) fp) tg (tG S t)) (ht : ∀ (s : Shared) (H : Hp) (c : Addr) (cl : List (Str × Addr)) (fp : List Addr), PTs (X.blk s H scope (compEnvC scope cl c X.env) fp) ifs (tT S cf mc))
    (hk : ∀ (s : Shared) (H : Hp) (c : Addr) (cl : List (Str × Addr)) (fp : List Addr), PX (X.blk s H scope (compEnvC scope cl c X.env) fp) S cf kx mk) (hv : ∀ (s : Shared) (H : Hp) (c : Addr) (cl : List (Str × Addr)) (fp : List Addr), PX (X.blk s H scope (compEnvC scope cl c X.env) fp) S cf vx mv)
    (hso : ∀ i ∈ t.slots, i ∈ own.map (·.2) := by decide) (hs : ∀ x, foldedSetIterable iter X.env x = pure x := by intro _; rfl) :
    PX X S cf (.DictComp kx vx [⟨tg, iter, ifs, 0⟩] scope pos) (.dc (own.map (·.2)) t mi mc mk mv) :=
  px_of (pe_dcm C hi ok hg ht (fun s H c cl fp => (hk s H c cl fp).pe) (fun s H c cl fp => (hv s H c cl fp).pe) hs) (dc_key hso)
theorem tDcM_mono {g : TG} {tt : TT} {tk tv : TE} {ws : List Nat} {σ : L2.St} {H : Hp} {Q Q' : VK} {mi : ME} (h : tDcM S (tW S cf mi) g tt tk tv ws σ H Q) (kk : ∀ v H', Q v H' → Q' v H') : tDcM S (tW S cf mi) g tt tk tv ws σ H Q' := by
  obtain ⟨c, e, r, e1, e2, e3, e4, e5, e6⟩ := h
  refine ⟨c, e, r, e1, e2, e3, e4, e5, fun x c' h1 h2 h3 => ?_⟩
  obtain ⟨pp, hp, hJ⟩ := e6 x c' h1 h2 h3
  refine ⟨pp, hp, fun J W D hD hl => ?_⟩
  obtain ⟨W, hW, step⟩ := hJ J W D hD hl
  exact ⟨W, hW, fun i m H' hw => (step i m H' hw).imp (fun ⟨a, b⟩ => ⟨a, kk _ _ b⟩) id⟩
theorem sw_trueD {kx vx : Expr} {gs : List Comprehension} {scope : Scope} {pos py : Pos} {y : Str} {l : Nat} {env : PySem.Env} (hk : env.scope.kind = .function) (hy : env.scope.names.lookup y = some .local) (hl : (py.line == pos.line) = true)
    (ha : (scope.names.any fun (n, k) => n == y && (k == .local || k == .cell)) = false) : swapsWith (.DictComp kx vx gs scope pos) (some (.Name y py)) l env = pure true := by
  have h1 : env.kindOf y = some .local := hy
  have h2 : env.blockKind = .function := by unfold Env.blockKind; rw [hk]; rfl
  unfold swapsWith
  simp only [h1, h2, ha, Expr.pos, hl]
  rfl
/-- name = {..} on one line -/
theorem ps_setDcX {i : Nat} {y : Str} {py spos : Pos} {kx vx tg iter : Expr} {ifs : List Expr} {scope : Scope} {own : List (Str × Nat)} {t : Tg} {mi mc mk mv : ME} (C : Ctx X S k) (hy : X.N[i]? = some y) (hyl : X.env.scope.names.lookup y = some .local) (hi : PI X tg iter (tW S cf mi)) (ok : BlkOk X.N X.env.scope scope own)
    (hg : ∀ (s : Shared) (H : Hp) (c : Addr) (cl : List (Str × Addr)) (fp : List Addr), PG (X.blk s H scope (compEnvC scope cl c X.env) fp) tg (tG S t)) (ht : ∀ (s : Shared) (H : Hp) (c : Addr) (cl : List (Str × Addr)) (fp : List Addr), PTs (X.blk s H scope (compEnvC scope cl c X.env) fp) ifs (tT S cf mc))
    (hk : ∀ (s : Shared) (H : Hp) (c : Addr) (cl : List (Str × Addr)) (fp : List Addr), PX (X.blk s H scope (compEnvC scope cl c X.env) fp) S cf kx mk) (hv : ∀ (s : Shared) (H : Hp) (c : Addr) (cl : List (Str × Addr)) (fp : List Addr), PX (X.blk s H scope (compEnvC scope cl c X.env) fp) S cf vx mv)
    (hsw : swapsWith (.DictComp kx vx [⟨tg, iter, ifs, 0⟩] scope pos) (some (.Name y py)) spos.line X.env = pure true := by rfl) (hso : ∀ i ∈ t.slots, i ∈ own.map (·.2) := by decide) (hs : ∀ x, foldedSetIterable iter X.env x = pure x := by intro _; rfl) :
    PS X (.Assign [.Name y py] (.DictComp kx vx [⟨tg, iter, ifs, 0⟩] scope pos) spos) (tS S cf (.asg (.v i) (.dc (own.map (·.2)) t mi mc mk mv))) := by
  refine ⟨fun pins s σ H En I ⟨c, e, r, eH, hh, he', er, nb, q⟩ => ?_⟩
  subst eH
  rw [exec_Assign_Name_used _ _ _ _ hsw]
  refine wpAny_bind (wpAny_standAt (wpAny_bind ?_))
  show wpAny _ X.A (do let _ ← comprehension (.DictComp kx vx [⟨tg, iter, ifs, 0⟩] scope pos) scope X.env (firstIterPos [⟨tg, iter, ifs, 0⟩] pos) newDict false (eval iter X.env) (some (assign (.Name y py) X.env))) _ _ s
  have er : ((evalX S.P cf (.dc (own.map (·.2)) t mi mc mk mv) e c.h).bind fun x h => match asgX (.v i) x h e with | some e1 => .ok (.nx e1) h | none => .bad) = r := er
  have key : tDcM S (tW S cf mi) (tG S t) (tT S cf mc) (tX S cf mk) (tX S cf mv) (own.map (·.2)) σ c.H (fun v H' => En.nx (σ.set i (some v)) H') := tDcM_mono (dc_key hso σ c e _ hh he' rfl fun z => by rw [z] at er; exact nb er.symm) fun v H' ⟨x, c1, h1, eH, g1, hh1, rx⟩ => by
    subst eH
    rw [h1] at er
    have er : (match asgX (.v i) x c1.h e with | some e1 => Res.ok (Fl.nx e1) c1.h | none => .bad) = r := er
    have z : asgX (.v i) x c1.h e = match x.toV with | some d => asgT (.v i) d e | none => none := rfl
    cases y : x.toV with
    | none => rw [z, y] at er; exact absurd er.symm nb
    | some d =>
      rw [z, y] at er
      have er : (match (if i < e.length then some (e.set i (some d)) else none) with | some e1 => Res.ok (Fl.nx e1) c1.h | none => .bad) = r := er
      split at er
      · rename_i e1 he1
        split at he1
        · cases he1
          exact q (.nx _) c1 er.symm g1 hh1 _ ((he'.mono g1).set (rx.rx.toV y) i)
        · cases he1
      · exact absurd er.symm nb
  refine wpAny_bind (thn (dcm_core (Qf := fun _ s' => SP X pins En .next s') C hi ok hg ht (fun s H c cl fp => (hk s H c cl fp).pe) (fun s H c cl fp => (hv s H c cl fp).pe) hs I key fun D L s' m H' I' q hn f => ?_) fun _ s' hq => wpAny_pure (wpAny_pure hq))
  show wpAny _ _ (assign (.Name y py) X.env (.ref D)) _ _ _
  refine wpAny_assign_Name (store_ok2 (v := V.ref D) I' C.nd hy (.inl hyl) rfl (fun s2 I2 ⟨a, sb, ha⟩ => ?_) (.inr hyl))
  obtain ⟨f0, f1, f2, f3, f4, f5⟩ := f
  have apart : L ≠ a := ha.elim (fun z => by rw [z]; exact f1) fun z e => f4 y a z e.symm
  exact ⟨m, hn.sameBut sb apart, fun h3 sb3 => ⟨_, H', I2.turned (t' := s2.toks) (fun b o hb e => (sb3.2 b hb).trans e) f0 f1 f3 f4 f5, q⟩⟩
/-! words -/
theorem e_dc {kx vx tg iter : Expr} {ifs : List Expr} {scope : Scope} {t : Tg} {mi mc mk mv : ME} (C : Ctx X S k) (own : List (Str × Nat)) (hi : IX X S cf tg iter mi) (ok : BlkOk X.N X.env.scope scope own)
    (hg : ∀ (s : Shared) (H : Hp) (c : Addr) (cl : List (Str × Addr)) (fp : List Addr), GX (X.blk s H scope (compEnvC scope cl c X.env) fp) S tg t) (ht : ∀ (s : Shared) (H : Hp) (c : Addr) (cl : List (Str × Addr)) (fp : List Addr), CsX (X.blk s H scope (compEnvC scope cl c X.env) fp) S cf ifs mc)
    (hk : ∀ (s : Shared) (H : Hp) (c : Addr) (cl : List (Str × Addr)) (fp : List Addr), EX (X.blk s H scope (compEnvC scope cl c X.env) fp) S cf kx mk) (hv : ∀ (s : Shared) (H : Hp) (c : Addr) (cl : List (Str × Addr)) (fp : List Addr), EX (X.blk s H scope (compEnvC scope cl c X.env) fp) S cf vx mv)
    (hso : ∀ i ∈ t.slots, i ∈ own.map (·.2) := by decide) (hs : ∀ x, foldedSetIterable iter X.env x = pure x := by intro _; rfl) :
    EX X S cf (.DictComp kx vx [⟨tg, iter, ifs, 0⟩] scope pos) (.dc (own.map (·.2)) t mi mc mk mv) := ⟨px_dc C hi.h ok (fun s H c cl fp => (hg s H c cl fp).h) (fun s H c cl fp => (ht s H c cl fp).h) (fun s H c cl fp => (hk s H c cl fp).h) (fun s H c cl fp => (hv s H c cl fp).h) hso hs⟩
theorem s_setDc (i : Nat) {y : Str} {py spos : Pos} {kx vx tg iter : Expr} {ifs : List Expr} {scope : Scope} {t : Tg} {mi mc mk mv : ME} (C : Ctx X S k) (own : List (Str × Nat)) (hi : IX X S cf tg iter mi) (ok : BlkOk X.N X.env.scope scope own)
    (hg : ∀ (s : Shared) (H : Hp) (c : Addr) (cl : List (Str × Addr)) (fp : List Addr), GX (X.blk s H scope (compEnvC scope cl c X.env) fp) S tg t) (ht : ∀ (s : Shared) (H : Hp) (c : Addr) (cl : List (Str × Addr)) (fp : List Addr), CsX (X.blk s H scope (compEnvC scope cl c X.env) fp) S cf ifs mc)
    (hk : ∀ (s : Shared) (H : Hp) (c : Addr) (cl : List (Str × Addr)) (fp : List Addr), EX (X.blk s H scope (compEnvC scope cl c X.env) fp) S cf kx mk) (hv : ∀ (s : Shared) (H : Hp) (c : Addr) (cl : List (Str × Addr)) (fp : List Addr), EX (X.blk s H scope (compEnvC scope cl c X.env) fp) S cf vx mv)
    (hy : X.N[i]? = some y := by rfl) (hyl : X.env.scope.names.lookup y = some .local := by rfl) (hsw : swapsWith (.DictComp kx vx [⟨tg, iter, ifs, 0⟩] scope pos) (some (.Name y py)) spos.line X.env = pure true := by rfl) (hso : ∀ i ∈ t.slots, i ∈ own.map (·.2) := by decide) (hs : ∀ x, foldedSetIterable iter X.env x = pure x := by intro _; rfl) :
    SX X S cf (.Assign [.Name y py] (.DictComp kx vx [⟨tg, iter, ifs, 0⟩] scope pos) spos) (.asg (.v i) (.dc (own.map (·.2)) t mi mc mk mv)) := ⟨ps_setDcX C hy hyl hi.h ok (fun s H c cl fp => (hg s H c cl fp).h) (fun s H c cl fp => (ht s H c cl fp).h) (fun s H c cl fp => (hk s H c cl fp).h) (fun s H c cl fp => (hv s H c cl fp).h) hsw hso hs⟩
end
end MP

/-! MP27: list comprehensions of two clauses. -/
namespace MP
open PySem PySem.Spec PyProof.Rows L2 Dk
section
variable {X : Cx} {S : Sx} {cf : CF} {k : Nat} {pos p : Pos}
open Classical in
/-- one turn of the outer clause -/
noncomputable def lcO (S : Sx) (cf : CF) (ws : List Nat) (t : Tg) (mc : ME) (ws2 : List Nat) (t2 : Tg) (mi2 mc2 me : ME) (e : Env) : D → MH → Res (List D) := fun d h => match asgT t d (MP.wipe e ws) with
        | some e1 => (evalX S.P cf mc e1 h).bind fun y h => match MP.truthy y h with
          | some true => (evalX S.P cf mi2 e1 h).bind fun x2 h => match items x2 h with
            | some (xs2, g2) => if xs2.length ≤ 1000 then loopL g2 (lcF S cf ws2 t2 mc2 me e1) xs2 h else .bad
            | none => .bad
          | some false => .ok [] h
          | none => .bad
        | none => .bad
theorem lcO_eq {ws : List Nat} {t : Tg} {mc : ME} {ws2 : List Nat} {t2 : Tg} {mi2 mc2 me : ME} {e e1 : Env} {d : D} {h : MH} (q : asgT t d (MP.wipe e ws) = some e1) : lcO S cf ws t mc ws2 t2 mi2 mc2 me e d h = (tOf (evalX S.P cf mc e1 h)).bind fun b h => match b with
    | true => (evalX S.P cf mi2 e1 h).bind fun x2 h => match items x2 h with
      | some (xs2, g2) => if xs2.length ≤ 1000 then loopL g2 (lcF S cf ws2 t2 mc2 me e1) xs2 h else .bad
      | none => .bad
    | false => .ok [] h := by
  unfold lcO
  rw [q]
  show (evalX S.P cf mc e1 h).bind _ = _
  cases evalX S.P cf mc e1 h with
  | bad => rfl
  | exc _ _ _ => rfl
  | ok y h1 =>
    show (match MP.truthy y h1 with | some true => _ | some false => _ | none => _) = (Res.ofO (MP.truthy y h1) h1).bind _
    cases MP.truthy y h1 with
    | none => rfl
    | some b => cases b <;> rfl
open Classical in
theorem lc2_key {ws ws2 : List Nat} {t t2 : Tg} {mi mc mi2 mc2 me : ME} (hso : ∀ i ∈ t.slots, i ∈ ws) (hso2 : ∀ i ∈ t2.slots, i ∈ ws2) (σ : L2.St) (c : Cf) (e : Env) (r : Res MP.X) (hh : Held S c) (he' : RepE S c e σ)
    (er : evalX S.P cf (.lc2 ws t mi mc ws2 t2 mi2 mc2 me) e c.h = r) (nb : r ≠ .bad) :
    tLc2 (tW S cf mi) (tG S t) (tT S cf mc) (tW S cf mi2) (tG S t2) (tT S cf mc2) (tX S cf me) ws ws2 σ c.H (Ok S c r) := by
  obtain ⟨F, hF⟩ : ∃ F, lcO S cf ws t mc ws2 t2 mi2 mc2 me e = F := ⟨_, rfl⟩
  have er : ((evalX S.P cf mi e c.h).bind fun x h => match items x h with
    | some (xs, g) => if xs.length ≤ 1000 then (loopLL g F xs h).bind fun ys h => .ok (.l ys) h else .bad
    | none => .bad) = r := by rw [← hF]; exact er
  refine tW.mk (f := fun xs g h => if xs.length ≤ 1000 then (loopLL g F xs h).bind fun ys h => .ok (.l ys) h else .bad) hh he' er nb fun xs g c1 J g1 hh1 he1 h1 wk => ?_
  intro q hq
  by_cases hM : xs.length ≤ 1000
  case neg => rw [if_neg hM] at h1; exact absurd h1.symm nb
  rw [if_pos hM] at h1
  have hr := rsv_held (o := .lst []) hh1 hq
  have ml : (1000001 : Nat) ≤ sizeLine := by rw [sizeLine_eq]; omega
  refine ⟨fun i n H => ∃ (c2 : Cf) (acc : List D) (vs : List V), c2.H = H ∧ Held S c2 ∧ GrX q (c1.rsv q (.lst [])) c2 ∧ c2.H q = some (.lst vs) ∧ RepVs S c2 acc vs ∧ i ≤ xs.length ∧ n = xs.length - i ∧ acc.length ≤ i * 1000 ∧
    ((loopLL g F (xs.drop i) c2.h).bind fun ys h => .ok (.l (acc ++ ys)) h) = r, ⟨_, c1.rsv q (.lst []), [], [], rfl, hr, (Gr.refl _).gx, upd_same, .nil, Nat.zero_le _, rfl, Nat.zero_le _, h1⟩, ?_⟩
  rintro i n H2 ⟨c2, acc, vs, rfl, hh2, g2, hL, ra, hil, hn, hacc, h2⟩
  rcases Nat.lt_or_ge i xs.length with hlt | hge
  · have gt : xs[i]? = some xs[i] := List.getElem?_eq_getElem hlt
    rw [drop_get gt] at h2
    have h2 : ((if guarded g c2.h then (F xs[i] c2.h).bind fun y h1 => (loopLL g F (xs.drop (i + 1)) h1).bind fun ys h2 => .ok (y ++ ys) h2 else .bad).bind fun ys h => .ok (.l (acc ++ ys)) h) = r := h2
    split at h2
    · rename_i hgd
      have kp : Kp c1 c2 := (rsv_sub hq).trans g2.sub
      refine .inr ⟨wk.go i c2 kp hh2 hgd hlt, fun H' => ∃ (c3 : Cf) (acc : List MP.D) (vs : List V), c3.H = H' ∧ Held S c3 ∧ GrX q (c1.rsv q (.lst [])) c3 ∧ c3.H q = some (.lst vs) ∧ RepVs S c3 acc vs ∧ acc.length ≤ (i + 1) * 1000 ∧
        ((loopLL g F (xs.drop (i + 1)) c3.h).bind fun ys h => .ok (.l (acc ++ ys)) h) = r, fun H' ⟨c3, acc, vs, e1, e2, e3, e4, e5, e6, e7⟩ => ⟨xs.length - (i + 1), by omega, c3, acc, vs, e1, e2, e3, e4, e5, by omega, rfl, e6, e7⟩, fun v H' hy => ?_⟩
      obtain ⟨c3, d, rfl, e3, g3, hh3, hd, rd⟩ := wk.yld i c2 v H' kp hh2 hgd hlt hy
      rw [gt] at hd
      cases hd
      have xq : c2.x q := by rw [g2.xx]; exact .inr rfl
      cases z : asgT t xs[i] (MP.wipe e ws) with
      | none =>
        exfalso
        have : F xs[i] c2.h = .bad := by rw [← hF]; unfold lcO; rw [z]
        rw [this] at h2
        exact nb h2.symm
      | some e4 =>
        rw [← hF, lcO_eq z, hF] at h2
        have he3 : RepE S c3 (MP.wipe e ws) (L2.wipe σ ws) := ((he1.wipe _).sub' (kp.trans g3.sub))
        refine ⟨c3, _, e4, _, rfl, hh3, he3, rd, z, fun σ4 he4 o4 => ⟨o4.wipe hso, ?_⟩⟩
        rw [← e3, Res.bind_assoc, Res.bind_assoc] at h2
        refine tT.mk hh3 he4 h2 nb fun b c5 g5 hh5 he5 h5 => ?_
        have xq5 : c5.x q := by rw [g5.xx, g3.xx]; exact xq
        have hL5 : c5.H q = some (.lst vs) := by rw [g5.res q (by rw [g3.xx]; exact xq), g3.res q xq]; exact hL
        cases b with
        | false =>
          rw [if_neg Bool.false_ne_true]
          refine ⟨c5, acc, vs, rfl, hh5, g2.trans (g3.gx.trans g5.gx), hL5, ra.mono (g3.trans g5), by omega, ?_⟩
          rw [← h5]
          show _ = (((loopLL g F (xs.drop (i + 1)) c5.h).bind fun ys h2 => Res.ok ys h2).bind _)
          rw [Res.bind_ok]
        | true =>
          rw [if_pos rfl]
          obtain ⟨F2, hF2⟩ : ∃ F2, lcF S cf ws2 t2 mc2 me e4 = F2 := ⟨_, rfl⟩
          have h5 : ((evalX S.P cf mi2 e4 c5.h).bind fun x2 h => match items x2 h with
            | some (xs2, g2) => (if xs2.length ≤ 1000 then loopL g2 F2 xs2 h else .bad).bind fun y h1 => ((loopLL g F (xs.drop (i + 1)) h1).bind fun ys h2 => .ok (y ++ ys) h2).bind fun ys h => .ok (.l (acc ++ ys)) h
            | none => .bad) = r := by
            rw [← h5, ← hF2]
            show _ = ((evalX S.P cf mi2 e4 c5.h).bind _).bind _
            rw [Res.bind_assoc]
            congr 1
            funext x2 h
            cases items x2 h with
            | none => rfl
            | some p => rfl
          refine tW.mk (f := fun xs2 g2 h => (if xs2.length ≤ 1000 then loopL g2 F2 xs2 h else .bad).bind fun y h1 => ((loopLL g F (xs.drop (i + 1)) h1).bind fun ys h2 => .ok (y ++ ys) h2).bind fun ys h => .ok (.l (acc ++ ys)) h) hh5 he5 h5 nb fun xs2 gg c6 J1 g6 hh6 he6 h6 wk2 => ?_
          by_cases hM2 : xs2.length ≤ 1000
          case neg => rw [if_neg hM2] at h6; exact absurd h6.symm nb
          rw [if_pos hM2] at h6
          have xq6 : c6.x q := by rw [g6.xx]; exact xq5
          have hL6 : c6.H q = some (.lst vs) := by rw [g6.res q xq5]; exact hL5
          have g26 := g2.trans (g3.gx.trans (g5.gx.trans g6.gx))
          have ra6 := ra.mono (g3.trans (g5.trans g6))
          refine ⟨fun j n H => ∃ (c7 : Cf) (bcc : List MP.D) (ws' : List V), c7.H = H ∧ Held S c7 ∧ GrX q (c1.rsv q (.lst [])) c7 ∧ Kp c6 c7 ∧ c7.H q = some (.lst ws') ∧ RepVs S c7 bcc ws' ∧ j ≤ xs2.length ∧ n = xs2.length - j ∧ bcc.length ≤ i * 1000 + j ∧
            ((loopL gg F2 (xs2.drop j) c7.h).bind fun y h1 => (loopLL g F (xs.drop (i + 1)) h1).bind fun ys h => .ok (.l (bcc ++ (y ++ ys))) h) = r, ⟨_, c6, acc, vs, rfl, hh6, g26, Kp.refl _, hL6, ra6, Nat.zero_le _, rfl, by omega, ?_⟩, ?_⟩
          · rw [← h6]
            show (loopL gg F2 xs2 c6.h).bind _ = (loopL gg F2 xs2 c6.h).bind _
            congr 1
            funext y h1
            rw [Res.bind_assoc]
            rfl
          rintro j m H7 ⟨c7, bcc, ws', rfl, hh7, g7, kp7, hL7, ra7, hjl, hm, hbcc, h7⟩
          have xq7 : c7.x q := by rw [g7.xx]; exact .inr rfl
          rcases Nat.lt_or_ge j xs2.length with jlt | jge
          · have gt2 : xs2[j]? = some xs2[j] := List.getElem?_eq_getElem jlt
            rw [drop_get gt2] at h7
            have h7 : ((if guarded gg c7.h then (F2 xs2[j] c7.h).bind fun y h1 => (loopL gg F2 (xs2.drop (j + 1)) h1).bind fun ys h2 => .ok (match y with | some v => v :: ys | none => ys) h2 else .bad).bind fun y h1 => (loopLL g F (xs.drop (i + 1)) h1).bind fun ys h => .ok (.l (bcc ++ (y ++ ys))) h) = r := h7
            split at h7
            · rename_i hgd2
              refine .inr ⟨wk2.go j c7 kp7 hh7 hgd2 jlt, fun H' => ∃ (c8 : Cf) (bcc : List MP.D) (ws' : List V), c8.H = H' ∧ Held S c8 ∧ GrX q (c1.rsv q (.lst [])) c8 ∧ Kp c6 c8 ∧ c8.H q = some (.lst ws') ∧ RepVs S c8 bcc ws' ∧ bcc.length ≤ i * 1000 + (j + 1) ∧
                ((loopL gg F2 (xs2.drop (j + 1)) c8.h).bind fun y h1 => (loopLL g F (xs.drop (i + 1)) h1).bind fun ys h => .ok (.l (bcc ++ (y ++ ys))) h) = r, fun H' ⟨c8, bcc, ws', e1, e2, e3, e4, e5, e6, e7, e8⟩ => ⟨xs2.length - (j + 1), by omega, c8, bcc, ws', e1, e2, e3, e4, e5, e6, by omega, rfl, e7, e8⟩, fun v H' hy => ?_⟩
              obtain ⟨c8, d, rfl, e8, g8, hh8, hd, rd8⟩ := wk2.yld j c7 v H' kp7 hh7 hgd2 jlt hy
              rw [gt2] at hd
              cases hd
              have kp8 := kp7.trans g8.sub
              cases z2 : asgT t2 xs2[j] (MP.wipe e4 ws2) with
              | none =>
                exfalso
                have : F2 xs2[j] c7.h = .bad := by rw [← hF2]; unfold lcF; rw [z2]
                rw [this] at h7
                exact nb h7.symm
              | some e9 =>
                rw [← hF2, lcF_eq z2, hF2] at h7
                have he8 : RepE S c8 (MP.wipe e4 ws2) (L2.wipe σ4 ws2) := (he6.wipe _).sub' kp8
                refine ⟨c8, _, e9, _, rfl, hh8, he8, rd8, z2, fun σ9 he9 o9 => ⟨o9.wipe hso2, ?_⟩⟩
                rw [← e8, Res.bind_assoc, Res.bind_assoc] at h7
                refine tT.mk hh8 he9 h7 nb fun b c10 g10 hh10 he10 h10 => ?_
                have x8 : c8.x q := by rw [g8.xx]; exact xq7
                have L8 : c8.H q = some (.lst ws') := by rw [g8.res q xq7]; exact hL7
                have x10 : c10.x q := by rw [g10.xx]; exact x8
                have L10 : c10.H q = some (.lst ws') := by rw [g10.res q x8]; exact L8
                cases b with
                | false =>
                  rw [if_neg Bool.false_ne_true]
                  refine ⟨c10, bcc, ws', rfl, hh10, g7.trans (g8.gx.trans g10.gx), kp8.trans g10.sub, L10, ra7.mono (g8.trans g10), by omega, ?_⟩
                  rw [← h10]
                  show _ = (((loopL gg F2 (xs2.drop (j + 1)) c10.h).bind fun ys h2 => Res.ok ys h2).bind _)
                  rw [Res.bind_ok]
                | true =>
                  rw [if_pos rfl]
                  have h10 : ((evalX S.P cf me e9 c10.h).bind fun x h => (((Res.ofO x.toV h).bind fun v h => Res.ok (some v) h).bind fun y h1 => ((loopL gg F2 (xs2.drop (j + 1)) h1).bind fun ys h2 => .ok (match y with | some v => v :: ys | none => ys) h2).bind fun y h1 => (loopLL g F (xs.drop (i + 1)) h1).bind fun ys h => .ok (.l (bcc ++ (y ++ ys))) h)) = r := by
                    rw [← h10]
                    show _ = ((evalX S.P cf me e9 c10.h).bind _).bind _
                    rw [Res.bind_assoc]
                  refine tX.mk hh10 he10 h10 nb fun x c11 v11 g11 hh11 he11 rx h11 => ?_
                  cases y : x.toV with
                  | none => rw [y] at h11; exact absurd h11.symm nb
                  | some d11 =>
                    rw [y] at h11
                    have x11 : c11.x q := by rw [g11.xx]; exact x10
                    have L11 : c11.H q = some (.lst ws') := by rw [g11.res q x10]; exact L10
                    have gg11 := g8.trans (g10.trans g11)
                    refine ⟨ws', L11, ?_, c11.at q (.lst (ws' ++ [v11])), bcc ++ [d11], ws' ++ [v11], rfl, at_held hh11 x11, g7.trans (gg11.gx.trans (GrX.at x11)), (kp8.trans (g10.sub.trans g11.sub)).trans (GrX.at x11).sub, upd_same, ?_, by simp; omega, ?_⟩
                    · have : ws'.length = bcc.length := ra7.length
                      have : i * 1000 ≤ 999 * 1000 := Nat.mul_le_mul_right _ (by omega)
                      omega
                    · exact ((ra7.mono gg11).append (.cons (rx.toV y) .nil)).sub (GrX.at x11).sub
                    · rw [← h11]
                      show (loopL gg F2 (xs2.drop (j + 1)) c11.h).bind _ = ((loopL gg F2 (xs2.drop (j + 1)) c11.h).bind fun ys h2 => Res.ok (d11 :: ys) h2).bind _
                      rw [Res.bind_assoc]
                      congr 1
                      funext y h1
                      show _ = (loopLL g F (xs.drop (i + 1)) h1).bind _
                      congr 1
                      funext ys h
                      rw [List.append_assoc]
                      rfl
            · exact absurd h7.symm nb
          · rw [List.drop_of_length_le jge] at h7
            have h7 : ((if guarded gg c7.h then Res.ok ([] : List MP.D) c7.h else .bad).bind fun y h1 => (loopLL g F (xs.drop (i + 1)) h1).bind fun ys h => .ok (.l (bcc ++ (y ++ ys))) h) = r := h7
            split at h7
            · rename_i hgd2
              exact .inl ⟨wk2.stop j c7 kp7 hh7 hgd2 jge, c7, bcc, ws', rfl, hh7, g7, hL7, ra7, by omega, h7⟩
            · exact absurd h7.symm nb
    · exact absurd h2.symm nb
  · rw [List.drop_of_length_le hge] at h2
    have h2 : ((if guarded g c2.h then Res.ok ([] : List MP.D) c2.h else .bad).bind fun ys h => .ok (.l (acc ++ ys)) h) = r := h2
    split at h2
    · rename_i hgd
      have kp : Kp c1 c2 := (rsv_sub hq).trans g2.sub
      refine .inl ⟨wk.stop i c2 kp hh2 hgd hge, ?_⟩
      have h2 : Res.ok (MP.X.l (acc ++ [])) c2.h = r := h2
      rw [List.append_nil] at h2
      exact ⟨.l acc, c2.fin c1.x, h2.symm, rfl, g1.trans (g2.done hh1 hq), fin_held g2 hh2, (filled_l hq hh1 g2 hh2 hL ra).back g1⟩
    · exact absurd h2.symm nb
theorem e_lc2 {elt tg iter tg1 iter1 : Expr} {ifs ifs1 : List Expr} {scope : Scope} {t t2 : Tg} {mi mc mi2 mc2 me : ME} (C : Ctx X S k) (own : List (Str × Nat)) (ws2 : List Nat) (hi : IX X S cf tg iter mi) (ok : BlkOk X.N X.env.scope scope own)
    (hg : ∀ (s : Shared) (H : Hp) (c : Addr) (cl : List (Str × Addr)) (fp : List Addr), GX (X.blk s H scope (compEnvC scope cl c X.env) fp) S tg t) (ht : ∀ (s : Shared) (H : Hp) (c : Addr) (cl : List (Str × Addr)) (fp : List Addr), CsX (X.blk s H scope (compEnvC scope cl c X.env) fp) S cf ifs mc)
    (hi1 : ∀ (s : Shared) (H : Hp) (c : Addr) (cl : List (Str × Addr)) (fp : List Addr), IX (X.blk s H scope (compEnvC scope cl c X.env) fp) S cf tg1 iter1 mi2)
    (hg1 : ∀ (s : Shared) (H : Hp) (c : Addr) (cl : List (Str × Addr)) (fp : List Addr), GX (X.blk s H scope (compEnvC scope cl c X.env) fp) S tg1 t2) (ht1 : ∀ (s : Shared) (H : Hp) (c : Addr) (cl : List (Str × Addr)) (fp : List Addr), CsX (X.blk s H scope (compEnvC scope cl c X.env) fp) S cf ifs1 mc2)
    (he : ∀ (s : Shared) (H : Hp) (c : Addr) (cl : List (Str × Addr)) (fp : List Addr), EX (X.blk s H scope (compEnvC scope cl c X.env) fp) S cf elt me)
    (hv : ∀ i ∈ ws2, i ∈ own.map (·.2) := by decide) (hso : ∀ i ∈ t.slots, i ∈ own.map (·.2) := by decide) (hso2 : ∀ i ∈ t2.slots, i ∈ ws2 := by decide) (hs : ∀ x, foldedSetIterable iter X.env x = pure x := by intro _; rfl) (hs1 : ∀ env x, foldedSetIterable iter1 env x = pure x := by intro _ _; rfl) :
    EX X S cf (.ListComp elt [⟨tg, iter, ifs, 0⟩, ⟨tg1, iter1, ifs1, 0⟩] scope pos) (.lc2 (own.map (·.2)) t mi mc ws2 t2 mi2 mc2 me) :=
  ⟨px_of (pe_lc2 C.calm C.nd hi.h ok hv (fun s H c cl fp => (hg s H c cl fp).h) (fun s H c cl fp => (ht s H c cl fp).h) (fun s H c cl fp => (hi1 s H c cl fp).h) (fun s H c cl fp => (hg1 s H c cl fp).h) (fun s H c cl fp => (ht1 s H c cl fp).h) (fun s H c cl fp => (he s H c cl fp).h.pe) hs hs1) (lc2_key hso hso2)⟩
end
end MP

/-! MP28: sorted by a key function of the text. -/
namespace MP
open PySem PySem.Spec PySem.W PySem.Calls PyProof.Rows L2 Dk
section
variable {fs : List Addr} {H H1 : Hp} {h h1 h2 : Heap} {a : Addr} {o : HO}
theorem un_same (U : Un fs [] H H1 h h1) (same : ∀ b u, h.get? b = some u → h2.get? b = h1.get? b) : Un fs [] H H1 h h2 where
  keep := fun b u q n hf hx => (same b u q).trans (U.keep b u q n hf hx)
  slot := fun b u q n hf hx => by
    obtain ⟨sl, e⟩ := U.slot b u q n hf hx
    exact ⟨sl, (same b u q).trans e⟩
  free := U.free
  there := fun b u q hx => by
    obtain ⟨u', e⟩ := U.there b u q hx
    exact ⟨u', (same b u q).trans e⟩
  tups := U.tups
  frzs := U.frzs
  tbls := U.tbls
theorem un_more (U : Un fs [] H H1 h h1) (na : ∀ b u, h.get? b = some u → b ≠ a) (hn : H1 a = none) : Un fs [] H (upd H1 a o) h h1 where
  keep := U.keep
  slot := U.slot
  free := fun b u q n hx => by rw [upd_ne (na b u q)]; exact U.free b u q n hx
  there := U.there
  tups := fun b xs q => by rw [upd_ne (ne_of_none (U.tups b xs q) hn)]; exact U.tups b xs q
  frzs := fun b u w q => by rw [upd_ne (ne_of_none (U.frzs b u w q) hn)]; exact U.frzs b u w q
  tbls := fun b ps q => by
    obtain ⟨m, e⟩ := U.tbls b ps q
    exact ⟨m, by rw [upd_ne (ne_of_none e hn)]; exact e⟩
variable {P : Program} {w : World}
theorem hok_same (x : HOk P w H h) (same : ∀ b u, H b ≠ none → h.get? b = some u → h1.get? b = some u) : HOk P w H h1 := fun b u e =>
  (x b u e).stay (fun c v hc q => same c v (hc.elim (fun z => by rw [z, e]; exact fun y => nomatch y) fun z => by rw [z]; exact fun y => nomatch y) q) (fun _ q => q) fun _ _ q => q
theorem hok_new (x : HOk P w H h) (hn : H a = none) (new : ObjOk P w (upd H a o) h a o) : HOk P w (upd H a o) h := fun b u e => by
  by_cases hb : b = a
  · subst hb; rw [upd_same] at e; cases e; exact new
  · rw [upd_ne hb] at e
    exact (x b u e).stay (fun c v _ q => q) (fun c q => by rw [upd_ne (ne_of_none q hn)]; exact q) fun c xs q => by rw [upd_ne (ne_of_none q hn)]; exact q
end
theorem each_snoc' {α β : Type} {R : α → β → Prop} : ∀ {as : List α} {bs : List β} {a : α} {b : β}, EachIs R as bs → R a b → EachIs R (as ++ [a]) (bs ++ [b])
  | _, _, _, _, .nil, r => .cons r .nil
  | _, _, _, _, .cons q t, r => .cons q (each_snoc' t r)
theorem each_zip {α β γ : Type} {R : α → β → Prop} : ∀ {as : List α} {bs : List β} {cs : List γ}, EachIs R as bs → cs.length = bs.length → EachIs (fun a (p : β × γ) => R a p.1) as (bs.zip cs)
  | _, _, _, .nil, _ => by rw [List.zip_nil_left]; exact .nil
  | _, _, [], .cons _ _, l => nomatch l
  | _, _, _ :: _, .cons q t, l => .cons q (each_zip t (by simpa using l))
theorem each_fst {α β γ : Type} {R : α → β → Prop} : ∀ {as : List α} {bs : List (β × γ)}, EachIs (fun a (p : β × γ) => R a p.1) as bs → EachIs R as (bs.map (·.1))
  | _, _, .nil => .nil
  | _, _, .cons q t => .cons q (each_fst t)
section
variable {X : Cx} {S : Sx} {cf : CF} {k i : Nat} {pos p : Pos} {f : Addr} {fd : FuncData} {pn nm : Str} {st : Stmt} {N : List Str}
/-- one call of the key function, further down -/
theorem key_call (C : Ctx X S (k + 2)) (T : Stat S.K X.mg nm st N [pn] f fd) (R : Runs X.prog X.w S X.mg X.base cf k i f fd [pn]) {pins : List (Addr × Obj)} {σ : L2.St} {s : Shared} {u : Value} {c : Cf} {d : D} {r : Res D} {E : Value → Shared → Prop}
    (I : Inv X pins σ c.H s) (hh : Held S c) (ru : RR S c u d) (ev : cf i [d] c.h = r) (nb : r ≠ .bad) : wpAny (model X.prog X.w) X.A.in1.in1 (call (.ref f) [u]) (fun u' s' => Ret X.prog X.w S X.stack c s r u' s') E s := by
  obtain ⟨v, rv, rd⟩ := ru
  have KI : S.K.In s.heap := C.K ▸ I.kIn
  have b := T.bi s [u] KI rfl
  rw [List.append_nil] at b
  have E0 := I.env0
  rw [C.K] at E0
  have E1 : Env0 X.prog X.w S.K X.mg X.base X.A.in1.in1 X.stack s c.H := ⟨E0.frames, E0.mod, E0.bs, E0.bsz, E0.funs, E0.frf, E0.hok, E0.bare⟩
  refine wpAny_call (codeAny_mono (R X.A.in1.in1 X.stack s ⟨[u], []⟩ [u] [v] c [d] r C.room.in1.in1 C.gd E1 b (.cons rv .nil) rfl hh (.cons rd .nil) ev nb) fun q s' hq => ?_)
  cases q with
  | error _ => exact False.elim hq
  | ok fl =>
    cases fl with
    | ret u => exact hq
    | next => exact False.elim hq
    | brk => exact False.elim hq
    | cont => exact False.elim hq
open Classical in
/-- list.sort(key=f) on the new list at a = h1.objs.size -/
theorem sortk_body (C : Ctx X S (k + 2)) (T : Stat S.K X.mg nm st N [pn] f fd) (R : Runs X.prog X.w S X.mg X.base cf k i f fd [pn]) {pins : List (Addr × Obj)} {σ : L2.St} {s : Shared} {c : Cf} {us : List Value} {ds : List D} {r : Res MP.X} {E : Value → Shared → Prop}
    (I : Inv X pins σ c.H s) (hh : Held S c) (er : EachIs (RR S c) us ds) (hu : us.length ≤ sizeLine) (ev : ((keysBy cf i ds c.h).bind fun ks h => .ofO ((sortBy ds ks).map .l) h) = r) (nb : r ≠ .bad) :
    wpAny (model X.prog X.w) X.A.in1.in1 (Builtin.«list.sort» ⟨[.ref s.heap.objs.size], [(Str.ofString "key", .ref f)]⟩) (fun g s' => g = .done (.ret .none) ∧ EP X pins σ (Ok S c r) (.ref s.heap.objs.size) s') E { s with heap := s.heap.push (seqObj "list" us.toArray 0) } := by
  obtain ⟨a, ha⟩ : ∃ a, s.heap.objs.size = a := ⟨_, rfl⟩
  obtain ⟨g1, hg1⟩ : ∃ g1, s.heap.push (seqObj "list" us.toArray 0) = g1 := ⟨_, rfl⟩
  have ho : g1.get? a = some (seqObj "list" us.toArray 0) := by rw [← hg1, ← ha]; exact Heap.get?_push_size _ rfl
  have z1 : g1.objs.size = a + 1 := by rw [← hg1, size_push', ha]
  have k1 : ∀ b o, s.heap.get? b = some o → g1.get? b = some o := fun b o q => by rw [← hg1]; exact Heap.get?_push_of_some _ q
  rw [ha, hg1]
  rw [ksk_t1]
  unfold ksk_tree
  refine wpAny_bind (listItems_at ho rfl ?_)
  refine wpAny_bind (listUpdate_at ho rfl ?_ (by rw [List.size_toArray]; exact hu) (Nat.zero_le _))
  obtain ⟨e1, ho1⟩ : ∃ e1, (g1.update a (Obj.mapSeq fun _ => (#[] : Array Value))).get? a = some (seqObj "list" #[] e1) := ⟨_, get?_update_seq ho fun _ => #[]⟩
  obtain ⟨g2, hg2⟩ : ∃ g2, g1.update a (Obj.mapSeq fun _ => (#[] : Array Value)) = g2 := ⟨_, rfl⟩
  have z2 : g2.objs.size = a + 1 := by rw [← hg2, Heap.size_update, z1]
  have k2 : ∀ b o, s.heap.get? b = some o → g2.get? b = some o := fun b o q => by
    rw [← hg2]
    exact ((Heap.SameBut.update g1 a _).2 b (Nat.ne_of_lt (ha ▸ Heap.lt_size q))).trans (k1 b o q)
  rw [hg2] at ho1 ⊢
  refine wpAny_bind (seqEpoch_at ho1 rfl ?_)
  refine wpAny_bind (wpAny_newTuple ?_ (by show us.length ≤ _; exact hu))
  refine wpAny_bind (wpAny_newList ?_ (Nat.zero_le _))
  refine wpAny_holding ?_
  show wpAny _ _ (ksk_rest a (.ref f) false us.toArray e1 (.ref (g2.push (seqObj "tuple" us.toArray 0)).objs.size)) _ _ { s with heap := (g2.push (seqObj "tuple" us.toArray 0)).push (seqObj "list" #[] 0) }
  obtain ⟨kS, hkS⟩ : ∃ kS, (g2.push (seqObj "tuple" us.toArray 0)).objs.size = kS := ⟨_, rfl⟩
  have zk : kS = a + 2 := by rw [← hkS, size_push', z2]
  obtain ⟨g3, hg3⟩ : ∃ g3, (g2.push (seqObj "tuple" us.toArray 0)).push (seqObj "list" #[] 0) = g3 := ⟨_, rfl⟩
  have nk : g3.get? kS = some (seqObj "list" #[] 0) := by rw [← hg3, ← hkS]; exact Heap.get?_push_size _ rfl
  have k3 : ∀ b o, g2.get? b = some o → g3.get? b = some o := fun b o q => by rw [← hg3]; exact Heap.get?_push_of_some _ (Heap.get?_push_of_some _ q)
  have na := k3 _ _ ho1
  have ks3 : ∀ b o, s.heap.get? b = some o → g3.get? b = some o := fun b o q => k3 b o (k2 b o q)
  rw [hkS, hg3]
  have hka : kS ≠ a := by omega
  have oldS : ∀ b o, s.heap.get? b = some o → b ≠ a ∧ b ≠ kS := fun b o q => by
    have l : b < a := ha ▸ Heap.lt_size q
    exact ⟨Nat.ne_of_lt l, Nat.ne_of_lt (Nat.lt_trans l (by rw [zk]; exact Nat.lt_add_of_pos_right (by decide)))⟩
  have nfa : a ∉ frs X.stack ∧ kS ∉ frs X.stack := by
    constructor <;> intro hm <;> obtain ⟨_, o, q, _⟩ := I.stack.mem hm
    · exact (oldS _ _ q).1 rfl
    · exact (oldS _ _ q).2 rfl
  have na0 : c.H a = none := I.hok.fresh (Nat.le_of_eq ha)
  have nk0 : c.H kS = none := I.hok.fresh (by omega)
  unfold ksk_rest
  refine wpAny_bind (wpAny_rule ?_)
  first
    | rw [List.forIn_toArray]
    | (rw [← Array.forIn_toList]; simp only [List.toList_toArray])
    | rw [← Array.forIn_toList]
  refine wpAny_bind (ksk_fold (fun j s' => ∃ (c' : Cf) (kA : Array Value) (ep : Nat) (ks : List D), Un (frs X.stack) [] c.H c'.H s.heap s'.heap ∧ HOk X.prog X.w c'.H s'.heap ∧ s'.os = s.os ∧ AllBare s'.gens ∧ Gr c c' ∧ Held S c' ∧
      s'.heap.get? kS = some (seqObj "list" kA ep) ∧ s'.heap.get? a = some (seqObj "list" #[] e1) ∧ c'.H kS = none ∧ c'.H a = none ∧ EachIs (RR S c') kA.toList ks ∧ ks.length = j ∧
      ((keysBy cf i (ds.drop j) c'.h).bind fun rest h => .ofO ((sortBy ds (ks ++ rest)).map .l) h) = r) us 0 _
    ⟨c, #[], 0, [], Un.kept ks3, I.hok.kept ks3, rfl, I.bare, Gr.refl c, hh, nk, na, nk0, na0, .nil, rfl, ev⟩ ?step ?done)
  case step =>
    rintro j x s' hx ⟨c', kA, ep, ks, un, hok, os, bare, g, hh', nk', na', nk0', na0', ek, lk, ev'⟩
    rw [Nat.zero_add] at lk ev' ⊢
    have jl : j < us.length := (List.getElem?_eq_some_iff.mp hx).1
    have dl : ds.length = us.length := (rr_len er).symm
    obtain ⟨d, hd⟩ : ∃ d, ds[j]? = some d := ⟨_, List.getElem?_eq_getElem (by omega)⟩
    have rx : RR S c' x d := by
      have hz : (x, d) ∈ us.zip ds := List.mem_of_getElem? (i := j) (by rw [List.getElem?_zip_eq_some]; exact ⟨hx, hd⟩)
      obtain ⟨v, q1, q2⟩ := er.zip _ hz
      exact ⟨v, q1, q2.mono g⟩
    rw [drop_get hd] at ev'
    have ev' : (((cf i [d] c'.h).bind fun k h1 => (keysBy cf i (ds.drop (j + 1)) h1).bind fun ks h2 => .ok (k :: ks) h2).bind fun rest h => .ofO ((sortBy ds (ks ++ rest)).map .l) h) = r := ev'
    rw [Res.bind_assoc] at ev'
    obtain ⟨v', H', I', _, eH⟩ := I.after (s' := s') (u := .none) (Q := fun v H' => H' = c'.H) ⟨.non, c'.H, os, bare, un, hok, rfl, rfl⟩
    subst eH
    refine wpAny_bind (wpAny_attempt (wpAny_mono (key_call C T R I' hh' rx rfl fun z => by rw [z] at ev'; exact nb ev'.symm) (fun u s2 he => ?_) fun _ _ hF => hF))
    obtain ⟨c2, v2, d2, e2, os2, bare2, un2, hok2, g2, hh2, rp2, ru2⟩ := he
    rw [e2] at ev'
    try dsimp only
    have nk2 : s2.heap.get? kS = some (seqObj "list" kA ep) := un2.keep _ _ nk' nk0' nfa.2 (by simp)
    have na2 : s2.heap.get? a = some (seqObj "list" #[] e1) := un2.keep _ _ na' na0' nfa.1 (by simp)
    have nk02 : c2.H kS = none := un2.free _ _ nk' nk0' (by simp)
    have na02 : c2.H a = none := un2.free _ _ na' na0' (by simp)
    have sb := Heap.SameBut.update s2.heap kS (Obj.mapSeq (·.push u))
    obtain ⟨e3, he3⟩ : ∃ e3, (s2.heap.update kS (Obj.mapSeq (·.push u))).get? kS = some (seqObj "list" (kA.push u) e3) := ⟨_, get?_update_seq nk2 (·.push u)⟩
    have zA : kA.size ≤ us.length := by
      have h1 := ek.length
      rw [Array.length_toList] at h1
      omega
    refine wpAny_bind (listUpdate_at nk2 rfl ?_ (Nat.le_trans zA hu) (Nat.le_trans (Nat.le_of_eq (Array.size_push ..)) (Nat.succ_le_succ (Nat.le_trans zA hu))))
    refine wpAny_pure ⟨rfl, c2, kA.push u, e3, ks ++ [d2], un_same (un.trans un2) (fun b o q => sb.2 b (oldS b o q).2), hok_same hok2 (fun b o q1 q2 => (sb.2 b fun z => q1 (z ▸ nk02)).trans q2), os2.trans os, bare2, g.trans g2, hh2, he3, (sb.2 a hka.symm).trans na2, nk02, na02, ?_, by simp [lk], ?_⟩
    · rw [show (kA.push u).toList = kA.toList ++ [u] by simp]
      exact each_snoc' (rr_mono g2 ek) ⟨v2, ru2, rp2⟩
    · rw [← ev']
      show _ = ((keysBy cf i (ds.drop (j + 1)) c2.h).bind fun ks h2 => Res.ok (d2 :: ks) h2).bind _
      rw [Res.bind_assoc]
      congr 1
      funext rest h
      show Res.ofO ((sortBy ds (ks ++ [d2] ++ rest)).map MP.X.l) h = Res.ofO ((sortBy ds (ks ++ d2 :: rest)).map MP.X.l) h
      rw [List.append_assoc]
      rfl
  case done =>
    rintro s' ⟨c', kA, ep, ks, un, hok, os, bare, g, hh', nk', na', nk0', na0', ek, lk, ev'⟩
    have dl : ds.length = us.length := (rr_len er).symm
    rw [Nat.zero_add] at lk ev'
    rw [List.drop_of_length_le (by omega)] at ev'
    have ev' : Res.ofO ((sortBy ds (ks ++ [])).map .l) c'.h = r := ev'
    rw [List.append_nil] at ev'
    obtain ⟨z, hz, ez⟩ := ofO_ok ev' nb
    obtain ⟨out, ho', rfl⟩ := Option.map_eq_some_iff.mp hz
    unfold sortBy at ho'
    split at ho'
    · rename_i hc
      cases ho'
      obtain ⟨h1, h2, h3, h4, h5⟩ := hc
      obtain ⟨v', H', I', _, eH⟩ := I.after (s' := s') (u := .none) (Q := fun v H' => H' = c'.H) ⟨.non, c'.H, os, bare, un, hok, rfl, rfl⟩
      subst eH
      have ee : ks.map toPD = toPDs ks := (toPDs_map ks).symm
      have hk := rr_reads C.K I' h1 ek
      have hsz : kA.size = us.length := by
        have e := ek.length
        rw [Array.length_toList] at e
        omega
      have un0 := C.un
      try dsimp only
      refine wpAny_bind (listItems_at nk' rfl ?_)
      have SA := SortsAt.data (prog := X.prog) (w := X.w) (A := X.A.in1.in1) (s := s') (each_map (R := fun u d => ∃ as, Reads s'.heap u d as) toPD hk) (ee ▸ h2) (ee ▸ h3) (bound_map (A := X.A.in1.in1) (enc := toPD) (bs := ks) fun d q => by
        have := depths h1 q
        show X.A.units + 1 + 1 + _ < cLine
        omega)
      have hid : ∀ b o, (hidT s'.heap (upd (fun _ => none) kS (.rng 0 0))).get? b = some o → s'.heap.get? b = some o ∧ b ≠ kS := fun b o q => by
        obtain ⟨q1, q2⟩ := of_hidT q
        exact ⟨q1, fun z => by rw [z, upd_same] at q2; cases q2⟩
      refine keyH_end (h₁ := hidT s'.heap (upd (fun _ => none) kS (.rng 0 0))) (fun b o _ q => (hid b o q).1) (by
        cases q : (hidT s'.heap (upd (fun _ => none) kS (.rng 0 0))).get? kS with
        | none => rfl
        | some o => exact absurd rfl (hid _ _ q).2) nk' na' hka SA hsz hu fun h' tk ep2 kb na2 => ⟨rfl, ?_⟩
      have same : ∀ b o, b ≠ a → b ≠ kS → s'.heap.get? b = some o → h'.get? b = some o := fun b o q1 q2 q3 => kb b o q1 (hidT_get q3 (upd_ne q2))
      -- the items by their keys
      have ko : KeyedOut false ((ds.zip ks).map fun p => toPD p.2) us (sortVals (dataKind s'.heap (ks.map toPD)) false kA.toList us) := by
        have e2 : (ds.zip ks).map (fun p => toPD p.2) = ks.map toPD := by
          have : (ds.zip ks).map (·.2) = ks := by rw [List.map_snd_zip]; omega
          conv => rhs; rw [← this]
          rw [List.map_map]; rfl
        rw [e2]
        exact ⟨s'.heap, kA.toList, ee ▸ h2, rfl, each_map (R := fun u d => ∃ as, Reads s'.heap u d as) toPD hk⟩
      have eo := each_fst (keyedOut_each (fun p : MP.D × MP.D => toPD p.2) ko (each_zip (rr_mono g er) (by omega)))
      obtain ⟨vs', q1, q2⟩ := rr_to eo
      have ml := maxl
      have ln : vs'.length ≤ sizeLine := by
        have e1 := q2.length
        rw [List.length_map, List.length_mergeSort, List.length_zip] at e1
        omega
      have unF : Un (frs X.stack) [] c.H c'.H s.heap h' := un_same un fun b o q => by
        obtain ⟨o', e⟩ := un.there b o q (by simp)
        rw [e]
        exact same b o' (oldS b o q).1 (oldS b o q).2 e
      have hokF : HOk X.prog X.w c'.H h' := hok_same hok fun b o q1 q2 => same b o (fun z => q1 (z ▸ na0')) (fun z => q1 (z ▸ nk0')) q2
      exact I.after (s' := { s' with heap := h', toks := tk }) ⟨.ref a, upd c'.H a (.lst vs'), os, bare, un_more unF (fun b o q => (oldS b o q).1) na0', hok_new hokF na0' ⟨ln, _, ep2, q1, na2⟩, rfl, .ofQ g ez.symm (QX.newL hh' q2 a na0')⟩
    · cases ho'
theorem raw_src {prog : Program} {w : World} {d : Addr} {es : Array DictEntry} {ep : Nat} (lo : (d == sysModules) = false) : KdlSrc prog w "dict" d d es.size (fun i v => ∃ hi : i < es.size, v = es[i].key) (fun h => h.DictRaw d es ep) where
  type := fun _ hm => hm.typeIs
  there := fun _ ⟨_, ho, _⟩ => ⟨Heap.lt_size ho, Heap.lt_size ho⟩
  keep := fun _ _ hm hk => hm.at fun o e => hk d (.inl rfl) o e
  notList := by decide
  notTuple := by decide
  hint := fun _ _ _ _ hm hq => kdl_hint_dict hm.typeIs hq
  iter := fun _ s hh hm => ⟨_, _, (fun _ _ hq => wpAny_pyIter_dict_raw lo hm hq), Walks.rawKeys hh _ d (by obtain ⟨_, ho, _⟩ := hm; exact Nat.ne_of_lt (Heap.lt_size ho)) es ep, ⟨⟨_, Heap.get?_push_size _ rfl, rfl, rfl⟩, hm.at fun o e => Heap.get?_push_of_some _ e⟩⟩
theorem reps_keys {c : Cf} : ∀ {kvs : List (D × D)} {es : List DictEntry}, RepKs S c kvs es → EachIs (RR S c) (es.map (·.key)) (kvs.map (·.1))
  | _, _, .nil => .nil
  | _, _, .cons _ _ _ r1 r2 _ _ t => .cons ⟨_, r2, r1⟩ (reps_keys t)
theorem sorted_coll {prog : Program} {w : World} {A : Around} {E : Value → Shared → Prop} {s : Shared} {x : Value} {vs : List Value} {kw : List (Str × Value)} {Q : Value → Shared → Prop} (hL : vs.length ≤ sizeLine) (ha1 : argsOk "sorted" ⟨[x], kw⟩) (ha2 : ∀ x, argsOk "list.sort" ⟨[.ref x], kw⟩)
    (coll : ∀ (Q' : List Value → Shared → Prop) (E' : Value → Shared → Prop), (∀ (h1 : Heap) (tk : Nat), (∀ b o, s.heap.get? b = some o → h1.get? b = some o) → Q' vs { s with heap := h1, toks := tk }) → wpAny (model prog w) A.in1 (collect x) Q' E' s)
    (body : ∀ (h1 : Heap) (tk : Nat), (∀ b o, s.heap.get? b = some o → h1.get? b = some o) → ∀ E' : Value → Shared → Prop, wpAny (model prog w) A.in1.in1 (Builtin.«list.sort» ⟨[.ref h1.objs.size], kw⟩) (fun f s' => f = .done (.ret .none) ∧ Q (.ref h1.objs.size) s') E' { s with heap := h1.push (seqObj "list" vs.toArray 0), toks := tk }) :
    wpAny (model prog w) A (call (.builtin "sorted") [x] kw) Q E s := by
  refine call_function_entry_kw kind_sorted plain_sorted entry_sorted ha1 ?_
  unfold Builtin.«sorted»
  refine wpAny_bind (m := checkCount "sorted" 1 1 _) (wpAny_pure ?_)
  refine wpAny_bind (coll _ _ fun h1 tk keep => ?_)
  refine wpAny_bind (wpAny_newList ?_ hL)
  have at_ : (h1.push (seqObj "list" vs.toArray 0)).get? h1.objs.size = some (seqObj "list" vs.toArray 0) := Heap.get?_push_size _ rfl
  refine wpAny_bind (wpAny_holding (wpAny_call_entry_kw slot_list_sort ⟨_, at_, rfl⟩ entry_list_sort ?body (ha2 _)))
  case body =>
    refine wpAny_mono (body h1 tk keep _) (fun f s' hf => ?_) fun _ _ e => e
    obtain ⟨rfl, hq⟩ := hf
    exact ⟨_, rfl, wpAny_pure ⟨_, rfl, hq⟩⟩
theorem args_sorted_key (x q : Value) : argsOk "sorted" ⟨[x], [(Str.ofString "key", q)]⟩ := by unfold argsOk; kernel_rfl
theorem args_sort_key (x q : Value) : argsOk "list.sort" ⟨[x], [(Str.ofString "key", q)]⟩ := by unfold argsOk; kernel_rfl
theorem sortk_call (C : Ctx X S (k + 2)) (T : Stat S.K X.mg nm st N [pn] f fd) (R : Runs X.prog X.w S X.mg X.base cf k i f fd [pn]) {pins : List (Addr × Obj)} {σ : L2.St} {s : Shared} {c0 c : Cf} {x : MP.X} {v : V} {u : Value} {ds : List D} {r : Res MP.X} {E : Value → Shared → Prop}
    (I : Inv X pins σ c.H s) (hh : Held S c) (rx : RepX S c0 c x v) (ru : RelV v u) (e : srcX x c.h = some ds) (ev : ((keysBy cf i ds c.h).bind fun ks h => .ofO ((sortBy ds ks).map .l) h) = r) (nb : r ≠ .bad) :
    wpAny (model X.prog X.w) X.A (call (.builtin "sorted") [u] [(Str.ofString "key", .ref f)]) (EP X pins σ (Ok S c r)) E s := by
  have main : ∀ (us : List Value), us.length ≤ sizeLine → EachIs (RR S c) us ds → (∀ (Q' : List Value → Shared → Prop) (E' : Value → Shared → Prop), (∀ (h1 : Heap) (tk : Nat), (∀ b o, s.heap.get? b = some o → h1.get? b = some o) → Q' us { s with heap := h1, toks := tk }) → wpAny (model X.prog X.w) X.A.in1 (collect u) Q' E' s) →
      wpAny (model X.prog X.w) X.A (call (.builtin "sorted") [u] [(Str.ofString "key", .ref f)]) (EP X pins σ (Ok S c r)) E s := fun us hu er coll =>
    sorted_coll hu (args_sorted_key _ _) (fun _ => args_sort_key _ _) coll fun h1 tk keep E' => sortk_body C T R (s := { s with heap := h1, toks := tk }) (I.kept keep) hh er hu ev nb
  have seq : seqX x c.h = some ds → wpAny (model X.prog X.w) X.A (call (.builtin "sorted") [u] [(Str.ofString "key", .ref f)]) (EP X pins σ (Ok S c r)) E s := fun e => by
    obtain ⟨l, T', o, us, n, rfl, hT, ho, ht, hd, hu, er⟩ := seq_at C.K I hh rx ru e
    refine main us hu er fun Q' E' hq => wpAny_collect_seq l hT ho ht hd (fun h1 keep => ?_) (by rw [List.size_toArray]; exact hu)
    rw [List.toList_toArray]
    exact hq h1 s.toks keep
  have e' := e
  unfold srcX at e'
  split at e'
  · rename_i xs hn
    cases e'
    exact seq (by unfold seqX; rw [hn])
  · rename_i xs hn
    cases e'
    exact seq (by unfold seqX; rw [hn])
  · rename_i kvs hn
    split at e'
    · rename_i hz0
      cases e'
      obtain ⟨q, es, rfl, hD, ⟨lo, ap⟩, rk⟩ := norm_rep hh rx hn
      cases (show u = Value.ref q from ru)
      obtain ⟨xs, o, ep, kr, ee, raw⟩ := raw_of C.K I hD ap rk
      have er := reps_keys rk
      have dr : s.heap.DictRaw q es.toArray ep := ⟨o, raw.at_, raw.ex, raw.dat⟩
      have ml := maxl
      have hz : es.length ≤ sizeLine := by
        have e1 := kr.length
        have e2 : es.length = xs.length := by rw [ee, List.length_map]
        omega
      refine main _ (by rw [List.length_map]; exact hz) er fun Q' E' hq => kdu_collect (A := X.A.in1) (raw_src lo) C.room.hd dr (by simpa using hz) fun h1 tk acc keep items => ?_
      have ea : acc.toList = es.map (·.key) := by
        apply List.ext_getElem?
        intro j
        rw [List.getElem?_map, Array.getElem?_toList]
        cases z : acc[j]? with
        | none =>
          have l : acc.size ≤ j := Array.getElem?_eq_none_iff.mp z
          rw [items.1, List.size_toArray] at l
          rw [List.getElem?_eq_none l]; rfl
        | some v =>
          obtain ⟨hi, rfl⟩ := items.2 j v z
          have hi' : j < es.length := by simpa using hi
          rw [List.getElem?_eq_getElem hi']
          simp
      rw [ea]
      exact hq h1 tk keep
    · cases e'
  · cases e'
def rSk (S : Sx) (cf : CF) (i : Nat) (f : Addr) : List V → List V → Hp → VK → Prop := fun xs zs H Q => ∃ (c0 c : Cf) (x : MP.X) (v : V) (ds : List D) (r : Res MP.X), xs = [v] ∧ zs = [.ref f] ∧ c.H = H ∧ Held S c ∧ RepX S c0 c x v ∧ srcX x c.h = some ds ∧
  ((keysBy cf i ds c.h).bind fun ks h => .ofO ((sortBy ds ks).map .l) h) = r ∧ r ≠ .bad ∧ ∀ v' H', Ok S c r v' H' → Q v' H'
theorem call_sk (C : Ctx X S (k + 2)) (T : Stat S.K X.mg nm st N [pn] f fd) (R : Runs X.prog X.w S X.mg X.base cf k i f fd [pn]) : CallRK X (.builtin "sorted") [Str.ofString "key"] (rSk S cf i f) := by
  intro pins s σ H xs zs us ws Q I r1 r2 ⟨c0, c, x, v, ds, r, e1, e2, eH, hh, rx, hs, ev, nb, q⟩
  subst e1; subst e2; subst eH
  obtain ⟨u, rfl, ru⟩ := vals1 r1
  obtain ⟨w, rfl, rw'⟩ := vals1 r2
  cases (show w = Value.ref f from rw')
  exact thn (sortk_call C T R I hh rx ru hs ev nb) fun u' s' ⟨v', H', I', r', q'⟩ => ⟨v', H', I', r', q v' H' q'⟩
theorem e_srk {a : Expr} {ma : ME} {q kp : Pos} (C : Ctx X S (k + 2)) (T : Stat S.K X.mg nm st N [pn] f fd) (R : Runs X.prog X.w S X.mg X.base cf k i f fd [pn]) (hm : X.mg "sorted" = none) (ha : EX X S cf a ma) (hg : Gl X "sorted" := by rfl) (hgf : Gl X nm := by rfl)
    (hdb : (nm == ("__debug__" : Str)) = false := by decide)
    (he : backTo pos (starEach [a] X.env) = (false, eval a X.env) :: backTo pos (starEach [] X.env) := by rfl) (hpl : (backTo pos (starEach [a] X.env)).any (·.1) = false := by rfl) (he1 : starEach [a] X.env = (false, eval a X.env) :: starEach [] X.env := by rfl)
    (hall : (backToKw pos (keywordEach [⟨some (Str.ofString "key"), .Name nm q, kp⟩] X.env)).all (·.1.isSome) = true := by rfl) (hnone : (backToKw pos (keywordEach [⟨some (Str.ofString "key"), .Name nm q, kp⟩] X.env)).any (·.1.isNone) = false := by rfl)
    (hks : (backToKw pos (keywordEach [⟨some (Str.ofString "key"), .Name nm q, kp⟩] X.env)).filterMap (·.1) = [Str.ofString "key"] := by rfl) :
    EX X S cf (.Call (.Name "sorted" p) [a] [⟨some (Str.ofString "key"), .Name nm q, kp⟩] pos) (.srk i ma) :=
  ⟨px_of (pe_callBK (call_sk C T R) hg hm (by decide +kernel) (pa_cons ha.h.pe pa_nil he1) (pk_cons (pe_glob (v := .ref f) hgf T.mgx rfl hdb) pk_nil) (by decide) (by decide) he hpl hall hnone hks) fun σ c e r hh he' hr nb => by
    have hr : ((evalX S.P cf ma e c.h).bind fun x h => match srcX x h with
      | some xs => (keysBy cf i xs h).bind fun ks h => .ofO ((sortBy xs ks).map .l) h
      | none => .bad) = r := hr
    show tX S cf ma σ c.H (fun x H1 => rSk S cf i f [x] [.ref f] H1 (Ok S c r))
    refine tX.mk hh he' hr nb fun x c1 v g1 hh1 he1 rx h1 => ?_
    cases q : srcX x c1.h with
    | none => rw [q] at h1; exact absurd h1.symm nb
    | some ds =>
      rw [q] at h1
      exact ⟨c, c1, x, v, ds, r, rfl, rfl, rfl, hh1, rx, q, h1, nb, fun v' H' z => z.fwd g1⟩⟩
end
end MP

/-! MPs: sets of tuples of any hashable keys, over the bare heap. -/
namespace MP.Dk
open PySem PySem.Spec PyProof.Rows L2

abbrev Row := NestedKey × Value
def rowsN (w : World) (L : List Row) : List (Int × Value) := L.map fun p => (p.1.hash w, p.2)
def hashesN (w : World) (L : List Row) : List Int := L.map fun p => p.1.hash w
/-- a set whose elements are tuples, with its table -/
structure NSet (w : World) (h : Heap) (a : Addr) (L : List Row) (es : Array (Int × Value)) (ep : Nat) (t : SetTable) : Prop where
  ob : ∃ o, h.get? a = some o ∧ o.ExactSet ∧ o.data = .set es ep t
  rows : es.toList = rowsN w L
  tab : TabOk t (hashesN w L)
  nd : (L.map (·.1)).Nodup
  key : ∀ p ∈ L, KeyHere h p.1 p.2 ∧ ∃ b, p.2 = .ref b
  led : w.params.followText "set-order" = true ∨ t.led = true
  room : L.length * 5 < t.mask * 3
  few : L.length < 64
section
variable {P : Program} {w : World} {A : Around} {E : Value → Shared → Prop} {s : Shared} {a : Addr} {L : List Row} {es : Array (Int × Value)} {ep : Nat} {t : SetTable}
theorem NSet.sz (R : NSet w s.heap a L es ep t) : es.size = L.length := by
  have e := congrArg List.length R.rows
  rwa [Array.length_toList, rowsN, List.length_map] at e
theorem NSet.place (R : NSet w s.heap a L es ep t) : t.place.size = L.length := by
  have e := R.tab.sz
  rwa [hashesN, List.length_map] at e
theorem NSet.fits (R : NSet w s.heap a L es ep t) : t.fits es.size = true := by
  have h1 := R.place
  have h2 := R.sz
  have h3 := R.room
  unfold SetTable.fits SetTable.fill
  rw [R.tab.dm, Bool.and_eq_true, beq_iff_eq, decide_eq_true_eq]
  show t.place.size = es.size ∧ t.place.size + 0 ≤ t.mask
  omega
theorem NSet.get (R : NSet w s.heap a L es ep t) {i : Nat} {p : Row} (h : L[i]? = some p) : es[i]? = some (p.1.hash w, p.2) := by
  rw [← Array.getElem?_toList, R.rows, rowsN, List.getElem?_map, h]
  rfl
/-! ### questions asked of keys by the search -/
mutual
theorem noClass_key : ∀ (k : NestedKey) (v : Value) (n : Nat) (s : Shared), NestedIs s.heap k v → k.depth ≤ n → ∀ (A : Around) (E : Value → Shared → Prop) (Q : Bool → Shared → Prop), Q false s → wpAny (model P w) A (ofAClassStatement n v) Q E s
  | .none, _, n, s, x, _, A, E, Q, q => by cases x; cases n <;> exact wpAny_pure q
  | .num i, _, n, s, x, _, A, E, Q, q => by cases x <;> cases n <;> exact wpAny_pure q
  | .text y, _, n, s, x, _, A, E, Q, q => by cases x; cases n <;> exact wpAny_pure q
  | .tup ks, _, n, s, x, hn, A, E, Q, q => by
    cases x with
    | @tup b o vs m _ hg hc hd hk =>
      simp only [NestedKey.depth] at hn
      obtain ⟨n, rfl⟩ : ∃ j, n = j + 1 := ⟨n - 1, by omega⟩
      unfold ofAClassStatement
      refine wpAny_bind (wpAny_typeOf (T := "tuple") ⟨o, hg, hc⟩ ?_)
      dsimp only
      have e : (("tuple" : String) == "tuple") = true := by decide
      simp only [e, if_true, Bool.not_true, Bool.false_eq_true, if_false]
      try refine wpAny_bind (wpAny_pure ?_)
      try simp only [Bool.not_true, Bool.false_eq_true, if_false]
      show wpAny _ _ (seqItems? (.ref b) >>= _) _ _ s
      refine wpAny_bind (wpAny_seqItems hg hd ?_)
      dsimp only
      refine wpAny_bind ?_
      show wpAny _ _ (forIn vs _ _) _ _ s
      rw [← Array.forIn_toList]
      refine wpAny_forIn_list _ (fun left r s' => r.1 = none ∧ s' = s ∧ ∀ v ∈ left, ∀ (A : Around) (E : Value → Shared → Prop) (Q : Bool → Shared → Prop), Q false s → wpAny (model P w) A (ofAClassStatement n v) Q E s) _ ?_ ?_ _ _ ⟨rfl, rfl, noClass_keys ks vs.toList n s hk (by omega)⟩
      · rintro v left r s' ⟨hr, rfl, all⟩
        refine wpAny_bind (all v List.mem_cons_self _ _ _ ?_)
        simp only [Bool.false_eq_true, if_false]
        exact wpAny_pure ⟨rfl, rfl, fun u hu => all u (List.mem_cons_of_mem _ hu)⟩
      · rintro ⟨r1, r2⟩ s' ⟨hr, rfl, _⟩
        simp only at hr
        subst hr
        exact wpAny_pure q
theorem noClass_keys : ∀ (ks : List NestedKey) (vs : List Value) (n : Nat) (s : Shared), NestedAll s.heap ks vs → NestedKey.depthAll ks ≤ n → ∀ v ∈ vs, ∀ (A : Around) (E : Value → Shared → Prop) (Q : Bool → Shared → Prop), Q false s → wpAny (model P w) A (ofAClassStatement n v) Q E s
  | [], _, n, s, x, _, v, hv => by cases x; cases hv
  | k :: ks, _, n, s, x, hn, v, hv => by
    cases x with
    | cons x1 x2 =>
      simp only [NestedKey.depthAll] at hn
      rcases List.mem_cons.mp hv with e | hv
      · rw [e]; exact noClass_key k _ n s x1 (by omega)
      · exact noClass_keys ks _ n s x2 (by omega) v hv
end
mutual
/-- whether its hash is one of values: some answer -/
theorem byVal_key : ∀ (k : NestedKey) (v : Value) (n : Nat) (s : Shared), NestedIs s.heap k v → k.depth ≤ n → ∀ (A : Around) (E : Value → Shared → Prop) (Q : Bool → Shared → Prop), (∀ b, Q b s) → wpAny (model P w) A (hashByValue n v) Q E s
  | .none, _, n, s, x, _, A, E, Q, q => by cases x; cases n <;> exact wpAny_pure (q _)
  | .num i, _, n, s, x, _, A, E, Q, q => by cases x <;> cases n <;> exact wpAny_pure (q _)
  | .text y, _, n, s, x, _, A, E, Q, q => by cases x; cases n <;> exact wpAny_pure (q _)
  | .tup ks, _, n, s, x, hn, A, E, Q, q => by
    cases x with
    | @tup b o vs m _ hg hc hd hk =>
      simp only [NestedKey.depth] at hn
      obtain ⟨n, rfl⟩ : ∃ j, n = j + 1 := ⟨n - 1, by omega⟩
      have hT : s.TypeIs (.ref b) "tuple" := ⟨o, hg, hc⟩
      unfold hashByValue
      refine wpAny_bind (wpAny_specialOf hT F.slot_tuple_hash.lookup ?_)
      show wpAny _ _ (seqItems? (.ref b) >>= _) _ _ s
      refine wpAny_bind (wpAny_seqItems hg hd ?_)
      refine wpAny_bind ?_
      show wpAny _ _ (forIn vs _ _) _ _ s
      rw [← Array.forIn_toList]
      refine wpAny_forIn_list _ (fun left r s' => s' = s ∧ ((r.1 = none ∧ ∀ v ∈ left, ∀ (A : Around) (E : Value → Shared → Prop) (Q : Bool → Shared → Prop), (∀ b, Q b s) → wpAny (model P w) A (hashByValue n v) Q E s) ∨ ∃ b, r.1 = some b ∧ left = [])) _ ?_ ?_ _ _ ⟨rfl, .inl ⟨rfl, byVal_keys ks vs.toList n s hk (by omega)⟩⟩
      · rintro v left r s' ⟨rfl, ⟨hr, all⟩ | ⟨_, _, z⟩⟩
        · refine wpAny_bind (all v List.mem_cons_self _ _ _ fun b => ?_)
          cases b with
          | false =>
            simp only [Bool.not_false, if_true]
            exact wpAny_pure (wpAny_pure (q _))
          | true =>
            simp only [Bool.not_true, Bool.false_eq_true, if_false]
            exact wpAny_pure ⟨rfl, .inl ⟨rfl, fun u hu => all u (List.mem_cons_of_mem _ hu)⟩⟩
        · cases z
      · rintro ⟨r1, r2⟩ s' ⟨rfl, ⟨hr, _⟩ | ⟨b, hr, _⟩⟩
        · simp only at hr
          subst hr
          exact wpAny_pure (q _)
        · simp only at hr
          subst hr
          exact wpAny_pure (q _)
theorem byVal_keys : ∀ (ks : List NestedKey) (vs : List Value) (n : Nat) (s : Shared), NestedAll s.heap ks vs → NestedKey.depthAll ks ≤ n → ∀ v ∈ vs, ∀ (A : Around) (E : Value → Shared → Prop) (Q : Bool → Shared → Prop), (∀ b, Q b s) → wpAny (model P w) A (hashByValue n v) Q E s
  | [], _, n, s, x, _, v, hv => by cases x; cases hv
  | k :: ks, _, n, s, x, hn, v, hv => by
    cases x with
    | cons x1 x2 =>
      simp only [NestedKey.depthAll] at hn
      rcases List.mem_cons.mp hv with e | hv
      · rw [e]; exact byVal_key k _ n s x1 (by omega)
      · exact byVal_keys ks _ n s x2 (by omega) v hv
end
theorem seen_key {x : Addr} {k : NestedKey} {ys : List Value} {Q : Bool → Shared → Prop} (hk : KeyHere s.heap k (.ref x)) (hy : ∀ y ∈ ys, ∃ l, KeyHere s.heap l y) (h : Q false s) : wpAny (model P w) A (searchCouldBeSeen (.ref x) ys) Q E s := by
  unfold searchCouldBeSeen
  refine wpAny_bind (wpAny_forIn_list _ (fun left r s' => r.1 = none ∧ s' = s ∧ ∀ y ∈ left, ∃ l, KeyHere s.heap l y) _ ?_ ?_ _ _ ⟨rfl, rfl, hy⟩)
  · rintro y left r s' ⟨hr, rfl, all⟩
    obtain ⟨l, hl⟩ := all y List.mem_cons_self
    have more : ∀ y ∈ left, ∃ l, KeyHere s'.heap l y := fun u hu => all u (List.mem_cons_of_mem _ hu)
    dsimp only
    refine iteB () (fun _ => wpAny_pure ⟨rfl, rfl, more⟩) fun _ => ?_
    refine wpAny_bind (quiet_here hk ?_)
    simp only [Bool.not_true, Bool.false_eq_true, if_false]
    refine wpAny_bind (quiet_here hl ?_)
    simp only [Bool.not_true, Bool.false_eq_true, if_false]
    refine wpAny_bind (noClass_key k _ 8 s' hk.1 hk.2 _ _ _ ?_)
    simp only [Bool.false_eq_true, if_false]
    refine wpAny_bind (noClass_key l _ 8 s' hl.1 hl.2 _ _ _ ?_)
    simp only [Bool.false_eq_true, if_false]
    exact wpAny_pure ⟨rfl, rfl, more⟩
  · rintro ⟨r1, r2⟩ s' ⟨hr, rfl, _⟩
    simp only at hr
    subst hr
    exact wpAny_pure h
/-! ### the search -/
theorem nth_plain (m : Nat) : ∀ (n : Nat) (p : SetTable.Probe), p.dummy = none → (nth m p n).dummy = none
  | 0, _, h => h
  | n + 1, p, h => nth_plain m n (adv m p) (by unfold adv; split <;> exact h)
/-- where a hash's way begins -/
abbrev from0 (m : Nat) (h : Int) : SetTable.Probe := runAt m (SetTable.bits h % (m + 1)) (SetTable.bits h)
theorem ns_from (R : NSet w s.heap a L es ep t) {x : Addr} {k : NestedKey} (hx : KeyHere s.heap k (.ref x)) (hu : A.units + 8 < cLine) {hh : Int} (ehh : k.hash w = hh) {K : Nat} (hKf : K < 10 * SetTable.turns t.mask)
    (out : way t.mask hh K ∉ t.place.toList) (inn : ∀ c, c < K → way t.mask hh c ∈ t.place.toList) {Q : SetFound → Shared → Prop}
    (hit : k ∈ L.map (·.1) → Q (.there none) s) (miss : k ∉ L.map (·.1) → Q (.free (way t.mask hh K) false) s) :
    ∀ (f c : Nat) (stand : Option SetTable.Probe), stand.getD (t.probeStart hh) = nth t.mask (from0 t.mask hh) c → c ≤ K → K - c < f → (∀ (i : Nat) (p : Row), L[i]? = some p → p.1 = k → ∃ c', c ≤ c' ∧ c' < K ∧ t.place.toList[i]? = some (way t.mask hh c')) →
      wpAny (model P w) A (setSearchFrom a (.ref x) hh true f stand) Q E s := by
  intro f
  induction f with
  | zero => intro c stand _ _ z; exact absurd z (Nat.not_lt_zero _)
  | succ f ih =>
    intro c stand st hc hf ahead
    obtain ⟨o, ho, hex, hd⟩ := R.ob
    have gw : ¬ t.gaveWay = true := by unfold SetTable.gaveWay; rw [mask_odd R.tab.mok]; decide
    rw [setSearchFrom_succ]
    refine wpAny_bind (wpAny_setState_of ho hd R.fits ?_)
    dsimp only
    refine wp_if_neg gw ?_
    try refine wpAny_bind (wpAny_pure ?_)
    have shift : ∀ q, nth t.mask (nth t.mask (from0 t.mask hh) c) q = nth t.mask (from0 t.mask hh) (c + q) := fun q => (nth_add t.mask c _ q).symm
    have wq : ∀ q, (nth t.mask (nth t.mask (from0 t.mask hh) c) q).j = way t.mask hh (c + q) := fun q => congrArg SetTable.Probe.j (shift q)
    have ec : c + (K - c) = K := by omega
    have hashOf : ∀ (i : Nat) (p : Row), L[i]? = some p → (es[i]?.map (·.1)).getD 0 = p.1.hash w := fun i p hp => by
      rw [R.get hp]; rfl
    rcases go_spec t R.tab.ris R.tab.dm (fun i => (es[i]?.map (·.1)).getD 0) hh (10 * SetTable.turns t.mask) (K - c) _ (nth_plain t.mask c _ rfl) (by omega) (fun q hq => by rw [wq]; exact inn (c + q) (by omega)) (by rw [wq, ec]; exact out) with ⟨q, i, hq, hi, _, before, go⟩ | ⟨before, go⟩
    · have pr : t.probe (fun i => (es[i]?.map (·.1)).getD 0) hh (stand.getD (t.probeStart hh)) = some (.candidate (way t.mask hh (c + q)) i (nth t.mask (from0 t.mask hh) (c + (q + 1)))) := by
        rw [st, ← wq, ← shift]; exact go
      rw [pr]
      dsimp only
      rw [wq] at hi
      have il : i < L.length := by
        have h1 : i < t.place.toList.length := (List.getElem?_eq_some_iff.mp hi).1
        rw [Array.length_toList, R.place] at h1
        exact h1
      obtain ⟨p, hp⟩ : ∃ p, L[i]? = some p := ⟨_, List.getElem?_eq_getElem il⟩
      obtain ⟨kp, b, eb⟩ := R.key p (List.mem_of_getElem? hp)
      have live : t.slot (way t.mask hh (c + q)) = .live i := slot_live R.tab.ris hi
      have rest : wpAny (model P w) A (searchRest a (.ref x) hh true f es t (way t.mask hh (c + q)) i (nth t.mask (from0 t.mask hh) (c + (q + 1)))) Q E s := by
        unfold searchRest
        rw [R.get hp]
        dsimp only
        refine wpAny_bind (wpAny_holding (eq_here hu kp hx ?_))
        refine wpAny_bind (wpAny_setState_of ho hd R.fits ?_)
        dsimp only
        by_cases same : p.1 = k
        · refine wp_if_pos (by simp [same]) (wpAny_pure (hit ?_))
          exact List.mem_map.mpr ⟨p, List.mem_of_getElem? hp, same⟩
        · refine wp_if_neg (by simp [same]) ?_
          try refine wpAny_bind (wpAny_pure ?_)
          rw [sameMem]
          dsimp only
          simp only [if_true, live, R.get hp, eb]
          refine wpAny_bind (wpAny_isSame_ref_self (wpAny_bind (wpAny_pure ?_)))
          simp only [if_true]
          refine wp_if_neg (by simp [same]) ?_
          refine ih (c + (q + 1)) _ rfl (by omega) (by omega) fun i0 p0 h0 hk0 => ?_
          obtain ⟨c', a1, a2, a3⟩ := ahead i0 p0 h0 hk0
          refine ⟨c', ?_, a2, a3⟩
          rcases Nat.lt_trichotomy c' (c + q) with z | z | z
          · refine absurd ?_ (before (c' - c) i0 (by omega) (by rw [wq, show c + (c' - c) = c' by omega]; exact a3))
            rw [hashOf i0 p0 h0, hk0, ehh]
          · rw [z] at a3
            have s0 := slot_live R.tab.ris a3
            rw [live] at s0
            injection s0 with s0
            rw [← s0, hp] at h0
            cases h0
            exact absurd hk0 same
          · omega
      by_cases led : t.led = true
      · refine wp_if_neg (by simp [led]) ?_
        try refine wpAny_bind (wpAny_pure ?_)
        exact rest
      · refine wp_if_pos (by simp [led]) (wpAny_bind (seen_key hx (fun y hy => ?_) ?_))
        · obtain ⟨e, he, ee⟩ := List.mem_map.mp hy
          have he1 : e ∈ es ∧ e.1 = hh := by simpa using he
          have he2 : e ∈ es.toList := by simpa using he1.1
          rw [R.rows] at he2
          obtain ⟨p2, hp2, e2⟩ := List.mem_map.mp he2
          exact ⟨p2.1, by rw [← ee, ← e2]; exact (R.key p2 hp2).1⟩
        · refine wp_if_neg (by decide) ?_
          try refine wpAny_bind (wpAny_pure ?_)
          exact rest
    · have pr : t.probe (fun i => (es[i]?.map (·.1)).getD 0) hh (stand.getD (t.probeStart hh)) = some (.empty (way t.mask hh K) none) := by
        have e2 : way t.mask hh K = (nth t.mask (nth t.mask (from0 t.mask hh) c) (K - c)).j := by rw [wq, ec]
        rw [st, e2]; exact go
      rw [pr]
      dsimp only
      refine wpAny_pure (miss fun hm => ?_)
      obtain ⟨p0, h0, hk0⟩ := List.mem_map.mp hm
      obtain ⟨i0, hi0, e0⟩ := List.getElem_of_mem h0
      have h00 : L[i0]? = some p0 := by rw [List.getElem?_eq_getElem hi0, e0]
      obtain ⟨c', a1, a2, a3⟩ := ahead i0 p0 h00 hk0
      refine before (c' - c) i0 (by omega) (by rw [wq, show c + (c' - c) = c' by omega]; exact a3) ?_
      rw [hashOf i0 p0 h00, hk0, ehh]
theorem ns_search (R : NSet w s.heap a L es ep t) {x : Addr} {k : NestedKey} (hx : KeyHere s.heap k (.ref x)) (hu : A.units + 8 < cLine) {Q : SetFound → Shared → Prop} (hit : k ∈ L.map (·.1) → Q (.there none) s)
    (miss : ∀ K, k ∉ L.map (·.1) → way t.mask (k.hash w) K ∉ t.place.toList → (∀ c, c < K → way t.mask (k.hash w) c ∈ t.place.toList) → Q (.free (way t.mask (k.hash w) K) false) s) :
    wpAny (model P w) A (setSearch a (.ref x) (k.hash w) true) Q E s := by
  have rm := R.room
  obtain ⟨K, hKf, out, inn⟩ := R.tab.first (by rw [hashesN, List.length_map]; omega) (k.hash w)
  have big : K < 100000 := by
    have : 10 * SetTable.turns t.mask ≤ 1420 := by
      unfold SetTable.turns
      rcases R.tab.mok with e | e | e <;> omega
    omega
  unfold setSearch
  refine ns_from R hx hu rfl hKf out inn hit (fun hn => miss K hn out inn) 100000 0 none rfl (Nat.zero_le _) (by omega) fun i p hp hk => ?_
  have hi : (hashesN w L)[i]? = some (k.hash w) := by rw [hashesN, List.getElem?_map, hp, ← hk]; rfl
  have il : i < t.place.toList.length := by
    rw [Array.length_toList, R.place]
    exact (List.getElem?_eq_some_iff.mp hp).1
  have hj := List.getElem?_eq_getElem il
  obtain ⟨c, hc, e⟩ := R.tab.before out hi hj
  exact ⟨c, Nat.zero_le _, hc, by rw [hj, e]⟩
/-! ### adding -/
theorem key_set {h h' : Heap} {k : NestedKey} {u : Value} {a : Addr} {o : Obj} {es : Array (Int × Value)} {ep : Nat} {t : SetTable} (hk : KeyHere h k u) (ho : h.get? a = some o) (hd : o.data = .set es ep t) (sb : Heap.SameBut a h h') : KeyHere h' k u := by
  refine ⟨NestedIs.at (fun b ob vs n hb hc => ?_) k u hk.1, hk.2⟩
  by_cases e : b = a
  · subst e
    rw [ho] at hb
    cases hb
    rw [hd] at hc
    cases hc
  · exact (sb.2 b e).trans hb
theorem tab_plain {t : SetTable} {hs : List Int} (T : TabOk t hs) (b : Bool) : TabOk { t with plain := b } hs := ⟨T.ris, T.dm, T.sz, T.mok, T.bd, T.reach⟩
/-- a row put in at a place -/
theorem row_in (L : List Row) (p : Nat) (r : Row) : (L.take p ++ r :: L.drop p).Perm (r :: L) := by
  refine List.perm_middle.trans ?_
  rw [List.take_append_drop]
/-- rows in another order -/
theorem rows_order (L : List Row) (es : Array (Int × Value)) (order : Array Nat) (hr : es.toList = rowsN w L) (hp : order.toList.Perm (List.range L.length)) :
    ∃ M, (order.filterMap (es[·]?)).toList = rowsN w M ∧ M.Perm L ∧ hashesN w M = order.toList.map fun i => (es.map (·.1)).getD i 0 := by
  have en : ∀ i (h : i < L.length), es[i]? = some (L[i].1.hash w, L[i].2) := fun i h => by
    rw [← Array.getElem?_toList, hr, rowsN, List.getElem?_map, List.getElem?_eq_getElem h]; rfl
  have key : ∀ l : List Nat, (∀ i ∈ l, i < L.length) → l.filterMap (fun i => es[i]?) = rowsN w (l.filterMap fun i => L[i]?) ∧ hashesN w (l.filterMap fun i => L[i]?) = l.map fun i => (es.map (·.1)).getD i 0 := by
    intro l
    induction l with
    | nil => intro _; exact ⟨rfl, rfl⟩
    | cons i l ih =>
      intro hl
      have hi := hl i List.mem_cons_self
      obtain ⟨e1, e2⟩ := ih fun j hj => hl j (List.mem_cons_of_mem _ hj)
      rw [List.filterMap_cons_some (en i hi), List.filterMap_cons_some (List.getElem?_eq_getElem hi), e1]
      refine ⟨rfl, ?_⟩
      have e5 : (es.map (·.1))[i]? = some (L[i].1.hash w) := by rw [Array.getElem?_map, en i hi]; rfl
      show L[i].1.hash w :: hashesN w (l.filterMap fun i => L[i]?) = (es.map (·.1)).getD i 0 :: l.map _
      rw [e2]
      congr 1
      simp [Array.getD_eq_getD_getElem?, e5]
  obtain ⟨e1, e2⟩ := key order.toList fun i hi => List.mem_range.mp (hp.mem_iff.mp hi)
  refine ⟨order.toList.filterMap fun i => L[i]?, by simpa using e1, ?_, e2⟩
  have all : (List.range L.length).filterMap (fun i => L[i]?) = L := by
    have : ∀ n, n ≤ L.length → (List.range n).filterMap (fun i => L[i]?) = L.take n := by
      intro n
      induction n with
      | zero => intro _; rfl
      | succ n ih =>
        intro hn
        rw [List.range_succ, List.filterMap_append, ih (by omega), List.take_succ, List.getElem?_eq_getElem (show n < L.length by omega), List.filterMap_cons_some (List.getElem?_eq_getElem (show n < L.length by omega))]
        rfl
    rw [this _ (Nat.le_refl _), List.take_length]
  exact (hp.filterMap _).trans (List.Perm.of_eq all)
theorem ns_relay {o : Obj} (ho : s.heap.get? a = some o) (hex : o.ExactSet) (hd : o.data = .set es ep t) (rows : es.toList = rowsN w L) (psz : t.place.size = es.size) (dm : t.dummies = #[]) (le : es.size ≤ t.mask)
    (nd : (L.map (·.1)).Nodup) (key : ∀ p ∈ L, KeyHere s.heap p.1 p.2 ∧ ∃ b, p.2 = .ref b) (ld : w.params.followText "set-order" = true ∨ t.led = true) (few : L.length < 64) {wanted M : Nat}
    (hw : SetTable.sizeAbove wanted - 1 = M) (hM : MaskOk M) (h128 : SetTable.sizeAbove wanted ≤ 128) (room : L.length * 5 < M * 3) {Q : Unit → Shared → Prop}
    (hQ : ∀ h' L' es' ep' t', Heap.SameBut a s.heap h' → NSet w h' a L' es' ep' t' → L'.Perm L → Q () { s with heap := h' }) : wpAny (model P w) A (setRelay a wanted) Q E s := by
  have sz : es.size = L.length := by
    have e := congrArg List.length rows
    rwa [Array.length_toList, rowsN, List.length_map] at e
  have fits : t.fits es.size = true := by
    unfold SetTable.fits SetTable.fill
    rw [dm, Bool.and_eq_true, beq_iff_eq, decide_eq_true_eq]
    show t.place.size = es.size ∧ t.place.size + 0 ≤ t.mask
    omega
  obtain ⟨t', order, e, hp, T, em, el, _, _⟩ := relaid_ok t (hs := es.map (·.1)) (wanted := wanted) hw hM (by rw [Array.size_map, sz]; omega)
  rw [Array.size_map, sz] at hp
  obtain ⟨M', r1, r2, r3⟩ := rows_order L es order rows hp
  rw [← r3] at T
  have s2 : (order.filterMap (es[·]?)).size = es.size := by
    have h := congrArg List.length r1
    rw [Array.length_toList, rowsN, List.length_map, r2.length_eq] at h
    rw [h, sz]
  rw [setRelay_eq]
  refine wpAny_bind (wpAny_setState_of ho hd fits ?_)
  dsimp only
  refine wp_if_neg (by rw [sizeLine_eq]; omega) ?_
  try refine wpAny_bind (wpAny_pure ?_)
  rw [e]
  dsimp only
  refine wpAny_bind (wp_if_neg (by rw [s2]; simp) ?_)
  try refine wpAny_bind (wpAny_pure ?_)
  refine wpAny_pure ?_
  dsimp only
  refine wpAny_storeSet_of ho hd ?_ (by rw [s2, sz, sizeLine_eq]; omega)
  have sb : Heap.SameBut a s.heap (s.heap.update a (Obj.putSet (order.filterMap (es[·]?)) t')) := Heap.SameBut.update ..
  refine hQ _ M' (order.filterMap (es[·]?)) (ep + 1) t' sb ⟨⟨_, store_at ho hd, ⟨hex.1, hex.2.1, hex.2.2⟩, rfl⟩, r1, T, (r2.map (·.1)).nodup_iff.mpr nd, fun p hp => ?_, by rw [el]; exact ld, by rw [r2.length_eq, em]; exact room, by rw [r2.length_eq]; exact few⟩ r2
  obtain ⟨h1, h2⟩ := key p (r2.mem_iff.mp hp)
  exact ⟨key_set h1 ho hd sb, h2⟩
theorem ns_add (R : NSet w s.heap a L es ep t) {x : Addr} {k : NestedKey} (hx : KeyHere s.heap k (.ref x)) (hu : A.units + 8 < cLine) (few : L.length + 1 < 64) {Q : Bool → Shared → Prop}
    (hQ : ∀ b h' L' es' ep' t', Heap.SameBut a s.heap h' → NSet w h' a L' es' ep' t' → (k ∈ L.map (·.1) → L' = L) → (k ∉ L.map (·.1) → L'.Perm ((k, .ref x) :: L)) → Q b { s with heap := h' }) :
    wpAny (model P w) A (setAddHashed a (.ref x) (k.hash w)) Q E s := by
  obtain ⟨o, ho, hex, hd⟩ := R.ob
  have sz := R.sz
  have rm := R.room
  unfold setAddHashed
  refine wpAny_holding ?_
  rw [show (100000 : Nat) = 99999 + 1 from rfl, setAddHashedIn_succ]
  refine wpAny_bind (wpAny_setState_of ho hd R.fits ?_)
  dsimp only
  refine wp_if_neg (by simp [byScan, Value.scannable]) ?_
  try refine wpAny_bind (wpAny_pure ?_)
  refine wpAny_bind (ns_search R hx hu (fun hm => ?_) fun K hm out inn => ?_)
  · dsimp only
    exact wpAny_pure (hQ false s.heap L es ep t (Heap.SameBut.refl a s.heap) R (fun _ => rfl) fun z => absurd hm z)
  · dsimp only
    refine wpAny_bind (wpAny_setState_of ho hd R.fits ?_)
    dsimp only
    obtain ⟨q1, _, q3, q4, q5, _, _, _, q9⟩ := R.tab.put out inn
    obtain ⟨t1, p, hpt⟩ : ∃ t1 p, t.put (way t.mask (k.hash w) K) = (t1, p) := ⟨_, _, rfl⟩
    rw [hpt] at q1 q3 q4 q5 q9 ⊢
    dsimp only at q1 q3 q4 q5 q9 ⊢
    rw [← q1] at q3
    -- what is stored in the end, whatever is told of the hash
    have store : ∀ t2 : SetTable, TabOk t2 ((hashesN w L).take p ++ k.hash w :: (hashesN w L).drop p) → t2.mask = t.mask → t2.led = t.led → t2.fill = (hashesN w L).length + 1 → t2.dummies = #[] →
        wpAny (model P w) A (do
          storeSet a (SetTable.insertAt es p (k.hash w, Value.ref x)) t2
          if !false && t2.tooFull then setRelay a (SetTable.grown (es.size + 1))
          return true) Q E s := by
      intro t2 T2 em el ef dm
      have hin : (SetTable.insertAt es p (k.hash w, Value.ref x)).toList = rowsN w (L.take p ++ (k, .ref x) :: L.drop p) := by
        rw [SetTable.toList_insertAt, R.rows]
        simp only [rowsN, List.map_append, List.map_cons, List.map_take, List.map_drop]
      have hhs : hashesN w (L.take p ++ (k, Value.ref x) :: L.drop p) = (hashesN w L).take p ++ k.hash w :: (hashesN w L).drop p := by
        simp only [hashesN, List.map_append, List.map_cons, List.map_take, List.map_drop]
      rw [← hhs] at T2
      have pm := row_in L p (k, .ref x)
      obtain ⟨M, hM⟩ : ∃ M, L.take p ++ (k, Value.ref x) :: L.drop p = M := ⟨_, rfl⟩
      rw [hM] at pm T2 hin
      have lenM : M.length = L.length + 1 := pm.length_eq
      obtain ⟨es1, hes1⟩ : ∃ es1, SetTable.insertAt es p (k.hash w, Value.ref x) = es1 := ⟨_, rfl⟩
      rw [hes1] at hin ⊢
      have z1 : es1.size = L.length + 1 := by
        have h := congrArg List.length hin
        rwa [Array.length_toList, rowsN, List.length_map, lenM] at h
      have ndM : (M.map (·.1)).Nodup := (pm.map (·.1)).nodup_iff.mpr (by rw [List.map_cons]; exact List.nodup_cons.mpr ⟨hm, R.nd⟩)
      refine wpAny_bind (wpAny_storeSet_of ho hd ?_ (by rw [z1, sizeLine_eq]; omega))
      have sb : Heap.SameBut a s.heap (s.heap.update a (Obj.putSet es1 t2)) := Heap.SameBut.update ..
      have ho1 := store_at (es' := es1) (t' := t2) ho hd
      obtain ⟨h1, hh1⟩ : ∃ h1, s.heap.update a (Obj.putSet es1 t2) = h1 := ⟨_, rfl⟩
      rw [hh1] at sb ho1 ⊢
      have keyM : ∀ q ∈ M, KeyHere h1 q.1 q.2 ∧ ∃ b, q.2 = .ref b := fun q hq => by
        rcases List.mem_cons.mp (pm.mem_iff.mp hq) with rfl | hq
        · exact ⟨key_set hx ho hd sb, x, rfl⟩
        · obtain ⟨k1, k2⟩ := R.key q hq
          exact ⟨key_set k1 ho hd sb, k2⟩
      have ldM : w.params.followText "set-order" = true ∨ t2.led = true := by rw [el]; exact R.led
      have lH : (hashesN w L).length = L.length := by rw [hashesN, List.length_map]
      by_cases full : t2.tooFull = true
      · have over : (L.length + 1) * 5 ≥ t2.mask * 3 := by
          unfold SetTable.tooFull at full
          rw [decide_eq_true_eq, ef, lH] at full
          exact full
        have pl : t2.place.size = es1.size := by
          have h := T2.sz
          rw [hashesN, List.length_map, lenM] at h
          rw [h, z1]
        have two : (t.mask = 7 ∧ L.length = 4) ∨ (t.mask = 31 ∧ L.length = 18) := by
          rcases R.tab.mok with e | e | e
          · left; rw [em, e] at over; rw [e] at rm; exact ⟨e, by omega⟩
          · right; rw [em, e] at over; rw [e] at rm; exact ⟨e, by omega⟩
          · exfalso; rw [em, e] at over; omega
        have go : ∀ N, SetTable.sizeAbove (SetTable.grown (L.length + 1)) - 1 = N → MaskOk N → SetTable.sizeAbove (SetTable.grown (L.length + 1)) ≤ 128 → (L.length + 1) * 5 < N * 3 →
            wpAny (model P w) A (setRelay a (SetTable.grown (L.length + 1))) (fun _ s' => wpAny (model P w) A (pure true) Q E s') E { s with heap := h1 } := fun N a1 a2 a3 a4 =>
          ns_relay (s := { s with heap := h1 }) ho1 ⟨hex.1, hex.2.1, hex.2.2⟩ rfl hin pl dm (by rw [z1, em]; rcases two with ⟨e, e2⟩ | ⟨e, e2⟩ <;> omega) ndM keyM ldM (by rw [lenM]; exact few) a1 a2 a3 (by rw [lenM]; exact a4) fun h2 L2 es2 ep2 t2 sb2 R2 pm2 =>
            wpAny_pure (hQ true h2 L2 es2 ep2 t2 (sb.trans sb2) R2 (fun z => absurd z hm) fun _ => pm2.trans pm)
        rw [sz]
        first
          | (refine wpAny_bind ?_; refine wp_if_pos (by simp [full]) ?_)
          | (refine wp_if_pos (by simp [full]) ?_; refine wpAny_bind ?_)
        rcases two with ⟨_, e2⟩ | ⟨_, e2⟩
        · exact go 31 (by rw [e2, size_20]) (.inr (.inl rfl)) (by rw [e2, size_20]; decide) (by omega)
        · exact go 127 (by rw [e2, size_76]) (.inr (.inr rfl)) (by rw [e2, size_76]; decide) (by omega)
      · first
          | refine wp_if_neg (by simp [full]) ?_
          | (refine wpAny_bind ?_; refine wp_if_neg (by simp [full]) ?_; refine wpAny_pure ?_)
        refine wpAny_pure (hQ true h1 M es1 (ep + 1) t2 sb ⟨⟨_, ho1, ⟨hex.1, hex.2.1, hex.2.2⟩, rfl⟩, hin, T2, ndM, keyM, ldM, ?_, by rw [lenM]; exact few⟩ (fun z => absurd z hm) fun _ => pm)
        unfold SetTable.tooFull at full
        rw [decide_eq_true_eq, ef, lH] at full
        rw [lenM]
        omega
    have last : ∀ b : Bool, wpAny (model P w) A (do
          storeSet a (SetTable.insertAt es p (k.hash w, Value.ref x)) (if b = true then t1 else { t1 with plain := false })
          if !false && (if b = true then t1 else { t1 with plain := false }).tooFull then setRelay a (SetTable.grown (es.size + 1))
          return true) Q E s := fun b => by
      cases b with
      | true => exact store t1 q3 q4 q5 q9 q3.dm
      | false => exact store { t1 with plain := false } (tab_plain q3 false) q4 q5 q9 q3.dm
    by_cases pl : t1.plain = true
    · first
        | (refine wpAny_bind ?_; refine wp_if_pos pl ?_; exact byVal_key k _ 8 s hx.1 hx.2 _ _ _ fun b => last b)
        | exact wp_if_pos pl (wpAny_bind (byVal_key k _ 8 s hx.1 hx.2 _ _ _ fun b => last b))
    · first
        | (refine wpAny_bind ?_; refine wp_if_neg pl ?_; exact wpAny_pure (last true))
        | exact wp_if_neg pl (wpAny_bind (wpAny_pure (last true)))
end
end MP.Dk

/-! MPt: set(a list): an element after the other. -/
namespace MP.Dk
open PySem PySem.Spec PyProof.Rows L2
/-- how a set grows: J i h says that it holds what i items give -/
structure Grows (P : Program) (w : World) (u0 : Nat) (S : Addr) (h0 : Heap) (items : List Value) (J : Nat → Heap → Prop) : Prop where
  frame : ∀ i h h', J i h → (∀ o, h.get? S = some o → h'.get? S = some o) → (∀ b o, h0.get? b = some o → h'.get? b = some o) → J i h'
  add : ∀ (i : Nat) (v : Value) (A : Around) (E : Value → Shared → Prop) (s : Shared) (Q : Bool → Shared → Prop), items[i]? = some v → J i s.heap → (∀ b o, h0.get? b = some o → s.heap.get? b = some o) → A.units ≤ u0 →
    (∀ b h' tk, s.toks ≤ tk → Heap.SameBut S s.heap h' → J (i + 1) h' → Q b { s with heap := h', toks := tk }) → wpAny (model P w) A (setAdd S v) Q E s
section
variable {P : Program} {w : World} {A : Around} {E : Value → Shared → Prop}
theorem set_loop {I : Addr} {fp wr : List Addr} {G : Array GenState → Array GenState → Prop} {n : Nat} {Pv : Nat → Value → Prop} {St : Nat → Shared → Prop} {R : Result → Shared → Prop} {items : List Value} {J : Nat → Heap → Prop}
    (W : WalksS P w A.in1 I fp wr G n Pv St) (S : Addr) (hSf : S ∉ fp) (hn : n = items.length) (val : ∀ i v, Pv i v → items[i]? = some v) (h0 : Heap) (gr : Grows P w A.in1.units S h0 items J) (hS0 : h0.get? S = none) (hw0 : ∀ b ∈ wr, h0.get? b = none) :
    ∀ (k i : Nat) (s : Shared), n - i = k → i ≤ n → St i s → (∀ b o, h0.get? b = some o → s.heap.get? b = some o) → J i s.heap →
      (∀ s', Moved (S :: wr) G s s' → J n s'.heap → (∀ b o, h0.get? b = some o → s'.heap.get? b = some o) → R (.ok (.ret .none)) s') → codeAny (model P w) A (.builtin "set.update.loop" ⟨[.ref S, .ref I], []⟩) R s := by
  have hSw : S ∉ wr := fun h => hSf (W.sub _ h)
  have kept : ∀ {s s' : Shared}, Moved wr G s s' → (∀ b o, h0.get? b = some o → s.heap.get? b = some o) → ∀ b o, h0.get? b = some o → s'.heap.get? b = some o := fun hm hk b o e =>
    hm.heap b o (fun hb => by rw [hw0 b hb] at e; cases e) (hk b o e)
  intro k
  induction k with
  | zero =>
    intro i s hk hi st hkp j hR
    have e : i = n := by omega
    subst e
    refine codeAny_builtin F.entry_set_update_loop ?_
    rw [Around.under_plainId F.plain_set_update_loop _]
    show wpAny _ A.in1 (pyNext (.ref I) >>= _) _ _ s
    refine wpAny_bind (W.done s _ _ st fun s' hm => ?_)
    show wpAny _ A.in1 (ret Value.none) _ _ s'
    have hkp' := kept hm hkp
    exact wpAny_pure (hR s' (hm.mono fun b hb => List.mem_cons_of_mem _ hb) (gr.frame _ _ _ j (fun o e => hm.heap S o hSw e) hkp') hkp')
  | succ k ih =>
    intro i s hk hi st hkp j hR
    have lt : i < n := by omega
    refine codeAny_builtin F.entry_set_update_loop ?_
    rw [Around.under_plainId F.plain_set_update_loop _]
    show wpAny _ A.in1 (pyNext (.ref I) >>= _) _ _ s
    refine wpAny_bind (W.item i s _ _ lt st fun v s' hP st' hm => ?_)
    have hkp' := kept hm hkp
    have j' := gr.frame _ _ s'.heap j (fun o e => hm.heap S o hSw e) hkp'
    show wpAny _ A.in1 (holding [v] (setAdd S v) >>= _) _ _ s'
    refine wpAny_bind (wpAny_holding (gr.add i v A.in1 _ s' _ (val i v hP) j' hkp' (Nat.le_refl _) fun b h' tk le sb j2 => ?_))
    have hkp2 : ∀ b o, h0.get? b = some o → h'.get? b = some o := fun b o e => (sb.2 b (fun z => by rw [z, hS0] at e; cases e)).trans (hkp' b o e)
    refine wpAny_pure ⟨plainId_quiet F.plain_set_update_loop _, ih (i + 1) _ (by omega) lt (W.frame _ s' _ _ st' le fun c hc o e => ?_) hkp2 j2 fun s2 hm2 jn hkp3 => hR s2 (Moved.trans W.gtrans ((hm.mono fun b hb => List.mem_cons_of_mem _ hb).then_heap le fun c o hc e => ?_) hm2) jn hkp3⟩
    · exact (sb.2 c fun z => hSf (z ▸ hc)).trans e
    · exact (sb.2 c fun z => hc (z ▸ List.mem_cons_self)).trans e
set_option maxHeartbeats 3200000 in
/-- set(a list) -/
theorem set_call {s : Shared} {l : Addr} {items : Array Value} {J : Nat → Heap → Prop} {Q : Value → Shared → Prop} (hh : A.handled = none) (hl : s.heap.IsList l items) (gr : Grows P w (A.units + 3) s.heap.objs.size s.heap items.toList J)
    (start : ∀ h : Heap, h.get? s.heap.objs.size = some { cls := .type "set", dict := none, data := .set #[] 0 (.fresh 0 0 (!w.params.followText "set-order")) } → J 0 h)
    (h : ∀ (h' : Heap) (tk : Nat), J items.size h' → (∀ b o, s.heap.get? b = some o → h'.get? b = some o) → Q (.ref s.heap.objs.size) { s with heap := h', toks := tk }) : wpAny (model P w) A (call (.type "set") [.ref l]) Q E s := by
  obtain ⟨c, tl, hmro⟩ := F.called_set.mro
  have hmade := F.called_set.made
  have hsub := F.called_set.sub
  refine wpAny_call (codeAny_of_tree ?_)
  show wpAny _ _ (callAny (.type "set") _) _ _ _
  refine wpAny_pure ⟨Code.quiet_builtin _ (by decide +kernel), codeAny_builtin F.entry_type_call ?_⟩
  rw [Around.under_plain (weight_type_call_type "set" [.ref l] []) rfl]
  have h1 := F.called_set.notType
  have h2 := F.called_set.canCreate
  have hct := F.typeCall_set_1 (.ref l)
  repeat (any_goals (first | assumption | wp_step))

  obtain ⟨g0, hg0⟩ : ∃ g0, s.heap.push { cls := .type "set", dict := none, data := .set #[] 0 (.fresh 0 0 (!w.params.followText "set-order")) } = g0 := ⟨_, rfl⟩
  have hS : g0.get? s.heap.objs.size = some { cls := .type "set", dict := none, data := .set #[] 0 (.fresh 0 0 (!w.params.followText "set-order")) } := by rw [← hg0]; exact Heap.get?_push_size _ rfl
  have k0 : ∀ b o, s.heap.get? b = some o → g0.get? b = some o := fun b o e => by rw [← hg0]; exact Heap.get?_push_of_some _ e
  have z0 : g0.objs.size = s.heap.objs.size + 1 := by rw [← hg0]; exact Heap.size_push ..
  refine codeAny_mono (code_set_led1 (.ref l) (E := E) (Q₁ := fun obj s₁ => obj = .ref s.heap.objs.size ∧ s₁ = { s with heap := g0 }) ⟨rfl, by rw [hg0]⟩) fun r s₁ hr => ?_
  cases r with
  | error e => exact hr
  | ok fl =>
    cases fl with
    | ret obj =>
      obtain ⟨rfl, rfl⟩ := hr
      have hT : Shared.TypeIs { s with heap := g0 } (.ref s.heap.objs.size) "set" := ⟨_, hS, rfl⟩
      have hli := F.called_set.init.lookup
      have hbi := F.called_set.init.bind (.ref s.heap.objs.size)
      repeat (any_goals (first | assumption | wp_step))

      refine codeAny_mono (codeAny_call_builtin (R := wants (fun r s₂ => r = .none ∧ ∃ h' tk, s₂ = { s with heap := h', toks := tk } ∧ J items.size h' ∧ (∀ b o, s.heap.get? b = some o → h'.get? b = some o)) E) F.called_set.init.plain F.entry_set_init (check_set_init_1 hT ?_)) fun r₂ s₂ hr₂ => ?_
      · obtain ⟨ol, hol, hcl, nl, hdl⟩ := hl
        obtain ⟨ocls, odict, odata, oslots⟩ := ol
        simp only at hcl hdl
        subst hcl; subst hdl
        have hol' := k0 _ _ hol
        have hsls := F.sub_list_set
        have hslf := F.sub_list_frozenset
        have hne : (Value.type "list" == Value.type "dict") = false := by decide
        have hl1 : g0.IsList l items := ⟨_, hol', rfl, nl, rfl⟩
        unfold Builtin.«set.__init__» noKeywords Builtin.Frozenset.updateFrom
        generalize hPI : pyIter = PI
        wp_walk
        subst hPI

        refine wpAny_pyIter_list hl1 ?_
        refine wpAny_bind (wpAny_runValue ?_)
        have hlS : l < s.heap.objs.size := Heap.lt_size hol
        have hh3 : A.in1.in1.in1.handled = none := by simp [hh]
        have hneI : l ≠ g0.objs.size := by rw [z0]; exact Nat.ne_of_lt (Nat.lt_succ_of_lt hlS)
        have hSf : s.heap.objs.size ∉ [g0.objs.size, l] := by
          rw [z0]; simp only [List.mem_cons, List.not_mem_nil, or_false, not_or]
          exact ⟨Nat.ne_of_lt (Nat.lt_succ_self _), Nat.ne_of_gt hlS⟩
        have none_of : ∀ b, s.heap.objs.size ≤ b → s.heap.get? b = none := fun b hb => by
          cases q : s.heap.get? b with
          | none => rfl
          | some o => exact absurd (Nat.lt_of_lt_of_le (Heap.lt_size q) hb) (Nat.lt_irrefl _)
        refine set_loop ((Walks.list hh3 _ l hneI items).toS) s.heap.objs.size hSf (by simp) (fun i v hv => by rw [Array.getElem?_toList]; exact hv) s.heap gr (none_of _ (Nat.le_refl _)) (fun b hb => none_of b (by
            rw [List.mem_singleton.mp hb, z0]
            exact Nat.le_succ _)) (items.size - 0) 0 _ (by omega) (Nat.zero_le _)
          ⟨⟨_, Heap.get?_push_size _ rfl, rfl, rfl⟩, (hl1.push _)⟩ (fun b o e => Heap.get?_push_of_some _ (k0 b o e)) (start _ (Heap.get?_push_of_some _ hS)) fun s' hm jn hkp => ?_
        obtain ⟨h', g2, d', tk', os'⟩ := s'
        have eg : g2 = s.gens := hm.gens
        have ed : d' = s.drawn := hm.drawn
        have eo : os' = s.os := hm.os
        subst eg; subst ed; subst eo
        show wpAny _ _ _ _ _ _
        refine wpAny_pure ?_
        show wpAny _ _ (ret Value.none) _ _ _
        exact wpAny_pure ⟨rfl, h', tk', rfl, jn, hkp⟩
      · cases r₂ with
        | error e => exact hr₂
        | ok fl₂ =>
          cases fl₂ with
          | ret r =>
            obtain ⟨rfl, h', tk, rfl, jn, hk'⟩ := hr₂
            repeat (any_goals (first | assumption | wp_step))
            exact h _ _ jn hk'
          | _ => exact hr₂.elim
    | _ => exact hr.elim
set_option maxHeartbeats 3200000 in
/-- set(a tuple) -/
theorem set_callT {s : Shared} {l : Addr} {items : Array Value} {J : Nat → Heap → Prop} {Q : Value → Shared → Prop} (hh : A.handled = none) (hl : s.heap.IsTuple l items) (gr : Grows P w (A.units + 3) s.heap.objs.size s.heap items.toList J)
    (start : ∀ h : Heap, h.get? s.heap.objs.size = some { cls := .type "set", dict := none, data := .set #[] 0 (.fresh 0 0 (!w.params.followText "set-order")) } → J 0 h)
    (h : ∀ (h' : Heap) (tk : Nat), J items.size h' → (∀ b o, s.heap.get? b = some o → h'.get? b = some o) → Q (.ref s.heap.objs.size) { s with heap := h', toks := tk }) : wpAny (model P w) A (call (.type "set") [.ref l]) Q E s := by
  obtain ⟨c, tl, hmro⟩ := F.called_set.mro
  have hmade := F.called_set.made
  have hsub := F.called_set.sub
  refine wpAny_call (codeAny_of_tree ?_)
  show wpAny _ _ (callAny (.type "set") _) _ _ _
  refine wpAny_pure ⟨Code.quiet_builtin _ (by decide +kernel), codeAny_builtin F.entry_type_call ?_⟩
  rw [Around.under_plain (weight_type_call_type "set" [.ref l] []) rfl]
  have h1 := F.called_set.notType
  have h2 := F.called_set.canCreate
  have hct := F.typeCall_set_1 (.ref l)
  repeat (any_goals (first | assumption | wp_step))

  obtain ⟨g0, hg0⟩ : ∃ g0, s.heap.push { cls := .type "set", dict := none, data := .set #[] 0 (.fresh 0 0 (!w.params.followText "set-order")) } = g0 := ⟨_, rfl⟩
  have hS : g0.get? s.heap.objs.size = some { cls := .type "set", dict := none, data := .set #[] 0 (.fresh 0 0 (!w.params.followText "set-order")) } := by rw [← hg0]; exact Heap.get?_push_size _ rfl
  have k0 : ∀ b o, s.heap.get? b = some o → g0.get? b = some o := fun b o e => by rw [← hg0]; exact Heap.get?_push_of_some _ e
  have z0 : g0.objs.size = s.heap.objs.size + 1 := by rw [← hg0]; exact Heap.size_push ..
  refine codeAny_mono (code_set_led1 (.ref l) (E := E) (Q₁ := fun obj s₁ => obj = .ref s.heap.objs.size ∧ s₁ = { s with heap := g0 }) ⟨rfl, by rw [hg0]⟩) fun r s₁ hr => ?_
  cases r with
  | error e => exact hr
  | ok fl =>
    cases fl with
    | ret obj =>
      obtain ⟨rfl, rfl⟩ := hr
      have hT : Shared.TypeIs { s with heap := g0 } (.ref s.heap.objs.size) "set" := ⟨_, hS, rfl⟩
      have hli := F.called_set.init.lookup
      have hbi := F.called_set.init.bind (.ref s.heap.objs.size)
      repeat (any_goals (first | assumption | wp_step))

      refine codeAny_mono (codeAny_call_builtin (R := wants (fun r s₂ => r = .none ∧ ∃ h' tk, s₂ = { s with heap := h', toks := tk } ∧ J items.size h' ∧ (∀ b o, s.heap.get? b = some o → h'.get? b = some o)) E) F.called_set.init.plain F.entry_set_init (check_set_init_1 hT ?_)) fun r₂ s₂ hr₂ => ?_
      · obtain ⟨ol, hol, hcl, nl, hdl⟩ := hl
        obtain ⟨ocls, odict, odata, oslots⟩ := ol
        simp only at hcl hdl
        subst hcl; subst hdl
        have hol' := k0 _ _ hol
        have hsls := F.sub_tuple_set
        have hslf := F.sub_tuple_frozenset
        have hne : (Value.type "tuple" == Value.type "dict") = false := by decide
        have hl1 : g0.IsTuple l items := ⟨_, hol', rfl, nl, rfl⟩
        unfold Builtin.«set.__init__» noKeywords Builtin.Frozenset.updateFrom
        generalize hPI : pyIter = PI
        wp_walk
        subst hPI

        refine wpAny_pyIter_tuple hl1 ?_
        refine wpAny_bind (wpAny_runValue ?_)
        have hlS : l < s.heap.objs.size := Heap.lt_size hol
        have hh3 : A.in1.in1.in1.handled = none := by simp [hh]
        have hneI : l ≠ g0.objs.size := by rw [z0]; exact Nat.ne_of_lt (Nat.lt_succ_of_lt hlS)
        have hSf : s.heap.objs.size ∉ [g0.objs.size, l] := by
          rw [z0]; simp only [List.mem_cons, List.not_mem_nil, or_false, not_or]
          exact ⟨Nat.ne_of_lt (Nat.lt_succ_self _), Nat.ne_of_gt hlS⟩
        have none_of : ∀ b, s.heap.objs.size ≤ b → s.heap.get? b = none := fun b hb => by
          cases q : s.heap.get? b with
          | none => rfl
          | some o => exact absurd (Nat.lt_of_lt_of_le (Heap.lt_size q) hb) (Nat.lt_irrefl _)
        refine set_loop ((Walks.tuple hh3 _ l hneI items).toS) s.heap.objs.size hSf (by simp) (fun i v hv => by rw [Array.getElem?_toList]; exact hv) s.heap gr (none_of _ (Nat.le_refl _)) (fun b hb => none_of b (by
            rw [List.mem_singleton.mp hb, z0]
            exact Nat.le_succ _)) (items.size - 0) 0 _ (by omega) (Nat.zero_le _)
          ⟨⟨_, Heap.get?_push_size _ rfl, rfl, rfl⟩, (hl1.push _)⟩ (fun b o e => Heap.get?_push_of_some _ (k0 b o e)) (start _ (Heap.get?_push_of_some _ hS)) fun s' hm jn hkp => ?_
        obtain ⟨h', g2, d', tk', os'⟩ := s'
        have eg : g2 = s.gens := hm.gens
        have ed : d' = s.drawn := hm.drawn
        have eo : os' = s.os := hm.os
        subst eg; subst ed; subst eo
        show wpAny _ _ _ _ _ _
        refine wpAny_pure ?_
        show wpAny _ _ (ret Value.none) _ _ _
        exact wpAny_pure ⟨rfl, h', tk', rfl, jn, hkp⟩
      · cases r₂ with
        | error e => exact hr₂
        | ok fl₂ =>
          cases fl₂ with
          | ret r =>
            obtain ⟨rfl, h', tk, rfl, jn, hk'⟩ := hr₂
            repeat (any_goals (first | assumption | wp_step))
            exact h _ _ jn hk'
          | _ => exact hr₂.elim
    | _ => exact hr.elim
theorem set_callA {s : Shared} {l : Addr} {items : Array Value} {J : Nat → Heap → Prop} {Q : Value → Shared → Prop} (hh : A.handled = none) (hl : s.heap.IsList l items ∨ s.heap.IsTuple l items) (gr : Grows P w (A.units + 3) s.heap.objs.size s.heap items.toList J)
    (start : ∀ h : Heap, h.get? s.heap.objs.size = some { cls := .type "set", dict := none, data := .set #[] 0 (.fresh 0 0 (!w.params.followText "set-order")) } → J 0 h)
    (h : ∀ (h' : Heap) (tk : Nat), J items.size h' → (∀ b o, s.heap.get? b = some o → h'.get? b = some o) → Q (.ref s.heap.objs.size) { s with heap := h', toks := tk }) : wpAny (model P w) A (call (.type "set") [.ref l]) Q E s :=
  hl.elim (fun hl => set_call hh hl gr start h) (fun hl => set_callT hh hl gr start h)
end
end MP.Dk

/-! MPu: sets of texts over the bare heap; a set with its members, gathered. -/
namespace MP.Dk
open PySem PySem.Spec PyProof.Rows L2
/-- a set of texts with its rows -/
def TSet (w : World) (h : Heap) (a : Addr) (L : List Row) : Prop :=
  ∃ o es ep t, h.get? a = some o ∧ o.ExactSet ∧ o.data = .set es ep t ∧ es.toList.Perm (rowsN w L) ∧ (∀ p ∈ L, ∃ z tk, p.1 = .text z ∧ p.2 = .str z tk) ∧ (L.map (·.1)).Nodup ∧
    es.size < scanBound ∧ t.fits es.size = true ∧ Ris t.place.toList ∧ (w.params.followText "set-order" = true ∨ t.led = true)
/-- a set whose members may be gathered -/
def CSet (w : World) (h : Heap) (a : Addr) (us : List Value) : Prop :=
  ∃ es ep t, SetAt h a es ep t ∧ (∃ o, h.get? a = some o ∧ o.ExactSet ∧ o.data = .set es ep t) ∧ t.fits es.size = true ∧ es.size < 4096 ∧ Ris t.place.toList ∧ (w.params.followText "set-order" = true ∨ t.led = true) ∧ (es.toList.map (·.2)).Perm us
section
variable {P : Program} {w : World} {A : Around} {E : Value → Shared → Prop} {s : Shared} {a : Addr} {L : List Row} {es : Array (Int × Value)} {ep : Nat} {t : SetTable} {h : Heap}
theorem rows_vals (L : List Row) : (rowsN w L).map (·.2) = L.map (·.2) := by
  rw [rowsN, List.map_map]; rfl
theorem NSet.cset (R : NSet w s.heap a L es ep t) : CSet w s.heap a (L.map (·.2)) := by
  obtain ⟨o, h1, h2, h3⟩ := R.ob
  have sz := R.sz
  have ft := R.fits
  have fw := R.few
  exact ⟨es, ep, t, ⟨o, h1, h2.1, h3⟩, ⟨o, h1, h2, h3⟩, ft, by omega, R.tab.ris, R.led, by rw [R.rows, rows_vals]⟩
theorem TSet.cset (R : TSet w h a L) : CSet w h a (L.map (·.2)) := by
  obtain ⟨o, es, ep, t, h1, h2, h3, h4, _, _, h5, h6, h7, h8⟩ := R
  have h5 : es.size < 4096 := h5
  exact ⟨es, ep, t, ⟨o, h1, h2.1, h3⟩, ⟨o, h1, h2, h3⟩, h6, h5, h7, h8, by rw [← rows_vals (w := w)]; exact h4.map _⟩
theorem t_elems {l : List (Int × Value)} (p : l.Perm (rowsN w L)) (g : ∀ p ∈ L, ∃ z tk, p.1 = .text z ∧ p.2 = .str z tk) : ElemsOf (strKind P w) l := fun e he => by
  obtain ⟨q, hq, eq⟩ := List.mem_map.mp (p.mem_iff.mp he)
  obtain ⟨z, tk, e1, e2⟩ := g q hq
  subst eq
  refine ⟨⟨z, ?_, ?_⟩, ?_⟩
  · show (strKind P w).is z q.2 = true
    rw [e2]; exact strKind_is P w z tk
  · show q.1.hash w = _
    rw [e1]; rfl
  · show q.2.scannable = true
    rw [e2]; rfl
theorem t_mem {l : List (Int × Value)} (p : l.Perm (rowsN w L)) (g : ∀ p ∈ L, ∃ z tk, p.1 = .text z ∧ p.2 = .str z tk) (z : Str) : NestedKey.text z ∈ L.map (·.1) ↔ ∃ e ∈ l, (strKind P w).is z e.2 = true := by
  constructor
  · intro hm
    obtain ⟨q, hq, e⟩ := List.mem_map.mp hm
    obtain ⟨z', tk, e1, e2⟩ := g q hq
    rw [e1] at e; cases e
    refine ⟨(q.1.hash w, q.2), p.mem_iff.mpr (List.mem_map.mpr ⟨q, hq, rfl⟩), ?_⟩
    show (strKind P w).is z q.2 = true
    rw [e2]; exact strKind_is P w z tk
  · rintro ⟨e, he, ei⟩
    obtain ⟨q, hq, eq⟩ := List.mem_map.mp (p.mem_iff.mp he)
    obtain ⟨z', tk, e1, e2⟩ := g q hq
    subst eq
    have ei : (strKind P w).is z q.2 = true := ei
    have : z' = z := by
      rw [e2] at ei
      have ei : Value.isStrOf z (Value.str z' tk) = true := ei
      obtain ⟨t, ht⟩ := Value.isStrOf_shape ei
      injection ht
    exact List.mem_map.mpr ⟨q, hq, by rw [e1, this]⟩
theorem ts_add_tail {g : Bool → Sem Unit} (hg : ∀ (b : Bool) (s₁ : Shared) (Q' : Unit → Shared → Prop), Q' () s₁ → wpAny (model P w) A (g b) Q' E s₁)
    {o : Obj} (ho : s.heap.get? a = some o) (hex : o.ExactSet) (hd : o.data = .set es ep t)
    {es1 : Array (Int × Value)} {t2 : SetTable} (pm1 : es1.toList.Perm (rowsN w L)) (g1 : ∀ p ∈ L, ∃ z tk, p.1 = .text z ∧ p.2 = .str z tk) (nd1 : (L.map (·.1)).Nodup)
    (hb1 : es1.size < scanBound) (hf2 : t2.fits es1.size = true) (hr : Ris t2.place.toList) (hl : w.params.followText "set-order" = true ∨ t2.led = true) {wasDummy : Bool} {R : Option Bool → Shared → Prop}
    (hR : ∀ h', Heap.SameBut a s.heap h' → TSet w h' a L → R (some true) { s with heap := h' }) :
    wpAny (model P w) A (do
        storeSet a es1 t2
        if (!wasDummy && t2.tooFull) = true then do
            g (relayAll t2 es1 (SetTable.grown es1.size)).2.2
            storeSet a (relayAll t2 es1 (SetTable.grown es1.size)).1 (relayAll t2 es1 (SetTable.grown es1.size)).2.1
            pure (some true)
          else pure (some true)) R E s := by
  refine wpAny_bind (wpAny_storeSet_of ho hd ?_ (fits_of_scanBound hb1))
  have ho1 := store_at (es' := es1) (t' := t2) ho hd
  have sb1 := Heap.SameBut.update s.heap a (Obj.putSet es1 t2)
  split
  · have pm := relayAll_perm t2 es1 (SetTable.grown es1.size)
    have hf3 := relayAll_fits t2 es1 (SetTable.grown es1.size)
    have hr3 := relayAll_ris t2 es1 (SetTable.grown es1.size)
    have hl3 := relayAll_led t2 es1 (SetTable.grown es1.size)
    generalize relayAll t2 es1 (SetTable.grown es1.size) = Z at pm hf3 hr3 hl3 ⊢
    obtain ⟨es2, t3, gave⟩ := Z
    dsimp only at pm hf3 hr3 hl3 ⊢
    have hsz : es2.size = es1.size := by rw [← Array.length_toList, pm.length_eq, Array.length_toList]
    have hb2 : es2.size < scanBound := by rw [hsz]; exact hb1
    refine wpAny_bind (hg _ _ _ ?_)
    refine wpAny_bind (wpAny_storeSet_of ho1 rfl ?_ (fits_of_scanBound hb2))
    have ho2 := store_at (es' := es2) (t' := t3) ho1 rfl
    refine wpAny_pure (hR _ (sb1.trans (Heap.SameBut.update _ a _)) ?_)
    exact ⟨_, es2, _, t3, ho2, hex, rfl, pm.trans pm1, g1, nd1, hb2, hf3, hr3, hl.imp id fun z => by rw [hl3]; exact z⟩
  · exact wpAny_pure (hR _ sb1 ⟨_, es1, _, t2, ho1, hex, rfl, pm1, g1, nd1, hb1, hf2, hr, hl⟩)
theorem ts_add {z : Str} {tk : Tok} {Q : Bool → Shared → Prop} (R : TSet w s.heap a L) (few : L.length + 1 < 64)
    (hQ : ∀ b h' L', Heap.SameBut a s.heap h' → TSet w h' a L' → (NestedKey.text z ∈ L.map (·.1) → L' = L) → (NestedKey.text z ∉ L.map (·.1) → L' = (.text z, .str z tk) :: L) → Q b { s with heap := h' }) :
    wpAny (model P w) A (setAddHashed a (.str z tk) ((strKind P w).hash z)) Q E s := by
  obtain ⟨o, es, ep, t, ho, hex, hd, pm0, g, nd, hb, hf, hr, hl⟩ := R
  have hkey : (strKind P w).is z (.str z tk) = true := strKind_is P w z tk
  have hsc : (Value.str z tk).scannable = true := rfl
  have hel : ElemsOf (strKind P w) es.toList := t_elems pm0 g
  have len0 : es.size = L.length := by rw [← Array.length_toList, pm0.length_eq, rowsN, List.length_map]
  unfold setAddHashed setAddHashedIn
  refine wpAny_holding (wpAny_bind (wpAny_setState_of ho hd hf ?_))
  dsimp only
  rw [byScan_of hsc hb hel]
  simp only [↓reduceIte]
  unfold setAddByScan
  refine wpAny_bind ?_
  refine wpAny_bind (wpAny_rule ?_)
  refine wpAny_bind (wpAny_setScan_of hkey ho hd hf hel ?_)
  cases hfi : List.findIdx? (fun e => (strKind P w).is z e.2) es.toList with
  | some j =>
    dsimp only
    obtain ⟨hj, pj, _⟩ := List.findIdx?_eq_some_iff_getElem.mp hfi
    have hm : NestedKey.text z ∈ L.map (·.1) := (t_mem (P := P) (w := w) pm0 g z).2 ⟨es.toList[j], List.getElem_mem hj, pj⟩
    refine wpAny_pure (wpAny_pure ?_)
    exact hQ false s.heap L (Heap.SameBut.refl a s.heap) ⟨o, es, ep, t, ho, hex, hd, pm0, g, nd, hb, hf, hr, hl⟩ (fun _ => rfl) fun q => absurd hm q
  | none =>
    dsimp only
    have hnk : NestedKey.text z ∉ L.map (·.1) := fun y => by
      obtain ⟨e, he, q⟩ := (t_mem (P := P) (w := w) pm0 g z).1 y
      have c := List.findIdx?_eq_none_iff.mp hfi e he
      rw [q] at c
      cases c
    have hgw : ∀ (b : Bool) {s₁ : Shared} {Q' : Unit → Shared → Prop}, Q' () s₁ → wpAny (model P w) A (match b with | true => rule "set.scan.the-table-gave-way" | false => pure ()) Q' E s₁ :=
      fun b s₁ Q' q => by cases b <;> first | exact wpAny_pure q | exact wpAny_rule q
    have pm := layNew_perm t es ((strKind P w).hash z) (.str z tk)
    have hf1 := layNew_fits t es ((strKind P w).hash z) (.str z tk)
    have hr1 := layNew_ris t es ((strKind P w).hash z) (.str z tk) hr
    have hl1 := layNew_led t es ((strKind P w).hash z) (.str z tk)
    generalize layNew t es ((strKind P w).hash z) (.str z tk) = Z at pm hf1 hr1 hl1 ⊢
    obtain ⟨es1, t1, wasDummy, gave⟩ := Z
    dsimp only at pm hf1 hr1 hl1 ⊢
    rw [Array.toList_push] at pm
    have pc : es1.toList.Perm (rowsN w ((.text z, .str z tk) :: L)) := (pm.trans (List.perm_append_singleton _ _)).trans (pm0.cons _)
    have g1 : ∀ p ∈ ((NestedKey.text z, Value.str z tk) :: L : List Row), ∃ z tk, p.1 = .text z ∧ p.2 = .str z tk := fun p hp => by
      rcases List.mem_cons.mp hp with y | y
      · rw [y]; exact ⟨z, tk, rfl, rfl⟩
      · exact g p y
    have nd1 : (((NestedKey.text z, Value.str z tk) :: L : List Row).map (·.1)).Nodup := List.nodup_cons.mpr ⟨hnk, nd⟩
    have hsz : es1.size = L.length + 1 := by rw [← Array.length_toList, pc.length_eq, rowsN, List.length_map, List.length_cons]
    have hb1 : es1.size < scanBound := by rw [hsz]; show L.length + 1 < 4096; omega
    have hled : w.params.followText "set-order" = true ∨ t1.led = true := hl.imp id fun z => by rw [hl1]; exact z
    have fin : ∀ h', Heap.SameBut a s.heap h' → TSet w h' a ((.text z, .str z tk) :: L) → Q true { s with heap := h' } := fun h' sb r => hQ true h' _ sb r (fun q => absurd q hnk) fun _ => rfl
    refine wpAny_bind (hgw _ ?_)
    split
    · refine wpAny_bind ?_
      rw [hashByValue_scannable 8 hsc]
      refine wpAny_pure ?_
      refine ts_add_tail ?_ ho hex hd pc g1 nd1 hb1 ?_ ?_ ?_ ?_
      · intro b s₁ Q' q; cases b <;> first | exact wpAny_pure q | exact wpAny_rule q
      · first | (split <;> first | exact hf1 | exact SetTable.fits_plain_off hf1) | exact hf1
      · first | (split <;> exact hr1) | exact hr1
      · first | (split <;> exact hled) | exact hled
      · intro h' sb r; dsimp only; exact wpAny_pure (fin h' sb r)
    · refine wpAny_bind (wpAny_pure ?_)
      simp only [↓reduceIte]
      refine ts_add_tail ?_ ho hex hd pc g1 nd1 hb1 hf1 hr1 hled ?_
      · intro b s₁ Q' q; cases b <;> first | exact wpAny_pure q | exact wpAny_rule q
      · intro h' sb r; dsimp only; exact wpAny_pure (fin h' sb r)
theorem ts_start (h : Heap) (e : h.get? a = some { cls := .type "set", dict := none, data := .set #[] 0 (.fresh 0 0 (!w.params.followText "set-order")) }) : TSet w h a [] := by
  refine ⟨_, #[], 0, _, e, ⟨rfl, rfl, rfl⟩, rfl, List.Perm.refl _, fun _ x => (nomatch x), List.nodup_nil, by show (0 : Nat) < 4096; decide, by cases w.params.followText "set-order" <;> decide +kernel, ?_, ?_⟩
  · exact List.Pairwise.nil
  · cases w.params.followText "set-order" <;> simp [SetTable.fresh]
theorem ns_start (h : Heap) (e : h.get? a = some { cls := .type "set", dict := none, data := .set #[] 0 (.fresh 0 0 (!w.params.followText "set-order")) }) : ∃ es ep t, NSet w h a [] es ep t := by
  refine ⟨#[], 0, _, ⟨_, e, ⟨rfl, rfl, rfl⟩, rfl⟩, rfl, ?_, List.nodup_nil, fun _ x => (nomatch x), ?_, by show 0 * 5 < (SetTable.fresh 0 0 _).mask * 3; simp [SetTable.fresh], by decide⟩
  · exact ⟨List.Pairwise.nil, rfl, rfl, .inl rfl, fun _ x => (nomatch x), fun i h j x => (nomatch x)⟩
  · cases w.params.followText "set-order" <;> simp [SetTable.fresh]
end
end MP.Dk

/-! MP29: sorted(set(x)), len(set(x)), x a list of texts or of tuples. -/
namespace MP
open PySem PySem.Spec PySem.W PySem.Calls PyProof.Rows L2 Dk
theorem each_get {α β : Type} {R : α → β → Prop} : ∀ {as : List α} {bs : List β} {i : Nat} {a : α}, EachIs R as bs → as[i]? = some a → ∃ b, bs[i]? = some b ∧ R a b
  | _, _, _, _, .nil, h => by simp at h
  | _, _, 0, _, .cons r t, h => by simp at h; subst h; exact ⟨_, rfl, r⟩
  | _, _, i + 1, _, .cons r t, h => by
    simp only [List.getElem?_cons_succ] at h ⊢
    exact each_get t h
theorem each_perm {α β : Type} {R : α → β → Prop} {as as' : List α} (p : as'.Perm as) : ∀ {bs : List β}, EachIs R as bs → ∃ bs' : List β, bs'.Perm bs ∧ EachIs R as' bs' := by
  induction p with
  | nil => intro bs h; exact ⟨bs, List.Perm.refl _, h⟩
  | cons x _ ih =>
    intro bs h
    cases h with
    | cons r t =>
      obtain ⟨bs', p', h'⟩ := ih t
      exact ⟨_ :: bs', p'.cons _, .cons r h'⟩
  | swap x y l =>
    intro bs h
    cases h with
    | cons r t =>
      cases t with
      | cons r2 t2 => exact ⟨_ :: _ :: _, List.Perm.swap _ _ _, .cons r2 (.cons r t2)⟩
  | trans _ _ ih1 ih2 =>
    intro bs h
    obtain ⟨b1, p1, h1⟩ := ih2 h
    obtain ⟨b2, p2, h2⟩ := ih1 h1
    exact ⟨b2, p2.trans p1, h2⟩
theorem dputs_app : ∀ (kvs a b : List (D × D)), dputs kvs (a ++ b) = dputs (dputs kvs a) b
  | _, [], _ => rfl
  | kvs, (k, v) :: a, b => dputs_app (dput kvs k v) a b
theorem dput_fst (kvs : List (D × D)) (k v : D) : (dput kvs k v).map (·.1) = if ((kvs.map (·.1)).any fun p => keyEq p k) = true then kvs.map (·.1) else kvs.map (·.1) ++ [k] := by
  have e : (kvs.any fun p => keyEq p.1 k) = ((kvs.map (·.1)).any fun p => keyEq p k) := by rw [List.any_map]; rfl
  unfold dput
  rw [e]
  split
  · rw [List.map_map]
    apply List.map_congr_left
    intro p _
    show (if keyEq p.1 k = true then (p.1, v) else p).1 = p.1
    split <;> rfl
  · rw [List.map_append]; rfl
theorem dedup_snoc (xs : List D) (x : D) : dedup (xs ++ [x]) = if ((dedup xs).any fun p => keyEq p x) = true then dedup xs else dedup xs ++ [x] := by
  unfold dedup
  rw [List.map_append, dputs_app]
  exact dput_fst _ _ _
theorem dedup_len (xs : List D) : (dedup xs).length ≤ xs.length := by
  suffices h : ∀ ys : List D, (dedup ys.reverse).length ≤ ys.length by
    have := h xs.reverse
    rwa [List.reverse_reverse, List.length_reverse] at this
  intro ys
  induction ys with
  | nil => exact Nat.le_refl _
  | cons y r ih =>
    rw [List.reverse_cons, dedup_snoc]
    split
    · exact Nat.le_trans ih (Nat.le_succ _)
    · rw [List.length_append]; exact Nat.succ_le_succ ih
/-- the rows of the first items -/
def Fst (S : Sx) (c : Cf) (L0 : List Dk.Row) (ds : List D) : Prop := EachIs (fun (p : Dk.Row) d => keyOf d = some p.1 ∧ okKey d = true ∧ RR S c p.2 d) L0 ds
theorem fst_any {S : Sx} {c : Cf} {d : D} {k : NestedKey} (hk : keyOf d = some k) : ∀ {L0 : List Dk.Row} {ds : List D}, Fst S c L0 ds → ((ds.any fun p => keyEq p d) = true ↔ k ∈ L0.map (·.1))
  | _, _, .nil => by simp
  | _, _, .cons (a := p) (b := e) ⟨h1, _, _⟩ t => by
    rw [List.any_cons, Bool.or_eq_true, fst_any hk t, List.map_cons, List.mem_cons, keyEq_dec h1 hk, decide_eq_true_eq]
    exact ⟨fun z => z.imp (fun y => y.symm) id, fun z => z.imp (fun y => y.symm) id⟩
theorem fst_vals {S : Sx} {c : Cf} : ∀ {L0 : List Dk.Row} {ds : List D}, Fst S c L0 ds → EachIs (RR S c) (L0.map (·.2)) ds
  | _, _, .nil => .nil
  | _, _, .cons ⟨_, _, r⟩ t => .cons r (fst_vals t)
section
variable {P : Program} {S : Sx} {w : World} {c : Cf} {a : Addr} {h0 : Heap} {u0 : Nat}
/-- what holds of the set while it is filled -/
def Js (S : Sx) (c : Cf) (Kd : Heap → List Dk.Row → Prop) (ds : List D) (i : Nat) (h : Heap) : Prop := ∃ L L0 : List Dk.Row, Kd h L ∧ L.Perm L0 ∧ Fst S c L0 (dedup (ds.take i))
theorem grows_of {Kd : Heap → List Dk.Row → Prop} {its : List Value} {ds : List D} (n64 : ds.length < 64) (er : EachIs (RR S c) its ds) (ok : ∀ d ∈ ds, okKey d = true)
    (kh : ∀ d k u, keyOf d = some k → okKey d = true → RR S c u d → KeyHere h0 k u)
    (fr : ∀ h h' L, Kd h L → (∀ p ∈ L, KeyHere h0 p.1 p.2) → (∀ o, h.get? a = some o → h'.get? a = some o) → (∀ b o, h0.get? b = some o → h'.get? b = some o) → Kd h' L)
    (ad : ∀ (d : D) (k : NestedKey) (u : Value) (L : List Dk.Row) (A : Around) (E : Value → Shared → Prop) (s : Shared) (Q : Bool → Shared → Prop), d ∈ ds → keyOf d = some k → RR S c u d → KeyHere h0 k u → Kd s.heap L → (∀ b o, h0.get? b = some o → s.heap.get? b = some o) → A.units ≤ u0 → L.length + 1 < 64 →
      (∀ b h' tk L', s.toks ≤ tk → Heap.SameBut a s.heap h' → Kd h' L' → (k ∈ L.map (·.1) → L' = L) → (k ∉ L.map (·.1) → L'.Perm ((k, u) :: L)) → Q b { s with heap := h', toks := tk }) → wpAny (model P w) A (setAdd a u) Q E s) :
    Grows P w u0 a h0 its (Js S c Kd ds) where
  frame := fun i h h' ⟨L, L0, k1, pm, f⟩ e1 e2 => ⟨L, L0, fr h h' L k1 (fun p hp => by
    obtain ⟨d, _, z1, z2, z3⟩ := EachIs.left f p (pm.mem_iff.mp hp)
    exact kh d p.1 p.2 z1 z2 z3) e1 e2, pm, f⟩
  add := fun i v A E s Q hv ⟨L, L0, k1, pm, f⟩ keep hA q => by
    obtain ⟨d, hd, r⟩ := each_get er hv
    have hd' : d ∈ ds := List.mem_of_getElem? hd
    obtain ⟨k, hk, _⟩ := okKey_some (ok d hd')
    have il : i < ds.length := (List.getElem?_eq_some_iff.mp hd).1
    have ll : L.length + 1 < 64 := by
      have e1 := EachIs.length f
      have e2 := dedup_len (ds.take i)
      rw [List.length_take] at e2
      have e3 := pm.length_eq
      omega
    have tk : ds.take (i + 1) = ds.take i ++ [d] := by rw [List.take_succ, hd]; rfl
    refine ad d k v L A E s Q hd' hk r (kh d k v hk (ok d hd') r) k1 keep hA ll fun b h' tk' L' le sb k2 y n => q b h' tk' le sb ?_
    unfold Js
    rw [tk, dedup_snoc]
    by_cases m : k ∈ L.map (·.1)
    · have m0 : k ∈ L0.map (·.1) := (pm.map _).mem_iff.mp m
      rw [if_pos ((fst_any hk f).mpr m0)]
      rw [y m] at k2
      exact ⟨L, L0, k2, pm, f⟩
    · have m0 : ¬ k ∈ L0.map (·.1) := fun z => m ((pm.map _).mem_iff.mpr z)
      rw [if_neg fun z => m0 ((fst_any hk f).mp z)]
      refine ⟨L', L0 ++ [(k, v)], k2, (n m).trans (((pm.cons _).trans (List.perm_append_singleton _ _).symm)), each_snoc' f ⟨hk, ok d hd', r⟩⟩
/-- the two kinds of sets -/
def KdT (w : World) (a : Addr) (h : Heap) (L : List Dk.Row) : Prop := ∃ es ep t, NSet w h a L es ep t
def KdS (w : World) (a : Addr) (h : Heap) (L : List Dk.Row) : Prop := TSet w h a L
theorem kdT_frame {h h' : Heap} {L : List Dk.Row} (x : KdT w a h L) (kh : ∀ p ∈ L, KeyHere h0 p.1 p.2) (e1 : ∀ o, h.get? a = some o → h'.get? a = some o) (e2 : ∀ b o, h0.get? b = some o → h'.get? b = some o) : KdT w a h' L := by
  obtain ⟨es, ep, t, R⟩ := x
  obtain ⟨o, h1, h2, h3⟩ := R.ob
  exact ⟨es, ep, t, ⟨o, e1 o h1, h2, h3⟩, R.rows, R.tab, R.nd, fun p hp => ⟨⟨NestedIs.at (fun b ob vs n hb _ => (e2 b ob hb)) p.1 p.2 (kh p hp).1, (kh p hp).2⟩, (R.key p hp).2⟩, R.led, R.room, R.few⟩
theorem kdS_frame {h h' : Heap} {L : List Dk.Row} (x : KdS w a h L) (e1 : ∀ o, h.get? a = some o → h'.get? a = some o) : KdS w a h' L := by
  obtain ⟨o, es, ep, t, h1, r⟩ := x
  exact ⟨o, es, ep, t, e1 o h1, r⟩
end
section
variable {X : Cx} {S : Sx} {cf : CF} {k : Nat}
theorem lstl_at (hK : X.K = S.K) {c0 c : Cf} {x : MP.X} {v : V} {u : Value} {ds : List D} {pins : List (Addr × Obj)} {σ : L2.St} {s : Shared} (I : Inv X pins σ c.H s) (hh : Held S c) (rx : RepX S c0 c x v) (ru : RelV v u) (e : lstX x c.h = some ds) :
    ∃ (l : Addr) (its : Array Value), u = .ref l ∧ (s.heap.IsList l its ∨ s.heap.IsTuple l its) ∧ EachIs (RR S c) its.toList ds := by
  unfold lstX at e
  split at e
  · rename_i xs hn
    cases e
    obtain ⟨l, vs, rfl, hp, rs⟩ := norm_lst hh rx hn
    obtain ⟨hz, its, n, rv, hl⟩ := (show ObjOk X.prog X.w c.H s.heap l (.lst vs) from I.hok l _ hp)
    cases (show u = Value.ref l from ru)
    exact ⟨l, its.toArray, rfl, .inl ⟨_, hl, rfl, n, rfl⟩, by rw [List.toList_toArray]; exact rr_of rs rv⟩
  · rename_i xs hn
    cases e
    obtain ⟨l, vs, rfl, hp, rs⟩ := (norm_rep hh rx hn).tup hK
    obtain ⟨its, rv, ht, hz⟩ := I.tuple hp
    cases (show u = Value.ref l from ru)
    exact ⟨l, its.toArray, rfl, .inr ht, by rw [List.toList_toArray]; exact rr_of rs rv⟩
  · cases e
/-- set(x): a set with the first items of their kinds -/
theorem set_made (C : Ctx X S k) {c0 c : Cf} {x : MP.X} {v : V} {u : Value} {ds : List D} {pins : List (Addr × Obj)} {σ : L2.St} {s : Shared} {E : Value → Shared → Prop} {Q : Value → Shared → Prop} (I : Inv X pins σ c.H s) (hh : Held S c) (rx : RepX S c0 c x v) (ru : RelV v u) (e : lstX x c.h = some ds) (ok : okSet ds)
    (h : ∀ (a : Addr) (us : List Value) (h' : Heap) (tk : Nat), (∀ b o, s.heap.get? b = some o → h'.get? b = some o) → CSet X.w h' a us → us.length < 64 → (∃ L0, us.Perm L0 ∧ EachIs (RR S c) L0 (dedup ds)) → Q (.ref a) { s with heap := h', toks := tk }) :
    wpAny (model X.prog X.w) X.A (call (.type "set") [u]) Q E s := by
  obtain ⟨l, its, rfl, hl, er⟩ := lstl_at C.K I hh rx ru e
  obtain ⟨ok1, n64, kinds⟩ := ok
  have ok2 : ∀ d ∈ ds, okKey d = true := fun d hd => List.all_eq_true.mp ok1 d hd
  have un := C.un
  have nested : ∀ (d : D) (nk : NestedKey) (u : Value), keyOf d = some nk → okKey d = true → RR S c u d → KeyHere s.heap nk u := fun d nk u hk hok ⟨v, q, r⟩ => by
    obtain ⟨nk', hk', hd⟩ := okKey_some hok
    rw [hk] at hk'
    cases hk'
    exact ⟨r.nested C.K I _ _ _ _ hk q, hd⟩
  have tak : ds.take its.size = ds := List.take_of_length_le (by have := EachIs.length er; rw [Array.length_toList] at this; omega)
  have len : ∀ {L L0 : List Dk.Row}, L.Perm L0 → Fst S c L0 (dedup ds) → (L.map (·.2)).length < 64 := fun pm f => by
    have e1 := EachIs.length f
    have e2 := dedup_len ds
    have e3 := pm.length_eq
    rw [List.length_map]
    omega
  rcases kinds with str | tup
  · refine set_callA (J := Js S c (KdS X.w s.heap.objs.size) ds) (I.ok.hd C.calm) hl (grows_of n64 er ok2 nested (fun h h' L x _ e1 _ => kdS_frame x e1) ?_) (fun h e => ⟨[], [], ts_start h e, List.Perm.refl _, .nil⟩) fun h' tk j keep => ?_
    · intro d nk u L A E s' Q hd hk r kh x keep hA few q
      obtain ⟨z, rfl⟩ := str d hd
      obtain ⟨v, rv, rd⟩ := r
      obtain ⟨y0, e0, rfl⟩ : ∃ y : Str, y.cps.toList = z ∧ v = .str y := by cases rd with | str _ y e => exact ⟨y, e, rfl⟩
      obtain ⟨tk, rfl⟩ := rv
      have ek : nk = .text y0 := by
        simp only [keyOf, Option.some.injEq] at hk
        rw [← hk, str_eq e0]
      subst ek
      unfold setAdd
      refine wpAny_holding ?_
      refine wpAny_bind ((strKind X.prog X.w).pyHash (k := y0) (strKind_is _ _ _ _) ?_)
      refine ts_add (s := { s' with toks := s'.toks + 1 }) x few fun b h' L' sb x' y n => q b h' _ L' (Nat.le_succ _) sb x' y fun m => ?_
      rw [n m]
    · obtain ⟨L, L0, x, pm, f⟩ := j
      rw [tak] at f
      exact h _ _ h' tk keep (TSet.cset x) (len pm f) ⟨_, pm.map _, fst_vals f⟩
  · refine set_callA (J := Js S c (KdT X.w s.heap.objs.size) ds) (I.ok.hd C.calm) hl (grows_of n64 er ok2 nested (fun h h' L x kh e1 e2 => kdT_frame x kh e1 e2) ?_) (fun h e => ⟨[], [], ns_start h e, List.Perm.refl _, .nil⟩) fun h' tk j keep => ?_
    · intro d nk u L A E s' Q hd hk r kh x keep hA few q
      obtain ⟨xs, rfl⟩ := tup d hd
      obtain ⟨v, rv, rd⟩ := r
      obtain ⟨b, rfl⟩ : ∃ b, v = .ref b := by cases rd; exact ⟨_, rfl⟩
      cases (show u = Value.ref b from rv)
      obtain ⟨es, ep, t, R⟩ := x
      have kh' : KeyHere s'.heap nk (.ref b) := ⟨NestedIs.at (fun b ob vs n hb _ => keep b ob hb) nk _ kh.1, kh.2⟩
      have dp := kh.2
      unfold setAdd
      refine wpAny_holding ?_
      refine wpAny_bind (pyHash_key nk (.ref b) A s' _ kh'.1 (by omega) ?_)
      have R' : NSet X.w ({ s' with toks := s'.toks + nk.draws } : Shared).heap s.heap.objs.size L es ep t := R
      refine ns_add R' kh' (by omega) few fun b h' L' es' ep' t' sb R2 y n => q b h' _ L' (Nat.le_add_right _ _) sb ⟨es', ep', t', R2⟩ y n
    · obtain ⟨L, L0, ⟨es, ep, t, R⟩, pm, f⟩ := j
      rw [tak] at f
      have R' : NSet X.w ({ s with heap := h' } : Shared).heap s.heap.objs.size L es ep t := R
      exact h _ _ h' tk keep R'.cset (len pm f) ⟨_, pm.map _, fst_vals f⟩
end
end MP

/-! MP30: sorted(set(x)), len(set(x)): the calls. -/
namespace MP
open PySem PySem.Spec PySem.W PySem.Calls PyProof.Rows L2 Dk
section
variable {X : Cx} {S : Sx} {cf : CF} {k : Nat} {pos p p2 q : Pos} {a : Expr} {ma : ME}
/-- a function of a set(x), x as told -/
def SetX (X : Cx) (S : Sx) (fn : Value) (g : MP.X → MH → Option MP.X) : Prop :=
  ∀ (pins : List (Addr × Obj)) (s : Shared) (σ : L2.St) (c0 c : Cf) (x z : MP.X) (v : V) (u : Value), Inv X pins σ c.H s → Held S c → RepX S c0 c x v → RelV v u → g x c.h = some z →
    wpAny (model X.prog X.w) X.A (call (.type "set") [u]) (fun u2 s2 => wpAny (model X.prog X.w) X.A (call fn [u2]) (EP X pins σ (QX S c z c.h)) X.xe s2) X.xe s
theorem pe_setX {n : Str} {id : String} {g : MP.X → MH → Option MP.X} {ta : TE} (hs : SetX X S (.builtin id) g) (hg : Gl X n) (hm : X.mg n = none) (hv : bootBuiltins n = some (.builtin id)) (hg2 : Gl X "set") (hm2 : X.mg "set" = none) (ha : PE X a ta)
    (hn : n ≠ "__name__") (hdb : (n == ("__debug__" : Str)) = false) (na : starEach [a] X.env = (false, eval a X.env) :: starEach [] X.env := by rfl) :
    PE X (.Call (.Name n p) [.Call (.Name "set" p2) [a] [] q] [] pos) (fun σ H Q => ta σ H fun x H1 => rCall S g [x] H1 Q) := by
  refine ⟨fun pins s σ H Q I h => ?_⟩
  refine Call_ (ld_blt I hg hm hv ?_ hn hdb)
  refine PyProof.Rows.callWith_builtin1 (PyProof.Rows.args_cons ?_ rfl) rfl rfl
  refine Call_ (ld_blt I hg2 hm2 boot_set ?_)
  refine PyProof.Rows.callWith_type1 (PyProof.Rows.args_cons (thn (ha.run pins s σ H _ I h) fun u s1 ⟨v, H1, I1, r1, q1⟩ => PyProof.Rows.args_nil ?_) na) na rfl
  obtain ⟨c0, c, x, z, v, ev, eH, hh, rx, hz, k⟩ := q1
  cases ev
  subst eH
  refine thn (hs pins s1 σ c0 c x z _ u I1 hh rx r1 hz) fun u2 s2 h2 => PyProof.Rows.args_nil (thn h2 fun u' s' ⟨v', H', I', r', q'⟩ => ⟨v', H', I', r', k v' H' q'⟩)
theorem px_setX {n : Str} {id : String} {f : B1} (hs : SetX X S (.builtin id) (b1X f)) (hm : X.mg n = none) (hv : bootBuiltins n = some (.builtin id)) (hm2 : X.mg "set" = none) (ha : PX X S cf a ma)
    (hf : ∀ e h, evalX S.P cf (.b1 f ma) e h = (evalX S.P cf ma e h).bind fun x h => .ofO (b1X f x h) h) (hg : Gl X n) (hg2 : Gl X "set") (hn : n ≠ "__name__") (hdb : (n == ("__debug__" : Str)) = false) (na : starEach [a] X.env = (false, eval a X.env) :: starEach [] X.env) :
    PX X S cf (.Call (.Name n p) [.Call (.Name "set" p2) [a] [] q] [] pos) (.b1 f ma) :=
  px_of (pe_setX hs hg hm hv hg2 hm2 ha.pe hn hdb na) fun σ c e rr hh he' hr nb => by
    rw [hf] at hr
    refine tX.mk hh he' hr nb fun x c1 v g1 hh1 he1 rx h1 => ?_
    obtain ⟨z, hz, er⟩ := ofO_ok h1 nb
    exact ⟨c, c1, x, z, v, rfl, rfl, hh1, rx, hz, fun v' H' q => .ofQ g1 er.symm q⟩
theorem e_setX {n : Str} {id : String} {f : B1} (hs : SetX X S (.builtin id) (b1X f)) (hm : X.mg n = none) (hv : bootBuiltins n = some (.builtin id)) (hm2 : X.mg "set" = none) (ha : EX X S cf a ma)
    (hf : ∀ e h, evalX S.P cf (.b1 f ma) e h = (evalX S.P cf ma e h).bind fun x h => .ofO (b1X f x h) h := by intro _ _; rfl) (hg : Gl X n := by rfl) (hg2 : Gl X "set" := by rfl) (hn : n ≠ "__name__" := by decide) (hdb : (n == ("__debug__" : Str)) = false := by decide) (na : starEach [a] X.env = (false, eval a X.env) :: starEach [] X.env := by rfl) :
    EX X S cf (.Call (.Name n p) [.Call (.Name "set" p2) [a] [] q] [] pos) (.b1 f ma) := ⟨px_setX hs hm hv hm2 ha.h hf hg hg2 hn hdb na⟩
theorem sx_len (C : Ctx X S k) : SetX X S (.builtin "len") (b1X .lenset) := by
  intro pins s σ c0 c x z v u I hh rx ru hz
  have hz : lensetX x c.h = some z := hz
  unfold lensetX at hz
  split at hz
  · rename_i ds e
    split at hz
    · rename_i ok
      cases hz
      refine set_made C I hh rx ru e ok fun a us h' tk keep cs few ⟨L0, pm, er⟩ => ?_
      obtain ⟨es, ep, t, _, ⟨o, h1, h2, h3⟩, h4, h5, h6, h7, h8⟩ := cs
      have I2 : Inv X pins σ c.H { s with heap := h', toks := tk } := I.kept keep
      have n1 : es.size = us.length := by rw [← Array.length_toList, ← h8.length_eq, List.length_map]
      have n2 : es.size = (dedup ds).length := by rw [n1, pm.length_eq, EachIs.length er]
      refine call_len_set h1 h2 h3 h4 (by omega) ⟨.int (dedup ds).length, c.H, I2.tok _, ⟨_, by rw [n2]⟩, QX.here hh (RepV.int _)⟩
    · cases hz
  · cases hz
theorem sorted_c {w : World} {P : Program} {A : Around} {E : Value → Shared → Prop} {s : Shared} {x : Addr} {us : List Value} {Q : Value → Shared → Prop} (cs : CSet w s.heap x us) (hh : A.handled = none) (hL : us.length ≤ sizeLine)
    (body : ∀ (s1 : Shared) (out : List Value), out.Perm us → (∀ b o, s.heap.get? b = some o → s1.heap.get? b = some o) → s1.gens = s.gens → s1.os = s.os → ∀ E' : Value → Shared → Prop, wpAny (model P w) A.in1.in1 (Builtin.«list.sort» ⟨[.ref s1.heap.objs.size], []⟩) (fun f s' => f = .done (.ret .none) ∧ Q (.ref s1.heap.objs.size) s') E' { s1 with heap := s1.heap.push (seqObj "list" out.toArray 0) }) :
    wpAny (model P w) A (call (.builtin "sorted") [.ref x]) Q E s := by
  obtain ⟨es, ep, t, h0, _, h4, h5, h6, h7, h8⟩ := cs
  refine Calls.call_function_entry kind_sorted plain_sorted entry_sorted (args_sorted1 _) ?_
  unfold Builtin.«sorted»
  refine wpAny_bind (m := checkCount "sorted" 1 1 _) (wpAny_pure ?_)
  refine wpAny_bind (collect_set (A := A.in1) hh h0 h4 h5 h6 h7 fun s1 vs k1 hz g1 o1 pm => ?_)
  have pm2 := pm.trans h8
  refine wpAny_bind (wpAny_newList ?_ (by rw [pm2.length_eq]; exact hL))
  have hoL : (s1.heap.push (seqObj "list" vs.toArray 0)).get? s1.heap.objs.size = some (seqObj "list" vs.toArray 0) := Heap.get?_push_size _ rfl
  refine wpAny_bind (wpAny_holding (wpAny_call_entry slot_list_sort ⟨_, hoL, rfl⟩ entry_list_sort ?body (args_list_sort _)))
  case body =>
    refine wpAny_mono (body s1 vs pm2 k1 g1 o1 _) (fun f s' hf => ?_) fun _ _ e => e
    obtain ⟨rfl, hq⟩ := hf
    exact ⟨_, rfl, wpAny_pure ⟨_, rfl, hq⟩⟩
theorem sx_sorted (C : Ctx X S k) : SetX X S (.builtin "sorted") (b1X .sortset) := by
  intro pins s σ c0 c x z v u I hh rx ru hz
  have hz : sortsetX x c.h = some z := hz
  unfold sortsetX at hz
  split at hz
  · rename_i ds e
    split at hz
    · rename_i ok
      obtain ⟨ok, same⟩ := ok
      refine set_made C I hh rx ru e ok fun a us h' tk keep cs few ⟨L0, pm, er⟩ => ?_
      have I2 : Inv X pins σ c.H { s with heap := h', toks := tk } := I.kept keep
      obtain ⟨ys, hs, rfl⟩ := Option.map_eq_some_iff.mp hz
      refine sorted_c (s := { s with heap := h', toks := tk }) cs (I.ok.hd C.calm) (by rw [sizeLine_eq]; omega) fun s1 out pm1 keep1 g1 o1 E' => ?_
      have I1' : Inv X pins σ c.H { s with heap := s1.heap, gens := s1.gens, drawn := s1.drawn, toks := s1.toks } := by
        have := I2.call (ch := []) (h' := s1.heap) (Un.kept keep1) (I2.hok.kept keep1) (t' := s1.toks) (g' := s1.gens) (d' := s1.drawn) (by rw [g1]; exact I2.bare) (fun _ z => nomatch z)
        exact this
      have e1 : s1 = { s with heap := s1.heap, gens := s1.gens, drawn := s1.drawn, toks := s1.toks } := by
        cases s1
        cases s
        cases o1
        rfl
      have I1 : Inv X pins σ c.H s1 := by rw [e1]; exact I1'
      obtain ⟨qs, pq, eq⟩ := each_perm (pm1.trans pm) er
      have hs2 : sortD qs = some ys := (same qs pq).trans hs
      unfold sortD at hs2
      split at hs2
      · rename_i hc
        cases hs2
        obtain ⟨h1, h2, h3, h4⟩ := hc
        have hu : out.length ≤ sizeLine := by rw [pm1.length_eq, sizeLine_eq]; omega
        have ml := maxl
        have un := C.un
        have ee : qs.map toPD = toPDs qs := (toPDs_map qs).symm
        have at_ : (s1.heap.push (seqObj "list" out.toArray 0)).get? s1.heap.objs.size = some (seqObj "list" out.toArray 0) := Heap.get?_push_size _ rfl
        have kp : ∀ b o, s1.heap.get? b = some o → (sortingHeap (s1.heap.push (seqObj "list" out.toArray 0)) s1.heap.objs.size out).get? b = some o := fun b o q =>
          sortingHeap_old (Nat.ne_of_lt (Heap.lt_size q)) (Heap.get?_push_of_some _ q)
        have rd : EachIs (fun u d => ∃ as, Reads (sortingHeap (s1.heap.push (seqObj "list" out.toArray 0)) s1.heap.objs.size out) u (toPD d) as) out qs :=
          (rr_reads C.K I1 h1 eq).mono fun _ _ ⟨as, r⟩ => ⟨as, PyProof.Rows.Reads.keeps kp r⟩
        have hal : AllAlike (qs.map toPD) := ee ▸ h2
        have hsk : Sortable (qs.map toPD) := ee ▸ h3
        have So := SortsAt.data (prog := X.prog) (w := X.w) (A := X.A.in1.in1) (s := { s1 with heap := sortingHeap (s1.heap.push (seqObj "list" out.toArray 0)) s1.heap.objs.size out }) (each_map (R := fun u d => ∃ as, Reads (sortingHeap (s1.heap.push (seqObj "list" out.toArray 0)) s1.heap.objs.size out) u d as) toPD rd) hal hsk (bound_map (A := X.A.in1.in1) (enc := toPD) (bs := qs) fun d q => by
          have := depths h1 q
          show X.A.units + 1 + 1 + _ < cLine
          omega)
        refine list_sort_vals (s := { s1 with heap := s1.heap.push (seqObj "list" out.toArray 0) }) at_ So hu ⟨rfl, ?_⟩
        have es := sortVals_data (h' := sortingHeap (s1.heap.push (seqObj "list" out.toArray 0)) s1.heap.objs.size out) (enc := toPD) false eq rd hal
        obtain ⟨vs', q1, q2⟩ := rr_to es
        obtain ⟨ep, he⟩ := PyProof.Rows.sortedHeap_at (vs := out) (out := (sortVals (dataKind (sortingHeap (s1.heap.push (seqObj "list" out.toArray 0)) s1.heap.objs.size out) (qs.map toPD)) false out out).toArray) at_
        have ln : vs'.length ≤ sizeLine := by
          have e1 := q2.length
          have e2 := rr_len eq
          rw [List.length_mergeSort] at e1
          omega
        refine ⟨.ref _, upd c.H s1.heap.objs.size (.lst vs'), I1.laid (t' := s1.toks) (fun b o q => ?_) (Nat.le_refl _) ⟨ln, _, ep, q1, he⟩, rfl, QX.newL hh q2 _ (I1.hok.fresh (Nat.le_refl _))⟩
        refine (PyProof.Rows.sortedHeap_old (Nat.ne_of_lt (Heap.lt_size q)) ?_).trans (Heap.get?_push_of_some _ q)
        exact Nat.lt_of_lt_of_le (Heap.lt_size q) (by rw [size_push']; exact Nat.le_succ _)
      · cases hs2
    · cases hz
  · cases hz
end
end MP

/-! MP31: x[::-1] of a tuple or a list. -/
namespace MP
open PySem PySem.Spec PySem.W PySem.Calls PyProof.Rows L2 Dk
section
variable {prog : Program} {w : World} {A : Around} {E : Value → Shared → Prop} {s : Shared}
theorem adjust_rev (n : Nat) : Builtin.Slice.sliceAdjust none none (-1) (n : Int) = ((n : Int) - 1, -1) := rfl
theorem places_rev (n : Nat) : Builtin.Slice.slicePlaces ((n : Int) - 1) (-1) (-1) = n := by
  unfold Builtin.Slice.slicePlaces
  have h1 : ¬ ((-1 : Int) > 0) := by omega
  simp only [h1, if_false, Int.neg_neg, Int.ediv_one]
  split <;> omega
theorem applied_rev {sl : Addr} {t : Tok} {n : Nat} {Q : Int × Int × Nat → Shared → Prop} (hs : s.heap.IsSliceOf sl .none .none (.int (-1) t))
    (h : Q ((n : Int) - 1, -1, n) s) : wpAny (model prog w) A (Builtin.Slice.sliceApplied (.ref sl) (pure (n : Int))) Q E s := by
  obtain ⟨os, hos, hcs, hds⟩ := id hs
  unfold Builtin.Slice.sliceApplied Builtin.Slice.sliceFields
  refine wpAny_bind (wpAny_bind (wpAny_field hos hds (x := .none) rfl (wpAny_bind (wpAny_field hos hds (x := .none) rfl (wpAny_bind (wpAny_field hos hds (x := .int (-1) t) rfl (wpAny_pure ?_)))))))
  refine wpAny_bind (HT.slicePart_ (.int (-1) t) ?_)
  show wpAny _ _ (if ((-1 : Int) == 0) = true then _ else _) _ _ s
  rw [if_neg (by decide)]
  refine wpAny_bind (HT.slicePart_ .none (wpAny_bind (HT.slicePart_ .none (wpAny_bind (wpAny_pure ?_)))))
  show wpAny _ _ (match Builtin.Slice.sliceAdjust none none (-1) (n : Int) with | (lo, hi) => pure (lo, (-1 : Int), Builtin.Slice.slicePlaces lo hi (-1))) _ _ s
  rw [adjust_rev n]
  show wpAny _ _ (pure ((n : Int) - 1, (-1 : Int), Builtin.Slice.slicePlaces ((n : Int) - 1) (-1) (-1))) _ _ s
  rw [places_rev]
  exact wpAny_pure h
theorem fm_congr {α β : Type} {f g : α → Option β} : ∀ {l : List α}, (∀ m ∈ l, f m = g m) → l.filterMap f = l.filterMap g
  | [], _ => rfl
  | x :: l, h => by
    rw [List.filterMap_cons, List.filterMap_cons, h x List.mem_cons_self, fm_congr fun m hm => h m (List.mem_cons_of_mem _ hm)]
theorem pick_rev (xs : Array Value) : ((List.range xs.size).filterMap fun (m : Nat) => xs[(((xs.size : Int) - 1) + (m : Int) * (-1)).toNat]?) = xs.toList.reverse := by
  have e : (List.range xs.size).filterMap (fun (m : Nat) => xs[(((xs.size : Int) - 1) + (m : Int) * (-1)).toNat]?) = (List.range xs.size).filterMap fun m => xs.toList.reverse[m]? := by
    apply fm_congr
    intro m hm
    have hm := List.mem_range.mp hm
    have e1 : (((xs.size : Int) - 1) + (m : Int) * (-1)).toNat = xs.size - 1 - m := by omega
    rw [e1, List.getElem?_reverse (by rw [Array.length_toList]; exact hm), Array.length_toList, Array.getElem?_toList]
  rw [e]
  have all : ∀ (l : List Value), (List.range l.length).filterMap (fun m => l[m]?) = l := by
    intro l
    apply List.ext_getElem?
    intro i
    have : (List.range l.length).filterMap (fun m => l[m]?) = (List.range l.length).map fun m => l.getD m .none := by
      rw [← List.filterMap_eq_map]
      apply fm_congr
      intro m hm
      have hm := List.mem_range.mp hm
      simp [List.getElem?_eq_getElem hm]
    rw [this, List.getElem?_map]
    by_cases hi : i < l.length
    · rw [List.getElem?_range hi]
      simp [List.getElem?_eq_getElem hi]
    · rw [List.getElem?_eq_none (by simpa using hi), List.getElem?_eq_none (by omega)]; rfl
  have := all xs.toList.reverse
  rwa [List.length_reverse, Array.length_toList] at this
theorem getItem_tuple_rev {t sl : Addr} {items : Array Value} {tk : Tok} {Q : Value → Shared → Prop} (ht : IsTup s.heap t items) (hs : s.heap.IsSliceOf sl .none .none (.int (-1) tk))
    (h : Q (.ref s.heap.objs.size) { s with heap := s.heap.push { cls := .type "tuple", data := .seq items.toList.reverse.toArray } }) (hsz : items.size ≤ sizeLine) : wpAny (model prog w) A (getItem (.ref t) (.ref sl)) Q E s := by
  have htake : sizeOk (.seq items.toList.reverse.toArray) := by
    show items.toList.reverse.toArray.size ≤ sizeLine
    rw [List.size_toArray, List.length_reverse, Array.length_toList]
    exact hsz
  obtain ⟨os, hos, hcs, hds⟩ := id hs
  have hTs : s.TypeIs (.ref sl) "slice" := ⟨os, hos, hcs⟩
  unfold getItem
  try with_reducible refine wpAny_holding ?_
  first | refine wpAny_bind (wpAny_pure ?_) | skip
  refine wpAny_bind (wpAny_sequenceKey ht.typeIs (by decide) ?_)
  refine wpAny_bind (wpAny_callSpecial?_slot (name := Str.ofString "__getitem__") ht.typeIs PyProof.Rows.slot_tuple_getitem
    (wpAny_call_entry PyProof.Rows.slot_tuple_getitem ht.typeIs PyProof.Rows.entry_tuple_getitem ?_ (PyProof.Rows.args_tuple_getitem _ _)))
  show wpAny _ _ (Builtin.Tuple.tupleItemsOf (.ref t) >>= _) _ _ s
  refine wpAny_bind (tupleItemsOf_ ht ?_)
  refine wpAny_bind (wpAny_typeOf hTs ?_)
  rw [if_pos (by decide)]
  refine wpAny_bind (applied_rev hs ?_)
  show wpAny _ _ (if (((items.size : Int) - 1) == 0 && (-1 : Int) == 1 && items.size == items.size) = true then _ else _) _ _ s
  rw [if_neg (by simp), pick_rev]
  first
    | exact wpAny_bind (m := Builtin.Tuple.tupleExact _) (wpAny_newObj_type (wpAny_pure ⟨_, rfl, wpAny_pure h⟩) htake)
    | exact wpAny_bind (m := Builtin.Tuple.tupleExact _) (wpAny_newObj_type (wpAny_bind (wpAny_pure (wpAny_pure ⟨_, rfl, wpAny_pure h⟩))) htake)
    | exact wpAny_bind (wpAny_bind (m := Builtin.Tuple.tupleExact _) (wpAny_newObj_type (wpAny_pure (wpAny_pure ⟨_, rfl, wpAny_pure h⟩)) htake))
    | exact wpAny_bind (wpAny_bind (m := Builtin.Tuple.tupleExact _) (wpAny_newObj_type (wpAny_pure ⟨_, rfl, wpAny_pure h⟩) htake))
end
theorem reps_rev {S : Sx} {c : Cf} : ∀ {xs : List D} {vs : List V}, RepVs S c xs vs → RepVs S c xs.reverse vs.reverse := by
  have app : ∀ {xs ys : List D} {vs ws : List V}, RepVs S c xs vs → RepVs S c ys ws → RepVs S c (xs ++ ys) (vs ++ ws) := by
    intro xs ys vs ws h1 h2
    induction vs generalizing xs with
    | nil => cases h1; exact h2
    | cons v vs ih => cases h1 with | cons r t => exact .cons r (ih t)
  intro xs vs h
  induction vs generalizing xs with
  | nil => cases h; exact .nil
  | cons v vs ih =>
    cases h with
    | cons r t =>
      rw [List.reverse_cons, List.reverse_cons]
      exact app (ih t) (.cons r .nil)
section
variable {X : Cx} {S : Sx} {cf : CF} {k : Nat} {pos p p2 : Pos} {a st : Expr} {ma : ME} {te ts : TE}
def rRev (S : Sx) : V → Hp → VK → Prop := fun x H Q => ∃ (c0 c : Cf) (a z : MP.X), c.H = H ∧ Held S c ∧ RepX S c0 c a x ∧ revX a c.h = some z ∧ ∀ w H', QX S c z c.h w H' → Q w H'
theorem pe_rev (C : Ctx X S k) (he : PE X a te) (hs : PE X st ts) : PE X (.Subscript a (.Slice none none (some st) p2) pos) (fun σ H Q => te σ H fun x H1 => ts σ H1 fun y H2 => y = .int (-1) ∧ rRev S x H2 Q) := by
  refine ⟨fun pins s σ H Q I h => ?_⟩
  refine Subscript_ (thn (he.run pins s σ H _ I h) fun v s1 ⟨x, H1, I1, r1, q1⟩ => ?_)
  refine wpAny_Slice ?_
  rw [evalPart_none, evalPart_some]
  refine wpAny_pure (wpAny_pure (thn (hs.run pins s1 σ H1 _ I1 q1) fun u s3 ⟨y, H3, I3, r3, e3, q3⟩ => ?_))
  subst e3
  obtain ⟨tk, rfl⟩ := r3
  obtain ⟨c0, c, a', z, eH, hh, ra, hz, q⟩ := q3
  subst eH
  obtain ⟨s4, hs4⟩ : ∃ s4 : Shared, { s3 with heap := s3.heap.push { cls := .type "slice", data := .fields #[.none, .none, .int (-1) tk] } } = s4 := ⟨_, rfl⟩
  have I4 : Inv X pins σ c.H s4 := by
    rw [← hs4]
    exact I3.kept (t' := s3.toks) fun b ob q => Heap.get?_push_of_some _ q
  have sl4 : s4.heap.IsSliceOf s3.heap.objs.size .none .none (.int (-1) tk) := by rw [← hs4]; exact Heap.IsSliceOf.new ..
  have main : ∃ T id, typeLookup (.type T) "__getitem__" = pure (some (.builtin id)) ∧ s4.TypeIs v T ∧ wpAny (model X.prog X.w) X.A (getItem v (.ref s3.heap.objs.size)) (EP X pins σ Q) X.xe s4 := by
    unfold revX at hz
    cases n1 : norm a' c.h with
    | none => rw [n1] at hz; cases hz
    | some da =>
      rw [n1] at hz
      have rn := norm_rep hh ra n1
      cases da with
      | tup xs =>
        cases hz
        obtain ⟨p, vs, rfl, sq, rs⟩ := rn.tup C.K
        cases (show v = Value.ref p from r1)
        obtain ⟨its, r, ht, hz⟩ := I4.tuple sq
        refine ⟨"tuple", _, PyProof.Rows.slot_tuple_getitem.lookup, ht.typeIs, ?_⟩
        have ln : vs.reverse.length ≤ sizeLine := by rw [List.length_reverse]; exact hz
        have l4 := r.length
        refine getItem_tuple_rev ht sl4 ⟨.ref _, upd c.H s4.heap.objs.size (.tup vs.reverse), I4.laid (t' := s4.toks) (fun b o q => Heap.get?_push_of_some _ q) (Nat.le_refl _) ⟨ln, its.reverse, r.reverse, ?_⟩, rfl, q _ _ (.newT hh (reps_rev rs) _ (I4.hok.fresh (Nat.le_refl _)))⟩ (by rw [List.size_toArray]; omega)
        rw [List.toList_toArray]
        exact ⟨_, Heap.get?_push_size _ rfl, rfl, _, rfl⟩
      | lst xs =>
        cases hz
        obtain ⟨p, vs, rfl, hp, rs⟩ := rn
        cases (show v = Value.ref p from r1)
        obtain ⟨hz, its, n, rv, hl⟩ := (show ObjOk X.prog X.w c.H s4.heap p (.lst vs) from I4.hok p _ hp)
        have hL : s4.heap.IsList p its.toArray := ⟨_, hl, rfl, n, rfl⟩
        have l4 := rv.length
        refine ⟨"list", _, list_getitem_lookup, ⟨_, hl, rfl⟩, ?_⟩
        refine wpAny_getItem_list_slice hL sl4 .none .none (.int (-1) tk) (by decide) ?_ (by rw [List.size_toArray]; omega)
        rw [krv_pick, List.toList_toArray]
        have ln : vs.reverse.length ≤ sizeLine := by rw [List.length_reverse]; exact hz
        exact ⟨.ref _, upd c.H s4.heap.objs.size (.lst vs.reverse), I4.laid (t' := s4.toks) (fun b o q => Heap.get?_push_of_some _ q) (Nat.le_refl _) ⟨ln, its.reverse, 0, rv.reverse, Heap.get?_push_size _ rfl⟩, rfl, q _ _ (.newL hh (reps_rev rs) _ (I4.hok.fresh (Nat.le_refl _)))⟩
      | _ => cases hz
  obtain ⟨T, id, hT, ht, hg⟩ := main
  show wpAny (model X.prog X.w) X.A (subscriptTail a (.Slice none none (some st) p2) v (.ref s3.heap.objs.size)) (EP X pins σ Q) X.xe { s3 with heap := s3.heap.push { cls := .type "slice", data := .fields #[.none, .none, .int (-1) tk] } }
  rw [hs4]
  exact tail_any (ops := [v, .ref s3.heap.objs.size]) ht hT hg (by with_unfolding_all rfl)
theorem px_rev (C : Ctx X S k) (ha : PX X S cf a ma) (hst : PX X S cf st (.b1 .neg (.int 1))) : PX X S cf (.Subscript a (.Slice none none (some st) p2) pos) (.b1 .rev ma) := px_of (pe_rev C ha.pe hst.pe) fun σ c e r hh he hr nb => by
  have hr : ((evalX S.P cf ma e c.h).bind fun x h => (evalX S.P cf (.b1 .neg (.int 1)) e h).bind fun y h => match y with
    | .d (.int i) => if i = -1 then .ofO (revX x h) h else .bad
    | _ => .bad) = r := hr
  refine tX.mk hh he hr nb fun x c1 v g1 hh1 he1 rx h1 => ?_
  refine tX.mk hh1 he1 h1 nb fun y c2 v2 g2 hh2 he2 ry h2 => ?_
  split at h2
  · rename_i i
    split at h2
    · rename_i hi
      subst hi
      have e2 : v2 = .int (-1) := by
        have : RepV S c2 (.int (-1)) v2 := ry
        cases this; rfl
      obtain ⟨z, hz, er⟩ := ofO_ok h2 nb
      exact ⟨e2, c, c2, x, z, rfl, hh2, rx.mono g2, hz, fun w H' q => .ofQ (g1.trans g2) er.symm q⟩
    · exact absurd h2.symm nb
  · exact absurd h2.symm nb
theorem e_rev (C : Ctx X S k) (ha : EX X S cf a ma) (hst : EX X S cf st (.b1 .neg (.int 1))) : EX X S cf (.Subscript a (.Slice none none (some st) p2) pos) (.b1 .rev ma) := ⟨px_rev C ha.h hst.h⟩
end
theorem bt_sorted : bootBuiltins "sorted" = some (.builtin "sorted") := by decide +kernel
theorem bt_isinstance : bootBuiltins "isinstance" = some (.builtin "isinstance") := by decide +kernel
theorem bt_dict : bootBuiltins "dict" = some (.type "dict") := by decide +kernel
theorem bt_bool : bootBuiltins "bool" = some (.type "bool") := by decide +kernel
end MP

/-! MP32: walks over zip; join. -/
namespace MP
open PySem PySem.Spec PyProof.Rows L2 Dk RZ
section
variable {X : Cx} {S : Sx} {cf : CF} {k : Nat} {pos p : Pos} {a b d : Expr} {ma mb mo : ME}
theorem zipD_get : ∀ (xs ys : List D) (i : Nat), (zipD xs ys)[i]? = match xs[i]?, ys[i]? with | some x, some y => some (.tup [x, y]) | _, _ => none
  | [], ys, i => by simp [zipD]
  | x :: xs, [], i => by
    cases h : (x :: xs)[i]? <;> simp [zipD]
  | x :: xs, y :: ys, 0 => rfl
  | x :: xs, y :: ys, i + 1 => by
    simp only [zipD, List.getElem?_cons_succ]
    exact zipD_get xs ys i
theorem zipD_len : ∀ (xs ys : List D), (zipD xs ys).length = min xs.length ys.length
  | [], ys => by simp [zipD]
  | x :: xs, [] => by simp [zipD]
  | x :: xs, y :: ys => by simp only [zipD, List.length_cons, zipD_len xs ys]; omega
/-- a list that is walked, as it stands -/
def ZL (S : Sx) (c0 : Cf) (xs : List D) (g : List (Nat × MO)) (a : Addr) : Prop := ∀ c, Kp c0 c → Held S c → guarded g c.h → ∃ vs, SqL S.K c.H a vs ∧ RepVs S c xs vs
def ZT (S : Sx) (c0 : Cf) (xs : List D) (g : List (Nat × MO)) (a : Addr) : Prop := ∀ c, Kp c0 c → Held S c → guarded g c.h → ∃ vs, SqT S.K c.H a vs ∧ RepVs S c xs vs
theorem walks_zipL {c0 : Cf} {xs ys : List D} {g g1 g2 : List (Nat × MO)} {a b : Addr} (ha : ZL S c0 xs g1 a) (hb : ZL S c0 ys g2 b) (hg : ∀ h, guarded g h → guarded g1 h ∧ guarded g2 h) : Walks S c0 (zipD xs ys) g (Itz S.K a b) := by
  have lt : ∀ {i}, i < (zipD xs ys).length → i < xs.length ∧ i < ys.length := fun h => by rw [zipD_len] at h; omega
  refine ⟨fun i c g0 hh gd hi => ?_, fun i c v H' g0 hh gd hi hy => ?_, fun i c g0 hh gd hi => ?_⟩
  · obtain ⟨vs, h1, r1⟩ := ha c g0 hh (hg _ gd).1
    obtain ⟨ws, h2, r2⟩ := hb c g0 hh (hg _ gd).2
    obtain ⟨v, hv, _⟩ := r1.get (List.getElem?_eq_getElem (lt hi).1)
    obtain ⟨w, hw, _⟩ := r2.get (List.getElem?_eq_getElem (lt hi).2)
    exact ⟨vs, ws, v, w, h1, h2, hv, hw⟩
  · obtain ⟨vs, h1, r1⟩ := ha c g0 hh (hg _ gd).1
    obtain ⟨ws, h2, r2⟩ := hb c g0 hh (hg _ gd).2
    obtain ⟨T, x, y, rfl, hT, rfl, e1, e2⟩ := hy
    obtain ⟨v, hv, rv⟩ := r1.get (List.getElem?_eq_getElem (lt hi).1)
    obtain ⟨w, hw, rw'⟩ := r2.get (List.getElem?_eq_getElem (lt hi).2)
    have := e1 vs h1
    rw [hv] at this
    cases this
    have := e2 ws h2
    rw [hw] at this
    cases this
    obtain ⟨c', eH, eh, g', hh', rz⟩ := QX.newT hh (.cons rv (.cons rw' .nil)) T hT
    exact ⟨c', _, eH, eh, g', hh', by rw [zipD_get, List.getElem?_eq_getElem (lt hi).1, List.getElem?_eq_getElem (lt hi).2], rz.rx⟩
  · obtain ⟨vs, h1, r1⟩ := ha c g0 hh (hg _ gd).1
    obtain ⟨ws, h2, r2⟩ := hb c g0 hh (hg _ gd).2
    rw [zipD_len] at hi
    exact ⟨vs, ws, h1, h2, by rw [r1.length, r2.length]; omega⟩
theorem walks_zipT {c0 : Cf} {xs ys : List D} {g g1 g2 : List (Nat × MO)} {a b : Addr} (ha : ZT S c0 xs g1 a) (hb : ZT S c0 ys g2 b) (hg : ∀ h, guarded g h → guarded g1 h ∧ guarded g2 h) : Walks S c0 (zipD xs ys) g (ItzT S.K a b) := by
  have lt : ∀ {i}, i < (zipD xs ys).length → i < xs.length ∧ i < ys.length := fun h => by rw [zipD_len] at h; omega
  refine ⟨fun i c g0 hh gd hi => ?_, fun i c v H' g0 hh gd hi hy => ?_, fun i c g0 hh gd hi => ?_⟩
  · obtain ⟨vs, h1, r1⟩ := ha c g0 hh (hg _ gd).1
    obtain ⟨ws, h2, r2⟩ := hb c g0 hh (hg _ gd).2
    obtain ⟨v, hv, _⟩ := r1.get (List.getElem?_eq_getElem (lt hi).1)
    obtain ⟨w, hw, _⟩ := r2.get (List.getElem?_eq_getElem (lt hi).2)
    exact ⟨vs, ws, v, w, h1, h2, hv, hw⟩
  · obtain ⟨vs, h1, r1⟩ := ha c g0 hh (hg _ gd).1
    obtain ⟨ws, h2, r2⟩ := hb c g0 hh (hg _ gd).2
    obtain ⟨T, x, y, rfl, hT, rfl, e1, e2⟩ := hy
    obtain ⟨v, hv, rv⟩ := r1.get (List.getElem?_eq_getElem (lt hi).1)
    obtain ⟨w, hw, rw'⟩ := r2.get (List.getElem?_eq_getElem (lt hi).2)
    have := e1 vs h1
    rw [hv] at this
    cases this
    have := e2 ws h2
    rw [hw] at this
    cases this
    obtain ⟨c', eH, eh, g', hh', rz⟩ := QX.newT hh (.cons rv (.cons rw' .nil)) T hT
    exact ⟨c', _, eH, eh, g', hh', by rw [zipD_get, List.getElem?_eq_getElem (lt hi).1, List.getElem?_eq_getElem (lt hi).2], rz.rx⟩
  · obtain ⟨vs, h1, r1⟩ := ha c g0 hh (hg _ gd).1
    obtain ⟨ws, h2, r2⟩ := hb c g0 hh (hg _ gd).2
    rw [zipD_len] at hi
    exact ⟨vs, ws, h1, h2, by rw [r1.length, r2.length]; omega⟩
/-- what zip may walk -/
theorem zseq_of {c0 c : Cf} {x : MP.X} {v : V} {kd : Bool} {xs : List D} {g : List (Nat × MO)} (hh : Held S c) (rx : RepX S c0 c x v) (h : zseq x c.h = some (kd, xs, g)) :
    ∃ a, v = .ref a ∧ ((kd = false ∧ (∃ vs, SqL S.K c.H a vs) ∧ ZL S c xs g a) ∨ (kd = true ∧ (∃ vs, SqT S.K c.H a vs) ∧ ZT S c xs g a)) := by
  unfold zseq at h
  split at h
  · cases h
    have rx : RepV S c (.tup xs) v := rx
    cases rx with
    | tup ha rs =>
      refine ⟨_, rfl, .inr ⟨rfl, ⟨_, ha.imp (fun h => .inl h.1) id⟩, fun c2 g2 _ _ => ⟨_, ha.imp (fun h => .inl (g2.per _ _ h.2 h.1)) id, rs.sub g2⟩⟩⟩
  · cases h
    have rx : RepV S c (.lst xs) v := rx
    cases rx with
    | lst ha hn rs => exact ⟨_, rfl, .inl ⟨rfl, ⟨_, .of ha⟩, fun c2 g2 _ _ => ⟨_, .of (g2.per _ _ hn ha), rs.sub g2⟩⟩⟩
  · cases h
    obtain ⟨a, vs, rfl, ha, hn, _, _, rs⟩ := rx
    exact ⟨a, rfl, .inl ⟨rfl, ⟨vs, .of ha⟩, fun c2 g2 _ _ => ⟨vs, .of (g2.per _ _ hn ha), rs.sub g2⟩⟩⟩
  · rename_i n
    split at h
    · rename_i xs' hr
      cases h
      have rx : RepV S c (.ref n) v := rx
      cases rx with
      | ref hn =>
        rename_i a
        obtain ⟨vs, ha, _⟩ := hh.obj n a _ hn hr
        refine ⟨a, rfl, .inl ⟨rfl, ⟨vs, .of ha⟩, fun c2 g2 hh2 gd => ?_⟩⟩
        obtain ⟨vs, h1, h2⟩ := hh2.obj n a _ (g2.pl hn) (gd (n, .lst xs) List.mem_cons_self)
        exact ⟨vs, .of h1, h2⟩
    · cases h
  · cases h
theorem guarded_app {g1 g2 : List (Nat × MO)} {h : MH} (q : guarded (g1 ++ g2) h) : guarded g1 h ∧ guarded g2 h := ⟨fun p hp => q p (List.mem_append_left _ hp), fun p hp => q p (List.mem_append_right _ hp)⟩
theorem pix_zip (C : Ctx X S k) {elts : List Expr} {kk : Nat} {tpos : Pos} (hm : X.mg "zip" = none) (ha : PX X S cf a ma) (hb : PX X S cf b mb) (hg : Gl X "zip" := by rfl) (hs : starEach [a, b] X.env = (false, eval a X.env) :: starEach [b] X.env := by rfl) (hs2 : starEach [b] X.env = (false, eval b X.env) :: starEach [] X.env := by rfl) (hpl : (backTo pos (starEach [b] X.env)).any (·.1) = false := by rfl) :
    PI X (.Tuple elts kk tpos) (.Call (.Name "zip" p) [a, b] [] pos) (tW S cf (.b2 .zip ma mb)) :=
  (pi_zipA hg hm (pa_cons ha.pe (pa_cons hb.pe pa_nil hs2) hs) hs hpl).imp fun σ H R ⟨c, e, r, eH, hh, he, er, nb, q⟩ => by
    subst eH
    have er : ((evalX S.P cf ma e c.h).bind fun x h => (evalX S.P cf mb e h).bind fun y h => .ofO (zipX x y h) h) = r := er
    show tX S cf ma σ c.H (fun x H1 => tX S cf mb σ H1 fun y H2 => ∃ a b xs ys, [x, y] = [V.ref a, V.ref b] ∧ ((SqL X.K H2 a xs ∧ SqL X.K H2 b ys ∧ R (Itz X.K a b) H2) ∨ (SqT X.K H2 a xs ∧ SqT X.K H2 b ys ∧ R (ItzT X.K a b) H2)))
    refine tX.mk hh he er nb fun x c1 v g1 hh1 he1 rx h1 => tX.mk hh1 he1 h1 nb fun y c2 w g2 hh2 he2 ry h2 => ?_
    obtain ⟨z, hz, er⟩ := ofO_ok h2 nb
    unfold zipX at hz
    split at hz
    · rename_i pp qq e1 e2
      obtain ⟨k1, xs, gx⟩ := pp
      obtain ⟨k2, ys, gy⟩ := qq
      split at hz
      · rename_i ek
        have ek : k1 = k2 := ek
        subst ek
        cases hz
        obtain ⟨a', rfl, h3⟩ := zseq_of hh2 (rx.mono g2) e1
        obtain ⟨b', rfl, h4⟩ := zseq_of hh2 ry e2
        obtain ⟨pp, hp, kk⟩ := q _ c2 er (g1.trans g2) hh2
        cases hp
        rcases h3 with ⟨rfl, ⟨vs, q1⟩, z1⟩ | ⟨rfl, ⟨vs, q1⟩, z1⟩ <;> rcases h4 with ⟨e4, ⟨ws, q2⟩, z2⟩ | ⟨e4, ⟨ws, q2⟩, z2⟩
        · exact ⟨a', b', vs, ws, rfl, .inl ⟨C.K ▸ q1, C.K ▸ q2, by rw [C.K]; exact kk _ (walks_zipL z1 z2 fun h => guarded_app)⟩⟩
        · cases e4
        · cases e4
        · exact ⟨a', b', vs, ws, rfl, .inr ⟨C.K ▸ q1, C.K ▸ q2, by rw [C.K]; exact kk _ (walks_zipT z1 z2 fun h => guarded_app)⟩⟩
      · cases hz
    · cases hz
theorem i_zip (C : Ctx X S k) {elts : List Expr} {kk : Nat} {tpos : Pos} (hm : X.mg "zip" = none) (ha : EX X S cf a ma) (hb : EX X S cf b mb) (hg : Gl X "zip" := by rfl) (hs : starEach [a, b] X.env = (false, eval a X.env) :: starEach [b] X.env := by rfl) (hs2 : starEach [b] X.env = (false, eval b X.env) :: starEach [] X.env := by rfl) (hpl : (backTo pos (starEach [b] X.env)).any (·.1) = false := by rfl) :
    IX X S cf (.Tuple elts kk tpos) (.Call (.Name "zip" p) [a, b] [] pos) (.b2 .zip ma mb) := ⟨pix_zip C hm ha.h hb.h hg hs hs2 hpl⟩

theorem lookup_map {f : Str × NameKind → Str × NameKind} (h1 : ∀ n k, (f (n, k)).1 = n) {x : Str} : ∀ {names : List (Str × NameKind)} {k : NameKind}, names.lookup x = some k → (names.map f).lookup x = some (f (x, k)).2
  | [], _, h => by cases h
  | (n, l) :: r, k, h => by
    rw [List.map_cons]
    have e1 : f (n, l) = (n, (f (n, l)).2) := Prod.ext (h1 n l) rfl
    rw [e1, List.lookup_cons]
    rw [List.lookup_cons] at h
    cases q : x == n with
    | true =>
      rw [q] at h
      cases h
      have e : x = n := by simpa using q
      rw [e]
    | false =>
      rw [q] at h
      exact lookup_map h1 h
theorem relabel_free {sc : Scope} {env : PySem.Env} {x : Str} (h : sc.names.lookup x = some .cell ∨ sc.names.lookup x = some .free) : (relabel sc env).names.lookup x = some .cell ∨ (relabel sc env).names.lookup x = some .free := by
  have key : ∀ k, sc.names.lookup x = some k → (relabel sc env).names.lookup x = some (if (k == NameKind.free && env.scope.kind == .function && env.kindOf x == some .cell) = true then NameKind.cell else k) := fun k hk => by
    have := lookup_map (f := fun (p : Str × NameKind) => if (p.2 == NameKind.free && env.scope.kind == .function && env.kindOf p.1 == some .cell) = true then (p.1, NameKind.cell) else (p.1, p.2)) (fun n k => by dsimp only; split <;> rfl) hk
    refine Eq.trans this ?_
    dsimp only
    split <;> rfl
  rcases h with h | h
  · exact .inl (by rw [key _ h]; rfl)
  · rw [key _ h]
    split
    · exact .inl rfl
    · exact .inr rfl
/-- a block within a block -/
theorem blk_deep {s : Shared} {H : Hp} {sc1 scope : Scope} {cl : List (Str × Addr)} {cc : Addr} {fp : List Addr} {N : List Str} {own : List (Str × Nat)} (hN : X.N = N) (ok : BlkOk N sc1 scope own) :
    BlkOk (X.blk s H sc1 (compEnvC sc1 cl cc X.env) fp).N (X.blk s H sc1 (compEnvC sc1 cl cc X.env) fp).env.scope scope own := by
  subst hN
  exact ⟨ok.kind, ok.uniq, ok.ix, fun y h1 h2 => relabel_free (ok.free y h1 h2), ok.own⟩

/-! ### join -/
theorem strs_rep {c : Cf} : ∀ {ds : List D} {vs : List V} {ss : List (List Nat)}, RepVs S c ds vs → strsOf ds = some ss → ∃ ys : List Str, vs = ys.map V.str ∧ ys.map TL.tl = ss
  | [], _, _, .nil, h => by cases h; exact ⟨[], rfl, rfl⟩
  | .str t :: ds, _, ss, .cons r rs, h => by
    have h : (strsOf ds).map (t :: ·) = some ss := h
    obtain ⟨ts, h1, rfl⟩ := Option.map_eq_some_iff.mp h
    obtain ⟨ys, rfl, e⟩ := strs_rep rs h1
    cases r with
    | str _ z ez => exact ⟨z :: ys, rfl, by rw [List.map_cons, e]; exact congrArg (· :: ts) ez⟩
  | .non :: _, _, _, _, h => by cases h
  | .bl _ :: _, _, _, _, h => by cases h
  | .int _ :: _, _, _, _, h => by cases h
  | .tup _ :: _, _, _, _, h => by cases h
  | .lst _ :: _, _, _, _, h => by cases h
  | .rol _ :: _, _, _, _, h => by cases h
  | .dct _ :: _, _, _, _, h => by cases h
  | .ref _ :: _, _, _, _, h => by cases h
theorem joinS_eq (s : List Nat) : ∀ ss : List (List Nat), TL.joinL s ss = joinS s ss
  | [] => rfl
  | [_] => rfl
  | x :: y :: r => by
    show x ++ (s ++ TL.joinL s (y :: r)) = x ++ s ++ joinS s (y :: r)
    rw [joinS_eq s (y :: r), List.append_assoc]
theorem mx_join (C : Ctx X S k) : MtW X S "str.join" (mbW .join) := by
  intro pins s σ c0 c1 c x y z h' v w u t I hh rx ru ry rt hz
  have hz : joinX x y c.h = some (z, h') := hz
  unfold joinX at hz
  split at hz
  · rename_i sep ys hq _
    split at hz
    · rename_i ss hss
      split at hz
      · rename_i hlen
        cases hz
        have rx : RepV S c (.str sep) v := rx
        cases rx with
        | str _ zz ez =>
          obtain ⟨p, vs, rfl, hp, rvs⟩ : ∃ p vs, w = .ref p ∧ (SqL X.K c.H p vs ∨ SqT X.K c.H p vs) ∧ RepVs S c ys vs := by
            unfold seqX at hq
            split at hq
            · rename_i xs hn
              cases hq
              obtain ⟨q2, ws2, rfl, h4, rq2⟩ := norm_lst hh ry hn
              exact ⟨q2, ws2, rfl, .inl (.of h4), rq2⟩
            · rename_i xs hn
              cases hq
              obtain ⟨q2, ws2, rfl, h4, rq2⟩ := (norm_rep hh ry hn).tup C.K
              exact ⟨q2, ws2, rfl, .inr h4, rq2⟩
            · cases hq
          obtain ⟨yy, rfl, e⟩ := strs_rep rvs hss
          subst e
          refine mt_join pins s σ c.H _ _ u [t] _ I ru (.cons rt .nil) ⟨zz, p, yy, rfl, rfl, hp, ?_, .here hh (.str _ _ ?_)⟩
          · have ml := maxl
            have e1 : (yy.map (·.length)) = (yy.map TL.tl).map (·.length) := by
              rw [List.map_map]
              exact List.map_congr_left fun z _ => by show z.cps.size = (z.cps.toList).length; simp
            have e2 : zz.length = sep.length := by rw [← ez]; show zz.cps.size = _; simp
            rw [e1, e2]
            rw [List.length_map] at hlen
            have : MAXL = 1000000 := rfl
            omega
          · show TL.tl (Txt.join zz yy) = _
            rw [TL.join_eq, TL.tl_join, joinS_eq]
            show joinS zz.cps.toList _ = _
            rw [ez]
      · cases hz
    · cases hz
  · cases hz
theorem rgV_rep {c : Cf} (n : Int) : RepVs S c (rangeD 0 n.toNat) (rgV 0 n) := by
  have e : rgV 0 n = (List.range n.toNat).map fun i => V.int (0 + (i : Nat)) := by unfold rgV; rw [show (n - 0).toNat = n.toNat by omega]
  rw [e]
  unfold rangeD
  induction (List.range n.toNat) with
  | nil => exact .nil
  | cons a r ih => exact .cons (.int _) ih
theorem px_lrg (C : Ctx X S k) {p2 pos2 : Pos} (hml : X.mg "list" = none) (hmr : X.mg "range" = none) (ha : PX X S cf a ma) (hgl : Gl X "list" := by rfl) (hgr : Gl X "range" := by rfl) (hs : starEach [a] X.env = (false, eval a X.env) :: starEach [] X.env := by rfl)
    (hs2 : starEach [.Call (.Name "range" p2) [a] [] pos2] X.env = (false, eval (.Call (.Name "range" p2) [a] [] pos2) X.env) :: starEach [] X.env := by rfl) : PX X S cf (.Call (.Name "list" p) [.Call (.Name "range" p2) [a] [] pos2] [] pos) (.b1 .lrg ma) := px_of (pe_listRg C.calm hgl hml (prg_1 hgr hmr ha.pe hs) hs2) fun σ c e r hh he hr nb => by
  have hr : ((evalX S.P cf ma e c.h).bind fun x h => .ofO (lrgX x) h) = r := hr
  show tX S cf ma σ c.H (fun x H1 => ∃ n : Int, x = V.int n ∧ RgOk 0 n ∧ ∀ q, H1 q = none → Ok S c r (.ref q) (upd H1 q (.lst (rgV 0 n))))
  refine tX.mk hh he hr nb fun x c1 v g1 hh1 he1 rx h1 => ?_
  obtain ⟨z, hz, er⟩ := ofO_ok h1 nb
  unfold lrgX at hz
  split at hz
  · rename_i n
    split at hz
    · rename_i hl
      cases hz
      have rx : RepV S c1 (.int n) v := rx
      cases rx
      have hM : MAXL = 1000000 := rfl
      refine ⟨n, rfl, ⟨by omega, by omega, by omega, by omega, by omega⟩, fun q hq => ?_⟩
      exact .ofQ g1 er.symm (QX.newL hh1 (rgV_rep n) q hq)
    · cases hz
  · cases hz
theorem e_lrg (C : Ctx X S k) {p2 pos2 : Pos} (hml : X.mg "list" = none) (hmr : X.mg "range" = none) (ha : EX X S cf a ma) (hgl : Gl X "list" := by rfl) (hgr : Gl X "range" := by rfl) (hs : starEach [a] X.env = (false, eval a X.env) :: starEach [] X.env := by rfl)
    (hs2 : starEach [.Call (.Name "range" p2) [a] [] pos2] X.env = (false, eval (.Call (.Name "range" p2) [a] [] pos2) X.env) :: starEach [] X.env := by rfl) : EX X S cf (.Call (.Name "list" p) [.Call (.Name "range" p2) [a] [] pos2] [] pos) (.b1 .lrg ma) := ⟨px_lrg C hml hmr ha.h hgl hgr hs hs2⟩
end
end MP

/-! MPW: what a mini program does, walked by simp: conditions on results, the rest of the program kept shut until its turn. -/
namespace MP
/-- keeps simp out of a continuation -/
inductive Tok {α : Sort _} (a : α) : Type | mk
abbrev EQ := Nat → List D → MH → Prop
def NE : EQ := fun _ _ _ => False
def WP {α : Type} (E : EQ) (r : Res α) (Q : α → MH → Prop) (_ : Tok Q := .mk) : Prop := match r with
  | .ok a h => Q a h
  | .exc c fs h => E c fs h
  | .bad => False
def WO {α : Type} (o : Option α) (Q : α → Prop) (_ : Tok Q := .mk) : Prop := match o with
  | some a => Q a
  | none => False
def WC (c : Bool) (a b : Prop) (_ : Tok a := .mk) (_ : Tok b := .mk) : Prop := match c with
  | true => a
  | false => b
section
variable {α β : Type} {E : EQ}
@[simp ↓] theorem WP_ok (a : α) (h : MH) (Q : α → MH → Prop) : WP E (.ok a h) Q = Q a h := (rfl)
@[simp ↓] theorem WP_exc (c : Nat) (fs : List D) (h : MH) (Q : α → MH → Prop) : WP E (.exc c fs h) Q = E c fs h := (rfl)
@[simp ↓] theorem WP_bad (Q : α → MH → Prop) : WP E .bad Q = False := (rfl)
@[simp ↓] theorem WP_bind (r : Res α) (f : α → MH → Res β) (Q : β → MH → Prop) : WP E (r.bind f) Q = WP E r (fun a h => WP E (f a h) Q) := by cases r <;> rfl
@[simp ↓] theorem WP_ofO (o : Option α) (h : MH) (Q : α → MH → Prop) : WP E (.ofO o h) Q = WO o (fun a => Q a h) := by cases o <;> rfl
@[simp ↓] theorem WO_some (a : α) (Q : α → Prop) : WO (some a) Q = Q a := (rfl)
@[simp ↓] theorem WO_none (Q : α → Prop) : WO (none : Option α) Q = False := (rfl)
@[simp ↓] theorem WO_map (o : Option α) (f : α → β) (Q : β → Prop) : WO (o.map f) Q = WO o (fun a => Q (f a)) := by cases o <;> rfl
@[simp ↓] theorem WC_true (a b : Prop) : WC true a b = a := (rfl)
@[simp ↓] theorem WC_false (a b : Prop) : WC false a b = b := (rfl)
@[simp ↓] theorem WC_not (c : Bool) (a b : Prop) : WC (!c) a b = WC c b a := by cases c <;> rfl
theorem WP_eq {r : Res α} {Q R : α → MH → Prop} (h : ∀ a h', Q a h' = R a h') : WP E r Q = WP E r R := by
  rw [show Q = R from funext fun a => funext fun b => h a b]
theorem WO_eq {o : Option α} {Q R : α → Prop} (h : ∀ a, Q a = R a) : WO o Q = WO o R := by
  rw [show Q = R from funext h]
theorem WP.mono {r : Res α} {Q R : α → MH → Prop} (h : WP E r Q) (i : ∀ a h', Q a h' → R a h') : WP E r R := by
  cases r with
  | ok a h' => exact i a h' h
  | exc c fs h' => exact h
  | bad => exact h
theorem WP.get {r : Res α} {Q : α → MH → Prop} (h : WP NE r Q) : ∃ a h', r = .ok a h' ∧ Q a h' := by
  cases r with
  | ok a h' => exact ⟨a, h', rfl, h⟩
  | exc c fs h' => exact h.elim
  | bad => exact h.elim
theorem WP.of {r : Res α} {Q : α → MH → Prop} (h : ∃ a h', r = .ok a h' ∧ Q a h') : WP E r Q := by
  obtain ⟨a, h', rfl, q⟩ := h
  exact q
theorem WO.get {o : Option α} {Q : α → Prop} (h : WO o Q) : ∃ a, o = some a ∧ Q a := by
  cases o with
  | some a => exact ⟨a, rfl, h⟩
  | none => exact h.elim
theorem WO.of {o : Option α} {Q : α → Prop} (h : ∃ a, o = some a ∧ Q a) : WO o Q := by
  obtain ⟨a, rfl, q⟩ := h
  exact q
theorem WC.of {c : Bool} {a b : Prop} (h1 : c = true → a) (h2 : c = false → b) : WC c a b := by
  cases c with
  | true => exact h1 rfl
  | false => exact h2 rfl
theorem WC.ofD {p : Prop} {i : Decidable p} {a b : Prop} (h1 : p → a) (h2 : ¬ p → b) : WC (decide p) a b :=
  .of (fun e => h1 (of_decide_eq_true e)) (fun e => h2 (of_decide_eq_false e))
theorem WC.both {c : Bool} {a b : Prop} (h1 : a) (h2 : b) : WC c a b := .of (fun _ => h1) (fun _ => h2)
@[simp ↓] theorem WO_if (p : Prop) [Decidable p] (a : α) (Q : α → Prop) : WO (if p then some a else none) Q = (p ∧ Q a) := by
  by_cases h : p <;> simp [h, WO]
@[simp ↓] theorem WO_ifo (p : Prop) [Decidable p] (o : Option α) (Q : α → Prop) : WO (if p then o else none) Q = (p ∧ WO o Q) := by
  by_cases h : p
  · rw [if_pos h]; exact (propext (and_iff_right h)).symm
  · rw [if_neg h]; exact (propext (iff_of_false (fun x => x) fun x => h x.1))
theorem WP_ifb (p : Prop) [Decidable p] (r : Res α) (Q : α → MH → Prop) : WP E (if p then r else .bad) Q = (p ∧ WP E r Q) := by
  by_cases h : p
  · rw [if_pos h]; exact (propext (and_iff_right h)).symm
  · rw [if_neg h]; exact (propext (iff_of_false (fun x => x) fun x => h x.1))
end
/-! ### values read off -/
def nO : MO → Option D
  | .lst xs => some (.lst xs)
  | .dct kvs => some (.dct kvs)
  | _ => none
section
variable {h : MH} {Q : D → Prop}
@[simp ↓] theorem n_non : WO (norm (.d .non) h) Q = Q .non := (rfl)
@[simp ↓] theorem n_bl (b : Bool) : WO (norm (.d (.bl b)) h) Q = Q (.bl b) := (rfl)
@[simp ↓] theorem n_int (i : Int) : WO (norm (.d (.int i)) h) Q = Q (.int i) := (rfl)
@[simp ↓] theorem n_str (s : List Nat) : WO (norm (.d (.str s)) h) Q = Q (.str s) := (rfl)
@[simp ↓] theorem n_tup (xs : List D) : WO (norm (.d (.tup xs)) h) Q = Q (.tup xs) := (rfl)
@[simp ↓] theorem n_lst (xs : List D) : WO (norm (.d (.lst xs)) h) Q = Q (.lst xs) := (rfl)
@[simp ↓] theorem n_rol (xs : List D) : WO (norm (.d (.rol xs)) h) Q = Q (.rol xs) := (rfl)
@[simp ↓] theorem n_dct (kvs : List (D × D)) : WO (norm (.d (.dct kvs)) h) Q = Q (.dct kvs) := (rfl)
@[simp ↓] theorem n_l (xs : List D) : WO (norm (.l xs) h) Q = Q (.lst xs) := (rfl)
@[simp ↓] theorem n_k (kvs : List (D × D)) : WO (norm (.k kvs) h) Q = Q (.dct kvs) := (rfl)
@[simp ↓] theorem n_ref (r : Nat) : WO (norm (.d (.ref r)) h) Q = WO (h[r]?) (fun o => WO (nO o) Q) := by
  unfold norm
  simp only
  cases h[r]? with
  | none => rfl
  | some o => cases o <;> rfl
@[simp ↓] theorem nO_lst (xs : List D) : WO (nO (.lst xs)) Q = Q (.lst xs) := (rfl)
@[simp ↓] theorem nO_dct (xs : List (D × D)) : WO (nO (.dct xs)) Q = Q (.dct xs) := (rfl)
/-- a value that is no reference stands for itself -/
def D.nr : D → Bool
  | .ref _ => false
  | _ => true
@[simp low] theorem n_nr {v : D} (e : v.nr = true) : WO (norm (.d v) h) Q = Q v := by
  cases v <;> first | rfl | cases e
end
/-! ### truth -/
section
variable {h : MH} {Q : Bool → Prop}
@[simp ↓] theorem t_non : WO (truthy (.d .non) h) Q = Q false := (rfl)
@[simp ↓] theorem t_bl (b : Bool) : WO (truthy (.d (.bl b)) h) Q = Q b := (rfl)
@[simp ↓] theorem t_int (i : Int) : WO (truthy (.d (.int i)) h) Q = Q (i != 0) := (rfl)
@[simp ↓] theorem t_str (s : List Nat) : WO (truthy (.d (.str s)) h) Q = (s.length ≤ 1000000 ∧ Q (!s.isEmpty)) := by
  show WO (if _ then _ else none) Q = _
  rw [WO_if]; rfl
@[simp ↓] theorem t_tup (xs : List D) : WO (truthy (.d (.tup xs)) h) Q = Q (!xs.isEmpty) := (rfl)
@[simp ↓] theorem t_lst (xs : List D) : WO (truthy (.d (.lst xs)) h) Q = Q (!xs.isEmpty) := (rfl)
@[simp ↓] theorem t_l (xs : List D) : WO (truthy (.l xs) h) Q = Q (!xs.isEmpty) := (rfl)
theorem t_ref (r : Nat) (xs : List D) (e : h[r]? = some (.lst xs)) : WO (truthy (.d (.ref r)) h) Q = Q (!xs.isEmpty) := by
  unfold truthy norm
  simp only
  simp only [e]
  rfl
end
/-! ### operators -/
section
variable {h : MH} {Q : X → Prop} {R : Bool → Prop}
@[simp ↓] theorem o_bin (op : BOp) (x y : X) : WO (binX op x y h) Q = WO (norm x h) fun a => WO (norm y h) fun b => WO (binD op a b) Q := by
  unfold binX
  cases norm x h <;> cases norm y h <;> rfl
@[simp ↓] theorem o_cmp (op : COp) (x y : X) : WO (cmpX op x y h) R = WO (norm x h) fun a => WO (norm y h) fun b => WO (cmpD op a b) R := by
  unfold cmpX
  cases norm x h <;> cases norm y h <;> rfl
@[simp ↓] theorem o_addI (i j : Int) : WO (binD .add (.int i) (.int j)) Q = Q (.d (.int (i + j))) := (rfl)
@[simp ↓] theorem o_addB (b : Bool) (j : Int) : WO (binD .add (.bl b) (.int j)) Q = Q (.d (.int ((if b = true then 1 else 0) + j))) := (rfl)
@[simp ↓] theorem o_subI (i j : Int) : WO (binD .sub (.int i) (.int j)) Q = Q (.d (.int (i - j))) := (rfl)
def MulOk (i j : Int) : Prop := (-18446744073709551616 < i ∧ i < 18446744073709551616) ∨ (-18446744073709551616 < j ∧ j < 18446744073709551616)
@[simp ↓] theorem o_mulI (i j : Int) : WO (binD .mul (.int i) (.int j)) Q = (MulOk i j ∧ Q (.d (.int (i * j)))) := by
  show WO (if _ then _ else none) Q = _
  rw [WO_if]
  simp [MulOk, small64]
@[simp ↓] theorem o_fdvI (i j : Int) : WO (binD .fdv (.int i) (.int j)) Q = ((0 < j ∧ j < 18446744073709551616) ∧ Q (.d (.int (i / j)))) := by
  show WO (if _ then _ else none) Q = _
  rw [WO_if]; rfl
@[simp ↓] theorem o_mdI (i j : Int) : WO (binD .md (.int i) (.int j)) Q = (0 < j ∧ Q (.d (.int (i % j)))) := by
  show WO (if _ then _ else none) Q = _
  rw [WO_if]
@[simp ↓] theorem o_powI (i j : Int) : WO (binD .pow (.int i) (.int j)) Q = ((0 ≤ j ∧ j ≤ 1000 ∧ small64 i = true) ∧ Q (.d (.int (i ^ j.toNat)))) := by
  show WO (if _ then _ else none) Q = _
  rw [WO_if]
@[simp ↓] theorem o_addS (s t : List Nat) : WO (binD .add (.str s) (.str t)) Q = (s.length + t.length ≤ 1000000 ∧ Q (.d (.str (s ++ t)))) := by
  show WO (if _ then _ else none) Q = _
  rw [WO_if]; rfl
@[simp ↓] theorem o_addT (s t : List D) : WO (binD .add (.tup s) (.tup t)) Q = (s.length + t.length ≤ 1000000 ∧ Q (.d (.tup (s ++ t)))) := by
  show WO (if _ then _ else none) Q = _
  rw [WO_if]; rfl
@[simp ↓] theorem o_addL (s t : List D) : WO (binD .add (.lst s) (.lst t)) Q = (s.length + t.length ≤ 1000000 ∧ Q (.l (s ++ t))) := by
  show WO (if _ then _ else none) Q = _
  rw [WO_if]; rfl
@[simp ↓] theorem o_mulL (xs : List D) (k : Int) : WO (binD .mul (.lst xs) (.int k)) Q = ((0 ≤ k ∧ k ≤ 1000000 ∧ xs.length * k.toNat ≤ 1000000) ∧ Q (.l (List.replicate k.toNat xs).flatten)) := by
  show WO (if _ then _ else none) Q = _
  rw [WO_if]; rfl
@[simp ↓] theorem o_mulS (s : List Nat) (k : Int) : WO (binD .mul (.str s) (.int k)) Q = ((1 ≤ k ∧ k ≤ 1000 ∧ 1 ≤ s.length ∧ s.length ≤ 1000) ∧ Q (.d (.str (List.replicate k.toNat s).flatten))) := by
  show WO (if _ then _ else none) Q = _
  rw [WO_if]
@[simp ↓] theorem o_ltI (i j : Int) : WO (cmpD .lt (.int i) (.int j)) R = R (decide (i < j)) := (rfl)
@[simp ↓] theorem o_leI (i j : Int) : WO (cmpD .le (.int i) (.int j)) R = R (decide (i ≤ j)) := (rfl)
@[simp ↓] theorem o_gtI (i j : Int) : WO (cmpD .gt (.int i) (.int j)) R = R (decide (j < i)) := (rfl)
@[simp ↓] theorem o_geI (i j : Int) : WO (cmpD .ge (.int i) (.int j)) R = R (decide (j ≤ i)) := (rfl)
/-- plain data of a height that a comparison bears -/
def Pl (a : D) : Prop := a.pl 30 = true
def PlE (a b : D) : Prop := plE a b = true
@[simp] theorem PlE_str (s t : List Nat) : PlE (.str s) (.str t) := rfl
theorem PlE.of {a b : D} (h1 : Pl a) (h2 : Pl b) : PlE a b := by
  unfold PlE plE
  split
  · rfl
  · rw [show _ = true from h1, show _ = true from h2]; rfl
@[simp ↓] theorem o_eq (a b : D) : WO (cmpD .eq a b) R = (PlE a b ∧ R (eqD a b)) := by
  show WO (if _ then _ else none) R = _
  rw [WO_if]; rfl
@[simp ↓] theorem o_ne (a b : D) : WO (cmpD .ne a b) R = (PlE a b ∧ R (!eqD a b)) := by
  show WO (if _ then _ else none) R = _
  rw [WO_if]; rfl
@[simp ↓] theorem o_inT (a : D) (xs : List D) : WO (cmpD .isin a (.tup xs)) R = ((Pl a ∧ pls xs 29 = true) ∧ R (memD a xs)) := by
  have e : cmpD .isin a (.tup xs) = if a.pl 30 = true ∧ pls xs 29 = true then some (memD a xs) else none := by cases a <;> first | rfl | (rename_i s; rcases s with _ | ⟨c, _ | ⟨d, s⟩⟩ <;> rfl)
  rw [e, WO_if]; rfl
@[simp ↓] theorem o_inL (a : D) (xs : List D) : WO (cmpD .isin a (.lst xs)) R = ((Pl a ∧ pls xs 29 = true) ∧ R (memD a xs)) := by
  have e : cmpD .isin a (.lst xs) = if a.pl 30 = true ∧ pls xs 29 = true then some (memD a xs) else none := by cases a <;> first | rfl | (rename_i s; rcases s with _ | ⟨c, _ | ⟨d, s⟩⟩ <;> rfl)
  rw [e, WO_if]; rfl
@[simp ↓] theorem o_niT (a : D) (xs : List D) : WO (cmpD .notin a (.tup xs)) R = ((Pl a ∧ pls xs 29 = true) ∧ R (!memD a xs)) := by
  have e : cmpD .notin a (.tup xs) = if a.pl 30 = true ∧ pls xs 29 = true then some (!memD a xs) else none := by cases a <;> first | rfl | (rename_i s; rcases s with _ | ⟨c, _ | ⟨d, s⟩⟩ <;> rfl)
  rw [e, WO_if]; rfl
@[simp ↓] theorem o_niL (a : D) (xs : List D) : WO (cmpD .notin a (.lst xs)) R = ((Pl a ∧ pls xs 29 = true) ∧ R (!memD a xs)) := by
  have e : cmpD .notin a (.lst xs) = if a.pl 30 = true ∧ pls xs 29 = true then some (!memD a xs) else none := by cases a <;> first | rfl | (rename_i s; rcases s with _ | ⟨c, _ | ⟨d, s⟩⟩ <;> rfl)
  rw [e, WO_if]; rfl
@[simp ↓] theorem o_inD (a : D) (xs : List (D × D)) : WO (cmpD .isin a (.dct xs)) R = (okKey a = true ∧ R (dget xs a).isSome) := by
  have e : cmpD .isin a (.dct xs) = if okKey a = true then some (dget xs a).isSome else none := by cases a <;> first | rfl | (rename_i s; rcases s with _ | ⟨c, _ | ⟨d, s⟩⟩ <;> rfl)
  rw [e, WO_if]
@[simp ↓] theorem o_niD (a : D) (xs : List (D × D)) : WO (cmpD .notin a (.dct xs)) R = (okKey a = true ∧ R (!(dget xs a).isSome)) := by
  have e : cmpD .notin a (.dct xs) = if okKey a = true then some (!(dget xs a).isSome) else none := by cases a <;> first | rfl | (rename_i s; rcases s with _ | ⟨c, _ | ⟨d, s⟩⟩ <;> rfl)
  rw [e, WO_if]
@[simp ↓] theorem o_inS (c : Nat) (t : List Nat) : WO (cmpD .isin (.str [c]) (.str t)) R = R (decide (c ∈ t)) := (rfl)
end
/-! ### items, slices -/
section
variable {h : MH} {Q : X → Prop} {V : D → Prop}
@[simp ↓] theorem o_ix (x : X) (k : D) : WO (ixX x k h) V = WO (norm x h) fun a => WO (ixD a k) V := by
  unfold ixX
  cases norm x h <;> rfl
@[simp ↓] theorem o_ixT (xs : List D) (i : Int) : WO (ixD (.tup xs) (.int i)) V = WO (atD xs i) V := (rfl)
@[simp ↓] theorem o_ixL (xs : List D) (i : Int) : WO (ixD (.lst xs) (.int i)) V = WO (atD xs i) V := (rfl)
@[simp ↓] theorem o_ixR (xs : List D) (i : Int) : WO (ixD (.rol xs) (.int i)) V = WO (atD xs i) V := (rfl)
@[simp ↓] theorem o_ixS (s : List Nat) (i : Int) : WO (ixD (.str s) (.int i)) V = (s.length ≤ 1000000 ∧ WO (atD (chars s) i) V) := by
  show WO (if _ then _ else none) V = _
  rw [WO_ifo]; rfl
@[simp ↓] theorem o_ixD (kvs : List (D × D)) (k : D) : WO (ixD (.dct kvs) k) V = (okKey k = true ∧ WO (dget kvs k) V) := by
  show WO (if _ then _ else none) V = _
  rw [WO_ifo]
@[simp] theorem atD_0 (x : D) (xs : List D) : atD (x :: xs) 0 = some x := (rfl)
@[simp] theorem atD_1 (x y : D) (xs : List D) : atD (x :: y :: xs) 1 = some y := (rfl)
@[simp] theorem atD_2 (x y z : D) (xs : List D) : atD (x :: y :: z :: xs) 2 = some z := (rfl)
theorem atD_n (xs : List D) (n : Nat) : atD xs (n : Int) = xs[n]? := by
  unfold atD
  rw [if_pos (by omega)]
  rfl
theorem atD_i {xs : List D} {i : Int} (l : 0 ≤ i) : atD xs i = xs[i.toNat]? := by
  unfold atD
  rw [if_pos l]
theorem atD_last {xs : List D} {x : D} : atD (xs ++ [x]) (-1) = some x := by
  unfold atD
  have e : ((xs ++ [x]).length : Int) + -1 = xs.length := by rw [List.length_append]; simp; omega
  rw [if_neg (by omega), if_pos (by omega), e]
  simp
@[simp ↓] theorem o_sl (x : X) (lo hi : Option Int) : WO (slX x lo hi h) Q = WO (norm x h) fun a => WO (match a with
    | .tup xs => some (.d (.tup (cutL xs (cutN xs.length 0 lo) (cutN xs.length xs.length hi))))
    | .lst xs => some (.l (cutL xs (cutN xs.length 0 lo) (cutN xs.length xs.length hi)))
    | .str s => if s.length ≤ MAXL then some (.d (.str (cutL s (cutN s.length 0 lo) (cutN s.length s.length hi)))) else none
    | _ => none) Q := by
  unfold slX
  cases e : norm x h with
  | none => rfl
  | some a => cases a <;> rfl
end
/-! ### what is made of one value, of two -/
section
variable {h : MH} {Q : X → Prop} {N : Nat → Prop} {L : List D → Prop}
@[simp ↓] theorem f_len (x : X) : WO (b1X .len x h) Q = WO (lenX x h) fun n => Q (.d (.int (n : Int))) := WO_map _ _ _
@[simp ↓] theorem f_lenX (x : X) : WO (lenX x h) N = WO (norm x h) fun a => WO (match a with
    | .str s => if s.length ≤ MAXL then some s.length else none
    | .tup xs => some xs.length
    | .lst xs => some xs.length
    | .rol xs => some xs.length
    | _ => none) N := by
  unfold lenX
  cases e : norm x h with
  | none => rfl
  | some a => cases a <;> rfl
@[simp ↓] theorem f_abs (i : Int) : WO (b1X .abs (.d (.int i)) h) Q = Q (.d (.int (if i < 0 then -i else i))) := (rfl)
@[simp ↓] theorem f_intB (b : Bool) : WO (b1X .int (.d (.bl b)) h) Q = Q (.d (.int (if b = true then 1 else 0))) := (rfl)
@[simp ↓] theorem f_intI (i : Int) : WO (b1X .int (.d (.int i)) h) Q = Q (.d (.int i)) := (rfl)
@[simp ↓] theorem f_intS (s : List Nat) : WO (b1X .int (.d (.str s)) h) Q = (s.length ≤ 640 ∧ WO (PySem.intText? ⟨s.toArray⟩) fun i => Q (.d (.int i))) := by
  show WO (if s.length ≤ 640 then (PySem.intText? ⟨s.toArray⟩).map (fun i => X.d (.int i)) else none) Q = _
  rw [WO_ifo, WO_map]
@[simp ↓] theorem f_neg (i : Int) : WO (b1X .neg (.d (.int i)) h) Q = Q (.d (.int (-i))) := (rfl)
@[simp ↓] theorem f_not (x : X) : WO (b1X .not x h) Q = WO (truthy x h) fun b => Q (.d (.bl (!b))) := WO_map _ _ _
@[simp ↓] theorem f_negB (b : Bool) : WO (b1X .neg (.d (.bl b)) h) Q = Q (.d (.int (-(if b = true then 1 else 0)))) := (rfl)
@[simp ↓] theorem f_strS (s : List Nat) : WO (b1X .str (.d (.str s)) h) Q = Q (.d (.str s)) := (rfl)
@[simp ↓] theorem f_strB (b : Bool) : WO (b1X .str (.d (.bl b)) h) Q = Q (.d (.str (if b = true then [84, 114, 117, 101] else [70, 97, 108, 115, 101]))) := (rfl)
@[simp ↓] theorem f_strI (i : Int) : WO (b1X .str (.d (.int i)) h) Q = (i.natAbs.log2 < 1920 ∧ Q (.d (.str (strOfInt i)))) := by
  show WO (if _ then _ else none) Q = _
  rw [WO_if]
@[simp ↓] theorem f_seq (x : X) : WO (seqX x h) L = WO (norm x h) fun a => WO (match a with
    | .lst xs => some xs
    | .tup xs => some xs
    | _ => none) L := by
  unfold seqX
  cases e : norm x h with
  | none => rfl
  | some a => cases a <;> rfl
@[simp ↓] theorem f_list (x : X) : WO (b1X .list x h) Q = WO (seqX x h) fun xs => Q (.l xs) := by
  show WO (listX x h) Q = _
  unfold listX seqX
  cases e : norm x h with
  | none => rfl
  | some a => cases a <;> rfl
@[simp ↓] theorem f_tuple (x : X) : WO (b1X .tuple x h) Q = WO (seqX x h) fun xs => Q (.d (.tup xs)) := by
  show WO (tupleX x h) Q = _
  unfold tupleX seqX
  cases e : norm x h with
  | none => rfl
  | some a => cases a <;> rfl
@[simp ↓] theorem f_sorted (x : X) : WO (b1X .sorted x h) Q = WO (seqX x h) fun xs => WO (sortD xs) fun ys => Q (.l ys) := by
  show WO (sortedX x h) Q = _
  unfold sortedX
  cases e : seqX x h with
  | none => rfl
  | some a => exact WO_map _ _ _
@[simp ↓] theorem f_lst (x : X) : WO (lstX x h) L = WO (norm x h) fun a => WO (match a with
    | .lst xs => some xs
    | .tup xs => some xs
    | _ => none) L := by
  unfold lstX
  cases e : norm x h with
  | none => rfl
  | some a => cases a <;> rfl
open Classical in
@[simp ↓] theorem f_sortset (x : X) : WO (b1X .sortset x h) Q = WO (lstX x h) fun p => (okSet p ∧ ∀ q : List D, q.Perm (dedup p) → sortD q = sortD (dedup p)) ∧ WO (sortD (dedup p)) fun ys => Q (.l ys) := by
  show WO (sortsetX x h) Q = _
  unfold sortsetX
  cases e : lstX x h with
  | none => rfl
  | some a =>
    refine (WO_ifo _ _ _).trans ?_
    rw [WO_map]
    rfl
open Classical in
@[simp ↓] theorem f_lenset (x : X) : WO (b1X .lenset x h) Q = WO (lstX x h) fun p => okSet p ∧ Q (.d (.int ((dedup p).length : Int))) := by
  show WO (lensetX x h) Q = _
  unfold lensetX
  cases e : lstX x h with
  | none => rfl
  | some a => exact WO_if _ _ _
@[simp ↓] theorem f_all (x : X) : WO (b1X .all x h) Q = WO (norm x h) fun a => WO (match a with
    | .lst xs => blsOf xs
    | _ => none) fun bs => Q (.d (.bl (bs.all id))) := by
  show WO (allX x h) Q = _
  unfold allX
  cases e : norm x h with
  | none => rfl
  | some a => cases a <;> first | rfl | exact WO_map _ _ _
@[simp ↓] theorem f_any (x : X) : WO (b1X .any x h) Q = WO (norm x h) fun a => WO (match a with
    | .lst xs => blsOf xs
    | _ => none) fun bs => Q (.d (.bl (bs.any id))) := by
  show WO (anyX x h) Q = _
  unfold anyX
  cases e : norm x h with
  | none => rfl
  | some a => cases a <;> first | rfl | exact WO_map _ _ _
@[simp ↓] theorem f_sum (x : X) : WO (b1X .sum x h) Q = WO (norm x h) fun a => WO (match a with
    | .lst xs => intsOf xs
    | _ => none) fun bs => Q (.d (.int bs.sum)) := by
  show WO (sumX x h) Q = _
  unfold sumX
  cases e : norm x h with
  | none => rfl
  | some a => cases a <;> first | rfl | exact WO_map _ _ _
/-- what repr bears -/
def Shown (v : D) : Prop := v.sh = true ∧ PySem.PyData.showable (toPD v) = true ∧ (reprD v).length ≤ MAXL ∧ PySem.PyData.depth (toPD v) ≤ 60
@[simp ↓] theorem f_repr (x : X) : WO (b1X .repr x h) Q = WO (norm x h) fun v => Shown v ∧ Q (.d (.str (reprD v))) := by
  show WO (reprX x h) Q = _
  unfold reprX
  cases e : norm x h with
  | none => rfl
  | some a =>
    show WO (if a.sh = true ∧ PySem.PyData.showable (toPD a) = true ∧ (reprD a).length ≤ MAXL ∧ PySem.PyData.depth (toPD a) ≤ 60 then some (X.d (.str (reprD a))) else none) Q = _
    exact WO_if _ _ _
@[simp ↓] theorem f_rev (x : X) : WO (b1X .rev x h) Q = WO (norm x h) fun a => WO (match a with
    | .tup xs => some (X.d (.tup xs.reverse))
    | .lst xs => some (.l xs.reverse)
    | _ => none) Q := by
  show WO (revX x h) Q = _
  unfold revX
  cases e : norm x h with
  | none => rfl
  | some a => cases a <;> rfl
@[simp ↓] theorem f_range (n : Int) : WO (b1X .range (.d (.int n)) h) Q = ((n ≤ 1000000 ∧ -1152921504606846976 ≤ n) ∧ Q (.it (rangeD 0 n.toNat) [])) := by
  show WO (if _ then _ else none) Q = _
  rw [WO_if]; rfl
@[simp ↓] theorem f_lrg (n : Int) : WO (b1X .lrg (.d (.int n)) h) Q = ((n ≤ 1000000 ∧ -1152921504606846976 ≤ n) ∧ Q (.l (rangeD 0 n.toNat))) := by
  show WO (if _ then _ else none) Q = _
  rw [WO_if]; rfl
@[simp ↓] theorem g_range (i j : Int) : WO (b2X .range (.d (.int i)) (.d (.int j)) h) Q = ((-1152921504606846976 ≤ i ∧ i ≤ 1000000 ∧ j ≤ 1000000 ∧ -1152921504606846976 ≤ j ∧ j - i ≤ 1000000) ∧ Q (.it (rangeD i (j - i).toNat) [])) := by
  show WO (if _ then _ else none) Q = _
  rw [WO_if]; rfl
@[simp ↓] theorem g_zip (x y : X) : WO (b2X .zip x y h) Q = WO (zseq x h) fun p => WO (zseq y h) fun q => p.1 = q.1 ∧ Q (.it (zipD p.2.1 q.2.1) (p.2.2 ++ q.2.2)) := by
  show WO (zipX x y h) Q = _
  unfold zipX
  cases zseq x h with
  | none => rfl
  | some p =>
    cases zseq y h with
    | none => rfl
    | some q => exact WO_if _ _ _
@[simp ↓] theorem g_zipl (x y : X) : WO (b2X .zipl x y h) Q = WO (zseq x h) fun p => WO (zseq y h) fun q => p.1 = q.1 ∧ Q (.l (zipD p.2.1 q.2.1)) := by
  show WO (match zipX x y h with | some (.it xs _) => some (X.l xs) | _ => none) Q = _
  unfold zipX
  cases zseq x h with
  | none => rfl
  | some p =>
    cases zseq y h with
    | none => rfl
    | some q =>
      by_cases e : p.1 = q.1
      · simp [e]
      · simp [e]
section
variable {Z : Bool × List D × List (Nat × MO) → Prop}
@[simp ↓] theorem z_tup (xs : List D) : WO (zseq (.d (.tup xs)) h) Z = Z (true, xs, []) := (rfl)
@[simp ↓] theorem z_lst (xs : List D) : WO (zseq (.d (.lst xs)) h) Z = Z (false, xs, []) := (rfl)
@[simp ↓] theorem z_l (xs : List D) : WO (zseq (.l xs) h) Z = Z (false, xs, []) := (rfl)
end
@[simp ↓] theorem g_max (i j : Int) : WO (b2X .max (.d (.int i)) (.d (.int j)) h) Q = Q (.d (.int (if j > i then j else i))) := (rfl)
@[simp ↓] theorem g_min (i j : Int) : WO (b2X .min (.d (.int i)) (.d (.int j)) h) Q = Q (.d (.int (if j < i then j else i))) := (rfl)
end
/-! ### things to be walked -/
section
variable {h : MH} {Q : List D × List (Nat × MO) → Prop}
@[simp ↓] theorem i_tup (xs : List D) : WO (items (.d (.tup xs)) h) Q = Q (xs, []) := (rfl)
@[simp ↓] theorem i_lst (xs : List D) : WO (items (.d (.lst xs)) h) Q = Q (xs, []) := (rfl)
@[simp ↓] theorem i_str (xs : List Nat) : WO (items (.d (.str xs)) h) Q = Q (chars xs, []) := (rfl)
@[simp ↓] theorem i_l (xs : List D) : WO (items (.l xs) h) Q = Q (xs, []) := (rfl)
@[simp ↓] theorem i_it (xs : List D) (g : List (Nat × MO)) : WO (items (.it xs g) h) Q = Q (xs, g) := (rfl)
def lO : MO → Option (List D)
  | .lst xs => some xs
  | _ => none
@[simp ↓] theorem i_ref (r : Nat) : WO (items (.d (.ref r)) h) Q = WO (h[r]?) fun o => WO (lO o) fun xs => Q (xs, [(r, .lst xs)]) := by
  show WO (match h[r]? with | some (.lst xs) => some (xs, [(r, .lst xs)]) | _ => none) Q = _
  cases e2 : h[r]? with
  | none => rfl
  | some o => cases o <;> rfl
@[simp ↓] theorem lO_lst {Q : List D → Prop} (xs : List D) : WO (lO (.lst xs)) Q = Q xs := (rfl)
end
/-! ### changing objects -/
section
variable {h : MH} {Q : X × MH → Prop}
@[simp ↓] theorem k_append (r : Nat) (v : D) : WO (mbX .append (.d (.ref r)) [v] h) Q = WO (h[r]?) fun o => WO (lO o) fun xs => xs.length < 1000000 ∧ Q (.d .non, h.set r (.lst (xs ++ [v]))) := by
  show WO (appendX (.d (.ref r)) [v] h) Q = _
  unfold appendX lstAt
  simp only
  cases h[r]? with
  | none => rfl
  | some o =>
    cases o with
    | lst xs => exact WO_if _ _ _
    | _ => rfl
@[simp ↓] theorem k_insert (r : Nat) (v : D) : WO (mbX .insert (.d (.ref r)) [.int 0, v] h) Q = WO (h[r]?) fun o => WO (lO o) fun xs => xs.length < 1000000 ∧ Q (.d .non, h.set r (.lst (v :: xs))) := by
  show WO (insertX (.d (.ref r)) [.int 0, v] h) Q = _
  unfold insertX lstAt
  simp only
  cases h[r]? with
  | none => rfl
  | some o =>
    cases o with
    | lst xs =>
      show WO (if (0 : Int) = 0 ∧ xs.length < MAXL then some (X.d .non, h.set r (.lst (v :: xs))) else none) Q = _
      rw [WO_if]
      exact propext ⟨fun x => ⟨x.1.2, x.2⟩, fun x => ⟨⟨rfl, x.1⟩, x.2⟩⟩
    | _ => rfl
@[simp ↓] theorem k_pop (r : Nat) : WO (mbX .pop (.d (.ref r)) [] h) Q = WO (h[r]?) fun o => WO (lO o) fun xs => WO xs.getLast? fun v => Q (.d v, h.set r (.lst xs.dropLast)) := by
  show WO (popX (.d (.ref r)) [] h) Q = _
  unfold popX lstAt
  simp only
  cases h[r]? with
  | none => rfl
  | some o =>
    cases o with
    | lst xs =>
      show WO (match xs.getLast? with | some v => some (X.d v, h.set r (.lst xs.dropLast)) | none => none) Q = WO xs.getLast? _
      cases xs.getLast? <;> rfl
    | _ => rfl
@[simp ↓] theorem k_popAt (r : Nat) (i : Int) : WO (mbX .pop0 (.d (.ref r)) [.int i] h) Q = WO (h[r]?) fun o => WO (lO o) fun xs => (0 ≤ i ∧ i < 1000000) ∧ WO xs[i.toNat]? fun v => Q (.d v, h.set r (.lst (xs.eraseIdx i.toNat))) := by
  show WO (popAtX (.d (.ref r)) [.int i] h) Q = _
  unfold popAtX lstAt
  simp only
  cases h[r]? with
  | none => rfl
  | some o =>
    cases o with
    | lst xs =>
      show WO (if 0 ≤ i ∧ i < 1000000 then (match xs[i.toNat]? with | some v => some (X.d v, h.set r (.lst (xs.eraseIdx i.toNat))) | none => none) else none) Q = (_ ∧ WO xs[i.toNat]? _)
      rw [WO_ifo]
      cases xs[i.toNat]? <;> rfl
    | _ => rfl
def dO : D → Option (List (D × D))
  | .dct kvs => some kvs
  | _ => none
@[simp ↓] theorem dO_dct {Q : List (D × D) → Prop} (xs : List (D × D)) : WO (dO (.dct xs)) Q = Q xs := (rfl)
@[simp ↓] theorem k_get (x : X) (k : D) : WO (mbX .get x [k] h) Q = WO (norm x h) fun a => WO (dO a) fun kvs => okKey k = true ∧ Q (.d ((dget kvs k).getD .non), h) := by
  show WO (getX x [k] h) Q = _
  unfold getX
  cases norm x h with
  | none => rfl
  | some a =>
    cases a with
    | dct kvs => exact WO_if _ _ _
    | _ => rfl
@[simp ↓] theorem k_get2 (x : X) (k v : D) : WO (mbX .get2 x [k, v] h) Q = WO (norm x h) fun a => WO (dO a) fun kvs => okKey k = true ∧ Q (.d ((dget kvs k).getD v), h) := by
  show WO (get2X x [k, v] h) Q = _
  unfold get2X
  cases norm x h with
  | none => rfl
  | some a =>
    cases a with
    | dct kvs => exact WO_if _ _ _
    | _ => rfl
@[simp ↓] theorem k_extend (r : Nat) (y : X) : WO (mbW .extend (.d (.ref r)) y h) Q = WO (h[r]?) fun o => WO (lO o) fun xs => WO (norm y h) fun b => WO (match b with | .lst ys => some ys | .tup ys => some ys | _ => none) fun ys => xs.length + ys.length ≤ 1000000 ∧ Q (.d .non, h.set r (.lst (xs ++ ys))) := by
  show WO (extendX (.d (.ref r)) y h) Q = _
  unfold extendX lstAt
  simp only
  cases h[r]? with
  | none => rfl
  | some o =>
    cases o with
    | lst xs =>
      show WO (match some (r, xs), norm y h with | some (r, xs), some (.lst ys) => (if xs.length + ys.length ≤ MAXL then some (X.d .non, h.set r (.lst (xs ++ ys))) else none) | some (r, xs), some (.tup ys) => (if xs.length + ys.length ≤ MAXL then some (X.d .non, h.set r (.lst (xs ++ ys))) else none) | _, _ => none) Q = WO (norm y h) _
      cases norm y h with
      | none => rfl
      | some b =>
        cases b with
        | lst ys => exact WO_if _ _ _
        | tup ys => exact WO_if _ _ _
        | _ => rfl
    | _ => rfl
end
section
variable {h : MH} {Q : X × MH → Prop}
@[simp ↓] theorem k_join (s : List Nat) (y : X) : WO (mbW .join (.d (.str s)) y h) Q = WO (seqX y h) fun ys => WO (strsOf ys) fun ss => (ss.map (·.length)).sum + ss.length * s.length ≤ 1000000 ∧ Q (.d (.str (joinS s ss)), h) := by
  show WO (joinX (.d (.str s)) y h) Q = _
  unfold joinX
  cases seqX y h with
  | none => rfl
  | some ys =>
    show WO (match strsOf ys with | some ss => (if (ss.map (·.length)).sum + ss.length * s.length ≤ MAXL then some (X.d (.str (joinS s ss)), h) else none) | none => none) Q = WO (strsOf ys) _
    cases strsOf ys with
    | none => rfl
    | some ss => exact WO_if _ _ _
end
section
variable {h : MH} {Q : MH → Prop}
@[simp ↓] theorem k_setL (r : Nat) (k v : D) : WO (setX (.d (.ref r)) k v h) Q = WO (h[r]?) fun o => WO (match o, k with
    | .lst xs, .int j => if 0 ≤ j ∧ j < xs.length then some (h.set r (.lst (xs.set j.toNat v))) else none
    | .dct kvs, k => if okKey k = true ∧ kvs.length < 1000000 then some (h.set r (.dct (dput kvs k v))) else none
    | _, _ => none) Q := by
  unfold setX
  simp only
  cases h[r]? with
  | none => rfl
  | some o =>
    cases o with
    | lst xs => cases k <;> rfl
    | dct xs => cases k <;> rfl
    | _ => cases k <;> rfl
end
end MP

/-! MPV: expressions, statements, loops, calls by their conditions. -/
namespace MP
section
variable {P : Prog} {cf : CF} {E : EQ} {e : Env} {h : MH} {Q : X → MH → Prop} {V : D → Prop}
@[simp ↓] theorem v_d (v : D) : WO (X.toV (.d v)) V = V v := (rfl)
@[simp ↓] theorem v_l (v : List D) : WO (X.toV (.l v)) V = V (.lst v) := (rfl)
@[simp ↓] theorem v_k (v : List (D × D)) : WO (X.toV (.k v)) V = V (.dct v) := (rfl)
@[simp ↓] theorem x_non : WP E (evalX P cf .non e h) Q = Q (.d .non) h := by rw [evalX]; rfl
@[simp ↓] theorem x_bl (b : Bool) : WP E (evalX P cf (.bl b) e h) Q = Q (.d (.bl b)) h := by rw [evalX]; rfl
@[simp ↓] theorem x_int (i : Int) : WP E (evalX P cf (.int i) e h) Q = Q (.d (.int i)) h := by rw [evalX]; rfl
@[simp ↓] theorem x_str (s : List Nat) : WP E (evalX P cf (.str s) e h) Q = Q (.d (.str s)) h := by rw [evalX]; rfl
def evO : Option D → Option D := fun x => x
@[simp ↓] theorem x_var (i : Nat) : WP E (evalX P cf (.var i) e h) Q = WO (e[i]?) fun o => WO o fun v => Q (.d v) h := by
  rw [evalX]
  cases e[i]? with
  | none => rfl
  | some o => cases o <;> rfl
@[simp ↓] theorem x_glb (i : Nat) : WP E (evalX P cf (.glb i) e h) Q = WO (P.G i) fun v => Q (.d v) h := by
  rw [evalX]
  cases P.G i <;> rfl
@[simp ↓] theorem xs_n {R : List D → MH → Prop} : WP E (evalVs P cf .n e h) R = R [] h := by rw [evalVs]; rfl
@[simp ↓] theorem xs_c {R : List D → MH → Prop} (a : ME) (r : MEs) : WP E (evalVs P cf (.c a r) e h) R = WP E (evalX P cf a e h) fun x h => WO x.toV fun v => WP E (evalVs P cf r e h) fun vs h => R (v :: vs) h := by
  rw [evalVs, WP_bind]
  refine WP_eq fun x h1 => ?_
  cases x.toV with
  | none => rfl
  | some v => exact WP_bind _ _ _
@[simp ↓] theorem x_tup (es : MEs) : WP E (evalX P cf (.tup es) e h) Q = WP E (evalVs P cf es e h) fun ds h => Q (.d (.tup ds)) h := by rw [evalX, WP_bind]; rfl
@[simp ↓] theorem x_lst (es : MEs) : WP E (evalX P cf (.lst es) e h) Q = WP E (evalVs P cf es e h) fun ds h => Q (.l ds) h := by rw [evalX, WP_bind]; rfl
@[simp ↓] theorem x_dct (es : MEs) : WP E (evalX P cf (.dct es) e h) Q = WP E (evalVs P cf es e h) fun ds h => WO (pairUp ds) fun kvs => (okKeys kvs = true ∧ kvs.length ≤ 15) ∧ Q (.k (dputs [] kvs)) h := by
  rw [evalX, WP_bind]
  refine WP_eq fun x h1 => ?_
  cases pairUp x with
  | none => rfl
  | some v => exact WP_ifb _ _ _
@[simp ↓] theorem x_bin (op : BOp) (a b : ME) : WP E (evalX P cf (.bin op a b) e h) Q = WP E (evalX P cf a e h) fun x h => WP E (evalX P cf b e h) fun y h => WO (binX op x y h) fun z => Q z h := by
  rw [evalX, WP_bind]
  refine WP_eq fun x h1 => ?_
  rw [WP_bind]
  refine WP_eq fun y h1 => ?_
  exact WP_ofO _ _ _
@[simp ↓] theorem x_cmp (op : COp) (a b : ME) : WP E (evalX P cf (.cmp op a b) e h) Q = WP E (evalX P cf a e h) fun x h => WP E (evalX P cf b e h) fun y h => WO (cmpX op x y h) fun z => Q (.d (.bl z)) h := by
  rw [evalX, WP_bind]
  refine WP_eq fun x h1 => ?_
  rw [WP_bind]
  refine WP_eq fun y h1 => ?_
  rw [WP_ofO, WO_map]
def isN (x : X) : Option Bool := match x with
  | .d .non => some true
  | .it _ _ => none
  | _ => some false
@[simp ↓] theorem isN_non {R : Bool → Prop} : WO (isN (.d .non)) R = R true := (rfl)
@[simp ↓] theorem isN_int {R : Bool → Prop} (i : Int) : WO (isN (.d (.int i))) R = R false := (rfl)
@[simp ↓] theorem isN_bl {R : Bool → Prop} (i : Bool) : WO (isN (.d (.bl i))) R = R false := (rfl)
@[simp ↓] theorem isN_str {R : Bool → Prop} (i : List Nat) : WO (isN (.d (.str i))) R = R false := (rfl)
@[simp ↓] theorem isN_tup {R : Bool → Prop} (i : List D) : WO (isN (.d (.tup i))) R = R false := (rfl)
@[simp ↓] theorem isN_lst {R : Bool → Prop} (i : List D) : WO (isN (.d (.lst i))) R = R false := (rfl)
@[simp ↓] theorem isN_dct {R : Bool → Prop} (i : List (D × D)) : WO (isN (.d (.dct i))) R = R false := (rfl)
@[simp ↓] theorem isN_ref {R : Bool → Prop} (i : Nat) : WO (isN (.d (.ref i))) R = R false := (rfl)
@[simp ↓] theorem isN_l {R : Bool → Prop} (i : List D) : WO (isN (.l i)) R = R false := (rfl)
@[simp ↓] theorem isN_k {R : Bool → Prop} (i : List (D × D)) : WO (isN (.k i)) R = R false := (rfl)
def D.isNon : D → Bool
  | .non => true
  | _ => false
theorem isN_v {R : Bool → Prop} (v : D) : WO (isN (.d v)) R = R v.isNon := by cases v <;> rfl
@[simp ↓] theorem x_isn (neg : Bool) (a : ME) : WP E (evalX P cf (.isn neg a) e h) Q = WP E (evalX P cf a e h) fun x h => WO (isN x) fun c => Q (.d (.bl (bif neg then !c else c))) h := by
  rw [evalX, WP_bind]
  refine WP_eq fun x h1 => ?_
  cases x with
  | d v => cases v <;> cases neg <;> rfl
  | _ => cases neg <;> rfl
def isB (x : X) : Option Bool := match x with
  | .d (.bl c) => some c
  | _ => none
@[simp ↓] theorem isB_bl {R : Bool → Prop} (c : Bool) : WO (isB (.d (.bl c))) R = R c := (rfl)
@[simp ↓] theorem x_isb (neg : Bool) (a : ME) (b : Bool) : WP E (evalX P cf (.isb neg a b) e h) Q = WP E (evalX P cf a e h) fun x h => WO (isB x) fun c => Q (.d (.bl (bif neg then !decide (c = b) else decide (c = b)))) h := by
  rw [evalX, WP_bind]
  refine WP_eq fun x h1 => ?_
  cases x with
  | d v => cases v <;> cases neg <;> rfl
  | _ => cases neg <;> rfl
@[simp ↓] theorem x_chn (o1 o2 : COp) (a b c : ME) : WP E (evalX P cf (.chn o1 o2 a b c) e h) Q = WP E (evalX P cf a e h) fun x h => WP E (evalX P cf b e h) fun y h => WO (cmpX o1 x y h) fun t => WC t (WP E (evalX P cf c e h) fun z h => WO (cmpX o2 y z h) fun c => Q (.d (.bl c)) h) (Q (.d (.bl false)) h) := by
  rw [evalX, WP_bind]
  refine WP_eq fun x h1 => ?_
  rw [WP_bind]
  refine WP_eq fun y h1 => ?_
  cases cmpX o1 x y h1 with
  | none => rfl
  | some t =>
    cases t with
    | false => rfl
    | true =>
      show WP E (Res.bind _ _) Q = WP E _ _
      rw [WP_bind]
      refine WP_eq fun z h1 => ?_
      rw [WP_ofO, WO_map]
@[simp ↓] theorem x_and (a b : ME) : WP E (evalX P cf (.and a b) e h) Q = WP E (evalX P cf a e h) fun x h => WO (truthy x h) fun t => WC t (WP E (evalX P cf b e h) Q) (Q x h) := by
  rw [evalX, WP_bind]
  refine WP_eq fun x h1 => ?_
  cases truthy x h1 with
  | none => rfl
  | some t => cases t <;> rfl
@[simp ↓] theorem x_or (a b : ME) : WP E (evalX P cf (.or a b) e h) Q = WP E (evalX P cf a e h) fun x h => WO (truthy x h) fun t => WC t (Q x h) (WP E (evalX P cf b e h) Q) := by
  rw [evalX, WP_bind]
  refine WP_eq fun x h1 => ?_
  cases truthy x h1 with
  | none => rfl
  | some t => cases t <;> rfl
@[simp ↓] theorem x_ite (t a b : ME) : WP E (evalX P cf (.ite t a b) e h) Q = WP E (evalX P cf t e h) fun x h => WO (truthy x h) fun t => WC t (WP E (evalX P cf a e h) Q) (WP E (evalX P cf b e h) Q) := by
  rw [evalX, WP_bind]
  refine WP_eq fun x h1 => ?_
  cases truthy x h1 with
  | none => rfl
  | some t => cases t <;> rfl
@[simp ↓] theorem x_call (f : Nat) (es : MEs) : WP E (evalX P cf (.call f es) e h) Q = WP E (evalVs P cf es e h) fun ds h => WP E (cf f ds h) fun v h => Q (.d v) h := by
  rw [evalX, WP_bind]
  refine WP_eq fun x h1 => ?_
  rw [WP_bind]
  rfl
@[simp ↓] theorem x_ix (a i : ME) : WP E (evalX P cf (.ix a i) e h) Q = WP E (evalX P cf a e h) fun x h => WP E (evalX P cf i e h) fun y h => WO y.toV fun k => WO (ixX x k h) fun v => Q (.d v) h := by
  rw [evalX, WP_bind]
  refine WP_eq fun x h1 => ?_
  rw [WP_bind]
  refine WP_eq fun y h1 => ?_
  cases y.toV with
  | none => rfl
  | some k => show WP E (.ofO _ _) Q = _; rw [WP_ofO, WO_map]; rfl
@[simp ↓] theorem x_sl (a lo hi : ME) : WP E (evalX P cf (.sl a lo hi) e h) Q = WP E (evalX P cf a e h) fun x h => WP E (evalX P cf lo e h) fun y h => WO (slP lo y) fun l => WP E (evalX P cf hi e h) fun z h => WO (slP hi z) fun u => WO (slX x l u h) fun r => Q r h := by
  rw [evalX, WP_bind]
  refine WP_eq fun x h1 => ?_
  rw [WP_bind]
  refine WP_eq fun y h1 => ?_
  cases slP lo y with
  | none => rfl
  | some k =>
    show WP E (Res.bind _ _) Q = WP E _ _
    rw [WP_bind]
    refine WP_eq fun z h2 => ?_
    cases slP hi z with
    | none => rfl
    | some u => exact WP_ofO _ _ _
@[simp] theorem slP_non {R : Option Int → Prop} (x : X) : WO (slP .non x) R = R none := (rfl)
@[simp] theorem slP_int {R : Option Int → Prop} (j i : Int) : WO (slP (.int j) (.d (.int i))) R = R (some i) := (rfl)
@[simp] theorem slP_neg {R : Option Int → Prop} (m : ME) (i : Int) : WO (slP (.b1 .neg m) (.d (.int i))) R = R (some i) := (rfl)
@[simp] theorem slP_bin {R : Option Int → Prop} (o : BOp) (m k : ME) (i : Int) : WO (slP (.bin o m k) (.d (.int i))) R = R (some i) := (rfl)
@[simp] theorem slP_var {R : Option Int → Prop} (m : Nat) (i : Int) : WO (slP (.var m) (.d (.int i))) R = R (some i) := (rfl)
@[simp] theorem slP_call {R : Option Int → Prop} (f : Nat) (m : MEs) (i : Int) : WO (slP (.call f m) (.d (.int i))) R = R (some i) := (rfl)
@[simp] theorem slP_b1 {R : Option Int → Prop} (f : B1) (m : ME) (i : Int) : WO (slP (.b1 f m) (.d (.int i))) R = R (some i) := (rfl)
def WMut (x : X) (h : MH) (Q : X → MH → Prop) (_ : Tok Q := .mk) : Prop := match x with
  | .l xs => Q (.d (.ref h.length)) (h ++ [.lst xs])
  | .k kvs => Q (.d (.ref h.length)) (h ++ [.dct kvs])
  | _ => False
@[simp ↓] theorem mut_l (xs : List D) : WMut (.l xs) h Q = Q (.d (.ref h.length)) (h ++ [.lst xs]) := (rfl)
@[simp ↓] theorem mut_k (xs : List (D × D)) : WMut (.k xs) h Q = Q (.d (.ref h.length)) (h ++ [.dct xs]) := (rfl)
@[simp ↓] theorem x_mut (a : ME) : WP E (evalX P cf (.b1 .mut a) e h) Q = WP E (evalX P cf a e h) fun x h => WMut x h Q := by
  rw [evalX, WP_bind]
  refine WP_eq fun x h1 => ?_
  cases x <;> rfl
def WFrz (x : X) (h : MH) (Q : X → MH → Prop) (_ : Tok Q := .mk) : Prop := match x with
  | .d (.ref r) => match h[r]? with
    | some (.lst xs) => Q (.d (.lst xs)) (h.set r .dead)
    | some (.dct kvs) => Q (.d (.dct kvs)) (h.set r .dead)
    | _ => Q x h
  | _ => Q x h
@[simp ↓] theorem frz_l (xs : List D) : WFrz (.l xs) h Q = Q (.l xs) h := (rfl)
@[simp ↓] theorem frz_k (xs : List (D × D)) : WFrz (.k xs) h Q = Q (.k xs) h := (rfl)
@[simp low] theorem frz_nr {v : D} (n : v.nr = true) : WFrz (.d v) h Q = Q (.d v) h := by
  cases v <;> first | rfl | cases n
@[simp ↓] theorem frz_non : WFrz (.d .non) h Q = Q (.d .non) h := (rfl)
@[simp ↓] theorem frz_int (i : Int) : WFrz (.d (.int i)) h Q = Q (.d (.int i)) h := (rfl)
@[simp ↓] theorem frz_bl (i : Bool) : WFrz (.d (.bl i)) h Q = Q (.d (.bl i)) h := (rfl)
@[simp ↓] theorem frz_str (i : List Nat) : WFrz (.d (.str i)) h Q = Q (.d (.str i)) h := (rfl)
@[simp ↓] theorem frz_tup (i : List D) : WFrz (.d (.tup i)) h Q = Q (.d (.tup i)) h := (rfl)
@[simp ↓] theorem frz_lst (i : List D) : WFrz (.d (.lst i)) h Q = Q (.d (.lst i)) h := (rfl)
@[simp ↓] theorem frz_dct (i : List (D × D)) : WFrz (.d (.dct i)) h Q = Q (.d (.dct i)) h := (rfl)
def WFz (o : MO) (r : Nat) (h : MH) (Q : X → MH → Prop) (_ : Tok Q := .mk) : Prop := match o with
  | .lst xs => Q (.d (.lst xs)) (h.set r .dead)
  | .dct kvs => Q (.d (.dct kvs)) (h.set r .dead)
  | _ => False
@[simp ↓] theorem fz_l (xs : List D) (r : Nat) : WFz (.lst xs) r h Q = Q (.d (.lst xs)) (h.set r .dead) := (rfl)
@[simp ↓] theorem fz_k (xs : List (D × D)) (r : Nat) : WFz (.dct xs) r h Q = Q (.d (.dct xs)) (h.set r .dead) := (rfl)
theorem frz_ref {r : Nat} (q : WO (h[r]?) fun o => WFz o r h Q) : WFrz (.d (.ref r)) h Q := by
  show (match h[r]? with | some (.lst xs) => Q (.d (.lst xs)) (h.set r .dead) | some (.dct kvs) => Q (.d (.dct kvs)) (h.set r .dead) | _ => Q (.d (.ref r)) h)
  cases e : h[r]? with
  | none => rw [e] at q; exact q.elim
  | some o =>
    rw [e] at q
    cases o <;> first | exact q | exact (show False from q).elim
theorem frz_lstr {r : Nat} {xs : List D} (q : h[r]? = some (.lst xs)) : WFrz (.d (.ref r)) h Q = Q (.d (.lst xs)) (h.set r .dead) := by
  show (match h[r]? with | some (.lst xs) => Q (.d (.lst xs)) (h.set r .dead) | some (.dct kvs) => Q (.d (.dct kvs)) (h.set r .dead) | _ => Q (.d (.ref r)) h) = _
  rw [q]
theorem frz_dctr {r : Nat} {xs : List (D × D)} (q : h[r]? = some (.dct xs)) : WFrz (.d (.ref r)) h Q = Q (.d (.dct xs)) (h.set r .dead) := by
  show (match h[r]? with | some (.lst xs) => Q (.d (.lst xs)) (h.set r .dead) | some (.dct kvs) => Q (.d (.dct kvs)) (h.set r .dead) | _ => Q (.d (.ref r)) h) = _
  rw [q]
@[simp ↓] theorem x_frz (a : ME) : WP E (evalX P cf (.b1 .frz a) e h) Q = WP E (evalX P cf a e h) fun x h => WFrz x h Q := by
  rw [evalX, WP_bind]
  refine WP_eq fun x h1 => ?_
  cases x with
  | d v =>
    cases v with
    | ref r =>
      show WP E (match h1[r]? with | some (.lst xs) => .ok (.d (.lst xs)) (h1.set r .dead) | some (.dct kvs) => .ok (.d (.dct kvs)) (h1.set r .dead) | _ => .ok (.d (.ref r)) h1) Q = (match h1[r]? with | some (.lst xs) => Q (.d (.lst xs)) (h1.set r .dead) | some (.dct kvs) => Q (.d (.dct kvs)) (h1.set r .dead) | _ => Q (.d (.ref r)) h1)
      cases h1[r]? with
      | none => rfl
      | some o => cases o <;> rfl
    | _ => rfl
  | _ => rfl
theorem x_b1 (f : B1) (a : ME) (n1 : f ≠ .mut) (n2 : f ≠ .frz) : WP E (evalX P cf (.b1 f a) e h) Q = WP E (evalX P cf a e h) fun x h => WO (b1X f x h) fun z => Q z h := by
  rw [evalX, WP_bind]
  refine WP_eq fun x h1 => ?_
  cases f <;> first | exact WP_ofO _ _ _ | exact absurd rfl n1 | exact absurd rfl n2
@[simp ↓] theorem x_len (a : ME) : WP E (evalX P cf (.b1 .len a) e h) Q = WP E (evalX P cf a e h) fun x h => WO (b1X .len x h) fun z => Q z h := x_b1 _ _ (by simp) (by simp)
@[simp ↓] theorem x_abs (a : ME) : WP E (evalX P cf (.b1 .abs a) e h) Q = WP E (evalX P cf a e h) fun x h => WO (b1X .abs x h) fun z => Q z h := x_b1 _ _ (by simp) (by simp)
@[simp ↓] theorem x_intf (a : ME) : WP E (evalX P cf (.b1 .int a) e h) Q = WP E (evalX P cf a e h) fun x h => WO (b1X .int x h) fun z => Q z h := x_b1 _ _ (by simp) (by simp)
@[simp ↓] theorem x_strf (a : ME) : WP E (evalX P cf (.b1 .str a) e h) Q = WP E (evalX P cf a e h) fun x h => WO (b1X .str x h) fun z => Q z h := x_b1 _ _ (by simp) (by simp)
@[simp ↓] theorem x_sum (a : ME) : WP E (evalX P cf (.b1 .sum a) e h) Q = WP E (evalX P cf a e h) fun x h => WO (b1X .sum x h) fun z => Q z h := x_b1 _ _ (by simp) (by simp)
@[simp ↓] theorem x_all (a : ME) : WP E (evalX P cf (.b1 .all a) e h) Q = WP E (evalX P cf a e h) fun x h => WO (b1X .all x h) fun z => Q z h := x_b1 _ _ (by simp) (by simp)
@[simp ↓] theorem x_any (a : ME) : WP E (evalX P cf (.b1 .any a) e h) Q = WP E (evalX P cf a e h) fun x h => WO (b1X .any x h) fun z => Q z h := x_b1 _ _ (by simp) (by simp)
@[simp ↓] theorem x_list (a : ME) : WP E (evalX P cf (.b1 .list a) e h) Q = WP E (evalX P cf a e h) fun x h => WO (b1X .list x h) fun z => Q z h := x_b1 _ _ (by simp) (by simp)
@[simp ↓] theorem x_tuple (a : ME) : WP E (evalX P cf (.b1 .tuple a) e h) Q = WP E (evalX P cf a e h) fun x h => WO (b1X .tuple x h) fun z => Q z h := x_b1 _ _ (by simp) (by simp)
@[simp ↓] theorem x_sorted (a : ME) : WP E (evalX P cf (.b1 .sorted a) e h) Q = WP E (evalX P cf a e h) fun x h => WO (b1X .sorted x h) fun z => Q z h := x_b1 _ _ (by simp) (by simp)
@[simp ↓] theorem x_repr (a : ME) : WP E (evalX P cf (.b1 .repr a) e h) Q = WP E (evalX P cf a e h) fun x h => WO (b1X .repr x h) fun z => Q z h := x_b1 _ _ (by simp) (by simp)
@[simp ↓] theorem x_rev (a : ME) : WP E (evalX P cf (.b1 .rev a) e h) Q = WP E (evalX P cf a e h) fun x h => WO (b1X .rev x h) fun z => Q z h := x_b1 _ _ (by simp) (by simp)
@[simp ↓] theorem x_range (a : ME) : WP E (evalX P cf (.b1 .range a) e h) Q = WP E (evalX P cf a e h) fun x h => WO (b1X .range x h) fun z => Q z h := x_b1 _ _ (by simp) (by simp)
@[simp ↓] theorem x_lrg (a : ME) : WP E (evalX P cf (.b1 .lrg a) e h) Q = WP E (evalX P cf a e h) fun x h => WO (b1X .lrg x h) fun z => Q z h := x_b1 _ _ (by simp) (by simp)
@[simp ↓] theorem x_not (a : ME) : WP E (evalX P cf (.b1 .not a) e h) Q = WP E (evalX P cf a e h) fun x h => WO (b1X .not x h) fun z => Q z h := x_b1 _ _ (by simp) (by simp)
@[simp ↓] theorem x_neg (a : ME) : WP E (evalX P cf (.b1 .neg a) e h) Q = WP E (evalX P cf a e h) fun x h => WO (b1X .neg x h) fun z => Q z h := x_b1 _ _ (by simp) (by simp)
@[simp ↓] theorem x_min (a : ME) : WP E (evalX P cf (.b1 .min a) e h) Q = WP E (evalX P cf a e h) fun x h => WO (b1X .min x h) fun z => Q z h := x_b1 _ _ (by simp) (by simp)
@[simp ↓] theorem x_max (a : ME) : WP E (evalX P cf (.b1 .max a) e h) Q = WP E (evalX P cf a e h) fun x h => WO (b1X .max x h) fun z => Q z h := x_b1 _ _ (by simp) (by simp)
@[simp ↓] theorem x_dict (a : ME) : WP E (evalX P cf (.b1 .dict a) e h) Q = WP E (evalX P cf a e h) fun x h => WO (b1X .dict x h) fun z => Q z h := x_b1 _ _ (by simp) (by simp)
@[simp ↓] theorem x_items (a : ME) : WP E (evalX P cf (.b1 .items a) e h) Q = WP E (evalX P cf a e h) fun x h => WO (b1X .items x h) fun z => Q z h := x_b1 _ _ (by simp) (by simp)
@[simp ↓] theorem x_values (a : ME) : WP E (evalX P cf (.b1 .values a) e h) Q = WP E (evalX P cf a e h) fun x h => WO (b1X .values x h) fun z => Q z h := x_b1 _ _ (by simp) (by simp)
@[simp ↓] theorem x_enum (a : ME) : WP E (evalX P cf (.b1 .enum a) e h) Q = WP E (evalX P cf a e h) fun x h => WO (b1X .enum x h) fun z => Q z h := x_b1 _ _ (by simp) (by simp)
@[simp ↓] theorem x_lenset (a : ME) : WP E (evalX P cf (.b1 .lenset a) e h) Q = WP E (evalX P cf a e h) fun x h => WO (b1X .lenset x h) fun z => Q z h := x_b1 _ _ (by simp) (by simp)
@[simp ↓] theorem x_sortset (a : ME) : WP E (evalX P cf (.b1 .sortset a) e h) Q = WP E (evalX P cf a e h) fun x h => WO (b1X .sortset x h) fun z => Q z h := x_b1 _ _ (by simp) (by simp)
@[simp ↓] theorem x_val (a : ME) : WP E (evalX P cf (.b1 .val a) e h) Q = WP E (evalX P cf a e h) fun x h => WO (b1X .val x h) fun z => Q z h := x_b1 _ _ (by simp) (by simp)
@[simp ↓] theorem x_b2 (f : B2) (a b : ME) : WP E (evalX P cf (.b2 f a b) e h) Q = WP E (evalX P cf a e h) fun x h => WP E (evalX P cf b e h) fun y h => WO (b2X f x y h) fun z => Q z h := by
  rw [evalX, WP_bind]
  refine WP_eq fun x h1 => ?_
  rw [WP_bind]
  refine WP_eq fun y h1 => ?_
  exact WP_ofO _ _ _
@[simp ↓] theorem x_isi (ts : List Ty) (a : ME) : WP E (evalX P cf (.isi ts a) e h) Q = WP E (evalX P cf a e h) fun x h => WO x.toV fun v => WO (isTys v h ts) fun b => Q (.d (.bl b)) h := by
  rw [evalX, WP_bind]
  refine WP_eq fun x h1 => ?_
  cases x.toV with
  | none => rfl
  | some v => show WP E (.ofO _ _) Q = _; rw [WP_ofO, WO_map]; rfl
/-- the type of the thing before a dot -/
def KindIs (x : X) (h : MH) (n : Nat) : Prop := kindX x h = n
@[simp] theorem kind_tup (xs : List D) (n : Nat) : KindIs (.d (.tup xs)) h n = (3 = n) := (rfl)
@[simp] theorem kind_lst (xs : List D) (n : Nat) : KindIs (.d (.lst xs)) h n = (0 = n) := (rfl)
@[simp] theorem kind_l (xs : List D) (n : Nat) : KindIs (.l xs) h n = (0 = n) := (rfl)
@[simp] theorem kind_k (xs : List (D × D)) (n : Nat) : KindIs (.k xs) h n = (1 = n) := (rfl)
@[simp] theorem kind_dct (xs : List (D × D)) (n : Nat) : KindIs (.d (.dct xs)) h n = (1 = n) := (rfl)
@[simp] theorem kind_str (xs : List Nat) (n : Nat) : KindIs (.d (.str xs)) h n = (2 = n) := (rfl)
@[simp] theorem kind_ref0 (r : Nat) : KindIs (.d (.ref r)) h 0 = WO (h[r]?) fun o => WO (lO o) fun _ => True := by
  show (kindX (.d (.ref r)) h = 0) = _
  unfold kindX norm
  simp only
  cases h[r]? with
  | none => simp [WO]
  | some o => cases o <;> simp [WO, lO]
def dcO : MO → Option (List (D × D))
  | .dct xs => some xs
  | _ => none
@[simp] theorem dcO_dct {Q : List (D × D) → Prop} (xs : List (D × D)) : WO (dcO (.dct xs)) Q = Q xs := (rfl)
@[simp] theorem kind_ref1 (r : Nat) : KindIs (.d (.ref r)) h 1 = WO (h[r]?) fun o => WO (dcO o) fun _ => True := by
  show (kindX (.d (.ref r)) h = 1) = _
  unfold kindX norm
  simp only
  cases h[r]? with
  | none => simp [WO]
  | some o => cases o <;> simp [WO, dcO]
@[simp ↓] theorem x_mb (m : MB) (o : ME) (es : MEs) : WP E (evalX P cf (.mb m o es) e h) Q = WP E (evalX P cf o e h) fun x h => KindIs x h m.kind ∧ WP E (evalVs P cf es e h) fun ds h => WO (mbX m x ds h) fun p => Q p.1 p.2 := by
  rw [evalX, WP_bind]
  refine WP_eq fun x h1 => ?_
  rw [WP_ifb, WP_bind]
  refine congrArg (And _) (WP_eq fun ds h2 => ?_)
  cases mbX m x ds h2 <;> rfl
@[simp ↓] theorem x_mw (m : MB) (o a : ME) : WP E (evalX P cf (.mw m o a) e h) Q = WP E (evalX P cf o e h) fun x h => KindIs x h m.kind ∧ WP E (evalX P cf a e h) fun y h => WO (mbW m x y h) fun p => Q p.1 p.2 := by
  rw [evalX, WP_bind]
  refine WP_eq fun x h1 => ?_
  rw [WP_ifb, WP_bind]
  refine congrArg (And _) (WP_eq fun ds h2 => ?_)
  cases mbW m x ds h2 <;> rfl
@[simp] theorem kd_append : MB.kind .append = 0 := (rfl)
@[simp] theorem kd_extend : MB.kind .extend = 0 := (rfl)
@[simp] theorem kd_insert : MB.kind .insert = 0 := (rfl)
@[simp] theorem kd_pop : MB.kind .pop = 0 := (rfl)
@[simp] theorem kd_pop0 : MB.kind .pop0 = 0 := (rfl)
@[simp] theorem kd_get : MB.kind .get = 1 := (rfl)
@[simp] theorem kd_get2 : MB.kind .get2 = 1 := (rfl)
@[simp] theorem kd_index : MB.kind .index = 0 := (rfl)
@[simp] theorem kd_indexT : MB.kind .indexT = 3 := (rfl)
@[simp] theorem kd_update : MB.kind .update = 1 := (rfl)
@[simp] theorem kd_setdefault : MB.kind .setdefault = 1 := (rfl)
@[simp] theorem kd_join : MB.kind .join = 2 := (rfl)
@[simp] theorem kd_startswith : MB.kind .startswith = 2 := (rfl)
/-- an item of a comprehension -/
noncomputable def lcB (P : Prog) (cf : CF) (e : Env) (t : Tg) (c a : ME) (d : D) (h : MH) : Res (Option D) := match asgT t d e with
  | some e1 => (evalX P cf c e1 h).bind fun y h => match truthy y h with
    | some true => (vOf (evalX P cf a e1 h)).bind fun v h => .ok (some v) h
    | some false => .ok none h
    | none => .bad
  | none => .bad
@[simp ↓] theorem x_lcB {R : Option D → MH → Prop} (t : Tg) (c a : ME) (d : D) : WP E (lcB P cf e t c a d h) R = WO (asgT t d e) fun e1 => WP E (evalX P cf c e1 h) fun y h => WO (truthy y h) fun b => WC b (WP E (evalX P cf a e1 h) fun x h => WO x.toV fun v => R (some v) h) (R none h) := by
  unfold lcB
  cases asgT t d e with
  | none => rfl
  | some e1 =>
    show WP E (Res.bind _ _) R = WP E _ _
    rw [WP_bind]
    refine WP_eq fun y h1 => ?_
    cases truthy y h1 with
    | none => rfl
    | some b =>
      cases b with
      | false => rfl
      | true =>
        show WP E (Res.bind (vOf _) _) R = WP E _ _
        unfold vOf
        rw [WP_bind, WP_bind]
        refine WP_eq fun x h2 => ?_
        rw [WP_ofO]
        rfl
@[simp ↓] theorem x_lc (own : List Nat) (t : Tg) (it c a : ME) : WP E (evalX P cf (.lc own t it c a) e h) Q = WP E (evalX P cf it e h) fun x h => WO (items x h) fun p => p.1.length ≤ 1000000 ∧ WP E (loopL p.2 (lcB P cf (wipe e own) t c a) p.1 h) fun ys h => Q (.l ys) h := by
  rw [evalX, WP_bind]
  refine WP_eq fun x h1 => ?_
  cases items x h1 with
  | none => rfl
  | some p =>
    show WP E (if p.1.length ≤ 1000000 then _ else .bad) Q = (p.1.length ≤ 1000000 ∧ WP E _ _)
    rw [WP_ifb, WP_bind]
    rfl
end
/-! ### targets, statements -/
section
variable {P : Prog} {cf : CF} {E : EQ} {e : Env} {h : MH} {Q : Fl → MH → Prop} {V : Env → Prop}
@[simp ↓] theorem a_v (i : Nat) (d : D) : WO (asgT (.v i) d e) V = (i < e.length ∧ V (e.set i (some d))) := by
  rw [asgT, WO_if]
@[simp ↓] theorem a_t (ts : List Tg) (xs : List D) : WO (asgT (.t ts) (.tup xs) e) V = WO (asgTs ts xs e) V := by rw [asgT]
@[simp ↓] theorem as_n : WO (asgTs [] [] e) V = V e := by rw [asgTs]; rfl
@[simp ↓] theorem as_c (t : Tg) (ts : List Tg) (d : D) (ds : List D) : WO (asgTs (t :: ts) (d :: ds) e) V = WO (asgT t d e) fun e1 => WO (asgTs ts ds e1) V := by
  rw [asgTs]
  cases asgT t d e <;> rfl
@[simp ↓] theorem ax_v (i : Nat) (x : X) : WO (asgX (.v i) x h e) V = WO x.toV fun d => i < e.length ∧ V (e.set i (some d)) := by
  show WO (match x.toV with | some d => asgT (.v i) d e | none => none) V = _
  cases x.toV with
  | none => rfl
  | some d => exact a_v _ _
@[simp ↓] theorem ax_t (ts : List Tg) (x : X) : WO (asgX (.t ts) x h e) V = WO (norm x h) fun d => WO (asgT (.t ts) d e) V := by
  show WO (match norm x h with | some d => asgT (.t ts) d e | none => none) V = _
  cases norm x h <;> rfl
@[simp ↓] theorem s_n : WP E (execSs P cf .n e h) Q = Q (.nx e) h := by rw [execSs]; rfl
def FlC (A : Env → Prop) (B : D → Prop) (fl : Fl) : Prop := match fl with
  | .nx e => A e
  | .rt v => B v
@[simp ↓] theorem fl_nx (A : Env → Prop) (B : D → Prop) : FlC A B (.nx e) = A e := (rfl)
@[simp ↓] theorem fl_rt (A : Env → Prop) (B : D → Prop) (v : D) : FlC A B (.rt v) = B v := (rfl)
@[simp ↓] theorem s_c (s : MS) (r : MSs) : WP E (execSs P cf (.c s r) e h) Q = WP E (execS P cf s e h) fun fl h => FlC (fun e1 => WP E (execSs P cf r e1 h) Q) (fun v => Q (.rt v) h) fl := by
  rw [execSs, WP_bind]
  refine WP_eq fun fl h1 => ?_
  cases fl <;> rfl
@[simp ↓] theorem zs_asg (t : Tg) (a : ME) : WP E (execS P cf (.asg t a) e h) Q = WP E (evalX P cf a e h) fun x h => WO (asgX t x h e) fun e1 => Q (.nx e1) h := by
  rw [execS, WP_bind]
  refine WP_eq fun x h1 => ?_
  cases asgX t x h1 e <;> rfl
@[simp ↓] theorem zs_iset (o i a : ME) : WP E (execS P cf (.iset o i a) e h) Q = WP E (evalX P cf a e h) fun z h => WO z.toV fun v => WP E (evalX P cf o e h) fun x h => WP E (evalX P cf i e h) fun y h => WO y.toV fun k => WO (setX x k v h) fun h1 => Q (.nx e) h1 := by
  rw [execS, WP_bind]
  unfold vOf
  rw [WP_bind]
  refine WP_eq fun z h1 => ?_
  rw [WP_ofO]
  refine WO_eq fun v => ?_
  rw [WP_bind]
  refine WP_eq fun x h1 => ?_
  rw [WP_bind, WP_bind]
  refine WP_eq fun y h2 => ?_
  rw [WP_ofO]
  refine WO_eq fun k => ?_
  cases setX x k v h2 <;> rfl
def augO (op : BOp) (v : D) (x : X) : Option D := match v, x with
  | .int p, .d (.int q) => match op with
    | .add => some (.int (p + q))
    | .sub => some (.int (p - q))
    | _ => none
  | _, _ => none
@[simp ↓] theorem aug_add {V : D → Prop} (p q : Int) : WO (augO .add (.int p) (.d (.int q))) V = V (.int (p + q)) := (rfl)
@[simp ↓] theorem aug_sub {V : D → Prop} (p q : Int) : WO (augO .sub (.int p) (.d (.int q))) V = V (.int (p - q)) := (rfl)
@[simp ↓] theorem zs_aug (i : Nat) (op : BOp) (a : ME) : WP E (execS P cf (.aug i op a) e h) Q = WO (e[i]?) fun o => WO o fun v => WP E (evalX P cf a e h) fun x h => WO (augO op v x) fun z => Q (.nx (e.set i (some z))) h := by
  rw [execS]
  cases e[i]? with
  | none => rfl
  | some o =>
    cases o with
    | none => rfl
    | some v =>
      show WP E (Res.bind _ _) Q = WP E _ _
      rw [WP_bind]
      refine WP_eq fun x h1 => ?_
      cases v <;> first | rfl | (cases x <;> first | rfl | (rename_i p z; cases z <;> first | rfl | (cases op <;> rfl)))
@[simp ↓] theorem zs_ex (a : ME) : WP E (execS P cf (.ex a) e h) Q = WP E (evalX P cf a e h) fun _ h => Q (.nx e) h := by
  rw [execS, WP_bind]
  rfl
@[simp ↓] theorem s_ite (t : ME) (a b : MSs) : WP E (execS P cf (.ite t a b) e h) Q = WP E (evalX P cf t e h) fun x h => WO (truthy x h) fun c => WC c (WP E (execSs P cf a e h) Q) (WP E (execSs P cf b e h) Q) := by
  rw [execS, WP_bind]
  unfold tOf
  rw [WP_bind]
  refine WP_eq fun x h1 => ?_
  rw [WP_ofO]
  refine WO_eq fun c => ?_
  cases c <;> rfl
@[simp ↓] theorem zs_ret (a : ME) : WP E (execS P cf (.ret a) e h) Q = WP E (evalX P cf a e h) fun x h => WO x.toV fun v => Q (.rt v) h := by
  rw [execS, WP_bind]
  unfold vOf
  rw [WP_bind]
  refine WP_eq fun x h1 => ?_
  rw [WP_ofO]
  rfl
@[simp ↓] theorem zs_pass : WP E (execS P cf .pass e h) Q = Q (.nx e) h := by rw [execS]; rfl
noncomputable def forB (P : Prog) (cf : CF) (t : Tg) (b : MSs) (d : D) (e : Env) (h : MH) : Res Fl := match asgT t d e with
  | some e1 => execSs P cf b e1 h
  | none => .bad
@[simp ↓] theorem s_forB (t : Tg) (b : MSs) (d : D) : WP E (forB P cf t b d e h) Q = WO (asgT t d e) fun e1 => WP E (execSs P cf b e1 h) Q := by
  unfold forB
  cases asgT t d e <;> rfl
@[simp ↓] theorem zs_for (t : Tg) (it : ME) (b : MSs) : WP E (execS P cf (.for_ t it b) e h) Q = WP E (evalX P cf it e h) fun x h => WO (items x h) fun p => WP E (loopS p.2 (forB P cf t b) p.1 e h) Q := by
  rw [execS, WP_bind]
  refine WP_eq fun x h1 => ?_
  cases items x h1 <;> rfl
noncomputable def whlC (P : Prog) (cf : CF) (t : ME) (e : Env) (h : MH) : Res Bool := tOf (evalX P cf t e h)
noncomputable def whlB (P : Prog) (cf : CF) (b : MSs) (e : Env) (h : MH) : Res Fl := execSs P cf b e h
@[simp ↓] theorem s_whlC {R : Bool → MH → Prop} (t : ME) : WP E (whlC P cf t e h) R = WP E (evalX P cf t e h) fun x h => WO (truthy x h) fun c => R c h := by
  unfold whlC tOf
  rw [WP_bind]
  refine WP_eq fun x h1 => ?_
  exact WP_ofO _ _ _
@[simp ↓] theorem s_whlB (b : MSs) : WP E (whlB P cf b e h) Q = WP E (execSs P cf b e h) Q := (rfl)
@[simp ↓] theorem s_whl (t : ME) (b : MSs) : WP E (execS P cf (.whl t b) e h) Q = WP E (loopW (whlC P cf t) (whlB P cf b) WF e h) Q := by rw [execS]; rfl
end
/-! ### loops, calls -/
section
variable {E : EQ} {e : Env} {h : MH} {Q : Fl → MH → Prop}
theorem guarded_nil (h : MH) : guarded [] h := fun _ z => nomatch z
theorem guarded_one {r : Nat} {o : MO} (q : h[r]? = some o) : guarded [(r, o)] h := fun p z => by
  rcases List.mem_singleton.mp z with rfl
  exact q
/-- a for loop by an invariant over what is done and what is left -/
theorem WP.loopS {g : List (Nat × MO)} {f : D → Env → MH → Res Fl} (I : List D → List D → Env → MH → Prop) {xs : List D}
    (gd : ∀ d r e h, I d r e h → guarded g h) (st : ∀ d x r e h, d ++ x :: r = xs → I d (x :: r) e h → WP E (f x e h) fun fl h1 => FlC (fun e1 => I (d ++ [x]) r e1 h1) (fun v => Q (.rt v) h1) fl)
    (en : ∀ e h, I xs [] e h → Q (.nx e) h) (h0 : I [] xs e h) : WP E (MP.loopS g f xs e h) Q := by
  have main : ∀ (r d : List D) (e : Env) (h : MH), d ++ r = xs → I d r e h → WP E (MP.loopS g f r e h) Q := by
    intro r
    induction r with
    | nil =>
      intro d e h q i
      rw [List.append_nil] at q
      subst q
      unfold MP.loopS
      rw [if_pos (gd _ _ _ _ i)]
      exact en _ _ i
    | cons x r ih =>
      intro d e h q i
      unfold MP.loopS
      rw [if_pos (gd _ _ _ _ i), WP_bind]
      refine (st d x r e h q i).mono fun fl h1 z => ?_
      cases fl with
      | nx e1 => exact ih (d ++ [x]) e1 h1 (by rw [List.append_assoc]; exact q) z
      | rt v => exact z
  exact main xs [] e h rfl h0
/-- a for loop over things that stay as they are -/
theorem WP.for0 {f : D → Env → MH → Res Fl} (I : List D → List D → Env → MH → Prop) {xs : List D}
    (st : ∀ d x r e h, d ++ x :: r = xs → I d (x :: r) e h → WP E (f x e h) fun fl h1 => FlC (fun e1 => I (d ++ [x]) r e1 h1) (fun v => Q (.rt v) h1) fl)
    (en : ∀ e h, I xs [] e h → Q (.nx e) h) (h0 : I [] xs e h) : WP E (MP.loopS [] f xs e h) Q := .loopS I (fun _ _ _ _ _ => guarded_nil _) st en h0
/-- a for loop over range(n): the invariant by the number of turns -/
theorem WP.forN {f : D → Env → MH → Res Fl} (I : Nat → Env → MH → Prop) {n : Nat}
    (st : ∀ k e h, k < n → I k e h → WP E (f (.int (k : Int)) e h) fun fl h1 => FlC (fun e1 => I (k + 1) e1 h1) (fun v => Q (.rt v) h1) fl)
    (en : ∀ e h, I n e h → Q (.nx e) h) (h0 : I 0 e h) : WP E (MP.loopS [] f (rangeD 0 n) e h) Q := by
  have ln : (rangeD 0 n).length = n := by unfold rangeD; rw [List.length_map, List.length_range]
  refine .for0 (fun d _ e h => I d.length e h) (fun d x r e h q i => ?_) (fun e h i => en e h (ln ▸ i)) h0
  have lt : d.length < n := by rw [← ln, ← q, List.length_append, List.length_cons]; omega
  have ex : x = .int (d.length : Int) := by
    have : (rangeD 0 n)[d.length]? = some x := by rw [← q]; simp
    unfold rangeD at this
    rw [List.getElem?_map, List.getElem?_range lt] at this
    simp at this
    exact this.symm
  subst ex
  rw [List.length_append]
  exact st d.length e h lt i
/-- a while loop by an invariant and a number that falls -/
theorem WP.loopW {c : Env → MH → Res Bool} {f : Env → MH → Res Fl} (I : Nat → Env → MH → Prop)
    (st : ∀ n e h, I n e h → WP E (c e h) fun b h1 => WC b (WP E (f e h1) fun fl h2 => FlC (fun e1 => ∃ m, m < n ∧ I m e1 h2) (fun v => Q (.rt v) h2) fl) (Q (.nx e) h1))
    {k n : Nat} (l : n < k) (h0 : I n e h) : WP E (MP.loopW c f k e h) Q := by
  induction k generalizing n e h with
  | zero => omega
  | succ k ih =>
    unfold MP.loopW
    rw [WP_bind]
    refine (st n e h h0).mono fun b h1 z => ?_
    cases b with
    | false => exact z
    | true =>
      rw [WC_true] at z
      show WP E (Res.bind _ _) Q
      rw [WP_bind]
      refine z.mono fun fl h2 z => ?_
      cases fl with
      | nx e1 =>
        obtain ⟨m, lm, i⟩ := z
        exact ih (by omega) i
      | rt v => exact z
/-- a comprehension that changes nothing -/
theorem WP.comp {g : List (Nat × MO)} {f : D → MH → Res (Option D)} {xs : List D} {R : List D → MH → Prop} (F : D → Option D) (gd : guarded g h)
    (st : ∀ x ∈ xs, WP E (f x h) fun y h1 => y = F x ∧ h1 = h) (en : R (xs.filterMap F) h) : WP E (MP.loopL g f xs h) R := by
  have main : ∀ (xs : List D) (R : List D → MH → Prop), (∀ x ∈ xs, WP E (f x h) fun y h1 => y = F x ∧ h1 = h) → R (xs.filterMap F) h → WP E (MP.loopL g f xs h) R := by
    intro xs
    induction xs with
    | nil =>
      intro R _ r
      unfold MP.loopL
      rw [if_pos gd]
      exact r
    | cons x r ih =>
      intro R st rr
      unfold MP.loopL
      rw [if_pos gd, WP_bind]
      refine (st x List.mem_cons_self).mono fun y h1 z => ?_
      obtain ⟨rfl, rfl⟩ := z
      rw [WP_bind]
      refine ih _ (fun x h => st x (List.mem_cons_of_mem _ h)) ?_
      show R _ _
      rw [List.filterMap_cons] at rr
      cases hF : F x <;> rw [hF] at rr <;> exact rr
  exact main xs R st en
theorem WP.compM {g : List (Nat × MO)} {f : D → MH → Res (Option D)} {xs : List D} {R : List D → MH → Prop} (F : D → D) (gd : guarded g h)
    (st : ∀ x ∈ xs, WP E (f x h) fun y h1 => y = some (F x) ∧ h1 = h) (en : R (xs.map F) h) : WP E (MP.loopL g f xs h) R :=
  .comp (fun x => some (F x)) gd st (by rw [List.filterMap_eq_map']; exact en)
/-- a comprehension over typed things -/
theorem WP.compT {α : Type} {g : List (Nat × MO)} {f : D → MH → Res (Option D)} {as : List α} {k : α → D} {R : List D → MH → Prop} (F : α → Option D) (gd : guarded g h)
    (st : ∀ a ∈ as, WP E (f (k a) h) fun y h1 => y = F a ∧ h1 = h) (en : R (as.filterMap F) h) : WP E (MP.loopL g f (as.map k) h) R := by
  have main : ∀ (as : List α) (R : List D → MH → Prop), (∀ a ∈ as, WP E (f (k a) h) fun y h1 => y = F a ∧ h1 = h) → R (as.filterMap F) h → WP E (MP.loopL g f (as.map k) h) R := by
    intro as
    induction as with
    | nil =>
      intro R _ r
      unfold MP.loopL
      rw [List.map_nil]
      simp only
      rw [if_pos gd]
      exact r
    | cons x r ih =>
      intro R st rr
      rw [List.map_cons]
      unfold MP.loopL
      rw [if_pos gd, WP_bind]
      refine (st x List.mem_cons_self).mono fun y h1 z => ?_
      obtain ⟨rfl, rfl⟩ := z
      rw [WP_bind]
      refine ih _ (fun x h => st x (List.mem_cons_of_mem _ h)) ?_
      show R _ _
      rw [List.filterMap_cons] at rr
      cases hF : F x <;> rw [hF] at rr <;> exact rr
  exact main as R st en
theorem WP.compTM {α : Type} {g : List (Nat × MO)} {f : D → MH → Res (Option D)} {as : List α} {k : α → D} {R : List D → MH → Prop} (F : α → D) (gd : guarded g h)
    (st : ∀ a ∈ as, WP E (f (k a) h) fun y h1 => y = some (F a) ∧ h1 = h) (en : R (as.map F) h) : WP E (MP.loopL g f (as.map k) h) R :=
  .compT (fun x => some (F x)) gd st (by rw [List.filterMap_eq_map']; exact en)
/-- a for loop over typed things -/
theorem WP.forT {α : Type} {f : D → Env → MH → Res Fl} {as : List α} {k : α → D} (I : List α → List α → Env → MH → Prop)
    (st : ∀ d x r e h, d ++ x :: r = as → I d (x :: r) e h → WP E (f (k x) e h) fun fl h1 => FlC (fun e1 => I (d ++ [x]) r e1 h1) (fun v => Q (.rt v) h1) fl)
    (en : ∀ e h, I as [] e h → Q (.nx e) h) (h0 : I [] as e h) : WP E (MP.loopS [] f (as.map k) e h) Q := by
  have main : ∀ (r d : List α) (e : Env) (h : MH), d ++ r = as → I d r e h → WP E (MP.loopS [] f (r.map k) e h) Q := by
    intro r
    induction r with
    | nil =>
      intro d e h q i
      rw [List.append_nil] at q
      subst q
      rw [List.map_nil]
      unfold MP.loopS
      rw [if_pos (guarded_nil _)]
      exact en _ _ i
    | cons x r ih =>
      intro d e h q i
      rw [List.map_cons]
      unfold MP.loopS
      rw [if_pos (guarded_nil _), WP_bind]
      refine (st d x r e h q i).mono fun fl h1 z => ?_
      cases fl with
      | nx e1 => exact ih (d ++ [x]) e1 h1 (by rw [List.append_assoc]; exact q) z
      | rt v => exact z
  exact main as [] e h rfl h0
/-- a comprehension by an invariant: done, what it gave, left -/
theorem WP.compI {g : List (Nat × MO)} {f : D → MH → Res (Option D)} {xs : List D} {R : List D → MH → Prop} (I : List D → List D → List D → MH → Prop)
    (gd : ∀ d ys r h, I d ys r h → guarded g h) (st : ∀ d ys x r h, d ++ x :: r = xs → I d ys (x :: r) h → WP E (f x h) fun y h1 => I (d ++ [x]) (ys ++ y.toList) r h1)
    (en : ∀ ys h, I xs ys [] h → R ys h) (h0 : I [] [] xs h) : WP E (MP.loopL g f xs h) R := by
  have main : ∀ (r d ys : List D) (h : MH) (R : List D → MH → Prop), (∀ zs h, I xs (ys ++ zs) [] h → R zs h) → d ++ r = xs → I d ys r h → WP E (MP.loopL g f r h) R := by
    intro r
    induction r with
    | nil =>
      intro d ys h R en q i
      rw [List.append_nil] at q
      subst q
      unfold MP.loopL
      rw [if_pos (gd _ _ _ _ i)]
      exact en [] h (by rw [List.append_nil]; exact i)
    | cons x r ih =>
      intro d ys h R en q i
      unfold MP.loopL
      rw [if_pos (gd _ _ _ _ i), WP_bind]
      refine (st d ys x r h q i).mono fun y h1 z => ?_
      rw [WP_bind]
      refine ih (d ++ [x]) (ys ++ y.toList) h1 _ (fun zs h2 z => ?_) (by rw [List.append_assoc]; exact q) z
      show R _ _
      cases y with
      | none => exact en _ _ (by simpa using z)
      | some v => exact en _ _ (by simpa using z)
  exact main xs [] [] h R (fun zs h i => en zs h (by simpa using i)) rfl h0
def flV : Fl → D
  | .nx _ => .non
  | .rt v => v
@[simp] theorem flV_nx : flV (.nx e) = .non := (rfl)
@[simp] theorem flV_rt (v : D) : flV (.rt v) = v := (rfl)
theorem call_run {P : Prog} {k f : Nat} {d : FnDef} {args : List D} {R : D → MH → Prop} (hF : P.F f = some d) (hl : args.length = d.np) :
    WP E (callF P (k + 1) f args h) R = WP E (execSs P (callF P k) d.body (args.map some ++ List.replicate (d.ns - d.np) none) h) fun fl h1 => R (flV fl) (trim h.length (flV fl) h1) := by
  show WP E (match P.F f with | none => Res.bad | some d => if args.length = d.np then _ else _) R = _
  rw [hF]
  show WP E (if args.length = d.np then _ else .bad) R = _
  rw [if_pos hl, WP_bind]
  refine WP_eq fun fl h1 => ?_
  cases fl <;> rfl
end
end MP

/-! MPH: heaps with a source of draws and objects of one's own at the end. -/
namespace MP
mutual
theorem rb_le : ∀ {v : D} {m n : Nat}, m ≤ n → v.rb m = true → v.rb n = true
  | .non, _, _, _, _ => rfl
  | .bl _, _, _, _, _ => rfl
  | .int _, _, _, _, _ => rfl
  | .str _, _, _, _, _ => rfl
  | .tup _, _, _, l, h => rbs_le l h
  | .lst _, _, _, l, h => rbs_le l h
  | .rol _, _, _, l, h => rbs_le l h
  | .dct _, _, _, l, h => rbk_le l h
  | .ref r, _, _, l, h => decide_eq_true (Nat.lt_of_lt_of_le (of_decide_eq_true h) l)
theorem rbs_le : ∀ {v : List D} {m n : Nat}, m ≤ n → rbs m v = true → rbs n v = true
  | [], _, _, _, _ => rfl
  | _ :: _, _, _, l, h => by
    have h : (_ && _) = true := h
    rw [Bool.and_eq_true] at h
    show (_ && _) = true
    rw [rb_le l h.1, rbs_le l h.2]; rfl
theorem rbk_le : ∀ {v : List (D × D)} {m n : Nat}, m ≤ n → rbk m v = true → rbk n v = true
  | [], _, _, _, _ => rfl
  | (_, _) :: _, _, _, l, h => by
    have h : (_ && _ && _) = true := h
    rw [Bool.and_eq_true, Bool.and_eq_true] at h
    show (_ && _ && _) = true
    rw [rb_le l h.1.1, rb_le l h.1.2, rbk_le l h.2]; rfl
end
theorem MO.rb_le {o : MO} {m n : Nat} (l : m ≤ n) (h : o.rb m = true) : o.rb n = true := by
  cases o with
  | dead => rfl
  | lst xs => exact rbs_le l h
  | dct xs => exact rbk_le l h
  | ins c fs =>
    have h : (fs.all fun p => D.rb m p.2) = true := h
    rw [List.all_eq_true] at h
    show (fs.all fun p => D.rb n p.2) = true
    rw [List.all_eq_true]
    exact fun p z => MP.rb_le l (h p z)
/-- a value that knows no changing object -/
def Cl (v : D) : Prop := v.rb 0 = true
def Cls (v : List D) : Prop := rbs 0 v = true
def Clk (v : List (D × D)) : Prop := rbk 0 v = true
def ClO (o : MO) : Prop := o.rb 0 = true
@[simp] theorem Cl_non : Cl .non := (rfl)
@[simp] theorem Cl_bl (b : Bool) : Cl (.bl b) := (rfl)
@[simp] theorem Cl_int (i : Int) : Cl (.int i) := (rfl)
@[simp] theorem Cl_str (s : List Nat) : Cl (.str s) := (rfl)
@[simp] theorem Cl_tup (xs : List D) : Cl (.tup xs) = Cls xs := (rfl)
@[simp] theorem Cl_lst (xs : List D) : Cl (.lst xs) = Cls xs := (rfl)
@[simp] theorem Cl_dct (xs : List (D × D)) : Cl (.dct xs) = Clk xs := (rfl)
@[simp] theorem Cls_nil : Cls [] := (rfl)
@[simp] theorem Cls_cons (x : D) (xs : List D) : Cls (x :: xs) = (Cl x ∧ Cls xs) := by
  show ((_ && _) = true) = _
  rw [Bool.and_eq_true]; rfl
theorem Cls_iff {xs : List D} : Cls xs ↔ ∀ x ∈ xs, Cl x := by
  induction xs with
  | nil => simp
  | cons x r ih => simp [ih]
@[simp] theorem Cls_app (xs ys : List D) : Cls (xs ++ ys) = (Cls xs ∧ Cls ys) := by
  induction xs with
  | nil => simp
  | cons x r ih => simp [ih, and_assoc]
@[simp] theorem Clk_nil : Clk [] := (rfl)
@[simp] theorem Clk_cons (k v : D) (xs : List (D × D)) : Clk ((k, v) :: xs) = ((Cl k ∧ Cl v) ∧ Clk xs) := by
  show ((_ && _ && _) = true) = _
  rw [Bool.and_eq_true, Bool.and_eq_true]; rfl
theorem Clk_iff {xs : List (D × D)} : Clk xs ↔ ∀ p ∈ xs, Cl p.1 ∧ Cl p.2 := by
  induction xs with
  | nil => simp
  | cons x r ih => obtain ⟨k, v⟩ := x; simp [ih]
@[simp] theorem ClO_dead : ClO .dead := (rfl)
@[simp] theorem ClO_lst (xs : List D) : ClO (.lst xs) = Cls xs := (rfl)
@[simp] theorem ClO_dct (xs : List (D × D)) : ClO (.dct xs) = Clk xs := (rfl)
def HOk (h : MH) : Prop := ∀ o ∈ h, o.rb h.length = true
open Classical in
theorem trim_ref {n : Nat} {h : MH} : trim n (.ref n) h = h := by
  unfold trim
  rw [if_neg]
  rintro ⟨h1, _⟩
  exact absurd (of_decide_eq_true h1) (Nat.lt_irrefl _)
open Classical in
theorem trim_same {n : Nat} {v : D} {h : MH} (l : h.length = n) : trim n v h = h := by
  unfold trim
  split
  · rw [← l, List.take_length]
  · rfl
open Classical in
theorem trim_app {v : D} {h L : MH} (c : Cl v) (ok : HOk h) : trim h.length v (h ++ L) = h := by
  unfold trim
  rw [if_pos ⟨rb_le (Nat.zero_le _) c, fun o q => by rw [List.take_left] at q; exact ok o q⟩, List.take_left]
/-! ### a source of draws -/
structure Sr where
  a : Int
  b : Int
  ha : 0 ≤ a
  hb : 0 ≤ b
def srO (s : Sr) : MO := .lst [.int s.a, .int s.b]
theorem srO_cl (s : Sr) : ClO (srO s) := by simp [srO]
/-- what stands around the source -/
structure Bs where
  A : MH
  B : MH
  okA : ∀ o ∈ A, ClO o
  okB : ∀ o ∈ B, ClO o
def Bs.r (b : Bs) : Nat := b.A.length
def Bs.n (b : Bs) : Nat := b.A.length + 1 + b.B.length
def hp (b : Bs) (s : Sr) (L : List MO) : MH := b.A ++ srO s :: (b.B ++ L)
section
variable (b : Bs) (s t : Sr) (L : List MO) (o : MO) (k : Nat)
@[simp] theorem hp_len : (hp b s L).length = b.n + L.length := by
  simp [hp, Bs.n]; omega
@[simp ↓ high, simp high] theorem hp_src : (hp b s L)[b.r]? = some (srO s) := by
  simp [hp, Bs.r]
@[simp ↓ high, simp high] theorem hp_setsrc : (hp b s L).set b.r (srO t) = hp b t L := by
  simp [hp, Bs.r]
@[simp ↓ high, simp high] theorem hp_setsrc' (x y : Int) (hx : 0 ≤ x) (hy : 0 ≤ y) : (hp b s L).set b.r (.lst [.int x, .int y]) = hp b ⟨x, y, hx, hy⟩ L := hp_setsrc b s ⟨x, y, hx, hy⟩ L
@[simp ↓ high, simp high] theorem hp_push1 : hp b s L ++ [o] = hp b s (L ++ [o]) := by
  simp [hp]
@[simp ↓ high, simp high] theorem hp_getk : (hp b s L)[b.n + k]? = L[k]? := by
  unfold hp Bs.n
  rw [List.getElem?_append_right (by omega)]
  rw [show b.A.length + 1 + b.B.length + k - b.A.length = (b.B.length + k) + 1 by omega, List.getElem?_cons_succ, List.getElem?_append_right (by omega), Nat.add_sub_cancel_left]
@[simp ↓ high, simp high] theorem hp_get0 : (hp b s L)[b.n]? = L[0]? := hp_getk b s L 0
@[simp ↓ high, simp high] theorem hp_setk : (hp b s L).set (b.n + k) o = hp b s (L.set k o) := by
  unfold hp Bs.n
  rw [List.set_append_right _ _ (by omega)]
  rw [show b.A.length + 1 + b.B.length + k - b.A.length = (b.B.length + k) + 1 by omega, List.set_cons_succ, List.set_append_right _ _ (by omega), Nat.add_sub_cancel_left]
@[simp ↓ high, simp high] theorem hp_set0 : (hp b s L).set b.n o = hp b s (L.set 0 o) := hp_setk b s L o 0
theorem r_lt : b.r < b.n := by unfold Bs.r Bs.n; omega
def Bs.push (hL : ∀ o ∈ L, ClO o) : Bs := ⟨b.A, b.B ++ L, b.okA, fun o q => (List.mem_append.mp q).elim (b.okB o) (hL o)⟩
theorem hp_push (hL : ∀ o ∈ L, ClO o) : hp b s L = hp (b.push L hL) s [] := by simp [hp, Bs.push]
theorem push_r (hL : ∀ o ∈ L, ClO o) : (b.push L hL).r = b.r := rfl
theorem hp_ok {b : Bs} {s : Sr} {L : List MO} (hL : ∀ o ∈ L, ClO o) : HOk (hp b s L) := by
  intro o q
  refine MO.rb_le (Nat.zero_le _) ?_
  rcases List.mem_append.mp q with q | q
  · exact b.okA o q
  · rcases List.mem_cons.mp q with rfl | q
    · exact srO_cl s
    · rcases List.mem_append.mp q with q | q
      · exact b.okB o q
      · exact hL o q
@[simp] theorem hp_trim {b : Bs} {s : Sr} {L : List MO} {v : D} (c : Cl v) : trim b.n v (hp b s L) = hp b s [] := by
  have e : hp b s L = hp b s [] ++ L := by simp [hp]
  have l : b.n = (hp b s []).length := by simp
  rw [e, l, trim_app c (hp_ok (by simp))]
@[simp] theorem hp_trim0 {b : Bs} {s : Sr} {v : D} : trim b.n v (hp b s []) = hp b s [] := trim_same (by simp)
@[simp] theorem hp_trimk {b : Bs} {s : Sr} {L : List MO} {v : D} {n : Nat} (e : L.length = n) : trim (b.n + n) v (hp b s L) = hp b s L := trim_same (by simp [e])
end
/-! ### a heap and what one adds -/
def hq (h : MH) (L : List MO) : MH := h ++ L
section
variable (h : MH) (L : List MO) (o : MO) (k : Nat)
theorem hq_nil : hq h [] = h := List.append_nil h
@[simp] theorem hq_len : (hq h L).length = h.length + L.length := by simp [hq]
@[simp ↓ high, simp high] theorem hq_push1 : hq h L ++ [o] = hq h (L ++ [o]) := by simp [hq]
@[simp ↓ high, simp high] theorem hq_getk : (hq h L)[h.length + k]? = L[k]? := by
  unfold hq
  rw [List.getElem?_append_right (by omega), Nat.add_sub_cancel_left]
@[simp ↓ high, simp high] theorem hq_get0 : (hq h L)[h.length]? = L[0]? := hq_getk h L 0
@[simp ↓ high, simp high] theorem hq_setk : (hq h L).set (h.length + k) o = hq h (L.set k o) := by
  unfold hq
  rw [List.set_append_right _ _ (by omega), Nat.add_sub_cancel_left]
@[simp ↓ high, simp high] theorem hq_set0 : (hq h L).set h.length o = hq h (L.set 0 o) := hq_setk h L o 0
@[simp] theorem hq_trim {h : MH} {L : List MO} {v : D} (ok : HOk h) (c : Cl v) : trim h.length v (hq h L) = h := trim_app c ok
end
/-! ### letting go -/
section
variable {Q : X → MH → Prop}
@[simp ↓ high, simp high] theorem hp_frz_lst0 (b : Bs) (s : Sr) (xs : List D) (L : List MO) : WFrz (.d (.ref (b.n))) (hp b s (.lst xs :: L)) Q = Q (.d (.lst xs)) (hp b s (.dead :: L)) := by
  rw [frz_lstr (xs := xs) (by simp)]; simp
@[simp ↓ high, simp high] theorem hp_frz_dct0 (b : Bs) (s : Sr) (xs : List (D × D)) (L : List MO) : WFrz (.d (.ref (b.n))) (hp b s (.dct xs :: L)) Q = Q (.d (.dct xs)) (hp b s (.dead :: L)) := by
  rw [frz_dctr (xs := xs) (by simp)]; simp
@[simp ↓ high, simp high] theorem hp_frz_lst1 (b : Bs) (s : Sr) (o0 : MO) (xs : List D) (L : List MO) : WFrz (.d (.ref (b.n + 1))) (hp b s (o0 :: .lst xs :: L)) Q = Q (.d (.lst xs)) (hp b s (o0 :: .dead :: L)) := by
  rw [frz_lstr (xs := xs) (by simp)]; simp
@[simp ↓ high, simp high] theorem hp_frz_dct1 (b : Bs) (s : Sr) (o0 : MO) (xs : List (D × D)) (L : List MO) : WFrz (.d (.ref (b.n + 1))) (hp b s (o0 :: .dct xs :: L)) Q = Q (.d (.dct xs)) (hp b s (o0 :: .dead :: L)) := by
  rw [frz_dctr (xs := xs) (by simp)]; simp
@[simp ↓ high, simp high] theorem hp_frz_lst2 (b : Bs) (s : Sr) (o0 o1 : MO) (xs : List D) (L : List MO) : WFrz (.d (.ref (b.n + 2))) (hp b s (o0 :: o1 :: .lst xs :: L)) Q = Q (.d (.lst xs)) (hp b s (o0 :: o1 :: .dead :: L)) := by
  rw [frz_lstr (xs := xs) (by simp)]; simp
@[simp ↓ high, simp high] theorem hp_frz_dct2 (b : Bs) (s : Sr) (o0 o1 : MO) (xs : List (D × D)) (L : List MO) : WFrz (.d (.ref (b.n + 2))) (hp b s (o0 :: o1 :: .dct xs :: L)) Q = Q (.d (.dct xs)) (hp b s (o0 :: o1 :: .dead :: L)) := by
  rw [frz_dctr (xs := xs) (by simp)]; simp
@[simp ↓ high, simp high] theorem hp_frz_lst3 (b : Bs) (s : Sr) (o0 o1 o2 : MO) (xs : List D) (L : List MO) : WFrz (.d (.ref (b.n + 3))) (hp b s (o0 :: o1 :: o2 :: .lst xs :: L)) Q = Q (.d (.lst xs)) (hp b s (o0 :: o1 :: o2 :: .dead :: L)) := by
  rw [frz_lstr (xs := xs) (by simp)]; simp
@[simp ↓ high, simp high] theorem hp_frz_dct3 (b : Bs) (s : Sr) (o0 o1 o2 : MO) (xs : List (D × D)) (L : List MO) : WFrz (.d (.ref (b.n + 3))) (hp b s (o0 :: o1 :: o2 :: .dct xs :: L)) Q = Q (.d (.dct xs)) (hp b s (o0 :: o1 :: o2 :: .dead :: L)) := by
  rw [frz_dctr (xs := xs) (by simp)]; simp
@[simp ↓ high, simp high] theorem hp_frz_lst4 (b : Bs) (s : Sr) (o0 o1 o2 o3 : MO) (xs : List D) (L : List MO) : WFrz (.d (.ref (b.n + 4))) (hp b s (o0 :: o1 :: o2 :: o3 :: .lst xs :: L)) Q = Q (.d (.lst xs)) (hp b s (o0 :: o1 :: o2 :: o3 :: .dead :: L)) := by
  rw [frz_lstr (xs := xs) (by simp)]; simp
@[simp ↓ high, simp high] theorem hp_frz_dct4 (b : Bs) (s : Sr) (o0 o1 o2 o3 : MO) (xs : List (D × D)) (L : List MO) : WFrz (.d (.ref (b.n + 4))) (hp b s (o0 :: o1 :: o2 :: o3 :: .dct xs :: L)) Q = Q (.d (.dct xs)) (hp b s (o0 :: o1 :: o2 :: o3 :: .dead :: L)) := by
  rw [frz_dctr (xs := xs) (by simp)]; simp
@[simp ↓ high, simp high] theorem hq_frz_lst0 (h : MH) (xs : List D) (L : List MO) : WFrz (.d (.ref (h.length))) (hq h (.lst xs :: L)) Q = Q (.d (.lst xs)) (hq h (.dead :: L)) := by
  rw [frz_lstr (xs := xs) (by simp)]; simp
@[simp ↓ high, simp high] theorem hq_frz_dct0 (h : MH) (xs : List (D × D)) (L : List MO) : WFrz (.d (.ref (h.length))) (hq h (.dct xs :: L)) Q = Q (.d (.dct xs)) (hq h (.dead :: L)) := by
  rw [frz_dctr (xs := xs) (by simp)]; simp
@[simp ↓ high, simp high] theorem hq_frz_lst1 (h : MH) (o0 : MO) (xs : List D) (L : List MO) : WFrz (.d (.ref (h.length + 1))) (hq h (o0 :: .lst xs :: L)) Q = Q (.d (.lst xs)) (hq h (o0 :: .dead :: L)) := by
  rw [frz_lstr (xs := xs) (by simp)]; simp
@[simp ↓ high, simp high] theorem hq_frz_dct1 (h : MH) (o0 : MO) (xs : List (D × D)) (L : List MO) : WFrz (.d (.ref (h.length + 1))) (hq h (o0 :: .dct xs :: L)) Q = Q (.d (.dct xs)) (hq h (o0 :: .dead :: L)) := by
  rw [frz_dctr (xs := xs) (by simp)]; simp
@[simp ↓ high, simp high] theorem hq_frz_lst2 (h : MH) (o0 o1 : MO) (xs : List D) (L : List MO) : WFrz (.d (.ref (h.length + 2))) (hq h (o0 :: o1 :: .lst xs :: L)) Q = Q (.d (.lst xs)) (hq h (o0 :: o1 :: .dead :: L)) := by
  rw [frz_lstr (xs := xs) (by simp)]; simp
@[simp ↓ high, simp high] theorem hq_frz_dct2 (h : MH) (o0 o1 : MO) (xs : List (D × D)) (L : List MO) : WFrz (.d (.ref (h.length + 2))) (hq h (o0 :: o1 :: .dct xs :: L)) Q = Q (.d (.dct xs)) (hq h (o0 :: o1 :: .dead :: L)) := by
  rw [frz_dctr (xs := xs) (by simp)]; simp
@[simp ↓ high, simp high] theorem hq_frz_lst3 (h : MH) (o0 o1 o2 : MO) (xs : List D) (L : List MO) : WFrz (.d (.ref (h.length + 3))) (hq h (o0 :: o1 :: o2 :: .lst xs :: L)) Q = Q (.d (.lst xs)) (hq h (o0 :: o1 :: o2 :: .dead :: L)) := by
  rw [frz_lstr (xs := xs) (by simp)]; simp
@[simp ↓ high, simp high] theorem hq_frz_dct3 (h : MH) (o0 o1 o2 : MO) (xs : List (D × D)) (L : List MO) : WFrz (.d (.ref (h.length + 3))) (hq h (o0 :: o1 :: o2 :: .dct xs :: L)) Q = Q (.d (.dct xs)) (hq h (o0 :: o1 :: o2 :: .dead :: L)) := by
  rw [frz_dctr (xs := xs) (by simp)]; simp
@[simp ↓ high, simp high] theorem hq_frz_lst4 (h : MH) (o0 o1 o2 o3 : MO) (xs : List D) (L : List MO) : WFrz (.d (.ref (h.length + 4))) (hq h (o0 :: o1 :: o2 :: o3 :: .lst xs :: L)) Q = Q (.d (.lst xs)) (hq h (o0 :: o1 :: o2 :: o3 :: .dead :: L)) := by
  rw [frz_lstr (xs := xs) (by simp)]; simp
@[simp ↓ high, simp high] theorem hq_frz_dct4 (h : MH) (o0 o1 o2 o3 : MO) (xs : List (D × D)) (L : List MO) : WFrz (.d (.ref (h.length + 4))) (hq h (o0 :: o1 :: o2 :: o3 :: .dct xs :: L)) Q = Q (.d (.dct xs)) (hq h (o0 :: o1 :: o2 :: o3 :: .dead :: L)) := by
  rw [frz_dctr (xs := xs) (by simp)]; simp
end
/-! ### laws' draws -/
theorem eraseIdx_map {α β : Type} (f : α → β) (l : List α) (i : Nat) : (l.map f).eraseIdx i = (l.eraseIdx i).map f := by
  rw [List.eraseIdx_eq_take_drop_succ, List.eraseIdx_eq_take_drop_succ]; simp
theorem erase_perm {α : Type} {l : List α} {i : Nat} (h : i < l.length) : (l[i] :: l.eraseIdx i).Perm l := by
  have e : l = l.take i ++ l[i] :: l.drop (i + 1) := by rw [List.getElem_cons_drop, List.take_append_drop]
  rw [List.eraseIdx_eq_take_drop_succ]
  refine List.Perm.trans ?_ (List.Perm.of_eq e.symm)
  exact List.perm_middle.symm
/-- _law_draw -/
def LB.draw : MSs := .c (.ite (.cmp .gt (.ix (.var 0) (.int 0)) (.int 0)) (.c (.asg (.v 2) (.bin .md (.ix (.var 0) (.int 0)) (.var 1))) (.c (.iset (.var 0) (.int 0) (.bin .fdv (.ix (.var 0) (.int 0)) (.var 1))) (.c (.ret (.var 2)) .n))) .n)
  (.c (.iset (.var 0) (.int 1) (.bin .md (.bin .add (.bin .mul (.ix (.var 0) (.int 1)) (.int 1181783497276652981)) (.int 12345678910987)) (.int 2305843009213693951)))
  (.c (.ret (.bin .md (.bin .fdv (.bin .md (.bin .mul (.bin .fdv (.ix (.var 0) (.int 1)) (.int 65537)) (.bin .add (.bin .md (.ix (.var 0) (.int 1)) (.int 65537)) (.int 3))) (.int 2305843009213693921)) (.int 97)) (.var 1))) .n))
def DrawSp (cf : CF) (i : Nat) : Prop := ∀ (b : Bs) (s : Sr) (L : List MO) (l : Int), 0 < l → l < 18446744073709551616 → WP NE (cf i [.ref b.r, .int l] (hp b s L)) fun v h' => ∃ (j : Int) (t : Sr), 0 ≤ j ∧ j < l ∧ v = .int j ∧ h' = hp b t L
theorem draw_sp {P : Prog} {i n : Nat} (hF : P.F i = some ⟨2, 3, LB.draw⟩) : DrawSp (callF P (n + 1)) i := by
  intro b s L l l0 l1
  rw [call_run hF rfl]
  obtain ⟨a, c, ha, hc⟩ := s
  by_cases h0 : 0 < a
  · have hx : 0 ≤ a / l := Int.ediv_nonneg ha (by omega)
    simp [LB.draw, srO, h0, l0, l1, hx, hc]
    exact ⟨_, Int.emod_nonneg _ (by omega), Int.emod_lt_of_pos _ l0, rfl, _, rfl⟩
  · have e : ∃ t, t = (c * 1181783497276652981 + 12345678910987) % 2305843009213693951 := ⟨_, rfl⟩
    obtain ⟨t, ht⟩ := e
    have t0 : 0 ≤ t := by rw [ht]; exact Int.emod_nonneg _ (by omega)
    have hm : MulOk (t / 65537) (t % 65537 + 3) := by unfold MulOk; omega
    have hm2 : MulOk c 1181783497276652981 := by unfold MulOk; omega
    simp [LB.draw, srO, h0, l0, l1, ← ht, hm, hm2, ha, t0]
    exact ⟨_, Int.emod_nonneg _ (by omega), Int.emod_lt_of_pos _ l0, rfl, _, rfl⟩
end MP

/-! MPL: a law's start and choices. -/
namespace MP
theorem big : PySem.intText? ⟨([49] ++ (List.replicate 400 [48]).flatten).toArray⟩ = some (10 ^ 400) := by decide +kernel
def BIG : Int := 10 ^ 400
theorem BIG_pos : 0 < BIG := by decide +kernel
@[simp ↓ high] theorem x_big {P : Prog} {cf : CF} {E : EQ} {e : MP.Env} {h : MH} {Q : X → MH → Prop} : WP E (evalX P cf (.b1 .int (.bin .add (.str [49]) (.bin .mul (.str [48]) (.int 400)))) e h) Q = Q (.d (.int BIG)) h := by
  simp only [x_intf, x_bin, x_str, x_int, o_bin, n_str, n_int, o_mulS, o_addS, f_intS]
  rw [show (400 : Int).toNat = 400 from (rfl), big]
  have l1 : ([49] ++ (List.replicate 400 [48]).flatten).length ≤ 640 := by decide +kernel
  have l2 : ([49] : List Nat).length + (List.replicate 400 [48] : List (List Nat)).flatten.length ≤ 1000000 := by decide +kernel
  have l3 : (1 : Int) ≤ 400 ∧ (400 : Int) ≤ 1000 ∧ 1 ≤ [48].length ∧ [48].length ≤ 1000 := by decide
  rw [WO_some]
  exact propext ⟨fun x => x.2.2.2, fun x => ⟨l3, l2, l1, x⟩⟩
/-- _law_choice -/
def LB.choice (d : Nat) : MSs := .c (.ret (.ix (.var 1) (.call d (.c (.var 0) (.c (.b1 .len (.var 1)) .n))))) .n
def Chosen (b : Bs) (L : List MO) (xs : List D) (v : D) (h' : MH) : Prop := ∃ t : Sr, v ∈ xs ∧ h' = hp b t L
def ChoiceSp (cf : CF) (i : Nat) : Prop := ∀ (b : Bs) (s : Sr) (L : List MO) (xs : List D), xs ≠ [] → xs.length < 18446744073709551616 → WP NE (cf i [.ref b.r, .lst xs] (hp b s L)) (Chosen b L xs)
theorem choice_sp {P : Prog} {i d n : Nat} (hF : P.F i = some ⟨2, 2, LB.choice d⟩) (D : DrawSp (callF P n) d) : ChoiceSp (callF P (n + 1)) i := by
  intro b s L xs n0 n1
  rw [call_run hF rfl]
  have l0 : 0 < xs.length := List.length_pos_iff.mpr n0
  simp [LB.choice]
  refine (D b s L xs.length (by omega) (by omega)).mono ?_
  rintro _ _ ⟨j, t, j0, j1, rfl, rfl⟩
  have lt : j.toNat < xs.length := by omega
  simp [atD_i j0, List.getElem?_eq_getElem lt]
  exact ⟨t, List.getElem_mem lt, rfl⟩
def ChoiceTSp (cf : CF) (i : Nat) : Prop := ∀ (b : Bs) (s : Sr) (L : List MO) (xs : List D), xs ≠ [] → xs.length < 18446744073709551616 → WP NE (cf i [.ref b.r, .tup xs] (hp b s L)) (Chosen b L xs)
theorem choiceT_sp {P : Prog} {i d n : Nat} (hF : P.F i = some ⟨2, 2, LB.choice d⟩) (D : DrawSp (callF P n) d) : ChoiceTSp (callF P (n + 1)) i := by
  intro b s L xs n0 n1
  rw [call_run hF rfl]
  have l0 : 0 < xs.length := List.length_pos_iff.mpr n0
  simp [LB.choice]
  refine (D b s L xs.length (by omega) (by omega)).mono ?_
  rintro _ _ ⟨j, t, j0, j1, rfl, rfl⟩
  have lt : j.toNat < xs.length := by omega
  simp [atD_i j0, List.getElem?_eq_getElem lt]
  exact ⟨t, List.getElem_mem lt, rfl⟩
/-- _law_start -/
def LB.start : MSs := .c (.asg (.v 2) (.bin .add (.bin .mul (.int 3) (.var 1)) (.b1 .len (.var 0))))
  (.c (.ite (.cmp .lt (.var 1) (.b1 .len (.var 0))) (.c (.asg (.v 2) (.ix (.var 0) (.var 1))) .n) .n)
  (.c (.asg (.v 3) (.bin .mul (.bin .md (.b1 .abs (.var 2)) (.b1 .int (.bin .add (.str [49]) (.bin .mul (.str [48]) (.int 400))))) (.b1 .int (.cmp .ge (.b1 .abs (.var 2)) (.bin .pow (.int 10) (.int 18))))))
  (.c (.ret (.b1 .mut (.lst (.c (.var 3) (.c (.bin .md (.bin .mul (.bin .add (.bin .add (.bin .md (.var 2) (.int 2305843009213693951)) (.bin .mul (.bin .mul (.int 8191) (.var 1)) (.var 1))) (.int 17)) (.int 48271)) (.int 2305843009213693951)) .n))))) .n)))
def Started (h : MH) (v : D) (h' : MH) : Prop := ∃ t : Sr, v = .ref h.length ∧ h' = h ++ [srO t]
def StartSp (cf : CF) (i : Nat) : Prop := ∀ (h : MH) (ns : List Int) (k : Nat), k < 64 → ns.length ≤ 63 → WP NE (cf i [.rol (ns.map D.int), .int k] h) (Started h)
theorem start_sp {P : Prog} {i n : Nat} (hF : P.F i = some ⟨2, 4, LB.start⟩) : StartSp (callF P (n + 1)) i := by
  intro h ns k hk hn
  rw [call_run hF rfl]
  have bp := BIG_pos
  have k0 : MulOk 3 (k : Int) := by unfold MulOk; omega
  have k1 : MulOk 8191 (k : Int) := by unfold MulOk; omega
  have k2 : MulOk (8191 * (k : Int)) (k : Int) := by unfold MulOk; omega
  have k3 : ∀ x : Int, MulOk x 48271 := by intro x; unfold MulOk; omega
  have z1 : ∀ x : Int, MulOk x 1 := by intro x; unfold MulOk; omega
  have z0 : ∀ x : Int, MulOk x 0 := by intro x; unfold MulOk; omega
  have fin : ∀ c e : Int, 0 ≤ e → Started h (.ref h.length) (h ++ [.lst [.int e, .int ((c % 2305843009213693951 + 8191 * (k : Int) * (k : Int) + 17) * 48271 % 2305843009213693951)]]) := by
    intro c e e0
    exact ⟨⟨e, _, e0, Int.emod_nonneg _ (by omega)⟩, rfl, rfl⟩
  by_cases lt : k < ns.length
  · generalize hc : (if ns[k] < 0 then -ns[k] else ns[k]) = e
    have e0 : 0 ≤ e := by rw [← hc]; split <;> omega
    have m1 : 0 ≤ e % BIG := Int.emod_nonneg _ (by omega)
    by_cases h18 : (1000000000000000000 : Int) ≤ e
    · simp [LB.start, k0, lt, atD_n, List.getElem?_eq_getElem lt, hc, bp, k1, k2, k3, h18, z1, small64, trim_ref]
      exact fin _ _ m1
    · simp [LB.start, k0, lt, atD_n, List.getElem?_eq_getElem lt, hc, bp, k1, k2, k3, h18, z0, small64, trim_ref]
      exact fin _ _ (by omega)
  · generalize hc : (if 3 * (k : Int) + (ns.length : Int) < 0 then -(3 * (k : Int) + (ns.length : Int)) else 3 * (k : Int) + (ns.length : Int)) = e
    have e0 : 0 ≤ e := by rw [← hc]; split <;> omega
    have m1 : 0 ≤ e % BIG := Int.emod_nonneg _ (by omega)
    by_cases h18 : (1000000000000000000 : Int) ≤ e
    · simp [LB.start, k0, lt, hc, bp, k1, k2, k3, h18, z1, small64, trim_ref]
      exact fin _ _ m1
    · simp [LB.start, k0, lt, hc, bp, k1, k2, k3, h18, z0, small64, trim_ref]
      exact fin _ _ (by omega)
end MP

/-! MPC: columns, conditions, conjunctions as data; how laws draw them. -/
namespace MP
abbrev Col := List Nat × List Nat
abbrev Itm := Option Col
abbrev Cnd := Itm × Itm × Int
def colD (c : Col) : D := .tup [.str c.1, .str c.2]
def itmD : Itm → D
  | none => .non
  | some c => colD c
def cndD (c : Cnd) : D := .tup [itmD c.1, itmD c.2.1, .int c.2.2]
def cndsD (cs : List Cnd) : D := .tup (cs.map cndD)
@[simp] theorem Cl_col (c : Col) : Cl (colD c) := by simp [colD]
@[simp] theorem Cl_itm (c : Itm) : Cl (itmD c) := by cases c <;> simp [itmD]
@[simp] theorem Cl_cnd (c : Cnd) : Cl (cndD c) := by simp [cndD]
theorem Cls_map {α : Type} {f : α → D} (h : ∀ a, Cl (f a)) (xs : List α) : Cls (xs.map f) := by
  rw [Cls_iff]
  intro x q
  obtain ⟨a, _, rfl⟩ := List.mem_map.mp q
  exact h a
@[simp] theorem Cls_cols (cs : List Col) : Cls (cs.map colD) := Cls_map Cl_col cs
@[simp] theorem Cls_itms (cs : List Itm) : Cls (cs.map itmD) := Cls_map Cl_itm cs
@[simp] theorem Cls_cnds (cs : List Cnd) : Cls (cs.map cndD) := Cls_map Cl_cnd cs
@[simp] theorem Cl_cnds (cs : List Cnd) : Cl (cndsD cs) := by simp [cndsD]
@[simp] theorem nr_col (c : Col) : (colD c).nr = true := rfl
@[simp] theorem isNon_col (c : Col) : (colD c).isNon = false := rfl
@[simp] theorem isN_col {R : Bool → Prop} (c : Col) : WO (isN (.d (colD c))) R = R false := (rfl)
@[simp] theorem nr_itm (c : Itm) : (itmD c).nr = true := by cases c <;> rfl
/-! ### _law_some_columns -/
def EVERY : List Col := [([97], [120]), ([98], [120]), ([97], [121]), ([116, 97, 98], [120]), ([98], [122, 122, 122, 122, 122, 122, 122, 122]), ([116, 97, 98], [97])]
def LB.some_columns (i_draw : Nat) : MSs := (.c (.asg (.v 2) (.lst (.c (.tup (.c (.str [97]) (.c (.str [120]) .n))) (.c (.tup (.c (.str [98]) (.c (.str [120]) .n))) (.c (.tup (.c (.str [97]) (.c (.str [121]) .n))) (.c (.tup (.c (.str [116, 97, 98]) (.c (.str [120]) .n))) (.c (.tup (.c (.str [98]) (.c (.str [122, 122, 122, 122, 122, 122, 122, 122]) .n))) (.c (.tup (.c (.str [116, 97, 98]) (.c (.str [97]) .n))) .n))))))))
  (.c (.asg (.t [.v 4, .v 5]) (.tup (.c (.b1 .mut (.lst .n)) (.c (.b1 .mut (.b1 .list (.var 2))) .n))))
  (.c (.for_ (.v 3) (.b1 .range (.var 1)) (.c (.ex (.mb .append (.var 4) (.c (.mb .pop0 (.var 5) (.c (.call i_draw (.c (.var 0) (.c (.b1 .len (.var 5)) .n))) .n)) .n)))
  .n))
  (.c (.ret (.b1 .frz (.var 4)))
  .n))))
def SomeCols (b : Bs) (n : Nat) (v : D) (h' : MH) : Prop := ∃ (t : Sr) (cs : List Col), v = .lst (cs.map colD) ∧ h' = hp b t [] ∧ cs.length = n ∧ cs.Nodup ∧ ∀ c ∈ cs, c ∈ EVERY
def SomeColsSp (cf : CF) (i : Nat) : Prop := ∀ (b : Bs) (s : Sr) (n : Nat), n ≤ 6 → WP NE (cf i [.ref b.r, .int n] (hp b s [])) (SomeCols b n)
theorem some_columns_sp {P : Prog} {i d n : Nat} (hF : P.F i = some ⟨2, 6, LB.some_columns d⟩) (D : DrawSp (callF P n) d) : SomeColsSp (callF P (n + 1)) i := by
  intro b s c hc
  rw [call_run hF rfl]
  have c1 : (c : Int) ≤ 1000000 := by omega
  have c2 : (-1152921504606846976 : Int) ≤ c := by omega
  simp [LB.some_columns, c1, c2]
  refine WP.forN (fun k e h => ∃ (t : Sr) (found left : List Col) (u : Option MP.D), e = [some (.ref b.r), some (.int c), some (.lst (EVERY.map colD)), u, some (.ref b.n), some (.ref (b.n + 1))] ∧ h = hp b t [.lst (found.map colD), .lst (left.map colD)] ∧ found.length = k ∧ (found ++ left).Perm EVERY) ?_ ?_ ?_
  · rintro k e h lt ⟨t, found, left, u, rfl, rfl, fl, pm⟩
    have ll : left.length = 6 - k := by
      have := pm.length_eq
      simp [EVERY] at this
      omega
    simp
    refine (D b t _ left.length (by omega) (by omega)).mono ?_
    rintro _ _ ⟨j, t', j0, j1, rfl, rfl⟩
    have jl : j.toNat < left.length := by omega
    have jm : j < 1000000 := by omega
    have fm : found.length < 1000000 := by omega
    simp [j0, jm, fm, List.getElem?_eq_getElem jl]
    refine ⟨t', found ++ [left[j.toNat]], left.eraseIdx j.toNat, ?_, by simp [fl], ?_⟩
    · simp [eraseIdx_map]
    · refine List.Perm.trans ?_ pm
      rw [List.append_assoc]
      exact List.Perm.append_left _ (erase_perm jl)
  · rintro e h ⟨t, found, left, u, rfl, rfl, fl, pm⟩
    simp
    have nd : (found ++ left).Nodup := pm.nodup_iff.mpr (by decide)
    refine ⟨t, found, rfl, rfl, by omega, (List.nodup_append.mp nd).1, fun x hx => pm.subset (List.mem_append_left _ hx)⟩
  · exact ⟨s, [], EVERY, none, rfl, rfl, rfl, .refl _⟩
/-! ### _law_small_conditions -/
def LB.small_conditions (i_choice i_draw : Nat) : MSs := (.c (.asg (.v 4) (.b1 .mut (.lst .n)))
  (.c (.for_ (.v 5) (.b1 .range (.var 2)) (.c (.asg (.v 6) (.call i_choice (.c (.var 0) (.c (.bin .add (.var 1) (.lst (.c .non .n))) .n))))
  (.c (.asg (.v 7) (.call i_choice (.c (.var 0) (.c (.bin .add (.var 1) (.bin .mul (.lst (.c .non .n)) (.b1 .int (.isn true (.var 6))))) .n))))
  (.c (.ex (.mb .append (.var 4) (.c (.tup (.c (.var 6) (.c (.var 7) (.c (.bin .sub (.call i_draw (.c (.var 0) (.c (.bin .add (.bin .mul (.int 2) (.var 3)) (.int 1)) .n))) (.var 3)) .n)))) .n)))
  .n))))
  (.c (.ret (.b1 .tuple (.var 4)))
  .n)))
/-- a condition over these columns -/
def CndOf (cs : List Col) (m : Int) (c : Cnd) : Prop := (∀ x, c.1 = some x → x ∈ cs) ∧ (∀ x, c.2.1 = some x → x ∈ cs) ∧ (c.1 = none → c.2.1 ≠ none) ∧ -m ≤ c.2.2 ∧ c.2.2 ≤ m
def CndsOf (cs : List Col) (m : Int) (cn : List Cnd) : Prop := ∀ c ∈ cn, CndOf cs m c
def SmallCnds (b : Bs) (cs : List Col) (n : Nat) (m : Int) (v : D) (h' : MH) : Prop := ∃ (t : Sr) (cn : List Cnd), v = cndsD cn ∧ h' = hp b t [] ∧ cn.length = n ∧ CndsOf cs m cn
def SmallCndsSp (cf : CF) (i : Nat) : Prop := ∀ (b : Bs) (s : Sr) (cs : List Col) (n : Nat) (m : Int), cs ≠ [] → cs.length ≤ 1000 → n ≤ 1000 → 0 ≤ m → m ≤ 1000000000 → WP NE (cf i [.ref b.r, .lst (cs.map colD), .int n, .int m] (hp b s [])) (SmallCnds b cs n m)
theorem small_conditions_sp {P : Prog} {i ic id n : Nat} (hF : P.F i = some ⟨4, 8, LB.small_conditions ic id⟩) (C : ChoiceSp (callF P n) ic) (D : DrawSp (callF P n) id) : SmallCndsSp (callF P (n + 1)) i := by
  intro b s cs c m c0 cl cn m0 m1
  rw [call_run hF rfl]
  have c1 : (c : Int) ≤ 1000000 := by omega
  have c2 : (-1152921504606846976 : Int) ≤ c := by omega
  simp [LB.small_conditions, c1, c2]
  refine WP.forN (fun k e h => ∃ (t : Sr) (fd : List Cnd) (u1 u2 u3 : Option MP.D), e = [some (.ref b.r), some (.lst (cs.map colD)), some (.int c), some (.int m), some (.ref b.n), u1, u2, u3] ∧ h = hp b t [.lst (fd.map cndD)] ∧ fd.length = k ∧ CndsOf cs m fd) ?_ ?_ ?_
  · rintro k e h lt ⟨t, fd, u1, u2, u3, rfl, rfl, fl, al⟩
    have l1 : cs.length + 1 ≤ 1000000 := by omega
    simp [l1]
    refine (C b t _ _ (by simp) (by simp; omega)).mono ?_
    rintro x _ ⟨t1, xm, rfl⟩
    obtain ⟨xi, ex, xc⟩ : ∃ xi : Itm, itmD xi = x ∧ ∀ y, xi = some y → y ∈ cs := by
      rcases List.mem_append.mp xm with q | q
      · obtain ⟨y, hy, rfl⟩ := List.mem_map.mp q
        exact ⟨some y, rfl, fun z e => by cases e; exact hy⟩
      · rcases List.mem_singleton.mp q with rfl
        exact ⟨none, rfl, fun z e => nomatch e⟩
    subst ex
    have mk : ∀ x : Int, MulOk 2 x := by intro x; unfold MulOk; omega
    have fm : fd.length < 1000000 := by omega
    have fin : ∀ (yi : Itm) (j : Int) (t' : Sr), (∀ y, yi = some y → y ∈ cs) → (xi = none → yi ≠ none) → 0 ≤ j → j < 2 * m + 1 → ∃ (t : Sr) (fd' : List Cnd) (u1 u2 u3 : Option MP.D), [some (.ref b.r), some (.lst (cs.map colD)), some (.int c), some (.int m), some (.ref b.n), some (.int k), some (itmD xi), some (itmD yi)] = [some (.ref b.r), some (.lst (cs.map colD)), some (.int c), some (.int m), some (.ref b.n), u1, u2, u3] ∧ hp b t' [.lst (fd.map cndD ++ [.tup [itmD xi, itmD yi, .int (j - m)]])] = hp b t [.lst (fd'.map cndD)] ∧ fd'.length = k + 1 ∧ CndsOf cs m fd' := by
      intro yi j t' yc nb j0 j1
      refine ⟨t', fd ++ [(xi, yi, j - m)], _, _, _, rfl, by simp [cndD], by simp [fl], ?_⟩
      intro z hz
      rcases List.mem_append.mp hz with q | q
      · exact al z q
      · rcases List.mem_singleton.mp q with rfl
        exact ⟨xc, yc, nb, by show -m ≤ j - m; omega, by show j - m ≤ m; omega⟩
    cases xi with
    | none =>
      simp [itmD, l1, mk]
      refine ⟨by omega, (C b t1 _ _ (by simpa using c0) (by simp; omega)).mono ?_⟩
      rintro y _ ⟨t2, ym, rfl⟩
      obtain ⟨y, hy, rfl⟩ := List.mem_map.mp ym
      simp [mk]
      refine (D b t2 _ (2 * m + 1) (by omega) (by omega)).mono ?_
      rintro _ _ ⟨j, t', j0, j1, rfl, rfl⟩
      have := fin (some y) j t' (fun z e => by cases e; exact hy) (fun _ e => nomatch e) j0 j1
      simp [fm] at this ⊢
      exact this
    | some x =>
      have e1 : itmD (some x) = colD x := rfl
      simp [e1, colD, l1, mk]
      refine (C b t1 _ _ (by simp) (by simp; omega)).mono ?_
      rintro y _ ⟨t2, ym, rfl⟩
      obtain ⟨yi, ey, yc⟩ : ∃ yi : Itm, itmD yi = y ∧ ∀ y, yi = some y → y ∈ cs := by
        rcases List.mem_append.mp ym with q | q
        · obtain ⟨y, hy, rfl⟩ := List.mem_map.mp q
          exact ⟨some y, rfl, fun z e => by cases e; exact hy⟩
        · rcases List.mem_singleton.mp q with rfl
          exact ⟨none, rfl, fun z e => nomatch e⟩
      subst ey
      simp [mk]
      refine (D b t2 _ (2 * m + 1) (by omega) (by omega)).mono ?_
      rintro _ _ ⟨j, t', j0, j1, rfl, rfl⟩
      have := fin yi j t' yc (fun e => nomatch e) j0 j1
      simp [fm, itmD, colD] at this ⊢
      exact this
  · rintro e h ⟨t, fd, u1, u2, u3, rfl, rfl, fl, al⟩
    simp
    exact ⟨t, fd, rfl, rfl, by omega, al⟩
  · exact ⟨s, [], none, none, none, rfl, rfl, rfl, fun _ h => nomatch h⟩
end MP

/-! MPK: dicts whose keys are of one type. -/
namespace MP
open PySem
structure KeyEmb {K : Type} [DecidableEq K] (kD : K → D) : Prop where
  inj : ∀ a b, keyEq (kD a) (kD b) = decide (a = b)
  ok : ∀ a, okKey (kD a) = true
theorem KeyEmb.of {K : Type} [DecidableEq K] {kD : K → D} (f : K → NestedKey) (h : ∀ a, keyOf (kD a) = some (f a)) (i : ∀ a b, f a = f b → a = b) (d : ∀ a, (f a).depth ≤ 8) : KeyEmb kD := by
  refine ⟨fun a b => ?_, fun a => ?_⟩
  · unfold keyEq
    rw [h, h]
    show decide (f a = f b) = decide (a = b)
    exact decide_eq_decide.mpr ⟨i a b, fun e => by rw [e]⟩
  · unfold okKey
    rw [h]
    exact decide_eq_true (d a)
theorem str_inj {s t : List Nat} (h : (⟨s.toArray⟩ : Str) = ⟨t.toArray⟩) : s = t := by
  have := congrArg (fun x : Str => x.cps.toList) h
  simpa using this
theorem key_str : KeyEmb MP.D.str := .of (fun s => .text ⟨s.toArray⟩) (fun _ => rfl) (fun a b e => str_inj (NestedKey.text.inj e)) (fun _ => Nat.le_of_ble_eq_true rfl)
theorem key_int : KeyEmb MP.D.int := .of (fun s => .num s) (fun _ => rfl) (fun a b e => (NestedKey.num.inj e)) (fun _ => Nat.le_of_ble_eq_true rfl)
def colK (c : Col) : NestedKey := .tup [.text ⟨c.1.toArray⟩, .text ⟨c.2.toArray⟩]
theorem colK_inj {a b : Col} (e : colK a = colK b) : a = b := by
  obtain ⟨a1, a2⟩ := a
  obtain ⟨b1, b2⟩ := b
  have e := NestedKey.tup.inj e
  injection e with e1 e
  injection e with e2 e
  have h1 : a1 = b1 := str_inj (NestedKey.text.inj e1)
  have h2 : a2 = b2 := str_inj (NestedKey.text.inj e2)
  rw [h1, h2]
theorem key_col : KeyEmb colD := .of colK (fun _ => rfl) (fun a b e => colK_inj e) (fun _ => Nat.le_of_ble_eq_true rfl)
def itmK : Itm → NestedKey
  | none => .none
  | some c => colK c
theorem key_itm : KeyEmb itmD := .of itmK (fun a => by cases a <;> rfl) (fun a b e => by
  cases a with
  | none => cases b with
    | none => rfl
    | some b => cases e
  | some a => cases b with
    | none => cases e
    | some b => rw [colK_inj e]) (fun a => by cases a <;> exact Nat.le_of_ble_eq_true rfl)
section
variable {K V : Type} [DecidableEq K]
def tget (kvs : List (K × V)) (k : K) : Option V := (kvs.find? fun p => decide (p.1 = k)).map (·.2)
def tput (kvs : List (K × V)) (k : K) (v : V) : List (K × V) :=
  if (kvs.any fun p => decide (p.1 = k)) = true then kvs.map fun p => if p.1 = k then (p.1, v) else p else kvs ++ [(k, v)]
variable {kD : K → D} {vD : V → D}
def kvD (kD : K → D) (vD : V → D) (p : K × V) : D × D := (kD p.1, vD p.2)
theorem dget_map (E : KeyEmb kD) (kvs : List (K × V)) (k : K) : dget (kvs.map (kvD kD vD)) (kD k) = (tget kvs k).map vD := by
  unfold dget tget
  induction kvs with
  | nil => rfl
  | cons p r ih =>
    rw [List.map_cons, List.find?_cons, List.find?_cons]
    show ((match keyEq (kD p.1) (kD k) with | true => some (kvD kD vD p) | false => _) : Option (D × D)).map _ = _
    rw [E.inj]
    by_cases h : p.1 = k
    · simp [h, kvD]
    · simp only [h, decide_false]; exact ih
theorem dput_map (E : KeyEmb kD) (kvs : List (K × V)) (k : K) (v : V) : dput (kvs.map (kvD kD vD)) (kD k) (vD v) = (tput kvs k v).map (kvD kD vD) := by
  unfold dput tput
  have e : ((kvs.map (kvD kD vD)).any fun p => keyEq p.1 (kD k)) = (kvs.any fun p => decide (p.1 = k)) := by
    rw [List.any_map]
    congr 1
    funext p
    exact E.inj _ _
  rw [e]
  split
  · rw [List.map_map, List.map_map]
    congr 1
    funext p
    show (if keyEq (kD p.1) (kD k) = true then (kD p.1, vD v) else kvD kD vD p) = kvD kD vD (if p.1 = k then (p.1, v) else p)
    rw [E.inj]
    by_cases h : p.1 = k <;> simp [h, kvD]
  · rw [List.map_append]; rfl
theorem tget_put (kvs : List (K × V)) (k l : K) (v : V) : tget (tput kvs k v) l = if l = k then some v else tget kvs l := by
  unfold tput
  split
  · rename_i h
    induction kvs with
    | nil => cases h
    | cons p r ih =>
      unfold tget at ih ⊢
      by_cases e : p.1 = k
      · by_cases e2 : l = k
        · subst e2
          simp [e]
        · have : ¬ k = l := fun z => e2 z.symm
          simp only [List.map_cons, e, if_true, List.find?_cons, this, decide_false, e2, if_false]
          by_cases hr : (r.any fun p => decide (p.1 = k)) = true
          · rw [ih hr, if_neg e2]
          · have nr : ∀ q ∈ r, ¬ q.1 = k := fun q hq z => hr (List.any_eq_true.mpr ⟨q, hq, decide_eq_true z⟩)
            have : (r.map fun p => if p.1 = k then (p.1, v) else p) = r := by
              conv => rhs; rw [← List.map_id r]
              exact List.map_congr_left fun q hq => by simp [nr q hq]
            rw [this]
      · have hr : (r.any fun p => decide (p.1 = k)) = true := by
          simpa [e] using h
        by_cases e2 : p.1 = l
        · have : ¬ l = k := fun z => e (e2.trans z)
          simp [e2, this]
        · simp only [List.map_cons, e, if_false, List.find?_cons, e2, decide_false]
          exact ih hr
  · rename_i h
    have nr : ∀ q ∈ kvs, ¬ q.1 = k := fun q hq z => h (List.any_eq_true.mpr ⟨q, hq, decide_eq_true z⟩)
    unfold tget
    rw [List.find?_append]
    by_cases e2 : l = k
    · subst e2
      have : (kvs.find? fun p => decide (p.1 = l)) = none := by
        rw [List.find?_eq_none]
        exact fun q hq => by simp [nr q hq]
      simp [this]
    · have : ¬ k = l := fun z => e2 z.symm
      simp [this, e2]
theorem tput_keys (kvs : List (K × V)) (k : K) (v : V) : (tput kvs k v).map (·.1) = if k ∈ kvs.map (·.1) then kvs.map (·.1) else kvs.map (·.1) ++ [k] := by
  unfold tput
  have e : ((kvs.any fun p => decide (p.1 = k)) = true) ↔ k ∈ kvs.map (·.1) := by
    rw [List.any_eq_true, List.mem_map]
    exact ⟨fun ⟨p, h, z⟩ => ⟨p, h, of_decide_eq_true z⟩, fun ⟨p, h, z⟩ => ⟨p, h, decide_eq_true z⟩⟩
  by_cases h : k ∈ kvs.map (·.1)
  · rw [if_pos (e.mpr h), if_pos h, List.map_map]
    congr 1
    funext p
    show (if p.1 = k then (p.1, v) else p).1 = p.1
    split <;> rfl
  · rw [if_neg (fun z => h (e.mp z)), if_neg h, List.map_append]; rfl
theorem tput_mem {kvs : List (K × V)} {k : K} {v : V} {q : K × V} (h : q ∈ tput kvs k v) : q ∈ kvs ∨ q = (k, v) := by
  unfold tput at h
  split at h
  · obtain ⟨p, hp, rfl⟩ := List.mem_map.mp h
    by_cases e : p.1 = k
    · simp [e]
    · simp [e, hp]
  · rcases List.mem_append.mp h with z | z
    · exact .inl z
    · exact .inr (List.mem_singleton.mp z)
theorem tput_len (kvs : List (K × V)) (k : K) (v : V) : (tput kvs k v).length ≤ kvs.length + 1 := by
  unfold tput
  split
  · simp
  · simp
end
/-! ### values of columns -/
def ovD : Option Int → D
  | none => .non
  | some i => .int i
abbrev Vals := List (Col × Option Int)
def valsD (vs : Vals) : D := .dct (vs.map (kvD colD ovD))
@[simp] theorem Cl_ov (v : Option Int) : Cl (ovD v) := by cases v <;> rfl
@[simp] theorem nr_ov (v : Option Int) : (ovD v).nr = true := by cases v <;> rfl
theorem Clk_map {α : Type} {f : α → MP.D × MP.D} (h : ∀ a, Cl (f a).1 ∧ Cl (f a).2) (xs : List α) : Clk (xs.map f) := by
  rw [Clk_iff]
  intro x q
  obtain ⟨a, _, rfl⟩ := List.mem_map.mp q
  exact h a
@[simp] theorem Clk_vals (vs : Vals) : Clk (vs.map (kvD colD ovD)) := Clk_map (fun p => ⟨Cl_col _, Cl_ov _⟩) vs
@[simp] theorem Cl_vals (vs : Vals) : Cl (valsD vs) := by simp [valsD]
/-- the value of an item: zero for None -/
def valOf (vs : Vals) : Itm → Option Int
  | none => some 0
  | some c => (tget vs c).getD none
def holdsOne (vs : Vals) (c : Cnd) : Bool := match valOf vs c.1, valOf vs c.2.1 with
  | some a, some b => decide (a - b ≤ c.2.2)
  | _, _ => false
def holdsB (vs : Vals) (cs : List Cnd) : Bool := cs.all (holdsOne vs)
theorem ok_col (c : Col) : okKey (colD c) = true := key_col.ok c
theorem get_vals (vs : Vals) (c : Col) : (dget (vs.map (kvD colD ovD)) (colD c)).getD .non = ovD ((tget vs c).getD none) := by
  rw [dget_map key_col]
  cases tget vs c <;> rfl
/-! ### value_of, holds_one, holds -/
def LB.value_of : MSs := (.c (.ret (.ite (.isn false (.var 1)) (.int 0) (.mb .get (.var 0) (.c (.var 1) .n))))
  .n)
def LB.holds_one (i_value_of : Nat) : MSs := (.c (.asg (.t [.v 2, .v 3]) (.tup (.c (.call i_value_of (.c (.var 1) (.c (.ix (.var 0) (.int 0)) .n))) (.c (.call i_value_of (.c (.var 1) (.c (.ix (.var 0) (.int 1)) .n))) .n))))
  (.c (.ret (.and (.isn true (.var 2)) (.and (.isn true (.var 3)) (.cmp .le (.bin .sub (.var 2) (.var 3)) (.ix (.var 0) (.int 2))))))
  .n))
def LB.holds (i_holds_one : Nat) : MSs := (.c (.ret (.b1 .all (.lc [2] (.v 2) (.var 0) (.bl true) (.call i_holds_one (.c (.var 2) (.c (.var 1) .n))))))
  .n)
/-- a call that gives just this and changes nothing -/
def Gives (cf : CF) (i : Nat) (args : List MP.D) (h : MH) (v : MP.D) : Prop := WP NE (cf i args h) fun x h' => x = v ∧ h' = h
theorem value_of_sp {P : Prog} {i n : Nat} (hF : P.F i = some ⟨2, 2, LB.value_of⟩) (h : MH) (vs : Vals) (it : Itm) : Gives (callF P (n + 1)) i [valsD vs, itmD it] h (ovD (valOf vs it)) := by
  unfold Gives
  rw [call_run hF rfl]
  cases it with
  | none => simp [LB.value_of, itmD, trim_same, valOf, ovD]
  | some c =>
    simp [LB.value_of, itmD, valsD, ok_col, get_vals, trim_same, valOf]
theorem holds_one_sp {P : Prog} {i j n : Nat} (hF : P.F i = some ⟨2, 4, LB.holds_one j⟩) (V : ∀ h vs it, Gives (callF P n) j [valsD vs, itmD it] h (ovD (valOf vs it))) (h : MH) (vs : Vals) (c : Cnd) :
    Gives (callF P (n + 1)) i [cndD c, valsD vs] h (.bl (holdsOne vs c)) := by
  unfold Gives
  rw [call_run hF rfl]
  simp [LB.holds_one, cndD]
  refine (V _ vs c.1).mono ?_
  rintro _ _ ⟨rfl, rfl⟩
  simp [LB.holds_one, cndD]
  refine (V _ vs c.2.1).mono ?_
  rintro _ _ ⟨rfl, rfl⟩
  unfold holdsOne
  cases valOf vs c.1 <;> cases valOf vs c.2.1 <;> simp [ovD, trim_same]
theorem holds_sp {P : Prog} {i j n : Nat} (hF : P.F i = some ⟨2, 3, LB.holds j⟩) (V : ∀ h vs c, Gives (callF P n) j [cndD c, valsD vs] h (.bl (holdsOne vs c))) (h : MH) (vs : Vals) (cs : List Cnd) (lc : cs.length ≤ 1000000) :
    Gives (callF P (n + 1)) i [cndsD cs, valsD vs] h (.bl (holdsB vs cs)) := by
  unfold Gives
  rw [call_run hF rfl]
  simp [LB.holds, cndsD, lc, wipe]
  refine WP.compTM (fun c => .bl (holdsOne vs c)) (guarded_nil _) (fun c _ => ?_) ?_
  · simp
    refine (V _ vs c).mono ?_
    rintro _ _ ⟨rfl, rfl⟩
    simp
  · have e : ∀ cs : List Cnd, blsOf (cs.map fun c => MP.D.bl (holdsOne vs c)) = some (cs.map (holdsOne vs)) := by
      intro cs
      induction cs with
      | nil => rfl
      | cons c r ih => rw [List.map_cons, blsOf, ih]; rfl
    simp [e, trim_same, holdsB, List.all_map]
end MP

/-! MPE: equality and repr of typed data. -/
namespace MP
open PySem
structure EqEmb {K : Type} [DecidableEq K] (kD : K → D) : Prop where
  eq : ∀ a b, eqD (kD a) (kD b) = decide (a = b)
def eqDs (xs ys : List D) : Bool := PyData.eqvAll (toPDs xs) (toPDs ys)
theorem eqD_tup (xs ys : List D) : eqD (.tup xs) (.tup ys) = eqDs xs ys := by
  show PyData.eqv (.tuple _) (.tuple _) = _
  simp only [PyData.eqv]; rfl
theorem eqD_lst (xs ys : List D) : eqD (.lst xs) (.lst ys) = eqDs xs ys := by
  show PyData.eqv (.list _) (.list _) = _
  simp only [PyData.eqv]; rfl
@[simp] theorem eqDs_nil : eqDs [] [] = true := by show PyData.eqvAll [] [] = true; simp only [PyData.eqvAll]
@[simp] theorem eqDs_cons (x y : D) (xs ys : List D) : eqDs (x :: xs) (y :: ys) = (eqD x y && eqDs xs ys) := by
  show PyData.eqvAll (_ :: _) (_ :: _) = _
  simp only [PyData.eqvAll]; rfl
@[simp] theorem eqDs_nc (y : D) (ys : List D) : eqDs [] (y :: ys) = false := by show PyData.eqvAll [] (_ :: _) = _; simp only [PyData.eqvAll]
@[simp] theorem eqDs_cn (y : D) (ys : List D) : eqDs (y :: ys) [] = false := by show PyData.eqvAll (_ :: _) [] = _; simp only [PyData.eqvAll]
@[simp] theorem eqD_non : eqD .non .non = true := by show PyData.eqv .none .none = _; simp only [PyData.eqv]
@[simp] theorem eqD_int (i j : Int) : eqD (.int i) (.int j) = decide (i = j) := by
  show PyData.eqv (.int i) (.int j) = _
  simp only [PyData.eqv]
  rw [Bool.eq_iff_iff]; simp
@[simp] theorem eqD_bl (i j : Bool) : eqD (.bl i) (.bl j) = decide (i = j) := by
  show PyData.eqv (.bool i) (.bool j) = _
  simp only [PyData.eqv]
  rw [Bool.eq_iff_iff]; simp
@[simp] theorem eqD_str (s t : List Nat) : eqD (.str s) (.str t) = decide (s = t) := by
  show PyData.eqv (.str _) (.str _) = _
  simp only [PyData.eqv]
  rw [Bool.eq_iff_iff]
  simp only [beq_iff_eq, decide_eq_true_eq]
  exact ⟨str_inj, fun e => by rw [e]⟩
theorem eq_str : EqEmb D.str := ⟨eqD_str⟩
theorem eq_int : EqEmb D.int := ⟨eqD_int⟩
theorem eq_bl : EqEmb D.bl := ⟨eqD_bl⟩
section
variable {K : Type} [DecidableEq K] {kD : K → D}
theorem EqEmb.alls (E : EqEmb kD) : ∀ xs ys : List K, eqDs (xs.map kD) (ys.map kD) = decide (xs = ys)
  | [], [] => rfl
  | [], _ :: _ => by simp
  | _ :: _, [] => by simp
  | x :: xs, y :: ys => by
    rw [List.map_cons, List.map_cons, eqDs_cons, E.eq, E.alls xs ys, Bool.eq_iff_iff]
    simp
theorem EqEmb.tups (E : EqEmb kD) : EqEmb fun xs : List K => D.tup (xs.map kD) := ⟨fun a b => by rw [eqD_tup, E.alls]⟩
theorem EqEmb.lsts (E : EqEmb kD) : EqEmb fun xs : List K => D.lst (xs.map kD) := ⟨fun a b => by rw [eqD_lst, E.alls]⟩
theorem EqEmb.mem (E : EqEmb kD) (x : K) (xs : List K) : memD (kD x) (xs.map kD) = decide (x ∈ xs) := by
  unfold memD
  rw [List.any_map, Bool.eq_iff_iff, List.any_eq_true, decide_eq_true_eq]
  constructor
  · rintro ⟨y, hy, e⟩
    have e : eqD (kD y) (kD x) = true := e
    rw [E.eq] at e
    rw [← of_decide_eq_true e]; exact hy
  · intro h
    exact ⟨x, h, by show eqD (kD x) (kD x) = true; rw [E.eq]; exact decide_eq_true rfl⟩
end
theorem eq_col : EqEmb colD := ⟨fun a b => by
  obtain ⟨a1, a2⟩ := a
  obtain ⟨b1, b2⟩ := b
  show eqD (.tup [.str _, .str _]) (.tup [.str _, .str _]) = _
  rw [eqD_tup, Bool.eq_iff_iff]; simp⟩
/-! ### plain data -/
@[simp] theorem Pl_non : Pl .non := by simp [Pl, D.pl]
@[simp] theorem Pl_int (i : Int) : Pl (.int i) := by simp [Pl, D.pl]
@[simp] theorem Pl_bl (i : Bool) : Pl (.bl i) := by simp [Pl, D.pl]
@[simp] theorem PlE_bl (i j : Bool) : PlE (.bl i) (.bl j) := PlE.of (Pl_bl _) (Pl_bl _)
@[simp] theorem PlE_int (i j : Int) : PlE (.int i) (.int j) := PlE.of (Pl_int _) (Pl_int _)
theorem take_cut {α : Type} (xs : List α) (k : Int) (hk : 0 ≤ k) : cutL xs (cutN xs.length 0 none) (cutN xs.length xs.length (some k)) = xs.take k.toNat := by
  unfold cutL cutN
  simp only [List.drop_zero, Nat.sub_zero]
  rw [if_neg (by omega)]
  by_cases h : k.toNat ≤ xs.length
  · rw [Nat.min_eq_left h]
  · rw [Nat.min_eq_right (by omega), List.take_length, List.take_of_length_le (by omega)]
theorem drop_cut {α : Type} (xs : List α) (k : Int) (hk : 0 ≤ k) : cutL xs (cutN xs.length 0 (some k)) (cutN xs.length xs.length none) = xs.drop k.toNat := by
  unfold cutL cutN
  simp only
  rw [if_neg (by omega)]
  by_cases h : k.toNat ≤ xs.length
  · rw [Nat.min_eq_left h, List.take_of_length_le (by simp)]
  · rw [Nat.min_eq_right (by omega), List.drop_of_length_le (Nat.le_refl _), List.drop_of_length_le (by omega)]; simp
@[simp ↓ high, simp high] theorem o_slT_hi {h : MH} {Q : X → Prop} (xs : List D) (k : Int) (hk : 0 ≤ k) : WO (slX (.d (.tup xs)) none (some k) h) Q = Q (.d (.tup (xs.take k.toNat))) := by
  rw [← take_cut xs k hk]; rfl
@[simp ↓ high, simp high] theorem o_slT_lo {h : MH} {Q : X → Prop} (xs : List D) (k : Int) (hk : 0 ≤ k) : WO (slX (.d (.tup xs)) (some k) none h) Q = Q (.d (.tup (xs.drop k.toNat))) := by
  rw [← drop_cut xs k hk]; rfl
@[simp ↓ high, simp high] theorem o_slL_hi {h : MH} {Q : X → Prop} (xs : List D) (k : Int) (hk : 0 ≤ k) : WO (slX (.d (.lst xs)) none (some k) h) Q = Q (.l (xs.take k.toNat)) := by
  rw [← take_cut xs k hk]; rfl
@[simp ↓ high, simp high] theorem o_slL_lo {h : MH} {Q : X → Prop} (xs : List D) (k : Int) (hk : 0 ≤ k) : WO (slX (.d (.lst xs)) (some k) none h) Q = Q (.l (xs.drop k.toNat)) := by
  rw [← drop_cut xs k hk]; rfl
/-- plain, of a height -/
def PlN (n : Nat) (d : D) : Prop := d.pl n = true
theorem PlN_non (n : Nat) : PlN n .non := by simp [PlN, D.pl]
theorem PlN_int (n : Nat) (i : Int) : PlN n (.int i) := by simp [PlN, D.pl]
theorem PlN_bl (n : Nat) (i : Bool) : PlN n (.bl i) := by simp [PlN, D.pl]
theorem PlN_str (n : Nat) {s : List Nat} (h : ∀ c ∈ s, c < 1114112) : PlN n (.str s) := by
  simp only [PlN, D.pl, List.all_eq_true, decide_eq_true_eq]; exact h
theorem pls_iff {n : Nat} : ∀ {xs : List D}, pls xs n = true ↔ ∀ x ∈ xs, PlN n x
  | [] => by simp [pls]
  | x :: r => by simp [pls, pls_iff (xs := r), PlN]
theorem PlN_tup {n : Nat} {xs : List D} (h : ∀ x ∈ xs, PlN n x) : PlN (n + 1) (.tup xs) := by
  simp only [PlN, D.pl]; exact pls_iff.mpr h
theorem PlN_lst {n : Nat} {xs : List D} (h : ∀ x ∈ xs, PlN n x) : PlN (n + 1) (.lst xs) := by
  simp only [PlN, D.pl]; exact pls_iff.mpr h
mutual
theorem pl_le : ∀ {d : D} {m n : Nat}, m ≤ n → d.pl m = true → d.pl n = true
  | .non, _, _, _, _ => by simp [D.pl]
  | .bl _, _, _, _, _ => by simp [D.pl]
  | .int _, _, _, _, _ => by simp [D.pl]
  | .str _, _, _, _, h => by simpa [D.pl] using h
  | .tup xs, m, n, l, h => by
    cases m with
    | zero => simp [D.pl] at h
    | succ m =>
      obtain ⟨k, rfl⟩ : ∃ k, n = k + 1 := ⟨n - 1, by omega⟩
      simp only [D.pl] at h ⊢
      exact pls_le (by omega) h
  | .lst xs, m, n, l, h => by
    cases m with
    | zero => simp [D.pl] at h
    | succ m =>
      obtain ⟨k, rfl⟩ : ∃ k, n = k + 1 := ⟨n - 1, by omega⟩
      simp only [D.pl] at h ⊢
      exact pls_le (by omega) h
  | .rol _, _, _, _, h => by simp [D.pl] at h
  | .dct _, _, _, _, h => by simp [D.pl] at h
  | .ref _, _, _, _, h => by simp [D.pl] at h
theorem pls_le : ∀ {d : List D} {m n : Nat}, m ≤ n → pls d m = true → pls d n = true
  | [], _, _, _, _ => by simp [pls]
  | x :: r, _, _, l, h => by
    simp only [pls, Bool.and_eq_true] at h ⊢
    exact ⟨pl_le l h.1, pls_le l h.2⟩
end
theorem PlN.up {d : D} {m n : Nat} (h : PlN m d) (l : m ≤ n) : PlN n d := pl_le l h
theorem PlN.pl {d : D} {m : Nat} (h : PlN m d) (l : m ≤ 30) : Pl d := pl_le l h
/-! ### repr -/
structure Sz (n k : Nat) (v : D) : Prop where
  sh : v.sh = true
  able : PyData.showable (toPD v) = true
  leaf : PyData.leavesShort 80 (toPD v) = true
  bulk : PyData.bulk (toPD v) ≤ n
  dep : PyData.depth (toPD v) ≤ k
theorem Sz.up {n m j k : Nat} {v : D} (z : Sz n j v) (h : n ≤ m) (l : j ≤ k) : Sz m k v := ⟨z.sh, z.able, z.leaf, Nat.le_trans z.bulk h, Nat.le_trans z.dep l⟩
theorem Sz.shown {n k : Nat} {v : D} (z : Sz n k v) (h : n ≤ 12000) (l : k ≤ 60) : Shown v := by
  refine ⟨z.sh, z.able, ?_, Nat.le_trans z.dep l⟩
  have := PyData.shown_le_bulk 80 (by omega) (toPD v) z.leaf
  have b := z.bulk
  have e : (reprD v).length = (PyData.shown (toPD v)).length := by simp [reprD, Str.length]
  rw [e]
  show _ ≤ 1000000
  omega
theorem Sz.non : Sz 0 0 .non := ⟨rfl, by simp [toPD, PyData.showable], by simp [toPD, PyData.leavesShort], by simp [toPD, PyData.bulk], by simp [toPD, PyData.depth]⟩
theorem Sz.bl (b : Bool) : Sz 0 0 (.bl b) := ⟨rfl, by simp [toPD, PyData.showable], by simp [toPD, PyData.leavesShort], by simp [toPD, PyData.bulk], by simp [toPD, PyData.depth]⟩
theorem Sz.int {i : Int} (h : i.natAbs < 2 ^ 79) : Sz 0 0 (.int i) := by
  have l : i.natAbs.log2 < 79 := by
    by_cases z : i.natAbs = 0
    · rw [z]; decide
    · exact (Nat.log2_lt z).mpr h
  refine ⟨rfl, ?_, ?_, by simp [toPD, PyData.bulk], by simp [toPD, PyData.depth]⟩
  · show decide (i.natAbs.log2 < 1920) = true
    exact decide_eq_true (by omega)
  · show decide ((PyData.shown (.int i)).length ≤ 80) = true
    exact decide_eq_true (by show (Str.ofString (toString i)).length ≤ 80; rw [ofString_length]; exact int_text_length_le (by decide) l)
theorem Sz.str {s : List Nat} (h : ∀ c ∈ s, c < 4294967296) : Sz s.length 0 (.str s) := by
  refine ⟨rfl, by simp [toPD, PyData.showable], ?_, by simp [toPD, PyData.bulk], by simp [toPD, PyData.depth]⟩
  simp only [toPD, PyData.leavesShort, List.all_eq_true, decide_eq_true_eq]
  exact h
theorem Szs {n k : Nat} : ∀ {xs : List D}, (∀ x ∈ xs, Sz n k x) → shs xs = true ∧ PyData.showableAll (toPDs xs) = true ∧ PyData.leavesShortAll 80 (toPDs xs) = true ∧ PyData.bulkAll (toPDs xs) ≤ (n + 1) * xs.length ∧ PyData.depthAll (toPDs xs) ≤ k
  | [], _ => by simp [shs, toPDs, PyData.showableAll, PyData.leavesShortAll, PyData.bulkAll, PyData.depthAll]
  | x :: r, h => by
    obtain ⟨h1, h2, h3, h4, h5⟩ := h x List.mem_cons_self
    obtain ⟨a1, a2, a3, a4, a5⟩ := Szs (xs := r) fun y q => h y (List.mem_cons_of_mem _ q)
    simp only [shs, toPDs, PyData.showableAll, PyData.leavesShortAll, PyData.bulkAll, PyData.depthAll, h1, h2, h3, a1, a2, a3, Bool.and_self, List.length_cons, Nat.mul_add]
    refine ⟨trivial, trivial, trivial, ?_, ?_⟩ <;> omega
theorem Sz.tup {n k m : Nat} {xs : List D} (h : ∀ x ∈ xs, Sz n k x) (l : xs.length ≤ m) : Sz ((n + 1) * m) (k + 1) (.tup xs) := by
  obtain ⟨a1, a2, a3, a4, a5⟩ := Szs h
  have := Nat.mul_le_mul_left (n + 1) l
  exact ⟨a1, by simpa [toPD, PyData.showable] using a2, by simpa [toPD, PyData.leavesShort] using a3, by simp only [toPD, PyData.bulk]; omega, by simp only [toPD, PyData.depth]; omega⟩
theorem Sz.lst {n k m : Nat} {xs : List D} (h : ∀ x ∈ xs, Sz n k x) (l : xs.length ≤ m) : Sz ((n + 1) * m) (k + 1) (.lst xs) := by
  obtain ⟨a1, a2, a3, a4, a5⟩ := Szs h
  have := Nat.mul_le_mul_left (n + 1) l
  exact ⟨a1, by simpa [toPD, PyData.showable] using a2, by simpa [toPD, PyData.leavesShort] using a3, by simp only [toPD, PyData.bulk]; omega, by simp only [toPD, PyData.depth]; omega⟩
theorem Szk {n k : Nat} : ∀ {xs : List (D × D)}, (∀ p ∈ xs, Sz n k p.1 ∧ Sz n k p.2) → shk xs = true ∧ PyData.showableKv (toPDk xs) = true ∧ PyData.leavesShortKv 80 (toPDk xs) = true ∧ PyData.bulkKv (toPDk xs) ≤ (n + n + 2) * xs.length ∧ PyData.depthKv (toPDk xs) ≤ k
  | [], _ => by simp [shk, toPDk, PyData.showableKv, PyData.leavesShortKv, PyData.bulkKv, PyData.depthKv]
  | (x, y) :: r, h => by
    obtain ⟨⟨h1, h2, h3, h4, h5⟩, ⟨g1, g2, g3, g4, g5⟩⟩ := h (x, y) List.mem_cons_self
    obtain ⟨a1, a2, a3, a4, a5⟩ := Szk (xs := r) fun y q => h y (List.mem_cons_of_mem _ q)
    simp only [shk, toPDk, PyData.showableKv, PyData.leavesShortKv, PyData.bulkKv, PyData.depthKv, h1, h2, h3, g1, g2, g3, a1, a2, a3, Bool.and_self, List.length_cons, Nat.mul_add]
    simp only at h4 h5 g4 g5
    refine ⟨trivial, trivial, trivial, ?_, ?_⟩ <;> omega
theorem Sz.dct {n k m : Nat} {xs : List (D × D)} (h : ∀ p ∈ xs, Sz n k p.1 ∧ Sz n k p.2) (l : xs.length ≤ m) : Sz ((n + n + 2) * m) (k + 1) (.dct xs) := by
  obtain ⟨a1, a2, a3, a4, a5⟩ := Szk h
  have := Nat.mul_le_mul_left (n + n + 2) l
  exact ⟨a1, by simpa [toPD, PyData.showable] using a2, by simpa [toPD, PyData.leavesShort] using a3, by simp only [toPD, PyData.bulk]; omega, by simp only [toPD, PyData.depth]; omega⟩
end MP

/-! MPG: laws' own conjunctions: whether they hold, values. -/
namespace MP
theorem every_small : ∀ c ∈ EVERY, c.1.length ≤ 8 ∧ c.2.length ≤ 8 ∧ (∀ x ∈ c.1, x < 128) ∧ ∀ x ∈ c.2, x < 128 := by decide
theorem Sz_cols {c : Col} (h : c ∈ EVERY) : Sz 18 1 (colD c) := by
  obtain ⟨h1, h2, h3, h4⟩ := every_small c h
  refine Sz.tup (n := 8) (k := 0) (m := 2) (fun x q => ?_) (by simp)
  simp at q
  rcases q with rfl | rfl
  · exact (Sz.str fun x q => Nat.lt_trans (h3 x q) (by decide)).up h1 (Nat.le_refl _)
  · exact (Sz.str fun x q => Nat.lt_trans (h4 x q) (by decide)).up h2 (Nat.le_refl _)
theorem Sz_itms {c : Itm} (h : ∀ x, c = some x → x ∈ EVERY) : Sz 18 1 (itmD c) := by
  cases c with
  | none => exact Sz.non.up (by omega) (by omega)
  | some c => exact Sz_cols (h c rfl)
theorem Sz_cnds {cs : List Col} {m : Int} {c : Cnd} (ho : ∀ c ∈ cs, c ∈ EVERY) (hm : m ≤ 1000000000) (h : CndOf cs m c) : Sz 57 2 (cndD c) := by
  obtain ⟨h1, h2, _, h4, h5⟩ := h
  refine Sz.tup (n := 18) (k := 1) (m := 3) (fun x q => ?_) (by simp)
  simp at q
  rcases q with rfl | rfl | rfl
  · exact Sz_itms fun x e => ho x (h1 x e)
  · exact Sz_itms fun x e => ho x (h2 x e)
  · exact (Sz.int (by omega)).up (by omega) (by omega)
/-! ### _law_true_of -/
def LB.true_of : MSs := (.c (.for_ (.t [(.v 2), (.v 3), (.v 4)]) (.var 0) (.c (.asg (.v 5) (.ite (.isn false (.var 2)) (.int 0) (.mb .get (.var 1) (.c (.var 2) .n))))
  (.c (.asg (.v 6) (.ite (.isn false (.var 3)) (.int 0) (.mb .get (.var 1) (.c (.var 3) .n))))
  (.c (.ite (.or (.isn false (.var 5)) (.or (.isn false (.var 6)) (.cmp .gt (.bin .sub (.var 5) (.var 6)) (.var 4)))) (.c (.ret (.bl false))
  .n) .n)
  .n))))
  (.c (.ret (.bl true))
  .n))
theorem true_of_sp {P : Prog} {i n : Nat} (hF : P.F i = some ⟨2, 7, LB.true_of⟩) (h : MH) (vs : Vals) (cs : List Cnd) : Gives (callF P (n + 1)) i [cndsD cs, valsD vs] h (.bl (holdsB vs cs)) := by
  unfold Gives
  rw [call_run hF rfl]
  simp [LB.true_of, cndsD]
  refine WP.forT (fun d r e h' => h' = h ∧ d.all (holdsOne vs) = true ∧ ∃ u2 u3 u4 u5 u6, e = [some (.tup (cs.map cndD)), some (valsD vs), u2, u3, u4, u5, u6]) ?_ ?_ ?_
  · rintro d c r e h' q ⟨rfl, al, u2, u3, u4, u5, u6, rfl⟩
    have no : holdsOne vs c = false → holdsB vs cs = false := by
      intro e
      rw [← q]
      simp [holdsB, e]
    have yes : holdsOne vs c = true → (d ++ [c]).all (holdsOne vs) = true := by
      intro e
      rw [List.all_append, al]
      simp [e]
    obtain ⟨l, r', b⟩ := c
    have hl : ∀ (it : Itm) (e : Env) (j : Nat) (Q : X → MH → Prop), e[j]? = some (some (itmD it)) → e[1]? = some (some (valsD vs)) → (WP NE (evalX P (callF P n) (.ite (.isn false (.var j)) (.int 0) (.mb .get (.var 1) (.c (.var j) .n))) e h') Q) = Q (.d (ovD (valOf vs it))) h' := by
      intro it e j Q e1 e2
      cases it with
      | none => simp [e1, itmD, valOf, ovD]
      | some c => simp [e1, e2, itmD, valOf, valsD, ok_col, get_vals]
    have ho : holdsOne vs (l, r', b) = match valOf vs l, valOf vs r' with
      | some x, some y => decide (x - y ≤ b)
      | _, _ => false := rfl
    simp only [s_forB, cndD, s_c, zs_asg, a_t, as_c, as_n, a_v]
    simp [- x_ite, hl l, hl r', ovD]
    rw [ho] at no yes
    cases h1 : valOf vs l with
    | none =>
      rw [h1] at no
      simp [ovD, trim_same, no]
    | some x =>
      cases h2 : valOf vs r' with
      | none =>
        rw [h1, h2] at no
        simp [ovD, trim_same, no]
      | some y =>
        rw [h1, h2] at no yes
        by_cases g : x - y ≤ b
        · have g' : ¬ b < x - y := by omega
          have := yes (by simp [g])
          simp [ovD, g', this] at this ⊢
        · have g' : b < x - y := by omega
          simp [ovD, g', trim_same, no, g]
  · rintro e h' ⟨rfl, al, u2, u3, u4, u5, u6, rfl⟩
    simp [trim_same, holdsB, al]
  · exact ⟨rfl, rfl, _, _, _, _, _, rfl⟩
/-! ### _law_some_values -/
def LB.some_values (i_draw i_choice : Nat) : MSs := (.c (.asg (.v 2) (.b1 .mut (.dct (.c (.tup (.c (.str [111, 116, 104, 101, 114]) (.c (.str [120]) .n))) (.c (.int 5) .n)))))
  (.c (.for_ (.v 3) (.var 1) (.c (.asg (.v 4) (.bin .sub (.call i_draw (.c (.var 0) (.c (.bin .add (.bin .mul (.int 2) (.bin .pow (.int 10) (.int 9))) (.int 1)) .n))) (.bin .pow (.int 10) (.int 9))))
  (.c (.asg (.v 5) (.call i_choice (.c (.var 0) (.c (.lst (.c (.int 0) (.c (.int 1) (.c (.int 2) (.c (.b1 .neg (.int 1)) (.c (.int 0) (.c (.int 1) (.c .non (.c (.var 4) .n))))))))) .n))))
  (.c (.ite (.cmp .gt (.call i_draw (.c (.var 0) (.c (.int 8) .n))) (.int 0)) (.c (.iset (.var 2) (.var 3) (.var 5))
  .n) .n)
  .n))))
  (.c (.ret (.b1 .frz (.var 2)))
  .n)))
theorem ok_tup2 (a b : List Nat) : okKey (.tup [.str a, .str b]) = true := key_col.ok (a, b)
/-- values up to 10 ** 9 for columns of these -/
def ValsOk (cs : List Col) (vs : Vals) : Prop := ∀ p ∈ vs, (p.1 ∈ cs ∨ p.1 = ([111, 116, 104, 101, 114], [120])) ∧ ∀ i, p.2 = some i → i.natAbs ≤ 1000000000
def SomeVals (b : Bs) (cs : List Col) (v : MP.D) (h' : MH) : Prop := ∃ (t : Sr) (vs : Vals), v = valsD vs ∧ h' = hp b t [] ∧ vs.length ≤ cs.length + 1 ∧ ValsOk cs vs
def SVI (b : Bs) (cs : List Col) (k : Nat) (e : Env) (h : MH) : Prop := ∃ (t : Sr) (vs : Vals) (u3 u4 u5 : Option MP.D), e = [some (.ref b.r), some (.lst (cs.map colD)), some (.ref b.n), u3, u4, u5] ∧ h = hp b t [.dct (vs.map (kvD colD ovD))] ∧ vs.length ≤ k + 1 ∧ ValsOk cs vs
def SomeValsSp (cf : CF) (i : Nat) : Prop := ∀ (b : Bs) (s : Sr) (cs : List Col), cs.length ≤ 1000 → WP NE (cf i [.ref b.r, .lst (cs.map colD)] (hp b s [])) (SomeVals b cs)
theorem some_values_sp {P : Prog} {i id ic n : Nat} (hF : P.F i = some ⟨2, 6, LB.some_values id ic⟩) (D : DrawSp (callF P n) id) (C : ChoiceSp (callF P n) ic) : SomeValsSp (callF P (n + 1)) i := by
  intro b s cs cl
  rw [call_run hF rfl]
  have e0 : dputs [] [(MP.D.tup [.str [111, 116, 104, 101, 114], .str [120]], .int 5)] = ([(([111, 116, 104, 101, 114], [120]), some 5)] : Vals).map (kvD colD ovD) := rfl
  simp [LB.some_values, pairUp, okKeys, ok_tup2, e0]
  refine WP.forT (fun d r e h => SVI b cs d.length e h) ?_ ?_ ?_
  · rintro d c r e h q ⟨t, vs, u3, u4, u5, rfl, rfl, vl, ok⟩
    have dl : d.length ≤ 1000 := by
      have := congrArg List.length q
      simp at this
      omega
    have cm : c ∈ cs := by rw [← q]; simp
    simp [small64]
    refine ⟨by unfold MulOk; omega, (D b t _ 2000000001 (by omega) (by omega)).mono ?_⟩
    rintro _ _ ⟨j, t1, j0, j1, rfl, rfl⟩
    simp [small64]
    refine (C b t1 _ _ (by simp) (by simp)).mono ?_
    rintro x _ ⟨t2, xm, rfl⟩
    obtain ⟨o, rfl, ob⟩ : ∃ o : Option Int, x = ovD o ∧ ∀ i, o = some i → i.natAbs ≤ 1000000000 := by
      simp at xm
      rcases xm with h | h | h | h | h | h | h | h <;> subst h
      · exact ⟨some 0, rfl, fun i e => by cases e; decide⟩
      · exact ⟨some 1, rfl, fun i e => by cases e; decide⟩
      · exact ⟨some 2, rfl, fun i e => by cases e; decide⟩
      · exact ⟨some (-1), rfl, fun i e => by cases e; decide⟩
      · exact ⟨some 0, rfl, fun i e => by cases e; decide⟩
      · exact ⟨some 1, rfl, fun i e => by cases e; decide⟩
      · exact ⟨none, rfl, fun i e => nomatch e⟩
      · exact ⟨some (j - 1000000000), rfl, fun i e => by cases e; omega⟩
    simp
    refine (D b t2 _ 8 (by omega) (by omega)).mono ?_
    rintro _ _ ⟨k, t3, k0, k1, rfl, rfl⟩
    simp
    refine .ofD (fun g => ?_) fun g => ?_
    · have vl' : vs.length < 1000000 := by omega
      simp [ok_col, vl', dput_map key_col]
      refine ⟨t3, tput vs c o, _, _, _, rfl, rfl, Nat.le_trans (tput_len _ _ _) (by omega), fun p hp => ?_⟩
      rcases tput_mem hp with z | rfl
      · exact ok p z
      · exact ⟨.inl cm, ob⟩
    · simp
      exact ⟨t3, vs, _, _, _, rfl, rfl, by omega, ok⟩
  · rintro e h ⟨t, vs, u3, u4, u5, rfl, rfl, vl, ok⟩
    simp
    exact ⟨t, vs, rfl, rfl, vl, ok⟩
  · refine ⟨s, [(([111, 116, 104, 101, 114], [120]), some 5)], none, none, none, rfl, rfl, by simp, fun p q => ?_⟩
    rcases List.mem_singleton.mp q with rfl
    exact ⟨.inr rfl, fun i e => by cases e; decide⟩
end MP

/-! MPO: things in order: sorted by key, sets, dict and two-clause comprehensions. -/
namespace MP
open PySem PySem.W
section
variable {P : Prog} {cf : CF} {E : EQ} {e : Env} {h : MH} {Q : X → MH → Prop}
@[simp ↓] theorem f_src {h : MH} {L : List D → Prop} (x : X) : WO (srcX x h) L = WO (norm x h) fun a => WO (match a with
    | .lst xs => some xs
    | .tup xs => some xs
    | .dct kvs => if kvs.length ≤ 1000000 then some (kvs.map (·.1)) else none
    | _ => none) L := by
  unfold srcX
  cases e : norm x h with
  | none => rfl
  | some a => cases a <;> rfl
@[simp ↓] theorem x_srk (f : Nat) (a : ME) : WP E (evalX P cf (.srk f a) e h) Q = WP E (evalX P cf a e h) fun x h => WO (srcX x h) fun xs => WP E (keysBy cf f xs h) fun ks h => WO (sortBy xs ks) fun ys => Q (.l ys) h := by
  rw [evalX, WP_bind]
  refine WP_eq fun x h1 => ?_
  cases srcX x h1 with
  | none => rfl
  | some xs =>
    show WP E (Res.bind _ _) Q = WP E _ _
    rw [WP_bind]
    refine WP_eq fun ks h2 => ?_
    rw [WP_ofO, WO_map]
noncomputable def dcB (P : Prog) (cf : CF) (e : Env) (t : Tg) (c k v : ME) (d : D) (h : MH) : Res (Option (D × D)) := match asgT t d e with
  | some e1 => (evalX P cf c e1 h).bind fun y h => match truthy y h with
    | some true => (vOf (evalX P cf k e1 h)).bind fun a h => (vOf (evalX P cf v e1 h)).bind fun b h => .ok (some (a, b)) h
    | some false => .ok none h
    | none => .bad
  | none => .bad
@[simp ↓] theorem x_dcB {R : Option (D × D) → MH → Prop} (t : Tg) (c k v : ME) (d : D) : WP E (dcB P cf e t c k v d h) R = WO (asgT t d e) fun e1 => WP E (evalX P cf c e1 h) fun y h => WO (truthy y h) fun b => WC b (WP E (evalX P cf k e1 h) fun x h => WO x.toV fun a => WP E (evalX P cf v e1 h) fun x h => WO x.toV fun b => R (some (a, b)) h) (R none h) := by
  unfold dcB
  cases asgT t d e with
  | none => rfl
  | some e1 =>
    show WP E (Res.bind _ _) R = WP E _ _
    rw [WP_bind]
    refine WP_eq fun y h1 => ?_
    cases truthy y h1 with
    | none => rfl
    | some b =>
      cases b with
      | false => rfl
      | true =>
        show WP E (Res.bind (vOf _) _) R = WP E _ _
        unfold vOf
        rw [WP_bind, WP_bind]
        refine WP_eq fun x h2 => ?_
        rw [WP_ofO]
        refine WO_eq fun a => ?_
        rw [WP_bind, WP_bind]
        refine WP_eq fun x h2 => ?_
        rw [WP_ofO]
        rfl
@[simp ↓] theorem x_dc (own : List Nat) (t : Tg) (it c k v : ME) : WP E (evalX P cf (.dc own t it c k v) e h) Q = WP E (evalX P cf it e h) fun x h => WO (items x h) fun p => WP E (loopD p.2 (dcB P cf (wipe e own) t c k v) p.1 [] h) fun ys h => Q (.k ys) h := by
  rw [evalX, WP_bind]
  refine WP_eq fun x h1 => ?_
  cases items x h1 with
  | none => rfl
  | some p =>
    show WP E (Res.bind _ _) Q = WP E _ _
    rw [WP_bind]
    rfl
noncomputable def lc2B (P : Prog) (cf : CF) (e : Env) (t : Tg) (c : ME) (own2 : List Nat) (t2 : Tg) (it2 c2 a : ME) (d : D) (h : MH) : Res (List D) := match asgT t d e with
  | some e1 => (evalX P cf c e1 h).bind fun y h => match truthy y h with
    | some true => (evalX P cf it2 e1 h).bind fun x2 h => match items x2 h with
      | some (xs2, g2) => if xs2.length ≤ 1000 then loopL g2 (lcB P cf (wipe e1 own2) t2 c2 a) xs2 h else .bad
      | none => .bad
    | some false => .ok [] h
    | none => .bad
  | none => .bad
@[simp ↓] theorem x_lc2B {R : List D → MH → Prop} (t : Tg) (c : ME) (own2 : List Nat) (t2 : Tg) (it2 c2 a : ME) (d : D) : WP E (lc2B P cf e t c own2 t2 it2 c2 a d h) R = WO (asgT t d e) fun e1 => WP E (evalX P cf c e1 h) fun y h => WO (truthy y h) fun b => WC b (WP E (evalX P cf it2 e1 h) fun x h => WO (items x h) fun p => p.1.length ≤ 1000 ∧ WP E (loopL p.2 (lcB P cf (wipe e1 own2) t2 c2 a) p.1 h) R) (R [] h) := by
  unfold lc2B
  cases asgT t d e with
  | none => rfl
  | some e1 =>
    show WP E (Res.bind _ _) R = WP E _ _
    rw [WP_bind]
    refine WP_eq fun y h1 => ?_
    cases truthy y h1 with
    | none => rfl
    | some b =>
      cases b with
      | false => rfl
      | true =>
        show WP E (Res.bind _ _) R = WP E _ _
        rw [WP_bind]
        refine WP_eq fun x h2 => ?_
        cases items x h2 with
        | none => rfl
        | some p =>
          show WP E (if p.1.length ≤ 1000 then _ else .bad) R = _
          rw [WP_ifb]
          rfl
@[simp ↓] theorem x_lc2 (own : List Nat) (t : Tg) (it c : ME) (own2 : List Nat) (t2 : Tg) (it2 c2 a : ME) : WP E (evalX P cf (.lc2 own t it c own2 t2 it2 c2 a) e h) Q = WP E (evalX P cf it e h) fun x h => WO (items x h) fun p => p.1.length ≤ 1000 ∧ WP E (loopLL p.2 (lc2B P cf (wipe e own) t c own2 t2 it2 c2 a) p.1 h) fun ys h => Q (.l ys) h := by
  rw [evalX, WP_bind]
  refine WP_eq fun x h1 => ?_
  cases items x h1 with
  | none => rfl
  | some p =>
    show WP E (if p.1.length ≤ 1000 then _ else .bad) Q = (p.1.length ≤ 1000 ∧ WP E _ _)
    rw [WP_ifb, WP_bind]
    rfl
end
section
variable {E : EQ} {h : MH}
/-- the keys of typed things -/
theorem WP.keysT {α : Type} {cf : CF} {f : Nat} {k key : α → D} {as : List α} {R : List D → MH → Prop} (st : ∀ a ∈ as, WP E (cf f [k a] h) fun x h' => x = key a ∧ h' = h) (r : R (as.map key) h) : WP E (keysBy cf f (as.map k) h) R := by
  induction as generalizing R with
  | nil => exact r
  | cons a as ih =>
    rw [List.map_cons]
    unfold keysBy
    rw [WP_bind]
    refine (st a List.mem_cons_self).mono fun y h1 z => ?_
    obtain ⟨rfl, rfl⟩ := z
    rw [WP_bind]
    exact ih (fun b q => st b (List.mem_cons_of_mem _ q)) r
theorem dput_len (kvs : List (D × D)) (k v : D) : (dput kvs k v).length ≤ kvs.length + 1 := by
  unfold dput
  split
  · rw [List.length_map]; omega
  · rw [List.length_append]; exact Nat.le_refl _
/-- a dict comprehension over typed things -/
theorem WP.dcT {α : Type} {g : List (Nat × MO)} {f : D → MH → Res (Option (D × D))} {k : α → D} {as : List α} {R : List (D × D) → MH → Prop} (F : α → D × D) (gd : guarded g h) (l : as.length ≤ 1000000)
    (st : ∀ a ∈ as, WP E (f (k a) h) fun y h1 => y = some (F a) ∧ h1 = h) (ok : ∀ a ∈ as, okKey (F a).1 = true) (en : R (dputs [] (as.map F)) h) : WP E (MP.loopD g f (as.map k) [] h) R := by
  have main : ∀ (as : List α) (acc : List (D × D)), as.length + acc.length ≤ 1000000 → (∀ a ∈ as, WP E (f (k a) h) fun y h1 => y = some (F a) ∧ h1 = h) → (∀ a ∈ as, okKey (F a).1 = true) → R (dputs acc (as.map F)) h → WP E (MP.loopD g f (as.map k) acc h) R := by
    intro as
    induction as with
    | nil =>
      intro acc _ _ _ r
      unfold MP.loopD
      rw [List.map_nil]
      simp only
      rw [if_pos gd]
      exact r
    | cons a as ih =>
      intro acc l st ok r
      rw [List.length_cons] at l
      rw [List.map_cons]
      unfold MP.loopD
      rw [if_pos gd, WP_bind]
      refine (st a List.mem_cons_self).mono fun y h1 z => ?_
      obtain ⟨rfl, rfl⟩ := z
      show WP E (if okKey (F a).1 = true ∧ acc.length < MAXL then _ else _) R
      rw [if_pos ⟨ok a List.mem_cons_self, by show acc.length < 1000000; omega⟩]
      have := dput_len acc (F a).1 (F a).2
      exact ih _ (by omega) (fun b q => st b (List.mem_cons_of_mem _ q)) (fun b q => ok b (List.mem_cons_of_mem _ q)) r
  exact main as [] (by simpa using l) st ok en
/-- two clauses, over typed things -/
theorem WP.comp2T {α : Type} {g : List (Nat × MO)} {f : D → MH → Res (List D)} {k : α → D} {R : List D → MH → Prop} (F : α → List D) (gd : guarded g h) : ∀ {as : List α},
    (∀ a ∈ as, WP E (f (k a) h) fun y h1 => y = F a ∧ h1 = h) → R (as.flatMap F) h → WP E (MP.loopLL g f (as.map k) h) R := by
  intro as
  induction as generalizing R with
  | nil =>
    intro _ r
    unfold MP.loopLL
    rw [List.map_nil]
    simp only
    rw [if_pos gd]
    exact r
  | cons a as ih =>
    intro st r
    rw [List.map_cons]
    unfold MP.loopLL
    rw [if_pos gd, WP_bind]
    refine (st a List.mem_cons_self).mono fun y h1 z => ?_
    obtain ⟨rfl, rfl⟩ := z
    rw [WP_bind]
    exact ih (fun b q => st b (List.mem_cons_of_mem _ q)) (by show R _ _; rw [List.flatMap_cons] at r; exact r)
end
/-! ### typed: without duplicates, in order -/
section
variable {K : Type} [DecidableEq K] {kD key : K → D}
def ded (xs : List K) : List K := xs.foldl (fun acc x => if x ∈ acc then acc else acc ++ [x]) []
theorem ded_snoc (xs : List K) (x : K) : ded (xs ++ [x]) = if x ∈ ded xs then ded xs else ded xs ++ [x] := by
  unfold ded
  rw [List.foldl_append]; rfl
theorem rev_ind {α : Type} {p : List α → Prop} (h0 : p []) (hs : ∀ xs x, p xs → p (xs ++ [x])) (xs : List α) : p xs := by
  have : ∀ ys : List α, p ys.reverse := by
    intro ys
    induction ys with
    | nil => exact h0
    | cons y ys ih => rw [List.reverse_cons]; exact hs _ _ ih
  have := this xs.reverse
  rwa [List.reverse_reverse] at this
theorem ded_mem (xs : List K) (y : K) : y ∈ ded xs ↔ y ∈ xs := by
  refine rev_ind (p := fun xs => y ∈ ded xs ↔ y ∈ xs) Iff.rfl (fun xs x ih => ?_) xs
  rw [ded_snoc]
  split
  · rename_i h
    rw [ih, List.mem_append, List.mem_singleton]
    refine ⟨.inl, fun z => z.elim id fun e => ?_⟩
    rw [e]
    rw [e] at ih
    exact ih.mp h
  · rw [List.mem_append, List.mem_append, ih]
theorem ded_nodup (xs : List K) : (ded xs).Nodup := by
  refine rev_ind (p := fun xs => (ded xs).Nodup) List.nodup_nil (fun xs x ih => ?_) xs
  rw [ded_snoc]
  split
  · exact ih
  · rename_i h
    exact List.nodup_append.mpr ⟨ih, by simp, fun a ha b hb e => by rw [List.mem_singleton.mp hb] at e; exact h (e ▸ ha)⟩
theorem ded_perm {xs ys : List K} (h : ∀ x, x ∈ xs ↔ x ∈ ys) : (ded xs).Perm (ded ys) := by
  rw [List.perm_ext_iff_of_nodup (ded_nodup _) (ded_nodup _)]
  intro a
  rw [ded_mem, ded_mem]; exact h a
theorem dedup_map (E : KeyEmb kD) (xs : List K) : dedup (xs.map kD) = (ded xs).map kD := by
  refine rev_ind (p := fun xs => dedup (xs.map kD) = (ded xs).map kD) rfl (fun xs x ih => ?_) xs
  rw [List.map_append, List.map_cons, List.map_nil, dedup_snoc, ih, ded_snoc]
  have e : (((ded xs).map kD).any fun p => keyEq p (kD x)) = decide (x ∈ ded xs) := by
    rw [List.any_map, Bool.eq_iff_iff, List.any_eq_true, decide_eq_true_eq]
    constructor
    · rintro ⟨y, hy, z⟩
      have z : keyEq (kD y) (kD x) = true := z
      rw [E.inj] at z
      rw [← of_decide_eq_true z]; exact hy
    · intro h
      exact ⟨x, h, by show keyEq (kD x) (kD x) = true; rw [E.inj]; exact decide_eq_true rfl⟩
  rw [e]
  by_cases h : x ∈ ded xs
  · rw [if_pos (decide_eq_true h), if_pos h]
  · rw [if_neg (by simpa using h), if_neg h, List.map_append]; rfl
theorem dputs_keys : ∀ (l l' acc acc' : List (D × D)), acc.map (·.1) = acc'.map (·.1) → l.map (·.1) = l'.map (·.1) → (dputs acc l).map (·.1) = (dputs acc' l').map (·.1)
  | [], [], _, _, h, _ => h
  | [], _ :: _, _, _, _, h => by simp at h
  | _ :: _, [], _, _, _, h => by simp at h
  | (k, v) :: l, (k', v') :: l', acc, acc', h, h2 => by
    simp only [List.map_cons, List.cons.injEq] at h2
    obtain ⟨rfl, h2⟩ := h2
    refine dputs_keys l l' _ _ ?_ h2
    rw [dput_fst, dput_fst, h]
theorem keys_ded (E : KeyEmb kD) (xs : List K) (v : D) : (dputs [] (xs.map fun x => (kD x, v))).map (·.1) = (ded xs).map kD := by
  rw [← dedup_map E]
  unfold dedup
  refine dputs_keys _ _ _ _ rfl ?_
  rw [List.map_map, List.map_map, List.map_map]; rfl
theorem leD_total (k : K → D) : TotalLe fun a b => leD (k a) (k b) := by
  have h := sortLe_total (PyProof.Rows.listOrd PyProof.Rows.itemOrd) false fun d : D => keyToks (toPD d)
  exact ⟨fun a b c => h.trans (k a) (k b) (k c), fun a b => h.total (k a) (k b)⟩
/-- data that can be put in order, also by a key -/
structure OrdE (kD key : K → D) : Prop where
  emb : KeyEmb kD
  al : ∀ a b, alike (toPD (kD a)) (toPD (kD b)) = true
  so : ∀ xs : List K, Sortable (xs.map fun x => toPD (kD x))
  al' : ∀ a b, alike (toPD (key a)) (toPD (key b)) = true
  so' : ∀ xs : List K, Sortable (xs.map fun x => toPD (key x))
  same : ∀ a b, leD (key a) (key b) = leD (kD a) (kD b)
  anti : ∀ a b, leD (kD a) (kD b) = true → leD (kD b) (kD a) = true → a = b
/-- in order, without duplicates -/
noncomputable def srt (kD : K → D) (xs : List K) : List K := (ded xs).mergeSort fun a b => leD (kD a) (kD b)
theorem srt_mem (xs : List K) (y : K) : y ∈ srt kD xs ↔ y ∈ xs := by
  unfold srt
  rw [List.mem_mergeSort, ded_mem]
variable (O : OrdE kD key)
theorem OrdE.perm {xs ys : List K} (p : xs.Perm ys) (O : OrdE kD key) : (xs.mergeSort fun a b => leD (kD a) (kD b)) = ys.mergeSort fun a b => leD (kD a) (kD b) := by
  have T := leD_total kD
  refine List.Perm.eq_of_pairwise (le := fun a b => leD (kD a) (kD b) = true) (fun a b _ _ h1 h2 => O.anti a b h1 h2) (sort_pairwise T xs) (sort_pairwise T ys) ?_
  exact ((List.mergeSort_perm xs _).trans p).trans (List.mergeSort_perm ys _).symm
theorem OrdE.srt_congr {xs ys : List K} (O : OrdE kD key) (h : ∀ x, x ∈ xs ↔ x ∈ ys) : srt kD xs = srt kD ys := O.perm (ded_perm h)
theorem toPDs_kD (xs : List K) : toPDs (xs.map kD) = xs.map fun x => toPD (kD x) := by rw [toPDs_map, List.map_map]; rfl
theorem OrdE.sortD {xs : List K} (O : OrdE kD key) (l : xs.length ≤ 1000000) (p : ∀ x ∈ xs, Pl (kD x)) : sortD (xs.map kD) = some ((xs.mergeSort fun a b => leD (kD a) (kD b)).map kD) := by
  unfold MP.sortD
  rw [if_pos]
  · rw [sort_maps (s := leD) kD (fun a _ b _ => rfl)]
  · refine ⟨pls_iff.mpr fun d q => ?_, ?_, ?_, by rw [List.length_map]; exact l⟩
    · obtain ⟨x, hx, rfl⟩ := List.mem_map.mp q
      exact p x hx
    · rw [toPDs_kD]; exact AllAlike.of (enc := fun x => toPD (kD x)) O.al
    · rw [toPDs_kD]; exact O.so xs
theorem OrdE.sorted {xs : List K} (O : OrdE kD key) (l : xs.length ≤ 1000000) (p : ∀ x ∈ xs, Pl (kD x)) : MP.sortD (dedup (xs.map kD)) = some ((srt kD xs).map kD) := by
  rw [dedup_map O.emb, O.sortD]
  · rfl
  · have : (ded xs).length ≤ xs.length := by
      have := dedup_len (xs.map kD)
      rw [dedup_map O.emb, List.length_map, List.length_map] at this
      exact this
    omega
  · exact fun x q => p x ((ded_mem xs x).mp q)
theorem OrdE.any {xs : List K} (O : OrdE kD key) (l : xs.length ≤ 1000000) (p : ∀ x ∈ xs, Pl (kD x)) : ∀ q : List D, q.Perm (dedup (xs.map kD)) → MP.sortD q = MP.sortD (dedup (xs.map kD)) := by
  intro q pq
  rw [O.sorted l p]
  rw [dedup_map O.emb] at pq
  obtain ⟨ys, py, e⟩ := each_perm (R := fun d x => d = kD x) pq (bs := ded xs) (by
    generalize ded xs = zs
    induction zs with
    | nil => exact .nil
    | cons z zs ih => exact .cons rfl ih)
  have e : q = ys.map kD := by
    clear py pq
    induction e with
    | nil => rfl
    | cons r _ ih => rw [List.map_cons, r, ih]
  rw [e, O.sortD]
  · rw [O.perm py]; rfl
  · have : (ded xs).length ≤ xs.length := by
      have := dedup_len (xs.map kD)
      rw [dedup_map O.emb, List.length_map, List.length_map] at this
      exact this
    have := py.length_eq
    omega
  · exact fun x q => p x ((ded_mem xs x).mp (py.mem_iff.mp q))
theorem zip_self_map {α β : Type} (f g : K → α) : ∀ xs : List K, (xs.map f).zip (xs.map g) = xs.map fun x => (f x, g x)
  | [] => rfl
  | x :: xs => by rw [List.map_cons, List.map_cons, List.zip_cons_cons, zip_self_map (β := β) f g xs]; rfl
theorem OrdE.sortBy {xs : List K} (O : OrdE kD key) (l : xs.length ≤ 1000000) (p : ∀ x ∈ xs, Pl (key x)) : sortBy (xs.map kD) (xs.map key) = some ((xs.mergeSort fun a b => leD (kD a) (kD b)).map kD) := by
  unfold MP.sortBy
  rw [if_pos]
  · rw [zip_self_map (β := Nat), ← sort_maps (r := fun a b => leD (kD a) (kD b)) (s := fun p q : D × D => leD p.2 q.2) (fun x => (kD x, key x)) (fun a _ b _ => (O.same a b).symm), List.map_map]
    rfl
  · refine ⟨pls_iff.mpr fun d q => ?_, ?_, ?_, by rw [List.length_map]; exact l, by simp⟩
    · obtain ⟨x, hx, rfl⟩ := List.mem_map.mp q
      exact p x hx
    · rw [toPDs_kD]; exact AllAlike.of (enc := fun x => toPD (key x)) O.al'
    · rw [toPDs_kD]; exact O.so' xs
end
end MP

/-! MPY: texts and columns in order; columns_of, tables_used. -/
namespace MP
def RESERVED_ : List (List Nat) := [[105, 110, 110, 101, 114], [108, 101, 102, 116], [114, 105, 103, 104, 116], [102, 117, 108, 108], [106, 111, 105, 110], [111, 110], [119, 104, 101, 114, 101], [97, 110, 100], [105, 115], [110, 111, 116], [110, 117, 108, 108]]
open PySem PySem.W
/-! ### the order -/
theorem leD_def (a b : D) : leD a b = !dataLt (toPD b) (toPD a) := rfl
theorem lt_str (s t : List Nat) : dataLt (toPD (.str s)) (toPD (.str t)) = decide (s < t) := by
  show dataLt (.str ⟨s.toArray⟩) (.str ⟨t.toArray⟩) = _
  rw [dataLt_str]
theorem toPD_pair (x y : D) : toPD (.tup [x, y]) = .tuple [toPD x, toPD y] := by simp [toPD, toPDs]
theorem lt_pair {x y x' y' : D} (h : alike (toPD x) (toPD x') = true) (h' : alike (toPD y) (toPD y') = true) :
    dataLt (toPD (.tup [x, y])) (toPD (.tup [x', y'])) = if eqD x x' = true then (if eqD y y' = true then false else dataLt (toPD y) (toPD y')) else dataLt (toPD x) (toPD x') := by
  rw [toPD_pair, toPD_pair, dataLt_pair h h']; rfl
theorem al_str (s t : List Nat) : alike (toPD (.str s)) (toPD (.str t)) = true := by simp [toPD, alike]
theorem al_int (s t : Int) : alike (toPD (.int s)) (toPD (.int t)) = true := by simp [toPD, alike]
theorem al_pair {x y x' y' : D} (h : alike (toPD x) (toPD x') = true) (h' : alike (toPD y) (toPD y') = true) : alike (toPD (.tup [x, y])) (toPD (.tup [x', y'])) = true := by
  rw [toPD_pair, toPD_pair]; simp [alike, alikeAll, h, h']
theorem so_pair {K : Type} (f g : K → D) (xs : List K) : Sortable (xs.map fun x => toPD (.tup [f x, g x])) := Sortable.tuples fun x => ⟨_, _, toPD_pair _ _⟩
def keyS (s : List Nat) : D := .tup [.int 1, .str s]
def keyC (c : Col) : D := .tup [.int 1, .tup [keyS c.1, keyS c.2]]
theorem al_keyS (s t : List Nat) : alike (toPD (keyS s)) (toPD (keyS t)) = true := al_pair (al_int _ _) (al_str _ _)
theorem lt_keyS (s t : List Nat) : dataLt (toPD (keyS s)) (toPD (keyS t)) = decide (s < t) := by
  unfold keyS
  rw [lt_pair (al_int _ _) (al_str _ _), eqD_int, if_pos (by decide), eqD_str, lt_str]
  by_cases h : s = t
  · subst h; simp [List.lt_irrefl]
  · simp [h]
theorem eq_keyS (s t : List Nat) : eqD (keyS s) (keyS t) = decide (s = t) := by
  unfold keyS
  rw [eqD_tup, Bool.eq_iff_iff]; simp
theorem anti_str {s t : List Nat} (h1 : ¬ t < s) (h2 : ¬ s < t) : s = t := List.le_antisymm h1 h2
theorem ord_text : OrdE D.str keyS where
  emb := key_str
  al := al_str
  so := fun xs => Sortable.others fun x => ⟨by simp [toPD], fun xs => by simp [toPD]⟩
  al' := al_keyS
  so' := fun xs => so_pair _ _ xs
  same := fun a b => by rw [leD_def, leD_def, lt_keyS, lt_str]
  anti := fun a b h1 h2 => by
    rw [leD_def, lt_str] at h1 h2
    exact anti_str (by simpa using h1) (by simpa using h2)
theorem lt_col (a b : Col) : dataLt (toPD (colD a)) (toPD (colD b)) = if a.1 = b.1 then decide (a.2 < b.2) else decide (a.1 < b.1) := by
  unfold colD
  rw [lt_pair (al_str _ _) (al_str _ _), eqD_str, eqD_str, lt_str, lt_str]
  by_cases h : a.1 = b.1
  · by_cases h2 : a.2 = b.2
    · simp [h, h2, List.lt_irrefl]
    · simp [h, h2]
  · simp [h]
theorem lt_keyC (a b : Col) : dataLt (toPD (keyC a)) (toPD (keyC b)) = if a.1 = b.1 then decide (a.2 < b.2) else decide (a.1 < b.1) := by
  unfold keyC
  rw [lt_pair (al_int _ _) (al_pair (al_keyS _ _) (al_keyS _ _)), eqD_int, if_pos (by decide), lt_pair (al_keyS _ _) (al_keyS _ _), eq_keyS, eq_keyS, lt_keyS, lt_keyS, eqD_tup]
  by_cases h : a.1 = b.1
  · by_cases h2 : a.2 = b.2
    · simp [h, h2, List.lt_irrefl, eq_keyS]
    · simp [h, h2, eq_keyS]
  · simp [h, eq_keyS]
theorem ord_col : OrdE colD keyC where
  emb := key_col
  al := fun a b => al_pair (al_str _ _) (al_str _ _)
  so := fun xs => so_pair _ _ xs
  al' := fun a b => al_pair (al_int _ _) (al_pair (al_keyS _ _) (al_keyS _ _))
  so' := fun xs => so_pair _ _ xs
  same := fun a b => by rw [leD_def, leD_def, lt_keyC, lt_col]
  anti := fun a b h1 h2 => by
    rw [leD_def, lt_col] at h1 h2
    obtain ⟨a1, a2⟩ := a
    obtain ⟨b1, b2⟩ := b
    simp only at h1 h2
    by_cases e : a1 = b1
    · subst e
      simp at h1 h2
      have : a2 = b2 := anti_str (by simpa using h1) (by simpa using h2)
      rw [this]
    · have e' : ¬ b1 = a1 := fun z => e z.symm
      simp [e, e'] at h1 h2
      exact absurd (anti_str (by simpa using h1) (by simpa using h2)) e
/-! ### the functions -/
@[simp] theorem isTup_str (s : List Nat) (h : MH) : isTys (.str s) h [.tuple] = some false := rfl
@[simp] theorem isTup_tup (s : List D) (h : MH) : isTys (.tup s) h [.tuple] = some true := rfl
@[simp] theorem isTup_col (c : Col) (h : MH) : isTys (colD c) h [.tuple] = some true := rfl
def LB.order_key (i_order_key : Nat) : MSs := (.c (.ite (.isn false (.var 0)) (.c (.ret (.tup (.c (.int 0) .n)))
  .n) .n)
  (.c (.ite (.isi [.tuple] (.var 0)) (.c (.ret (.tup (.c (.int 1) (.c (.b1 .tuple (.lc [1] (.v 1) (.var 0) (.bl true) (.call i_order_key (.c (.var 1) .n)))) .n))))
  .n) .n)
  (.c (.ret (.tup (.c (.int 1) (.c (.var 0) .n))))
  .n)))
def LB.ascending (i_order_key : Nat) : MSs := (.c (.asg (.v 1) (.dc [2] (.v 2) (.var 0) (.bl true) (.var 2) (.bl true)))
  (.c (.ret (.b1 .tuple (.srk i_order_key (.var 1))))
  .n))
def LB.columns_of (i_ascending : Nat) : MSs := (.c (.ret (.call i_ascending (.c (.lc2 [2, 3, 4, 1] (.t [(.v 2), (.v 3), (.v 4)]) (.var 0) (.bl true) [1] (.v 1) (.tup (.c (.var 2) (.c (.var 3) .n))) (.isn true (.var 1)) (.var 1)) .n)))
  .n)
def LB.tables_used (i_ascending i_columns_of : Nat) : MSs := (.c (.ret (.call i_ascending (.c (.lc [1, 2] (.t [(.v 1), (.v 2)]) (.call i_columns_of (.c (.var 0) .n)) (.bl true) (.var 1)) .n)))
  .n)
theorem order_text_sp {P : Prog} {i j n : Nat} (hF : P.F i = some ⟨1, 2, LB.order_key j⟩) (h : MH) (s : List Nat) : Gives (callF P (n + 1)) i [.str s] h (keyS s) := by
  unfold Gives
  rw [call_run hF rfl]
  simp [LB.order_key, trim_same, keyS]
theorem order_col_sp {P : Prog} {i j n : Nat} (hF : P.F i = some ⟨1, 2, LB.order_key j⟩) (T : ∀ h s, Gives (callF P n) j [.str s] h (keyS s)) (h : MH) (c : Col) : Gives (callF P (n + 1)) i [colD c] h (keyC c) := by
  unfold Gives
  rw [call_run hF rfl]
  simp [LB.order_key]
  simp [colD, wipe]
  refine WP.compT (as := [c.1, c.2]) (k := D.str) (fun s => some (keyS s)) (guarded_nil _) (fun s _ => ?_) ?_
  · simp
    refine (T _ s).mono ?_
    rintro _ _ ⟨rfl, rfl⟩
    simp [keyS]
  · simp [trim_same, keyC]
section
variable {K : Type} [DecidableEq K] {kD key : K → D}
theorem ascending_sp {P : Prog} {i j n : Nat} (O : OrdE kD key) (hF : P.F i = some ⟨1, 3, LB.ascending j⟩) (T : ∀ h x, Gives (callF P n) j [kD x] h (key x)) (h : MH) (xs : List K) (l : xs.length ≤ 1000000) (p : ∀ x ∈ xs, Pl (key x)) (nr : ∀ x, (kD x).nr = true) :
    Gives (callF P (n + 1)) i [.lst (xs.map kD)] h (.tup ((srt kD xs).map kD)) := by
  unfold Gives
  rw [call_run hF rfl]
  simp [LB.ascending, wipe]
  refine WP.dcT (fun x => (kD x, .bl true)) (guarded_nil _) l (fun x _ => ?_) (fun x _ => O.emb.ok x) ?_
  · simp [nr]
  · have dl : (ded xs).length ≤ xs.length := by
      have := dedup_len (xs.map kD)
      rw [dedup_map O.emb, List.length_map, List.length_map] at this
      exact this
    have e := keys_ded O.emb xs (.bl true)
    have ln : (dputs [] (xs.map fun x => (kD x, D.bl true))).length ≤ 1000000 := by
      have := congrArg List.length e
      rw [List.length_map, List.length_map] at this
      omega
    simp [ln, e]
    refine WP.keysT (key := key) (fun x _ => T _ x) ?_
    rw [e, O.sortBy (by omega) (fun x q => p x ((ded_mem xs x).mp q))]
    simp [trim_same]
    rfl
end
/-! ### conjunctions' columns -/
def colsOf (cn : List Cnd) : List Col := cn.flatMap fun c => [c.1, c.2.1].filterMap id
theorem colsOf_map (cn : List Cnd) : (cn.flatMap fun c => ([c.1, c.2.1].filterMap id).map colD) = (colsOf cn).map colD := by
  unfold colsOf
  rw [List.map_flatMap]
def GoodS (s : List Nat) : Prop := ∀ x ∈ s, x < 1114112
def GoodC (c : Col) : Prop := GoodS c.1 ∧ GoodS c.2
theorem pl_keyS {s : List Nat} (h : GoodS s) : PlN 1 (keyS s) := PlN_tup fun x q => by
  simp at q
  rcases q with rfl | rfl
  · exact PlN_int _ _
  · exact PlN_str _ h
theorem Pl_keyS {s : List Nat} (h : GoodS s) : Pl (keyS s) := (pl_keyS h).pl (by omega)
theorem Pl_keyC {c : Col} (h : GoodC c) : Pl (keyC c) := by
  refine PlN.pl (m := 3) (PlN_tup fun x q => ?_) (by omega)
  simp at q
  rcases q with rfl | rfl
  · exact PlN_int _ _
  · refine PlN_tup fun x q => ?_
    simp at q
    rcases q with rfl | rfl
    · exact pl_keyS h.1
    · exact pl_keyS h.2
theorem PlN_col {c : Col} (h : GoodC c) : PlN 1 (colD c) := PlN_tup fun x q => by
  simp at q
  rcases q with rfl | rfl
  · exact PlN_str _ h.1
  · exact PlN_str _ h.2
theorem Pl_col {c : Col} (h : GoodC c) : Pl (colD c) := (PlN_col h).pl (by omega)
def GoodCn (cn : List Cnd) : Prop := ∀ c ∈ colsOf cn, GoodC c
theorem colsOf_len (cn : List Cnd) : (colsOf cn).length ≤ 2 * cn.length := by
  unfold colsOf
  induction cn with
  | nil => simp
  | cons c r ih =>
    rw [List.flatMap_cons, List.length_append, List.length_cons]
    have : ([c.1, c.2.1].filterMap id).length ≤ 2 := List.length_filterMap_le _ _
    omega
theorem srt_len {K : Type} [DecidableEq K] {kD : K → D} {key : K → D} (O : OrdE kD key) (xs : List K) : (srt kD xs).length ≤ xs.length := by
  unfold srt
  rw [List.length_mergeSort]
  have := dedup_len (xs.map kD)
  rw [dedup_map O.emb, List.length_map, List.length_map] at this
  exact this
@[simp] theorem nr_keyS (s : List Nat) : (D.str s).nr = true := rfl
/-- the columns, the tables in order -/
noncomputable def usedC (cn : List Cnd) : List Col := srt colD (colsOf cn)
noncomputable def usedT (cn : List Cnd) : List (List Nat) := srt D.str ((usedC cn).map (·.1))
theorem columns_of_sp {P : Prog} {i j n : Nat} (hF : P.F i = some ⟨1, 5, LB.columns_of j⟩) (A : ∀ h (xs : List Col), xs.length ≤ 1000000 → (∀ x ∈ xs, Pl (keyC x)) → Gives (callF P n) j [.lst (xs.map colD)] h (.tup ((srt colD xs).map colD)))
    (h : MH) (cn : List Cnd) (l : cn.length ≤ 1000) (g : GoodCn cn) : Gives (callF P (n + 1)) i [cndsD cn] h (.tup ((usedC cn).map colD)) := by
  unfold Gives
  rw [call_run hF rfl]
  simp [LB.columns_of, cndsD, wipe, l]
  refine WP.comp2T (fun c => ([c.1, c.2.1].filterMap id).map colD) (guarded_nil _) (fun c _ => ?_) ?_
  · simp [cndD, wipe]
    refine WP.compT (as := [c.1, c.2.1]) (k := itmD) (fun it => it.map colD) (guarded_nil _) (fun it _ => ?_) ?_
    · cases it with
      | none => simp [itmD]
      | some c => simp [itmD]
    · refine ⟨?_, rfl⟩
      obtain ⟨c1, c2, b⟩ := c
      cases c1 <;> cases c2 <;> rfl
  · rw [colsOf_map]
    simp
    refine (A h _ (by have := colsOf_len cn; omega) fun x q => Pl_keyC (g x q)).mono ?_
    rintro _ _ ⟨rfl, rfl⟩
    simp [trim_same, usedC]
theorem tables_used_sp {P : Prog} {i j m n : Nat} (hF : P.F i = some ⟨1, 3, LB.tables_used j m⟩) (A : ∀ h (xs : List (List Nat)), xs.length ≤ 1000000 → (∀ x ∈ xs, Pl (keyS x)) → Gives (callF P n) j [.lst (xs.map D.str)] h (.tup ((srt D.str xs).map D.str)))
    (Cs : ∀ h (cn : List Cnd), cn.length ≤ 1000 → GoodCn cn → Gives (callF P n) m [cndsD cn] h (.tup ((usedC cn).map colD)))
    (h : MH) (cn : List Cnd) (l : cn.length ≤ 1000) (g : GoodCn cn) : Gives (callF P (n + 1)) i [cndsD cn] h (.tup ((usedT cn).map D.str)) := by
  unfold Gives
  rw [call_run hF rfl]
  simp [LB.tables_used, wipe]
  refine (Cs _ cn l g).mono ?_
  rintro _ _ ⟨rfl, rfl⟩
  have l2 : (usedC cn).length ≤ 2 * cn.length := Nat.le_trans (srt_len ord_col _) (colsOf_len cn)
  have l3 : (usedC cn).length ≤ 1000000 := by omega
  simp [l3]
  refine WP.compTM (fun c : Col => D.str c.1) (guarded_nil _) (fun c _ => ?_) ?_
  · simp [colD]
  · have e : ((usedC cn).map fun c : Col => D.str c.1) = ((usedC cn).map (·.1)).map D.str := by rw [List.map_map]; rfl
    rw [e]
    simp [-List.map_map]
    refine (A _ ((usedC cn).map (·.1)) (by rw [List.length_map]; exact l3) fun x q => ?_).mono ?_
    · obtain ⟨c, hc, rfl⟩ := List.mem_map.mp q
      exact Pl_keyS (g c ((srt_mem _ _).mp hc)).1
    rintro _ _ ⟨e, rfl⟩
    simp [trim_same, usedT] at e ⊢
    exact e
/-! ### _law_used -/
def LB.used : MSs := (.c (.asg (.v 1) (.b1 .mut (.lst .n)))
  (.c (.for_ (.t [(.v 2), (.v 3), (.v 4)]) (.var 0) (.c (.ex (.mw .extend (.var 1) (.lc [5] (.v 5) (.tup (.c (.var 2) (.c (.var 3) .n))) (.isn true (.var 5)) (.var 5))))
  .n))
  (.c (.ret (.b1 .sortset (.var 1)))
  .n)))
theorem okSet_cols {xs : List Col} (l : xs.length < 64) : okSet (xs.map colD) := by
  refine ⟨List.all_eq_true.mpr fun d q => ?_, by rw [List.length_map]; exact l, .inr fun d q => ?_⟩
  · obtain ⟨x, _, rfl⟩ := List.mem_map.mp q
    exact key_col.ok x
  · obtain ⟨x, _, rfl⟩ := List.mem_map.mp q
    exact ⟨_, rfl⟩
theorem okSet_strs {xs : List (List Nat)} (l : xs.length < 64) : okSet (xs.map D.str) := by
  refine ⟨List.all_eq_true.mpr fun d q => ?_, by rw [List.length_map]; exact l, .inl fun d q => ?_⟩
  · obtain ⟨x, _, rfl⟩ := List.mem_map.mp q
    exact key_str.ok x
  · obtain ⟨x, _, rfl⟩ := List.mem_map.mp q
    exact ⟨_, rfl⟩
def UsedI (cn : List Cnd) (b : Bs) (s : Sr) (d : List Cnd) (e : Env) (h : MH) : Prop := ∃ u2 u3 u4 u5 : Option MP.D, e = [some (cndsD cn), some (.ref b.n), u2, u3, u4, u5] ∧ h = hp b s [.lst ((colsOf d).map colD)]
theorem used_sp {P : Prog} {i n : Nat} (hF : P.F i = some ⟨1, 6, LB.used⟩) (b : Bs) (s : Sr) (cn : List Cnd) (l : cn.length < 32) (g : GoodCn cn) : Gives (callF P (n + 1)) i [cndsD cn] (hp b s []) (.lst ((usedC cn).map colD)) := by
  unfold Gives
  rw [call_run hF rfl]
  simp [LB.used, cndsD]
  refine WP.forT (fun d r e h => UsedI cn b s d e h) ?_ ?_ ?_
  · rintro d c r e h q ⟨u2, u3, u4, u5, rfl, rfl⟩
    have lq : d.length + 1 ≤ cn.length := by rw [← q]; simp
    simp [cndD, wipe, cndsD]
    refine WP.compT (as := [c.1, c.2.1]) (k := itmD) (fun it => it.map colD) (guarded_nil _) (fun it _ => ?_) ?_
    · cases it with
      | none => simp [itmD]
      | some c => simp [itmD]
    · have e1 : ([c.1, c.2.1].filterMap fun it => it.map colD) = ([c.1, c.2.1].filterMap id).map colD := by
        obtain ⟨c1, c2, b⟩ := c
        cases c1 <;> cases c2 <;> rfl
      rw [e1]
      have := colsOf_len d
      have l2 : ([c.1, c.2.1].filterMap id).length ≤ 2 := List.length_filterMap_le _ _
      have l4 : (colsOf d).length + ([c.1, c.2.1].filterMap id).length ≤ 1000000 := by omega
      simp [l4]
      refine ⟨_, _, _, _, rfl, ?_⟩
      have e2 : colsOf (d ++ [c]) = colsOf d ++ [c.1, c.2.1].filterMap id := by
        unfold colsOf
        rw [List.flatMap_append, List.flatMap_cons, List.flatMap_nil, List.append_nil]
      rw [e2, List.map_append]
  · rintro e h ⟨u2, u3, u4, u5, rfl, rfl⟩
    have := colsOf_len cn
    have l2 : (colsOf cn).length < 64 := by omega
    simp
    refine ⟨⟨okSet_cols l2, ord_col.any (by omega) fun x q => Pl_col (g x q)⟩, ?_⟩
    rw [ord_col.sorted (by omega) fun x q => Pl_col (g x q)]
    simp [usedC]
  · exact ⟨none, none, none, none, rfl, rfl⟩
end MP

/-! MPA: values of any kind. -/
namespace MP
open PySem
/-! ### data that can be shown, by texts and numbers -/
mutual
def D.av (N : Nat) : D → Bool
  | .non => true
  | .bl _ => true
  | .int i => decide (i.natAbs ≤ N)
  | .str s => s.all fun c => decide (c < 1114112)
  | .tup xs => avs N xs
  | .lst xs => avs N xs
  | .dct kvs => avk N kvs
  | .rol _ => false
  | .ref _ => false
def avs (N : Nat) : List D → Bool
  | [] => true
  | x :: xs => x.av N && avs N xs
def avk (N : Nat) : List (D × D) → Bool
  | [] => true
  | (k, v) :: r => k.av N && v.av N && avk N r
end
def AV (N : Nat) (v : D) : Prop := v.av N = true
def AVs (N : Nat) (v : List D) : Prop := avs N v = true
section
variable {N : Nat}
@[simp] theorem AV_non : AV N .non := by simp [AV, D.av]
@[simp] theorem AV_bl (b : Bool) : AV N (.bl b) := by simp [AV, D.av]
@[simp] theorem AV_int (i : Int) : AV N (.int i) = (i.natAbs ≤ N) := by simp [AV, D.av]
@[simp] theorem AV_str (s : List Nat) : AV N (.str s) = (∀ c ∈ s, c < 1114112) := by simp [AV, D.av]
@[simp] theorem AV_tup (xs : List D) : AV N (.tup xs) = AVs N xs := by simp [AV, AVs, D.av]
@[simp] theorem AV_lst (xs : List D) : AV N (.lst xs) = AVs N xs := by simp [AV, AVs, D.av]
@[simp] theorem AV_dct (xs : List (D × D)) : AV N (.dct xs) = (avk N xs = true) := by simp [AV, D.av]
@[simp] theorem AV_rol (xs : List D) : ¬ AV N (.rol xs) := by simp [AV, D.av]
@[simp] theorem AV_ref (n : Nat) : ¬ AV N (.ref n) := by simp [AV, D.av]
@[simp] theorem AVs_nil : AVs N [] := by simp [AVs, avs]
@[simp] theorem AVs_cons (x : D) (xs : List D) : AVs N (x :: xs) = (AV N x ∧ AVs N xs) := by simp [AVs, avs, AV]
theorem AVs_iff {xs : List D} : AVs N xs ↔ ∀ x ∈ xs, AV N x := by
  induction xs with
  | nil => simp
  | cons x r ih => simp [ih]
@[simp] theorem AVs_app (xs ys : List D) : AVs N (xs ++ ys) = (AVs N xs ∧ AVs N ys) := by
  induction xs with
  | nil => simp
  | cons x r ih => simp [ih, and_assoc]
theorem AVs.rev {xs : List D} (h : AVs N xs) : AVs N xs.reverse := AVs_iff.mpr fun x q => AVs_iff.mp h x (List.mem_reverse.mp q)
end
mutual
theorem av_le {M N : Nat} (l : M ≤ N) : ∀ {v : D}, v.av M = true → v.av N = true
  | .non, _ => by simp [D.av]
  | .bl _, _ => by simp [D.av]
  | .int i, h => by simp [D.av] at h ⊢; omega
  | .str _, h => by simpa [D.av] using h
  | .tup xs, h => by simp only [D.av] at h ⊢; exact avs_le l h
  | .lst xs, h => by simp only [D.av] at h ⊢; exact avs_le l h
  | .dct xs, h => by simp only [D.av] at h ⊢; exact avk_le l h
  | .rol _, h => by simp [D.av] at h
  | .ref _, h => by simp [D.av] at h
theorem avs_le {M N : Nat} (l : M ≤ N) : ∀ {v : List D}, avs M v = true → avs N v = true
  | [], _ => by simp [avs]
  | x :: r, h => by
    simp only [avs, Bool.and_eq_true] at h ⊢
    exact ⟨av_le l h.1, avs_le l h.2⟩
theorem avk_le {M N : Nat} (l : M ≤ N) : ∀ {v : List (D × D)}, avk M v = true → avk N v = true
  | [], _ => by simp [avk]
  | (k, v) :: r, h => by
    simp only [avk, Bool.and_eq_true] at h ⊢
    exact ⟨⟨av_le l h.1.1, av_le l h.1.2⟩, avk_le l h.2⟩
end
theorem AV.up {M N : Nat} {v : D} (h : AV M v) (l : M ≤ N) : AV N v := av_le l h
theorem AVs.up {M N : Nat} {v : List D} (h : AVs M v) (l : M ≤ N) : AVs N v := avs_le l h
/-- how deep -/
def D.dp (v : D) : Nat := (toPD v).depth
def dps (xs : List D) : Nat := PyData.depthAll (toPDs xs)
@[simp] theorem dp_non : D.dp .non = 0 := by simp [D.dp, toPD, PyData.depth]
@[simp] theorem dp_bl (b : Bool) : D.dp (.bl b) = 0 := by simp [D.dp, toPD, PyData.depth]
@[simp] theorem dp_int (b : Int) : D.dp (.int b) = 0 := by simp [D.dp, toPD, PyData.depth]
@[simp] theorem dp_str (b : List Nat) : D.dp (.str b) = 0 := by simp [D.dp, toPD, PyData.depth]
@[simp] theorem dp_tup (xs : List D) : D.dp (.tup xs) = dps xs + 1 := by simp [D.dp, dps, toPD, PyData.depth]
@[simp] theorem dp_lst (xs : List D) : D.dp (.lst xs) = dps xs + 1 := by simp [D.dp, dps, toPD, PyData.depth]
@[simp] theorem dps_nil : dps [] = 0 := by simp [dps, toPDs, PyData.depthAll]
@[simp] theorem dps_cons (x : D) (xs : List D) : dps (x :: xs) = max x.dp (dps xs) := by simp [dps, D.dp, toPDs, PyData.depthAll]
@[simp] theorem dps_app (xs ys : List D) : dps (xs ++ ys) = max (dps xs) (dps ys) := by
  induction xs with
  | nil => simp
  | cons x r ih => simp [ih, Nat.max_assoc]
theorem dp_le {xs : List D} {x : D} (h : x ∈ xs) : x.dp ≤ dps xs := by
  induction xs with
  | nil => cases h
  | cons y r ih =>
    rw [dps_cons]
    rcases List.mem_cons.mp h with rfl | h
    · exact Nat.le_max_left _ _
    · exact Nat.le_trans (ih h) (Nat.le_max_right _ _)
@[simp] theorem dps_rev (xs : List D) : dps xs.reverse = dps xs := by
  induction xs with
  | nil => rfl
  | cons y r ih => simp [ih, Nat.max_comm]
/-! ### measures -/
mutual
/-- p of each text, c for each item -/
def D.mz (p : List Nat → Nat) (c : Nat) : D → Nat
  | .non => 0
  | .bl _ => 0
  | .int _ => 0
  | .str s => p s
  | .tup xs => mzs p c xs
  | .lst xs => mzs p c xs
  | .dct kvs => mzk p c kvs
  | .rol _ => 0
  | .ref _ => 0
def mzs (p : List Nat → Nat) (c : Nat) : List D → Nat
  | [] => 0
  | x :: xs => x.mz p c + c + mzs p c xs
def mzk (p : List Nat → Nat) (c : Nat) : List (D × D) → Nat
  | [] => 0
  | (k, v) :: r => k.mz p c + v.mz p c + 2 * c + mzk p c r
end
section
variable {p : List Nat → Nat} {c : Nat}
@[simp] theorem mz_non : D.mz p c .non = 0 := by simp [D.mz]
@[simp] theorem mz_bl (b : Bool) : D.mz p c (.bl b) = 0 := by simp [D.mz]
@[simp] theorem mz_int (b : Int) : D.mz p c (.int b) = 0 := by simp [D.mz]
@[simp] theorem mz_str (b : List Nat) : D.mz p c (.str b) = p b := by simp [D.mz]
@[simp] theorem mz_tup (xs : List D) : D.mz p c (.tup xs) = mzs p c xs := by simp [D.mz]
@[simp] theorem mz_lst (xs : List D) : D.mz p c (.lst xs) = mzs p c xs := by simp [D.mz]
@[simp] theorem mzs_nil : mzs p c [] = 0 := by simp [mzs]
@[simp] theorem mzs_cons (x : D) (xs : List D) : mzs p c (x :: xs) = x.mz p c + c + mzs p c xs := by simp [mzs]
@[simp] theorem mzs_app (xs ys : List D) : mzs p c (xs ++ ys) = mzs p c xs + mzs p c ys := by
  induction xs with
  | nil => simp
  | cons x r ih => simp [ih, Nat.add_assoc]
@[simp] theorem mzs_rev (xs : List D) : mzs p c xs.reverse = mzs p c xs := by
  induction xs with
  | nil => rfl
  | cons x r ih => simp [ih]; omega
theorem mz_le {xs : List D} {x : D} (h : x ∈ xs) : x.mz p c + c ≤ mzs p c xs := by
  induction xs with
  | nil => cases h
  | cons y r ih =>
    rw [mzs_cons]
    rcases List.mem_cons.mp h with rfl | h
    · omega
    · have := ih h; omega
end
mutual
theorem bulk_mz : ∀ v : D, (toPD v).bulk ≤ v.mz List.length 1
  | .non => by simp [toPD, PyData.bulk]
  | .bl _ => by simp [toPD, PyData.bulk]
  | .int _ => by simp [toPD, PyData.bulk]
  | .str _ => by simp [toPD, PyData.bulk]
  | .tup xs => by simpa [toPD, PyData.bulk] using bulks_mz xs
  | .lst xs => by simpa [toPD, PyData.bulk] using bulks_mz xs
  | .dct xs => by simpa [toPD, PyData.bulk, D.mz] using bulkk_mz xs
  | .rol _ => by simp [toPD, PyData.bulk]
  | .ref _ => by simp [toPD, PyData.bulk]
theorem bulks_mz : ∀ v : List D, PyData.bulkAll (toPDs v) ≤ mzs List.length 1 v
  | [] => by simp [toPDs, PyData.bulkAll]
  | x :: r => by
    have := bulk_mz x
    have := bulks_mz r
    simp only [toPDs, PyData.bulkAll, mzs]; omega
theorem bulkk_mz : ∀ v : List (D × D), PyData.bulkKv (toPDk v) ≤ mzk List.length 1 v
  | [] => by simp [toPDk, PyData.bulkKv]
  | (k, v) :: r => by
    have := bulk_mz k
    have := bulk_mz v
    have := bulkk_mz r
    simp only [toPDk, PyData.bulkKv, mzk]; omega
end
mutual
theorem mz_both : ∀ v : D, v.mz (fun _ => 1) 1 ≤ v.mz List.length 1 + v.mz (fun _ => 1) 0
  | .non => by simp
  | .bl _ => by simp
  | .int _ => by simp
  | .str _ => by simp
  | .tup xs => by simpa using mzs_both xs
  | .lst xs => by simpa using mzs_both xs
  | .dct xs => by simpa [D.mz] using mzk_both xs
  | .rol _ => by simp [D.mz]
  | .ref _ => by simp [D.mz]
theorem mzs_both : ∀ v : List D, mzs (fun _ => 1) 1 v ≤ mzs List.length 1 v + mzs (fun _ => 1) 0 v
  | [] => by simp
  | x :: r => by
    have := mz_both x
    have := mzs_both r
    simp only [mzs_cons]; omega
theorem mzk_both : ∀ v : List (D × D), mzk (fun _ => 1) 1 v ≤ mzk List.length 1 v + mzk (fun _ => 1) 0 v
  | [] => by simp [mzk]
  | (k, v) :: r => by
    have := mz_both k
    have := mz_both v
    have := mzk_both r
    simp only [mzk]; omega
end
def NMAX : Nat := 10 ^ 45
theorem int_short {i : Int} (h : i.natAbs ≤ NMAX) : PyData.showable (.int i) = true ∧ PyData.leavesShort 80 (.int i) = true := by
  have lt : i.natAbs < 10 ^ 46 := Nat.lt_of_le_of_lt h (by decide)
  refine ⟨?_, ?_⟩
  · show decide (i.natAbs.log2 < 1920) = true
    refine decide_eq_true ?_
    by_cases z : i.natAbs = 0
    · rw [z]; decide
    · exact (Nat.log2_lt z).mpr (Nat.lt_of_lt_of_le lt (by decide))
  · show decide ((PyData.shown (.int i)).length ≤ 80) = true
    exact decide_eq_true (by show (Str.ofString (toString i)).length ≤ 80; rw [ofString_length]; exact Nat.le_trans (int_text_length_le10 (by decide) lt) (by decide))
mutual
theorem av_show : ∀ {v : D}, v.av NMAX = true → v.sh = true ∧ PyData.showable (toPD v) = true ∧ PyData.leavesShort 80 (toPD v) = true
  | .non, _ => ⟨rfl, by simp [toPD, PyData.showable], by simp [toPD, PyData.leavesShort]⟩
  | .bl _, _ => ⟨rfl, by simp [toPD, PyData.showable], by simp [toPD, PyData.leavesShort]⟩
  | .int i, h => by
    have h : i.natAbs ≤ NMAX := by simpa [D.av] using h
    exact ⟨rfl, (int_short h).1, (int_short h).2⟩
  | .str s, h => by
    refine ⟨rfl, by simp [toPD, PyData.showable], ?_⟩
    simp only [D.av, List.all_eq_true, decide_eq_true_eq] at h
    simp only [toPD, PyData.leavesShort, List.all_eq_true, decide_eq_true_eq]
    intro c q
    have := h c (by simpa using q)
    omega
  | .tup xs, h => by
    obtain ⟨a, b, c⟩ := avs_show (v := xs) (by simpa only [D.av] using h)
    exact ⟨a, by simpa [toPD, PyData.showable] using b, by simpa [toPD, PyData.leavesShort] using c⟩
  | .lst xs, h => by
    obtain ⟨a, b, c⟩ := avs_show (v := xs) (by simpa only [D.av] using h)
    exact ⟨a, by simpa [toPD, PyData.showable] using b, by simpa [toPD, PyData.leavesShort] using c⟩
  | .dct xs, h => by
    obtain ⟨a, b, c⟩ := avk_show (v := xs) (by simpa only [D.av] using h)
    exact ⟨a, by simpa [toPD, PyData.showable] using b, by simpa [toPD, PyData.leavesShort] using c⟩
  | .rol _, h => by simp [D.av] at h
  | .ref _, h => by simp [D.av] at h
theorem avs_show : ∀ {v : List D}, avs NMAX v = true → shs v = true ∧ PyData.showableAll (toPDs v) = true ∧ PyData.leavesShortAll 80 (toPDs v) = true
  | [], _ => ⟨rfl, by simp [toPDs, PyData.showableAll], by simp [toPDs, PyData.leavesShortAll]⟩
  | x :: r, h => by
    simp only [avs, Bool.and_eq_true] at h
    obtain ⟨a1, b1, c1⟩ := av_show h.1
    obtain ⟨a2, b2, c2⟩ := avs_show h.2
    exact ⟨by simp [shs, a1, a2], by simp [toPDs, PyData.showableAll, b1, b2], by simp [toPDs, PyData.leavesShortAll, c1, c2]⟩
theorem avk_show : ∀ {v : List (D × D)}, avk NMAX v = true → shk v = true ∧ PyData.showableKv (toPDk v) = true ∧ PyData.leavesShortKv 80 (toPDk v) = true
  | [], _ => ⟨rfl, by simp [toPDk, PyData.showableKv], by simp [toPDk, PyData.leavesShortKv]⟩
  | (k, v) :: r, h => by
    simp only [avk, Bool.and_eq_true] at h
    obtain ⟨a1, b1, c1⟩ := av_show h.1.1
    obtain ⟨a3, b3, c3⟩ := av_show h.1.2
    obtain ⟨a2, b2, c2⟩ := avk_show h.2
    exact ⟨by simp [shk, a1, a2, a3], by simp [toPDk, PyData.showableKv, b1, b2, b3], by simp [toPDk, PyData.leavesShortKv, c1, c2, c3]⟩
end
theorem AV.sh {v : D} (h : AV NMAX v) : v.sh = true := (av_show h).1
theorem AV.sz {v : D} (h : AV NMAX v) : Sz (v.mz List.length 1) v.dp v := ⟨(av_show h).1, (av_show h).2.1, (av_show h).2.2, bulk_mz v, Nat.le_refl _⟩
theorem AV.shown {v : D} (h : AV NMAX v) (b : v.mz List.length 1 ≤ 12000) (k : v.dp ≤ 60) : Shown v := h.sz.shown b k
mutual
theorem sh_cl : ∀ {v : D}, v.sh = true → v.rb 0 = true
  | .non, _ => rfl
  | .bl _, _ => rfl
  | .int _, _ => rfl
  | .str _, _ => rfl
  | .tup xs, h => shs_cl (v := xs) h
  | .lst xs, h => shs_cl (v := xs) h
  | .dct xs, h => shk_cl (v := xs) h
theorem shs_cl : ∀ {v : List D}, shs v = true → rbs 0 v = true
  | [], _ => rfl
  | x :: r, h => by
    simp only [shs, Bool.and_eq_true] at h
    simp only [rbs, sh_cl h.1, shs_cl h.2, Bool.and_self]
theorem shk_cl : ∀ {v : List (D × D)}, shk v = true → rbk 0 v = true
  | [], _ => rfl
  | (k, v) :: r, h => by
    simp only [shk, Bool.and_eq_true] at h
    simp only [rbk, sh_cl h.1.1, sh_cl h.1.2, shk_cl h.2, Bool.and_self]
end
theorem AV.cl {v : D} (h : AV NMAX v) : Cl v := sh_cl h.sh
theorem AV.nr {N : Nat} {v : D} (h : AV N v) : v.nr = true := by
  cases v with
  | ref n => exact absurd h (AV_ref n)
  | _ => rfl
/-- a tuple of anything against the empty one -/
theorem PlE_nil {xs : List D} (h : AVs NMAX xs) (k : dps xs ≤ 60) : PlE (.tup xs) (.tup []) := by
  have s : shs xs = true := (avs_show h).1
  have e : cmpPs (toPDs xs) [] = true := by cases xs <;> simp [toPDs, cmpPs]
  have k : PyData.depthAll (toPDs xs) ≤ 60 := k
  show (_ || plD (.tup xs) (.tup [])) = true
  simp only [plD, s, shs, toPDs, e, k, Bool.and_self, decide_true, Bool.or_true]
theorem eqD_nilA (xs : List D) : eqD (.tup xs) (.tup []) = xs.isEmpty := by
  cases xs <;> simp [eqD, toPD, toPDs, PyData.eqv, PyData.eqvAll]
/-- a value's type -/
theorem isTy_sh {v : D} {h : MH} {t : Ty} {m : Nat} (e : t.num = some m) (s : v.sh = true) : ∃ n, tyN v h = some n ∧ isTy v h t = some (isN2 n m) := by
  have : ∃ n, tyN v h = some n := by cases v <;> first | exact ⟨_, rfl⟩ | cases s
  obtain ⟨n, hn⟩ := this
  exact ⟨n, hn, by unfold isTy; rw [e, hn]⟩
end MP

/-! MPB: odd values, bent values. -/
namespace MP
/-- a small thing -/
structure Sm (v : D) : Prop where
  av : AV (10 ^ 30) v
  dp : v.dp ≤ 7
  mz : ∀ (p : List Nat → Nat) (c P : Nat), (∀ s : List Nat, s.length ≤ 60 → p s ≤ P) → v.mz p c ≤ 17 * P + 26 * c
/-- an odd value after k turns -/
def oddA : Nat → Nat
  | 0 => 1
  | 1 => 3
  | 2 => 7
  | 3 => 15
  | 4 => 16
  | _ => 17
def oddB : Nat → Nat
  | 0 => 1
  | 1 => 4
  | 2 => 10
  | 3 => 22
  | 4 => 24
  | _ => 26
structure Odd (k : Nat) (v : D) : Prop where
  av : AV (10 ^ 30) v
  dp : v.dp ≤ k + 1
  mz : ∀ (p : List Nat → Nat) (c P : Nat), (∀ s : List Nat, s.length ≤ 60 → p s ≤ P) → v.mz p c ≤ oddA k * P + oddB k * c
theorem Odd.sm {k : Nat} {v : D} (h : Odd k v) (l : k ≤ 5) : Sm v := by
  refine ⟨h.av, by have := h.dp; omega, fun p c P q => ?_⟩
  have := h.mz p c P q
  have : k = 0 ∨ k = 1 ∨ k = 2 ∨ k = 3 ∨ k = 4 ∨ k = 5 := by omega
  rcases this with rfl | rfl | rfl | rfl | rfl | rfl <;> simp only [oddA, oddB] at this <;> omega
theorem Sm.of_atom {v : D} (av : AV (10 ^ 30) v) (dp : v.dp ≤ 7) (mz : ∀ (p : List Nat → Nat) (c P : Nat), (∀ s : List Nat, s.length ≤ 60 → p s ≤ P) → v.mz p c ≤ 17 * P + 26 * c) : Sm v := ⟨av, dp, mz⟩
theorem Sm_int {i : Int} (h : i.natAbs ≤ 10 ^ 30) : Sm (.int i) := ⟨by simpa using h, by simp, fun p c P q => by simp⟩
theorem Sm_bl (b : Bool) : Sm (.bl b) := ⟨by simp, by simp, fun p c P q => by simp⟩
theorem Sm_non : Sm .non := ⟨by simp, by simp, fun p c P q => by simp⟩
theorem Sm_str {s : List Nat} (l : s.length ≤ 60) (h : ∀ c ∈ s, c < 1114112) : Sm (.str s) := ⟨by simpa using h, by simp, fun p c P q => by have := q s l; simp; omega⟩
def LB.odd (i_choice : Nat) : MSs := (.c (.asg (.v 1) (.lst (.c .non (.c (.bl true) (.c (.bl false) (.c (.int 0) (.c (.int 1) (.c (.b1 .neg (.int 1)) (.c (.bin .pow (.int 10) (.int 30)) (.c (.str []) (.c (.str [97]) (.c (.str [116, 97, 98, 108, 101]) (.c (.str [108, 101, 102, 116]) (.c (.tup .n) (.c (.lst .n) (.c (.dct .n) (.c (.tup (.c .non .n)) .n)))))))))))))))))
  (.c (.asg (.v 2) (.call i_choice (.c (.var 0) (.c (.bin .add (.var 1) (.lst (.c (.tup (.c (.str [97]) .n)) .n))) .n))))
  (.c (.for_ (.v 3) (.b1 .range (.call i_choice (.c (.var 0) (.c (.lst (.c (.int 0) (.c (.int 0) (.c (.int 1) (.c (.int 2) (.c (.int 5) .n)))))) .n)))) (.c (.asg (.v 2) (.call i_choice (.c (.var 0) (.c (.lst (.c (.tup (.c (.var 2) .n)) (.c (.lst (.c (.var 2) .n)) (.c (.dct (.c (.str [97]) (.c (.var 2) .n))) (.c (.sl (.tup (.c (.var 2) (.c (.var 2) .n))) .non (.bin .add (.int 1) (.b1 .int (.cmp .lt (.var 3) (.int 3))))) .n))))) .n))))
  .n))
  (.c (.ret (.var 2))
  .n))))
def OddO (b : Bs) (L : List MO) (v : D) (h' : MH) : Prop := ∃ t : Sr, Sm v ∧ h' = hp b t L
def OddSp (cf : CF) (i : Nat) : Prop := ∀ (b : Bs) (s : Sr) (L : List MO), WP NE (cf i [.ref b.r] (hp b s L)) (OddO b L)
def OddI (b : Bs) (L : List MO) (k : Nat) (e : Env) (h : MH) : Prop := ∃ (t : Sr) (x : D) (u1 u3 : Option D), e = [some (.ref b.r), u1, some x, u3] ∧ h = hp b t L ∧ Odd k x
theorem odd0 : ∀ x ∈ ([.non, .bl true, .bl false, .int 0, .int 1, .int (-1), .int (10 ^ 30), .str [], .str [97], .str [116, 97, 98, 108, 101], .str [108, 101, 102, 116], .tup [], .lst [], .dct [], .tup [.non], .tup [.str [97]]] : List D), Odd 0 x := by
  intro x h
  have str : ∀ s : List Nat, s.length ≤ 60 → (∀ c ∈ s, c < 1114112) → Odd 0 (.str s) := fun s l h => ⟨by simpa using h, by simp, fun p c P q => by have := q s l; simp [oddA, oddB]; omega⟩
  have int : ∀ i : Int, i.natAbs ≤ 10 ^ 30 → Odd 0 (.int i) := fun i h => ⟨by simpa using h, by simp, fun p c P q => by simp⟩
  simp only [List.mem_cons, List.not_mem_nil, or_false] at h
  rcases h with rfl | rfl | rfl | rfl | rfl | rfl | rfl | rfl | rfl | rfl | rfl | rfl | rfl | rfl | rfl | rfl
  · exact ⟨by simp, by simp, fun p c P q => by simp⟩
  · exact ⟨by simp, by simp, fun p c P q => by simp⟩
  · exact ⟨by simp, by simp, fun p c P q => by simp⟩
  · exact int _ (by decide)
  · exact int _ (by decide)
  · exact int _ (by decide)
  · exact int _ (by decide)
  · exact str _ (by decide) (by decide)
  · exact str _ (by decide) (by decide)
  · exact str _ (by decide) (by decide)
  · exact str _ (by decide) (by decide)
  · exact ⟨by simp, by simp, fun p c P q => by simp⟩
  · exact ⟨by simp, by simp, fun p c P q => by simp⟩
  · exact ⟨by simp [avk], by simp [D.dp, toPD, toPDk, PySem.PyData.depth, PySem.PyData.depthKv], fun p c P q => by simp [D.mz, mzk]⟩
  · exact ⟨by simp, by simp, fun p c P q => by simp [oddA, oddB]⟩
  · exact ⟨by simp, by simp, fun p c P q => by have := q [97] (by decide); simp [oddA, oddB]; omega⟩
theorem odd_tab (k : Nat) : (oddA k + 1 ≤ oddA (k + 1) ∨ 5 ≤ k) ∧ (oddB k + 2 ≤ oddB (k + 1) ∨ 5 ≤ k) ∧ (3 ≤ k ∨ (2 * oddA k ≤ oddA (k + 1) ∧ 2 * oddB k + 2 ≤ oddB (k + 1))) := by
  have : k = 0 ∨ k = 1 ∨ k = 2 ∨ k = 3 ∨ k = 4 ∨ 5 ≤ k := by omega
  rcases this with rfl | rfl | rfl | rfl | rfl | h <;> simp [oddA, oddB] <;> omega
theorem odd_step {k : Nat} {x y : D} (h : Odd k x) (l : k < 5) (q : y = .tup [x] ∨ y = .lst [x] ∨ y = .dct [(.str [97], x)] ∨ (y = .tup [x, x] ∧ k < 3)) : Odd (k + 1) y := by
  obtain ⟨t1, t2, t3⟩ := odd_tab k
  have hdp := h.dp
  have a1 : ∀ P, oddA (k + 1) * P ≥ (oddA k + 1) * P := fun P => Nat.mul_le_mul_right P (by omega)
  have b1 : ∀ P, oddB (k + 1) * P ≥ (oddB k + 2) * P := fun P => Nat.mul_le_mul_right P (by omega)
  rcases q with rfl | rfl | rfl | ⟨rfl, k3⟩
  · refine ⟨by simpa using h.av, by simp; omega, fun p c P q => ?_⟩
    have := h.mz p c P q
    have := a1 P; have := b1 c
    simp only [mz_tup, mzs_cons, mzs_nil, Nat.add_mul] at *
    omega
  · refine ⟨by simpa using h.av, by simp; omega, fun p c P q => ?_⟩
    have := h.mz p c P q
    have := a1 P; have := b1 c
    simp only [mz_lst, mzs_cons, mzs_nil, Nat.add_mul] at *
    omega
  · refine ⟨by have := h.av; simp [avk, D.av]; exact this, ?_, fun p c P q => ?_⟩
    · show (PySem.PyData.depth (.dict [(toPD _, toPD x)])) ≤ _
      have e : (toPD x).depth ≤ k + 1 := hdp
      simp [PySem.PyData.depth, PySem.PyData.depthKv, toPD]; omega
    · have := h.mz p c P q
      have := q [97] (by decide)
      have := a1 P; have := b1 c
      simp only [D.mz, mzk, Nat.add_mul] at *
      omega
  · obtain ⟨u1, u2⟩ : 2 * oddA k ≤ oddA (k + 1) ∧ 2 * oddB k + 2 ≤ oddB (k + 1) := by omega
    refine ⟨by simpa using h.av, by simp; omega, fun p c P q => ?_⟩
    have := h.mz p c P q
    have m1 : (2 * oddA k) * P ≤ oddA (k + 1) * P := Nat.mul_le_mul_right P u1
    have m2 : (2 * oddB k + 2) * c ≤ oddB (k + 1) * c := Nat.mul_le_mul_right c u2
    simp only [mz_tup, mzs_cons, mzs_nil, Nat.add_mul, Nat.mul_assoc] at *
    omega
theorem odd_sp {P : Prog} {i ic m : Nat} (hF : P.F i = some ⟨1, 4, LB.odd ic⟩) (C : ChoiceSp (callF P m) ic) : OddSp (callF P (m + 1)) i := by
  intro b s L
  rw [call_run hF rfl]
  simp [LB.odd, small64, pairUp, okKeys, dputs]
  refine (C b s L _ (by simp) (by simp)).mono ?_
  rintro x _ ⟨t, hx, rfl⟩
  have ox : Odd 0 x := odd0 x (by simpa using hx)
  simp
  refine (C b t L _ (by simp) (by simp)).mono ?_
  rintro n _ ⟨t2, hn, rfl⟩
  obtain ⟨N, rfl, N5⟩ : ∃ N : Nat, n = .int (N : Int) ∧ N ≤ 5 := by
    simp at hn
    rcases hn with rfl | rfl | rfl | rfl
    · exact ⟨0, rfl, by omega⟩
    · exact ⟨1, rfl, by omega⟩
    · exact ⟨2, rfl, by omega⟩
    · exact ⟨5, rfl, by omega⟩
  have c1 : (N : Int) ≤ 1000000 := by omega
  have c2 : (-1152921504606846976 : Int) ≤ N := by omega
  simp [c1, c2]
  refine WP.forN (OddI b L) ?_ ?_ ?_
  · rintro k e h lt ⟨t3, y, u1, u3, rfl, rfl, oy⟩
    have k0 : (0 : Int) ≤ 1 + (if (k : Int) < 3 then 1 else 0) := by split <;> omega
    have okk : okKeys [(MP.D.str [97], y)] = true := by simp [okKeys, okKey, keyOf, PySem.NestedKey.depth]
    simp [pairUp, okk, dputs, dput, k0]
    refine (C b t3 L _ (by simp) (by simp)).mono ?_
    rintro z _ ⟨t4, hz, rfl⟩
    simp
    refine ⟨t4, z, u1, some (.int k), rfl, rfl, odd_step oy (by omega) ?_⟩
    simp at hz
    rcases hz with rfl | rfl | rfl | hz
    · exact .inl rfl
    · exact .inr (.inl rfl)
    · exact .inr (.inr (.inl rfl))
    · by_cases k3 : (k : Int) < 3
      · rw [if_pos k3] at hz
        exact .inr (.inr (.inr ⟨by simpa using hz, by omega⟩))
      · rw [if_neg k3] at hz
        exact .inl (by simpa using hz)
  · rintro e h ⟨t3, y, u1, u3, rfl, rfl, oy⟩
    simp
    exact ⟨t3, oy.sm N5, rfl⟩
  · exact ⟨t2, x, _, _, rfl, rfl, ox⟩
/-! ### bent values -/
inductive Bnt : D → D → Prop
  | item {a b : List D} {x y : D} : Bnt x y → Bnt (.tup (a ++ x :: b)) (.tup (a ++ y :: b))
  | cut {a b : List D} {x : D} : Bnt (.tup (a ++ x :: b)) (.tup (a ++ b))
  | dup {a b : List D} {x : D} : Bnt (.tup (a ++ x :: b)) (.tup (a ++ x :: x :: b))
  | rev {a b : List D} : Bnt (.tup (a ++ b)) (.tup (a ++ b.reverse))
  | lst {a : List D} : Bnt (.tup a) (.lst a)
  | dbl {a : List D} : Bnt (.tup a) (.tup (a ++ a))
  | wrap {a : List D} : Bnt (.tup a) (.tup [.tup a])
  | inc {i : Int} : Bnt (.int i) (.int (i + 1))
  | neg {i : Int} : Bnt (.int i) (.int (-i))
  | txt {i : Int} : Bnt (.int i) (.str (strOfInt i))
  | sm {v x : D} : Sm x → Bnt v x
theorem strOfInt_nat (n : Nat) : strOfInt (n : Int) = TL.numL n := TL.tl_num n
theorem strOfInt_neg (m : Nat) : strOfInt (Int.negSucc m) = 45 :: TL.numL (m + 1) := by
  have e : (toString (Int.negSucc m) : String) = "-" ++ Nat.repr (m + 1) := rfl
  have e2 := TL.tl_num (m + 1)
  have e3 : (toString ((m + 1 : Nat) : Int) : String) = Nat.repr (m + 1) := rfl
  rw [e3] at e2
  show (PySem.Str.ofString (toString (Int.negSucc m))).cps.toList = _
  rw [e, ← e2]
  show _ = 45 :: (PySem.Str.ofString (Nat.repr (m + 1))).cps.toList
  rw [PySem.Str.ofString_eq_toList, PySem.Str.ofString_eq_toList, String.toList_append, List.map_append]
  rfl
theorem strOfInt_small (i : Int) : ∀ c ∈ strOfInt i, c = 45 ∨ (48 ≤ c ∧ c ≤ 57) := by
  intro c h
  cases i with
  | ofNat n =>
    rw [show strOfInt (Int.ofNat n) = TL.numL n from strOfInt_nat n] at h
    exact .inr (TL.numL_digits n c h)
  | negSucc m =>
    rw [strOfInt_neg] at h
    rcases List.mem_cons.mp h with rfl | h
    · exact .inl rfl
    · exact .inr (TL.numL_digits _ c h)
theorem strOfInt_len {i : Int} {k : Nat} (hk : 0 < k) (h : i.natAbs < 10 ^ k) : (strOfInt i).length ≤ k + 1 := by
  cases i with
  | ofNat n =>
    rw [show strOfInt (Int.ofNat n) = TL.numL n from strOfInt_nat n]
    exact Nat.le_succ_of_le (TL.numL_len hk h)
  | negSucc m =>
    rw [strOfInt_neg, List.length_cons]
    have := TL.numL_len hk (show m + 1 < 10 ^ k from h)
    omega
/-- what is kept by bending -/
theorem Bnt.keep {N : Nat} (hN : 10 ^ 30 ≤ N) (hM : N + 1 < 10 ^ 45) : ∀ {v w : D}, Bnt v w → AV N v → AV (N + 1) w ∧ w.dp ≤ v.dp + 7 ∧ ∀ (p : List Nat → Nat) (c P : Nat), (∀ s : List Nat, s.length ≤ 60 → p s ≤ P) → w.mz p c ≤ max (2 * v.mz p c) (v.mz p c + (17 * P + 26 * c)) := by
  intro v w h
  induction h with
  | @item a b x y h ih =>
    intro av
    simp only [AV_tup, AVs_app, AVs_cons] at av ⊢
    obtain ⟨i1, i2, i3⟩ := ih av.2.1
    refine ⟨⟨av.1.up (by omega), i1, av.2.2.up (by omega)⟩, by simp; omega, fun p c P q => ?_⟩
    have := i3 p c P q
    simp only [mz_tup, mzs_app, mzs_cons]
    omega
  | cut =>
    intro av
    simp only [AV_tup, AVs_app, AVs_cons] at av ⊢
    refine ⟨⟨av.1.up (by omega), av.2.2.up (by omega)⟩, by simp; omega, fun p c P q => ?_⟩
    simp only [mz_tup, mzs_app, mzs_cons]
    omega
  | dup =>
    intro av
    simp only [AV_tup, AVs_app, AVs_cons] at av ⊢
    refine ⟨⟨av.1.up (by omega), av.2.1.up (by omega), av.2.1.up (by omega), av.2.2.up (by omega)⟩, by simp; omega, fun p c P q => ?_⟩
    simp only [mz_tup, mzs_app, mzs_cons]
    omega
  | rev =>
    intro av
    simp only [AV_tup, AVs_app, AVs_cons] at av ⊢
    refine ⟨⟨av.1.up (by omega), av.2.rev.up (by omega)⟩, by simp, fun p c P q => ?_⟩
    simp only [mz_tup, mzs_app, mzs_rev]
    omega
  | lst =>
    intro av
    simp only [AV_tup, AV_lst] at av ⊢
    refine ⟨av.up (by omega), by simp, fun p c P q => ?_⟩
    simp only [mz_tup, mz_lst]
    omega
  | dbl =>
    intro av
    simp only [AV_tup, AVs_app] at av ⊢
    refine ⟨⟨av.up (by omega), av.up (by omega)⟩, by simp, fun p c P q => ?_⟩
    simp only [mz_tup, mzs_app]
    omega
  | wrap =>
    intro av
    simp only [AV_tup, AVs_cons, AVs_nil, and_true] at av ⊢
    refine ⟨av.up (by omega), by simp, fun p c P q => ?_⟩
    simp only [mz_tup, mzs_cons, mzs_nil]
    omega
  | @inc i =>
    intro av
    simp only [AV_int] at av ⊢
    exact ⟨by omega, by simp, fun p c P q => by simp⟩
  | @neg i =>
    intro av
    simp only [AV_int] at av ⊢
    exact ⟨by omega, by simp, fun p c P q => by simp⟩
  | @txt i =>
    intro av
    simp only [AV_int, AV_str] at av ⊢
    refine ⟨fun c q => by have := strOfInt_small i c q; omega, by simp, fun p c P q => ?_⟩
    have := q (strOfInt i) (Nat.le_trans (strOfInt_len (k := 45) (by decide) (by omega)) (by decide))
    simp
    omega
  | @sm v x h =>
    intro av
    refine ⟨h.av.up (by omega), by have := h.dp; omega, fun p c P q => ?_⟩
    have := h.mz p c P q
    omega
def LB.bentB (i_draw i_bent : Nat) : MSs := (.c (.asg (.t [.v 3, .v 4]) (.tup (.c (.call i_draw (.c (.var 0) (.c (.b1 .len (.var 1)) .n))) (.c (.call i_draw (.c (.var 0) (.c (.int 8) .n))) .n))))
  (.c (.ite (.cmp .lt (.var 4) (.int 5)) (.c (.ret (.bin .add (.bin .add (.sl (.var 1) .non (.var 3)) (.tup (.c (.call i_bent (.c (.var 0) (.c (.ix (.var 1) (.var 3)) .n))) .n))) (.sl (.var 1) (.bin .add (.var 3) (.int 1)) .non)))
  .n) .n)
  (.c (.ret (.ix (.lst (.c (.bin .add (.sl (.var 1) .non (.var 3)) (.sl (.var 1) (.bin .add (.var 3) (.int 1)) .non)) (.c (.bin .add (.sl (.var 1) .non (.bin .add (.var 3) (.int 1))) (.sl (.var 1) (.var 3) .non)) (.c (.bin .add (.sl (.var 1) .non (.var 3)) (.b1 .rev (.sl (.var 1) (.var 3) .non))) .n)))) (.bin .sub (.var 4) (.int 5))))
  .n)))
def LB.bentR (i_choice i_odd : Nat) : MSs := (.c (.ret (.call i_choice (.c (.var 0) (.c (.bin .add (.var 2) (.lst (.c (.call i_odd (.c (.var 0) .n)) (.c (.tup (.c (.str [97]) (.c (.str [120]) .n))) (.c (.tup (.c (.str [116, 97, 98, 108, 101]) (.c (.str [97]) .n))) .n))))) .n))))
  .n)
def LB.bentI (i_choice i_odd : Nat) : MSs := (.c (.ite (.isi [.int] (.var 1)) (.c (.asg (.v 2) (.bin .add (.var 2) (.lst (.c (.bin .add (.var 1) (.int 1)) (.c (.b1 .neg (.var 1)) (.c (.b1 .str (.var 1)) (.c (.cmp .eq (.var 1) (.int 1)) .n)))))))
  .n) .n) (LB.bentR i_choice i_odd))
def LB.bentT (i_choice i_odd : Nat) : MSs := (.c (.asg (.v 2) (.lst (.c .non (.c (.bl true) (.c (.int 0) (.c (.bin .pow (.int 10) (.int 9)) (.c (.b1 .neg (.bin .pow (.int 10) (.int 9))) (.c (.bin .add (.bin .pow (.int 10) (.int 9)) (.int 1)) (.c (.str [97]) (.c (.str [98]) (.c (.str [111, 110]) (.c (.str [97, 98, 99, 100, 101, 102, 103, 104]) (.c (.str [97, 98, 99, 100, 101, 102, 103, 104, 105]) .n)))))))))))))
  (.c (.asg (.v 2) (.bin .add (.var 2) (.lst (.c (.str [105, 110, 110, 101, 114]) (.c (.str [102, 117, 108, 108]) (.c (.str [102, 105, 108, 116, 101, 114]) .n))))))
  (.c (.ite (.isi [.tuple] (.var 1)) (.c (.asg (.v 2) (.bin .add (.var 2) (.lst (.c (.b1 .list (.var 1)) (.c (.bin .add (.var 1) (.var 1)) (.c (.tup (.c (.var 1) .n)) .n))))))
  .n) .n) (LB.bentI i_choice i_odd))))
def LB.bent (i_draw i_bent i_choice i_odd : Nat) : MSs := (.c (.ite (.and (.isi [.tuple] (.var 1)) (.and (.cmp .ne (.var 1) (.tup .n)) (.cmp .gt (.call i_draw (.c (.var 0) (.c (.int 5) .n))) (.int 0)))) (LB.bentB i_draw i_bent) .n) (LB.bentT i_choice i_odd))
def BentO (b : Bs) (L : List MO) (v : D) (w : D) (h' : MH) : Prop := ∃ t : Sr, Bnt v w ∧ h' = hp b t L
def BentSp (cf : CF) (i : Nat) (k : Nat) : Prop := ∀ (b : Bs) (s : Sr) (L : List MO) (v : D), AV NMAX v → v.dp ≤ 60 → v.mz (fun _ => 1) 1 ≤ 400000 → v.dp < k → WP NE (cf i [.ref b.r, v] (hp b s L)) (BentO b L v)
theorem isTup_of {v : D} {h : MH} (s : v.sh = true) : (∃ xs, v = .tup xs ∧ isTy v h .tuple = some true) ∨ ((∀ xs, v ≠ .tup xs) ∧ isTy v h .tuple = some false) := by
  cases v with
  | tup xs => exact .inl ⟨xs, rfl, rfl⟩
  | ref n => exact absurd s (by simp [D.sh])
  | _ => exact .inr ⟨fun _ => by simp, rfl⟩
theorem isInt_of {v : D} {h : MH} (s : v.sh = true) : (∃ i, v = .int i ∧ isTy v h .int = some true) ∨ (∃ i, v = .bl i ∧ isTy v h .int = some true) ∨ ((∀ i, v ≠ .int i) ∧ (∀ i, v ≠ .bl i) ∧ isTy v h .int = some false) := by
  cases v with
  | int i => exact .inl ⟨i, rfl, rfl⟩
  | bl i => exact .inr (.inl ⟨i, rfl, rfl⟩)
  | ref n => exact absurd s (by simp [D.sh])
  | _ => exact .inr (.inr ⟨fun _ => by simp, fun _ => by simp, rfl⟩)
def othersA : List D := [.non, .bl true, .int 0, .int (10 ^ 9), .int (-(10 ^ 9)), .int (10 ^ 9 + 1), .str [97], .str [98], .str [111, 110], .str [97, 98, 99, 100, 101, 102, 103, 104], .str [97, 98, 99, 100, 101, 102, 103, 104, 105], .str [105, 110, 110, 101, 114], .str [102, 117, 108, 108], .str [102, 105, 108, 116, 101, 114]]
theorem othersA_sm : ∀ x ∈ othersA, Sm x := by
  intro x h
  simp only [othersA, List.mem_cons, List.not_mem_nil, or_false] at h
  rcases h with rfl | rfl | rfl | rfl | rfl | rfl | rfl | rfl | rfl | rfl | rfl | rfl | rfl | rfl
  · exact Sm_non
  · exact Sm_bl _
  · exact Sm_int (by decide)
  · exact Sm_int (by decide)
  · exact Sm_int (by decide)
  · exact Sm_int (by decide)
  all_goals exact Sm_str (by decide) (by decide)
theorem pair_sm {s t : List Nat} (l1 : s.length ≤ 60) (h1 : ∀ c ∈ s, c < 1114112) (l2 : t.length ≤ 60) (h2 : ∀ c ∈ t, c < 1114112) : Sm (.tup [.str s, .str t]) :=
  ⟨by simp; exact ⟨h1, h2⟩, by simp, fun p c P q => by have := q s l1; have := q t l2; simp; omega⟩
def BentE (b : Bs) (L : List MO) (v : D) (fl : Fl) (h' : MH) : Prop := ∃ (t : Sr) (w : D), fl = .rt w ∧ Bnt v w ∧ h' = hp b t L
theorem bent_last {P : Prog} {cf : CF} {ic io : Nat} (C : ChoiceSp cf ic) (O : OddSp cf io) (b : Bs) (L : List MO) (v : D) (t : Sr) (others : List MP.D) (u3 u4 : Option MP.D) (l40 : others.length ≤ 40) (ho : ∀ x ∈ others, Bnt v x) :
    WP NE (execSs P cf (LB.bentR ic io) [some (.ref b.r), some v, some (.lst others), u3, u4] (hp b t L)) (BentE b L v) := by
  simp [LB.bentR]
  refine (O b t L).mono ?_
  rintro z _ ⟨t2, sz, rfl⟩
  have l : others.length + 3 ≤ 1000000 := by omega
  simp [l]
  refine (C b t2 L _ (by simp) (by simp; omega)).mono ?_
  rintro w _ ⟨t3, hw, rfl⟩
  simp
  refine ⟨t3, w, rfl, ?_, rfl⟩
  rcases List.mem_append.mp hw with hw | hw
  · exact ho w hw
  · simp at hw
    rcases hw with rfl | rfl | rfl
    · exact .sm sz
    · exact .sm (pair_sm (by decide) (by decide) (by decide) (by decide))
    · exact .sm (pair_sm (by decide) (by decide) (by decide) (by decide))
theorem bent_ints {P : Prog} {cf : CF} {ic io : Nat} (C : ChoiceSp cf ic) (O : OddSp cf io) (b : Bs) (L : List MO) (v : D) (av : AV NMAX v) (t : Sr) (others : List MP.D) (u3 u4 : Option MP.D) (l40 : others.length ≤ 30) (ho : ∀ x ∈ others, Bnt v x) :
    WP NE (execSs P cf (LB.bentI ic io) [some (.ref b.r), some v, some (.lst others), u3, u4] (hp b t L)) (BentE b L v) := by
  have l : others.length + 4 ≤ 1000000 := by omega
  rcases isInt_of (h := hp b t L) av.sh with ⟨n, rfl, ty⟩ | ⟨n, rfl, ty⟩ | ⟨_, _, ty⟩
  · have hn : n.natAbs ≤ NMAX := by simpa using av
    have lg : n.natAbs.log2 < 1920 := by
      by_cases z : n.natAbs = 0
      · rw [z]; decide
      · exact (Nat.log2_lt z).mpr (Nat.lt_of_le_of_lt hn (by decide))
    simp [LB.bentI, isTys, ty, lg, l]
    refine bent_last C O b L _ t _ _ _ (by simp; omega) fun x hx => ?_
    rcases List.mem_append.mp hx with hx | hx
    · exact ho x hx
    · simp at hx
      rcases hx with rfl | rfl | rfl | rfl
      · exact .inc
      · exact .neg
      · exact .txt
      · exact .sm (Sm_bl _)
  · have pe : PlE (.bl n) (.int 1) := PlE.of (Pl_bl _) (Pl_int _)
    simp [LB.bentI, isTys, ty, l, pe]
    refine bent_last C O b L _ t _ _ _ (by simp; omega) fun x hx => ?_
    rcases List.mem_append.mp hx with hx | hx
    · exact ho x hx
    · simp at hx
      rcases hx with rfl | rfl | rfl | rfl
      · exact .sm (Sm_int (by cases n <;> decide))
      · exact .sm (Sm_int (by cases n <;> decide))
      · exact .sm (Sm_str (by cases n <;> decide) (by cases n <;> decide))
      · exact .sm (Sm_bl _)
  · simp [LB.bentI, isTys, ty]
    exact bent_last C O b L v t _ _ _ (by omega) ho
theorem bent_tail {P : Prog} {cf : CF} {ic io : Nat} (C : ChoiceSp cf ic) (O : OddSp cf io) (b : Bs) (L : List MO) (v : D) (av : AV NMAX v) (t : Sr) (u2 u3 u4 : Option MP.D) (lx : ∀ xs, v = .tup xs → xs.length ≤ 400000) :
    WP NE (execSs P cf (LB.bentT ic io) [some (.ref b.r), some v, u2, u3, u4] (hp b t L)) (BentE b L v) := by
  have oa : ∀ x ∈ othersA, Bnt v x := fun x hx => .sm (othersA_sm x hx)
  rcases isTup_of (h := hp b t L) av.sh with ⟨xs, rfl, ty⟩ | ⟨nt, ty⟩
  · have l := lx xs rfl
    have l2 : xs.length + xs.length ≤ 1000000 := by omega
    simp [LB.bentT, isTys, ty, small64, l2]
    refine bent_ints C O b L _ av t _ _ _ (by simp) fun x hx => ?_
    have hx : x ∈ othersA ++ [.lst xs, .tup (xs ++ xs), .tup [.tup xs]] := by simpa [othersA] using hx
    rcases List.mem_append.mp hx with hx | hx
    · exact oa x hx
    · simp at hx
      rcases hx with rfl | rfl | rfl
      · exact .lst
      · exact .dbl
      · exact .wrap
  · simp [LB.bentT, isTys, ty, small64]
    refine bent_ints C O b L v av t _ _ _ (by simp) fun x hx => ?_
    exact oa x (by simpa [othersA] using hx)
theorem len_mz {xs : List D} : xs.length ≤ mzs (fun _ => 1) 1 xs := by
  induction xs with
  | nil => simp
  | cons x r ih => simp; omega
theorem bent_sp {P : Prog} {i id ic io : Nat} (hF : P.F i = some ⟨2, 5, LB.bent id i ic io⟩) (Dr : ∀ n, DrawSp (callF P (n + 1)) id) (C : ∀ n, ChoiceSp (callF P (n + 2)) ic) (O : ∀ n, OddSp (callF P (n + 3)) io) : ∀ k, BentSp (callF P (k + 3)) i k := by
  intro k
  induction k with
  | zero => intro b s L v _ _ _ h; omega
  | succ k ih =>
    intro b s L v av d60 m4 dk
    rw [show k + 1 + 3 = (k + 3) + 1 by omega, call_run hF rfl]
    have lx : ∀ xs, v = .tup xs → xs.length ≤ 400000 := by
      rintro xs rfl
      have := len_mz (xs := xs)
      simp at m4; omega
    have fin : ∀ fl h', BentE b L v fl h' → BentO b L v (flV fl) (trim (hp b s L).length (flV fl) h') := by
      rintro _ _ ⟨t, w, rfl, bw, rfl⟩
      rw [trim_same (by simp)]
      exact ⟨t, bw, rfl⟩
    have tail : ∀ (t : Sr) (u2 u3 u4 : Option MP.D), WP NE (execSs P (callF P (k + 3)) (LB.bentT ic io) [some (.ref b.r), some v, u2, u3, u4] (hp b t L)) fun fl h' => BentO b L v (flV fl) (trim (hp b s L).length (flV fl) h') :=
      fun t u2 u3 u4 => (bent_tail (C (k + 1)) (O k) b L v av t u2 u3 u4 lx).mono fin
    rcases isTup_of (h := hp b s L) av.sh with ⟨xs, rfl, ty⟩ | ⟨nt, ty⟩
    · have dx : dps xs ≤ 60 := by simp at d60; omega
      have axs : AVs NMAX xs := by simpa using av
      have l0 := lx xs rfl
      simp [LB.bent, isTys, ty, PlE_nil axs dx, eqD_nilA]
      refine WC.of (fun e => ?_) (fun e => ?_)
      · simp [eqD_nilA, e]
        exact tail _ _ _ _
      · simp [eqD_nilA, e]
        refine (Dr (k + 2) b s L 5 (by omega) (by omega)).mono ?_
        rintro _ _ ⟨q, t, q0, q1, rfl, rfl⟩
        simp
        refine WC.ofD (fun hq => ?_) (fun hq => ?_)
        · have x0 : 0 < xs.length := by
            cases xs with
            | nil => simp at e
            | cons _ _ => simp
          simp [LB.bentB]
          refine (Dr (k + 2) b t L xs.length (by omega) (by omega)).mono ?_
          rintro _ _ ⟨at_, t2, a0, a1, rfl, rfl⟩
          simp
          refine (Dr (k + 2) b t2 L 8 (by omega) (by omega)).mono ?_
          rintro _ _ ⟨way, t3, w0, w1, rfl, rfl⟩
          obtain ⟨n, rfl⟩ : ∃ n : Nat, at_ = n := ⟨at_.toNat, by omega⟩
          have ln : n < xs.length := by omega
          have n1 : (0 : Int) ≤ (n : Int) + 1 := by omega
          have n2 : ((n : Int) + 1).toNat = n + 1 := by omega
          have split : xs = xs.take n ++ xs[n] :: xs.drop (n + 1) := by rw [List.getElem_cons_drop, List.take_append_drop]
          have split2 : xs.drop n = xs[n] :: xs.drop (n + 1) := by rw [List.getElem_cons_drop]
          have c1 : min n xs.length + 1 ≤ 1000000 := by omega
          have c2 : min n xs.length + (xs.length - n) ≤ 1000000 := by omega
          have c3 : min n xs.length + (xs.length - (n + 1)) ≤ 1000000 := by omega
          have c4 : min (n + 1) xs.length + (xs.length - n) ≤ 1000000 := by omega
          have c5 : min n xs.length + 1 + (xs.length - (n + 1)) ≤ 1000000 := by omega
          simp [n1, n2]
          refine WC.ofD (fun hw => ?_) (fun hw => ?_)
          · simp [n1, n2, atD_n, List.getElem?_eq_getElem ln]
            have mx : xs[n] ∈ xs := List.getElem_mem ln
            refine (ih b t3 L xs[n] (AVs_iff.mp axs _ mx) (by have := dp_le mx; omega) (by have := mz_le (p := fun _ => 1) (c := 1) mx; simp at m4; omega) (by have := dp_le mx; simp at dk; omega)).mono ?_
            rintro w _ ⟨t4, bw, rfl⟩
            simp [n1, n2, c1, c5]
            refine ⟨t4, ?_, rfl⟩
            have := Bnt.item (a := xs.take n) (b := xs.drop (n + 1)) bw
            rw [← split] at this
            exact this
          · have hw3 : way = 5 ∨ way = 6 ∨ way = 7 := by omega
            rcases hw3 with rfl | rfl | rfl <;> simp [n1, n2, c1, c2, c3, c4]
            · refine ⟨t3, ?_, rfl⟩
              have := Bnt.cut (a := xs.take n) (b := xs.drop (n + 1)) (x := xs[n])
              rw [← split] at this
              exact this
            · refine ⟨t3, ?_, rfl⟩
              have := Bnt.dup (a := xs.take n) (b := xs.drop (n + 1)) (x := xs[n])
              rw [← split] at this
              rw [List.take_succ_eq_append_getElem ln, split2, List.append_assoc]
              exact this
            · refine ⟨t3, ?_, rfl⟩
              have := Bnt.rev (a := xs.take n) (b := xs.drop n)
              rw [List.take_append_drop] at this
              exact this
        · simp
          exact tail _ _ _ _
    · simp [LB.bent, isTys, ty]
      exact tail _ _ _ _
end MP

/-! MPI: names, ascending texts. -/
namespace MP
open PySem PySem.W
@[simp] theorem trim_id (h : MH) (v : MP.D) : trim h.length v h = h := trim_same rfl
theorem blsOf_map {α : Type} (f : α → Bool) : ∀ xs : List α, blsOf (xs.map fun x => MP.D.bl (f x)) = some (xs.map f)
  | [] => rfl
  | x :: r => by rw [List.map_cons, blsOf, blsOf_map f r]; rfl
theorem all_map {α : Type} (f : α → Bool) (xs : List α) : (xs.map f).all id = xs.all f := by rw [List.all_map]; rfl
theorem any_map {α : Type} (f : α → Bool) (xs : List α) : (xs.map f).any id = xs.any f := by rw [List.any_map]; rfl
def LETTERS_ : List Nat := [97, 98, 99, 100, 101, 102, 103, 104, 105, 106, 107, 108, 109, 110, 111, 112, 113, 114, 115, 116, 117, 118, 119, 120, 121, 122]
def nameB (s : List Nat) : Bool := decide (1 ≤ s.length) && decide (s.length ≤ 8) && (s.all fun c => decide (c ∈ LETTERS_)) && !decide (s ∈ RESERVED_)
def isNameB : D → Bool
  | .str s => nameB s
  | _ => false
def isIntB : D → Bool
  | .int _ => true
  | _ => false
theorem isStr_of {v : D} {h : MH} (s : v.sh = true) : (∃ xs, v = .str xs ∧ isTy v h .str = some true) ∨ ((∀ xs, v ≠ .str xs) ∧ isTy v h .str = some false) := by
  cases v with
  | str xs => exact .inl ⟨xs, rfl, rfl⟩
  | ref n => exact absurd s (by simp [D.sh])
  | _ => exact .inr ⟨fun _ => by simp, rfl⟩
theorem isBool_of {v : D} {h : MH} (s : v.sh = true) : (∃ xs, v = .bl xs ∧ isTy v h .bool = some true) ∨ ((∀ xs, v ≠ .bl xs) ∧ isTy v h .bool = some false) := by
  cases v with
  | bl xs => exact .inl ⟨xs, rfl, rfl⟩
  | ref n => exact absurd s (by simp [D.sh])
  | _ => exact .inr ⟨fun _ => by simp, rfl⟩
def LB.is_integer : MSs := (.c (.ret (.and (.isi [.int] (.var 0)) (.b1 .not (.isi [.bool] (.var 0)))))
  .n)
theorem is_integer_sp {P : Prog} {i n : Nat} (hF : P.F i = some ⟨1, 1, LB.is_integer⟩) (h : MH) (v : D) (s : v.sh = true) : Gives (callF P (n + 1)) i [v] h (.bl (isIntB v)) := by
  unfold Gives
  rw [call_run hF rfl]
  cases v with
  | rol _ => cases s
  | ref _ => cases s
  | _ => simp [LB.is_integer, isTys, isTy, Ty.num, tyN, isN2, isIntB, trim_same]
def LB.is_cellL : MSs := (.c (.ret (.or (.isn false (.var 0)) (.and (.isi [.int] (.var 0)) (.b1 .not (.isi [.bool] (.var 0))))))
  .n)
def isCellB : D → Bool
  | .non => true
  | .int _ => true
  | _ => false
theorem is_cellL_sp {P : Prog} {i n : Nat} (hF : P.F i = some ⟨1, 1, LB.is_cellL⟩) (h : MH) (v : D) (s : v.sh = true) : Gives (callF P (n + 1)) i [v] h (.bl (isCellB v)) := by
  unfold Gives
  rw [call_run hF rfl]
  cases v with
  | rol _ => cases s
  | ref _ => cases s
  | _ => simp [LB.is_cellL, isTys, isTy, Ty.num, tyN, isN2, isCellB, trim_same]
def LB.is_name (gl gr gm : Nat) : MSs := (.c (.ite (.or (.b1 .not (.isi [.str] (.var 0))) (.b1 .not (.chn .le .le (.int 1) (.b1 .len (.var 0)) (.glb gm)))) (.c (.ret (.bl false))
  .n) .n)
  (.c (.ret (.and (.b1 .all (.lc [1] (.v 1) (.var 0) (.bl true) (.cmp .isin (.var 1) (.glb gl)))) (.cmp .notin (.var 0) (.glb gr))))
  .n))
theorem Pl_str {s : List Nat} (h : ∀ c ∈ s, c < 1114112) : Pl (.str s) := (PlN_str 0 h).pl (by omega)
theorem pls_res : pls (RESERVED_.map D.str) 29 = true := by decide +kernel
theorem mem_res (s : List Nat) : memD (.str s) (RESERVED_.map D.str) = decide (s ∈ RESERVED_) := by rw [eq_str.mem]; exact decide_eq_decide.mpr Iff.rfl
theorem letters_all (s : List Nat) : blsOf (s.map fun c => MP.D.bl (decide (c ∈ LETTERS_))) = some (s.map fun c => decide (c ∈ LETTERS_)) := blsOf_map _ s
theorem is_name_sp {P : Prog} {i n gl gr gm : Nat} (hF : P.F i = some ⟨1, 2, LB.is_name gl gr gm⟩) (hl : P.G gl = some (.str LETTERS_)) (hr : P.G gr = some (.tup (RESERVED_.map D.str))) (hm : P.G gm = some (.int 8)) (h : MH) (v : D) (av : AV NMAX v) (mz : v.mz List.length 1 ≤ 1000000) : Gives (callF P (n + 1)) i [v] h (.bl (isNameB v)) := by
  unfold Gives
  rw [call_run hF rfl]
  rcases isStr_of (h := h) av.sh with ⟨s, rfl, ty⟩ | ⟨nt, ty⟩
  · have lm : s.length ≤ 1000000 := by simpa using mz
    · simp [LB.is_name, isTys, ty, hm, lm]
      refine ⟨lm, ?_⟩
      refine WC.ofD (fun h1 => ?_) (fun h1 => ?_)
      · simp [hm]
        refine WC.ofD (fun h8 => ?_) (fun h8 => ?_)
        · have hs : s.length ≤ 8 := by omega
          simp [hl, wipe, chars]
          refine ⟨by omega, ?_⟩
          refine WP.compTM (as := s) (k := fun c => MP.D.str [c]) (fun c => .bl (decide (c ∈ LETTERS_))) (guarded_nil _) (fun c _ => by simp [hl]) ?_
          simp [letters_all, all_map]
          have e1 : isNameB (.str s) = ((s.all fun c => decide (c ∈ LETTERS_)) && !decide (s ∈ RESERVED_)) := by
            have a : decide (1 ≤ s.length) = true := decide_eq_true (by omega)
            have b : decide (s.length ≤ 8) = true := decide_eq_true hs
            simp only [isNameB, nameB, a, b, Bool.true_and]
          rw [e1]
          refine WC.of (fun e => ?_) (fun e => ?_)
          · have pl : Pl (.str s) := Pl_str (by simpa using av)
            simp [hr, pl, pls_res, mem_res, e, trim_same]
          · simp [e, trim_same]
        · simp [trim_same]
          have e1 : decide (s.length ≤ 8) = false := decide_eq_false (by omega)
          simp only [isNameB, nameB, e1, Bool.and_false, Bool.false_and]
      · simp [trim_same]
        have e1 : decide (1 ≤ s.length) = false := decide_eq_false (by omega)
        simp only [isNameB, nameB, e1, Bool.false_and]
  · simp [LB.is_name, isTys, ty, trim_same]
    cases v with
    | str s => exact absurd rfl (nt s)
    | _ => rfl
def LB.is_nameL : MSs := (.c (.ite (.or (.b1 .not (.isi [.str] (.var 0))) (.b1 .not (.chn .lt .lt (.int 0) (.b1 .len (.var 0)) (.int 9)))) (.c (.ret (.bl false))
  .n) .n)
  (.c (.asg (.v 1) (.lst (.c (.str [105, 110, 110, 101, 114]) (.c (.str [108, 101, 102, 116]) (.c (.str [114, 105, 103, 104, 116]) (.c (.str [102, 117, 108, 108]) (.c (.str [106, 111, 105, 110]) (.c (.str [111, 110]) (.c (.str [119, 104, 101, 114, 101]) (.c (.str [97, 110, 100]) (.c (.str [105, 115]) (.c (.str [110, 111, 116]) (.c (.str [110, 117, 108, 108]) .n)))))))))))))
  (.c (.ret (.and (.cmp .notin (.var 0) (.var 1)) (.b1 .all (.lc [2] (.v 2) (.var 0) (.bl true) (.cmp .isin (.var 2) (.str [97, 98, 99, 100, 101, 102, 103, 104, 105, 106, 107, 108, 109, 110, 111, 112, 113, 114, 115, 116, 117, 118, 119, 120, 121, 122]))))))
  .n)))
theorem is_nameL_sp {P : Prog} {i n : Nat} (hF : P.F i = some ⟨1, 3, LB.is_nameL⟩) (h : MH) (v : D) (av : AV NMAX v) (mz : v.mz List.length 1 ≤ 1000000) : Gives (callF P (n + 1)) i [v] h (.bl (isNameB v)) := by
  unfold Gives
  rw [call_run hF rfl]
  rcases isStr_of (h := h) av.sh with ⟨s, rfl, ty⟩ | ⟨nt, ty⟩
  · have lm : s.length ≤ 1000000 := by simpa using mz
    simp [LB.is_nameL, isTys, ty, lm]
    refine ⟨lm, ?_⟩
    refine WC.ofD (fun h1 => ?_) (fun h1 => ?_)
    · simp
      refine WC.ofD (fun h8 => ?_) (fun h8 => ?_)
      · have hs : s.length ≤ 8 := by omega
        have h0 : 1 ≤ s.length := by omega
        have pl : Pl (.str s) := Pl_str (by simpa using av)
        obtain ⟨rb, hrb⟩ : ∃ rb, rb = decide (s ∈ RESERVED_) := ⟨_, rfl⟩
        have mr := mem_res s
        have pr := pls_res
        have e1 : isNameB (.str s) = ((!decide (s ∈ RESERVED_)) && (s.all fun c => decide (c ∈ LETTERS_))) := by
          have a : decide (1 ≤ s.length) = true := decide_eq_true h0
          have b : decide (s.length ≤ 8) = true := decide_eq_true hs
          simp only [isNameB, nameB, a, b, Bool.true_and]
          exact Bool.and_comm _ _
        rw [e1]
        rw [← hrb] at mr ⊢
        simp only [RESERVED_, List.map_cons, List.map_nil] at mr pr
        simp [pl, pr, mr, wipe, chars]
        refine WC.of (fun e => ?_) (fun e => ?_)
        · simp [e, mr, trim_same]
        · simp [e, wipe, chars]
          refine ⟨by omega, ?_⟩
          refine WP.compTM (as := s) (k := fun c => MP.D.str [c]) (fun c => .bl (decide (c ∈ LETTERS_))) (guarded_nil _) (fun c _ => by simp [LETTERS_]) ?_
          simp [letters_all, all_map, trim_same, -List.all_eq_true]
          exact fun _ => e
      · simp [trim_same]
        have e1 : decide (s.length ≤ 8) = false := decide_eq_false (by omega)
        simp only [isNameB, nameB, e1, Bool.and_false, Bool.false_and]
    · simp [trim_same]
      have e1 : decide (1 ≤ s.length) = false := decide_eq_false (by omega)
      simp only [isNameB, nameB, e1, Bool.false_and]
  · simp [LB.is_nameL, isTys, ty, trim_same]
    cases v with
    | str s => exact absurd rfl (nt s)
    | _ => rfl
section
variable {R : Bool → Prop}
@[simp ↓] theorem o_ltS (s t : List Nat) : WO (cmpD .lt (.str s) (.str t)) R = R (decide (s < t)) := (rfl)
@[simp ↓] theorem o_leS (s t : List Nat) : WO (cmpD .le (.str s) (.str t)) R = R (!decide (t < s)) := (rfl)
@[simp ↓] theorem o_gtS (s t : List Nat) : WO (cmpD .gt (.str s) (.str t)) R = R (decide (t < s)) := (rfl)
@[simp ↓] theorem o_geS (s t : List Nat) : WO (cmpD .ge (.str s) (.str t)) R = R (!decide (s < t)) := (rfl)
end
/-! ### ascending texts -/
def ascB (xs : List (List Nat)) : Bool := (xs.zip (xs.tail)).all fun p => decide (p.1 < p.2)
theorem zipD_map {α β : Type} (f : α → D) (g : β → D) : ∀ (xs : List α) (ys : List β), zipD (xs.map f) (ys.map g) = (xs.zip ys).map fun p => .tup [f p.1, g p.2]
  | [], _ => by simp [zipD]
  | _ :: _, [] => by simp [zipD]
  | x :: xs, y :: ys => by simp [zipD, zipD_map f g xs ys]
theorem ascB_cons (a b : List Nat) (r : List (List Nat)) : ascB (a :: b :: r) = (decide (a < b) && ascB (b :: r)) := by simp [ascB]
theorem ascB_pair : ∀ {xs : List (List Nat)}, ascB xs = true ↔ xs.Pairwise (· < ·)
  | [] => by simp [ascB]
  | [a] => by simp [ascB]
  | a :: b :: r => by
    have ih := ascB_pair (xs := b :: r)
    rw [ascB_cons, Bool.and_eq_true, ih, decide_eq_true_eq, List.pairwise_cons (a := a)]
    constructor
    · rintro ⟨h1, h2⟩
      refine ⟨fun c hc => ?_, h2⟩
      rcases List.mem_cons.mp hc with rfl | hc
      · exact h1
      · exact List.lt_trans h1 ((List.pairwise_cons.mp h2).1 c hc)
    · rintro ⟨h1, h2⟩
      exact ⟨h1 b List.mem_cons_self, h2⟩
theorem ded_of_nodup {K : Type} [DecidableEq K] : ∀ {xs : List K}, xs.Nodup → ded xs = xs := by
  intro xs
  refine rev_ind (p := fun xs => xs.Nodup → ded xs = xs) (fun _ => rfl) (fun xs x ih nd => ?_) xs
  have nd := List.nodup_append.mp nd
  have ih := ih nd.1
  rw [ded_snoc, ih, if_neg]
  intro m
  exact nd.2.2 x m x (by simp) rfl
theorem asc_srt {xs : List (List Nat)} : ascB xs = decide (xs = srt D.str xs) := by
  rw [Bool.eq_iff_iff, ascB_pair, decide_eq_true_eq]
  have le : ∀ a b : List Nat, leD (D.str a) (D.str b) = !decide (b < a) := fun a b => by rw [leD_def, lt_str]
  constructor
  · intro h
    have nd : xs.Nodup := h.imp fun {a b} q e => by subst e; exact List.lt_irrefl _ q
    unfold srt
    rw [ded_of_nodup nd]
    refine (List.mergeSort_of_pairwise (h.imp fun {a b} q => ?_)).symm
    rw [le]
    have : ¬ b < a := fun z => List.lt_irrefl _ (List.lt_trans q z)
    simp [this]
  · intro e
    have nd : (srt D.str xs).Nodup := (List.mergeSort_perm _ _).nodup_iff.mpr (ded_nodup xs)
    have so : (srt D.str xs).Pairwise fun a b => leD (D.str a) (D.str b) = true := sort_pairwise (leD_total MP.D.str) (ded xs)
    rw [e]
    have nd : (srt D.str xs).Pairwise (· ≠ ·) := nd
    refine (so.and nd).imp fun {a b} q => ?_
    have q1 := q.1
    rw [le] at q1
    have q1 : ¬ b < a := by simpa using q1
    exact Classical.byContradiction fun z => q.2 (anti_str q1 z)
def LB.is_ascending : MSs := (.c (.ret (.b1 .all (.lc [1, 2] (.t [(.v 1), (.v 2)]) (.b2 .zip (.var 0) (.sl (.var 0) (.int 1) .non)) (.bl true) (.cmp .lt (.var 1) (.var 2)))))
  .n)
theorem zip_tail (xs : List (List Nat)) : zipD (xs.map MP.D.str) (xs.map MP.D.str).tail = (xs.zip (xs.tail)).map fun p => MP.D.tup [.str p.1, .str p.2] := by
  rw [← List.map_tail, zipD_map]
theorem is_ascending_sp {P : Prog} {i n : Nat} (hF : P.F i = some ⟨1, 3, LB.is_ascending⟩) (h : MH) (xs : List (List Nat)) (l : xs.length ≤ 1000000) : Gives (callF P (n + 1)) i [.tup (xs.map D.str)] h (.bl (ascB xs)) := by
  unfold Gives
  rw [call_run hF rfl]
  simp [LB.is_ascending, wipe, zip_tail]
  refine ⟨by omega, ?_⟩
  refine WP.compTM (as := xs.zip (xs.tail)) (k := fun p => MP.D.tup [.str p.1, .str p.2]) (fun p => .bl (decide (p.1 < p.2))) (guarded_nil _) (fun c _ => by simp) ?_
  have := blsOf_map (fun p : List Nat × List Nat => decide (p.1 < p.2)) (xs.zip (xs.tail))
  simp [this, all_map, trim_same, -List.all_eq_true]
  rfl
theorem is_ascendingL_sp {P : Prog} {i n : Nat} (hF : P.F i = some ⟨1, 3, LB.is_ascending⟩) (h : MH) (xs : List (List Nat)) (l : xs.length ≤ 1000000) : Gives (callF P (n + 1)) i [.lst (xs.map D.str)] h (.bl (ascB xs)) := by
  unfold Gives
  rw [call_run hF rfl]
  simp [LB.is_ascending, wipe, zip_tail]
  refine ⟨by omega, ?_⟩
  refine WP.compTM (as := xs.zip (xs.tail)) (k := fun p => MP.D.tup [.str p.1, .str p.2]) (fun p => .bl (decide (p.1 < p.2))) (guarded_nil _) (fun c _ => by simp) ?_
  have := blsOf_map (fun p : List Nat × List Nat => decide (p.1 < p.2)) (xs.zip (xs.tail))
  simp [this, all_map, trim_same, -List.all_eq_true]
  rfl
/-! ### columns, conditions of anything -/
structure Vl (v : D) : Prop where
  av : AV NMAX v
  mz : v.mz List.length 1 ≤ 12000
theorem Vl.mem {xs : List D} (h : Vl (.tup xs)) {x : D} (m : x ∈ xs) : Vl x := by
  obtain ⟨h1, h2⟩ := h
  simp only [AV_tup, mz_tup] at h1 h2
  have a := mz_le (p := List.length) (c := 1) m
  exact ⟨AVs_iff.mp h1 x m, by omega⟩
theorem len_mz1 {xs : List D} : xs.length ≤ mzs List.length 1 xs := by
  induction xs with
  | nil => simp
  | cons x r ih => simp; omega
theorem Vl.len {xs : List D} (h : Vl (.tup xs)) : xs.length ≤ 12000 := by
  have := len_mz1 (xs := xs)
  have := h.mz
  simp at this
  omega
theorem Vl.short {v : D} (V : Vl v) : v.mz List.length 1 ≤ 1000000 := by have := V.mz; omega
theorem two_of {α : Type} {xs : List α} (h : xs.length = 2) : ∃ a b, xs = [a, b] := by
  rcases xs with _ | ⟨a, _ | ⟨b, _ | ⟨d, r⟩⟩⟩ <;> simp at h
  exact ⟨a, b, rfl⟩
theorem three_of {α : Type} {xs : List α} (h : xs.length = 3) : ∃ a b c, xs = [a, b, c] := by
  rcases xs with _ | ⟨a, _ | ⟨b, _ | ⟨c, _ | ⟨d, r⟩⟩⟩⟩ <;> simp at h
  exact ⟨a, b, c, rfl⟩
def isColB : D → Bool
  | .tup [a, b] => isNameB a && isNameB b
  | _ => false
theorem isColB_len {xs : List D} (h : xs.length ≠ 2) : isColB (.tup xs) = false := by
  rcases xs with _ | ⟨a, _ | ⟨b, _ | ⟨d, r⟩⟩⟩ <;> simp [isColB] at *
def isSideB : D → Bool
  | .non => true
  | v => isColB v
def isBndB : D → Bool
  | .int i => decide (-1000000000 ≤ i) && decide (i ≤ 1000000000)
  | _ => false
def isCndB : D → Bool
  | .tup [l, r, b] => isSideB l && isSideB r && !(l.isNon && r.isNon) && isBndB b
  | _ => false
theorem isCndB_len {xs : List D} (h : xs.length ≠ 3) : isCndB (.tup xs) = false := by
  rcases xs with _ | ⟨a, _ | ⟨b, _ | ⟨c, _ | ⟨d, r⟩⟩⟩⟩ <;> simp [isCndB] at *
def LB.is_column (i_is_name : Nat) : MSs := (.c (.ret (.and (.isi [.tuple] (.var 0)) (.and (.cmp .eq (.b1 .len (.var 0)) (.int 2)) (.b1 .all (.lc [1] (.v 1) (.var 0) (.bl true) (.call i_is_name (.c (.var 1) .n)))))))
  .n)
theorem is_column_sp {P : Prog} {i j n : Nat} (hF : P.F i = some ⟨1, 2, LB.is_column j⟩) (Nm : ∀ h v, Vl v → Gives (callF P n) j [v] h (.bl (isNameB v))) (h : MH) (v : D) (V : Vl v) : Gives (callF P (n + 1)) i [v] h (.bl (isColB v)) := by
  unfold Gives
  rw [call_run hF rfl]
  rcases isTup_of (h := h) V.av.sh with ⟨xs, rfl, ty⟩ | ⟨nt, ty⟩
  · by_cases e2 : xs.length = 2
    · obtain ⟨a, b, rfl⟩ := two_of e2
      simp [LB.is_column, isTys, ty, wipe]
      refine WP.compM (fun x => .bl (isNameB x)) (guarded_nil _) (xs := [a, b]) (fun x m => ?_) ?_
      · simp
        refine (Nm h x (V.mem m)).mono ?_
        rintro _ h ⟨rfl, rfl⟩
        simp
      · simp [blsOf, isColB]
    · have e4 : ¬ (xs.length : Int) = 2 := by omega
      simp [LB.is_column, isTys, ty, e4, isColB_len e2]
  · simp [LB.is_column, isTys, ty]
    cases v with
    | tup s => exact absurd rfl (nt s)
    | _ => rfl
def LB.is_condition (gb : Nat) (i_is_column i_is_integer : Nat) : MSs := (.c (.ite (.or (.b1 .not (.isi [.tuple] (.var 0))) (.cmp .ne (.b1 .len (.var 0)) (.int 3))) (.c (.ret (.bl false))
  .n) .n)
  (.c (.asg (.t [(.v 1), (.v 2), (.v 3)]) (.var 0))
  (.c (.ite (.or (.b1 .not (.b1 .all (.lc [4] (.v 4) (.tup (.c (.var 1) (.c (.var 2) .n))) (.bl true) (.or (.isn false (.var 4)) (.call i_is_column (.c (.var 4) .n)))))) (.and (.isn false (.var 1)) (.isn false (.var 2)))) (.c (.ret (.bl false))
  .n) .n)
  (.c (.ret (.and (.call i_is_integer (.c (.var 3) .n)) (.chn .le .le (.b1 .neg (.glb gb)) (.var 3) (.glb gb))))
  .n))))
theorem isSideB_eq (v : D) : isSideB v = (v.isNon || isColB v) := by cases v <;> simp [isSideB, D.isNon]
theorem is_condition_sp {P : Prog} {i j k n gb : Nat} (hF : P.F i = some ⟨1, 5, LB.is_condition gb j k⟩) (hb : P.G gb = some (.int 1000000000)) (Co : ∀ h v, Vl v → Gives (callF P n) j [v] h (.bl (isColB v))) (In : ∀ h v, v.sh = true → Gives (callF P n) k [v] h (.bl (isIntB v))) (h : MH) (v : D) (V : Vl v) : Gives (callF P (n + 1)) i [v] h (.bl (isCndB v)) := by
  unfold Gives
  rw [call_run hF rfl]
  rcases isTup_of (h := h) V.av.sh with ⟨xs, rfl, ty⟩ | ⟨nt, ty⟩
  · by_cases e2 : xs.length = 3
    · obtain ⟨a, b, c, rfl⟩ := three_of e2
      simp [LB.is_condition, isTys, ty, wipe]
      refine WP.compM (fun x => .bl (isSideB x)) (guarded_nil _) (xs := [a, b]) (fun x m => ?_) ?_
      · have Vx : Vl x := V.mem (by simp at m ⊢; rcases m with m | m <;> simp [m])
        have nx := Vx.av.nr
        simp [isN_v]
        refine WC.of (fun e => ?_) (fun e => ?_)
        · simp [isSideB_eq, e]
        · simp [e]
          refine (Co h x Vx).mono ?_
          rintro _ h ⟨rfl, rfl⟩
          simp [isSideB_eq, e]
      · have nt : truthy (.d (.bl true)) h = some true := rfl
        cases ea : isSideB a <;> cases eb : isSideB b <;> cases na : a.isNon <;> cases nb : b.isNon <;> simp [blsOf, isN_v, ea, eb, na, nb, isCndB]
        all_goals
          refine (In h c (V.mem (by simp)).av.sh).mono ?_
          rintro _ h ⟨rfl, rfl⟩
          cases c with
          | int i =>
            simp [isIntB, hb]
            refine WC.ofD (fun h1 => ?_) (fun h1 => ?_)
            · simp [hb, isBndB, h1, ea, eb, na, nb]
            · simp [isBndB, h1]
          | _ => simp [isIntB, isBndB]
    · have e4 : ¬ (xs.length : Int) = 3 := by omega
      simp [LB.is_condition, isTys, ty, e4, isCndB_len e2]
  · simp [LB.is_condition, isTys, ty]
    cases v with
    | tup s => exact absurd rfl (nt s)
    | _ => rfl
/-! ### sizes of lists -/
theorem mzs_const {p : List Nat → Nat} {c k : Nat} {xs : List MP.D} (h : ∀ x ∈ xs, x.mz p c ≤ k) : mzs p c xs ≤ (k + c) * xs.length := by
  induction xs with
  | nil => simp
  | cons x r ih =>
    have := ih fun y q => h y (List.mem_cons_of_mem _ q)
    have := h x List.mem_cons_self
    rw [mzs_cons, List.length_cons, Nat.mul_add, Nat.mul_one]
    omega
theorem dps_const {k : Nat} {xs : List MP.D} (h : ∀ x ∈ xs, x.dp ≤ k) : dps xs ≤ k := by
  induction xs with
  | nil => simp
  | cons x r ih =>
    have := ih fun y q => h y (List.mem_cons_of_mem _ q)
    have := h x List.mem_cons_self
    rw [dps_cons]
    omega
theorem mzs_sub {p : List Nat → Nat} {c : Nat} {xs ys : List MP.D} (h : ys.Sublist xs) : mzs p c ys ≤ mzs p c xs := by
  induction h with
  | slnil => simp
  | cons a _ ih => rw [mzs_cons]; omega
  | cons_cons a _ ih => rw [mzs_cons, mzs_cons]; omega
theorem cut_sub {α : Type} (xs : List α) (a b : Nat) : (cutL xs a b).Sublist xs := (List.take_sublist _ _).trans (List.drop_sublist _ _)
theorem dps_mem {xs ys : List MP.D} (h : ∀ y ∈ ys, y ∈ xs) : dps ys ≤ dps xs := dps_const fun y q => dp_le (h y q)
end MP

set_option maxHeartbeats 0
namespace Law
open PySem PySem.Spec PyProof.Rows L2 MP MP.Dk
def top (i : Nat) : Stmt := PySem.Challenge.pw_joinequal_k11_chains_and_conflicts_of_an.main.body.getD i (.Pass ⟨0, 0, 0, 0⟩)
/-! is_integer -/
abbrev d0 : Stmt := top 1
abbrev N0 : List Str := ["value"]
abbrev p0 : List Str := ["value"]
def m0 : MSs := (.c (.ret (.and (.isi [.int] (.var 0)) (.b1 .not (.isi [.bool] (.var 0)))))
  .n)
theorem sc0 : FnScope N0 p0 (defScope d0) := ⟨rfl, rfl, rfl, by decide +kernel, rfl, by decide +kernel, by decide +kernel⟩
/-! order_key -/
abbrev d1 : Stmt := top 2
abbrev N1 : List Str := ["value", "item"]
abbrev p1 : List Str := ["value"]
def m1 : MSs := (.c (.ite (.isn false (.var 0)) (.c (.ret (.tup (.c (.int 0) .n)))
  .n) .n)
  (.c (.ite (.isi [.tuple] (.var 0)) (.c (.ret (.tup (.c (.int 1) (.c (.b1 .tuple (.lc [1] (.v 1) (.var 0) (.bl true) (.call 1 (.c (.var 1) .n)))) .n))))
  .n) .n)
  (.c (.ret (.tup (.c (.int 1) (.c (.var 0) .n))))
  .n)))
theorem sc1 : FnScope N1 p1 (defScope d1) := ⟨rfl, rfl, rfl, by decide +kernel, rfl, by decide +kernel, by decide +kernel⟩
/-! ascending -/
abbrev d2 : Stmt := top 3
abbrev N2 : List Str := ["values", "distinct", "value"]
abbrev p2 : List Str := ["values"]
def m2 : MSs := (.c (.asg (.v 1) (.dc [2] (.v 2) (.var 0) (.bl true) (.var 2) (.bl true)))
  (.c (.ret (.b1 .tuple (.srk 1 (.var 1))))
  .n))
theorem sc2 : FnScope N2 p2 (defScope d2) := ⟨rfl, rfl, rfl, by decide +kernel, rfl, by decide +kernel, by decide +kernel⟩
/-! columns_of -/
abbrev d3 : Stmt := top 4
abbrev N3 : List Str := ["conditions", "item", "left", "right", "bound"]
abbrev p3 : List Str := ["conditions"]
def m3 : MSs := (.c (.ret (.call 2 (.c (.lc2 [2, 3, 4, 1] (.t [(.v 2), (.v 3), (.v 4)]) (.var 0) (.bl true) [1] (.v 1) (.tup (.c (.var 2) (.c (.var 3) .n))) (.isn true (.var 1)) (.var 1)) .n)))
  .n)
theorem sc3 : FnScope N3 p3 (defScope d3) := ⟨rfl, rfl, rfl, by decide +kernel, rfl, by decide +kernel, by decide +kernel⟩
/-! are_indices -/
abbrev d4 : Stmt := top 6
abbrev N4 : List Str := ["conditions", "value", "index"]
abbrev p4 : List Str := ["conditions", "value"]
def m4 : MSs := (.c (.ite (.b1 .not (.isi [.tuple] (.var 1))) (.c (.ret (.bl false))
  .n) .n)
  (.c (.ret (.b1 .all (.lc [2] (.v 2) (.var 1) (.bl true) (.and (.call 0 (.c (.var 2) .n)) (.chn .le .lt (.int 0) (.var 2) (.b1 .len (.var 0)))))))
  .n))
theorem sc4 : FnScope N4 p4 (defScope d4) := ⟨rfl, rfl, rfl, by decide +kernel, rfl, by decide +kernel, by decide +kernel⟩
/-! are_linked -/
abbrev d5 : Stmt := top 7
abbrev N5 : List Str := ["conditions", "indices", "one", "two"]
abbrev p5 : List Str := ["conditions", "indices"]
def m5 : MSs := (.c (.ret (.b1 .all (.lc [2, 3] (.t [(.v 2), (.v 3)]) (.b2 .zip (.var 1) (.sl (.var 1) (.int 1) .non)) (.bl true) (.cmp .eq (.ix (.ix (.var 0) (.var 2)) (.int 1)) (.ix (.ix (.var 0) (.var 3)) (.int 0))))))
  .n)
theorem sc5 : FnScope N5 p5 (defScope d5) := ⟨rfl, rfl, rfl, by decide +kernel, rfl, by decide +kernel, by decide +kernel⟩
/-! bound_sum -/
abbrev d6 : Stmt := top 8
abbrev N6 : List Str := ["conditions", "indices", "index"]
abbrev p6 : List Str := ["conditions", "indices"]
def m6 : MSs := (.c (.ret (.b1 .sum (.lc [2] (.v 2) (.var 1) (.bl true) (.ix (.ix (.var 0) (.var 2)) (.int 2)))))
  .n)
theorem sc6 : FnScope N6 p6 (defScope d6) := ⟨rfl, rfl, rfl, by decide +kernel, rfl, by decide +kernel, by decide +kernel⟩
/-! shows_chain -/
abbrev d7 : Stmt := top 9
abbrev N7 : List Str := ["conditions", "condition", "value", "used", "left", "right", "bound", "column"]
abbrev p7 : List Str := ["conditions", "condition", "value"]
def m7 : MSs := (.c (.asg (.v 3) (.call 3 (.c (.var 0) .n)))
  (.c (.ite (.or (.b1 .not (.call 4 (.c (.var 0) (.c (.var 2) .n)))) (.b1 .not (.b1 .all (.lc [7] (.v 7) (.call 3 (.c (.tup (.c (.var 1) .n)) .n)) (.bl true) (.cmp .isin (.var 7) (.var 3)))))) (.c (.ret (.bl false))
  .n) .n)
  (.c (.asg (.t [(.v 4), (.v 5), (.v 6)]) (.var 1))
  (.c (.ite (.cmp .eq (.var 2) (.tup .n)) (.c (.ret (.and (.cmp .eq (.var 4) (.var 5)) (.cmp .ge (.var 6) (.int 0))))
  .n) .n)
  (.c (.ite (.or (.cmp .ne (.ix (.ix (.var 0) (.ix (.var 2) (.int 0))) (.int 0)) (.var 4)) (.cmp .ne (.ix (.ix (.var 0) (.ix (.var 2) (.b1 .neg (.int 1)))) (.int 1)) (.var 5))) (.c (.ret (.bl false))
  .n) .n)
  (.c (.ret (.and (.call 5 (.c (.var 0) (.c (.var 2) .n))) (.cmp .le (.call 6 (.c (.var 0) (.c (.var 2) .n))) (.var 6))))
  .n))))))
theorem sc7 : FnScope N7 p7 (defScope d7) := ⟨rfl, rfl, rfl, by decide +kernel, rfl, by decide +kernel, by decide +kernel⟩
/-! shows_conflict -/
abbrev d8 : Stmt := top 10
abbrev N8 : List Str := ["conditions", "value", "is_cycle"]
abbrev p8 : List Str := ["conditions", "value"]
def m8 : MSs := (.c (.ite (.or (.b1 .not (.call 4 (.c (.var 0) (.c (.var 1) .n)))) (.cmp .eq (.var 1) (.tup .n))) (.c (.ret (.bl false))
  .n) .n)
  (.c (.asg (.v 2) (.cmp .eq (.ix (.ix (.var 0) (.ix (.var 1) (.b1 .neg (.int 1)))) (.int 1)) (.ix (.ix (.var 0) (.ix (.var 1) (.int 0))) (.int 0))))
  (.c (.ret (.and (.var 2) (.and (.call 5 (.c (.var 0) (.c (.var 1) .n))) (.cmp .lt (.call 6 (.c (.var 0) (.c (.var 1) .n))) (.int 0)))))
  .n)))
theorem sc8 : FnScope N8 p8 (defScope d8) := ⟨rfl, rfl, rfl, by decide +kernel, rfl, by decide +kernel, by decide +kernel⟩
/-! _law_start -/
abbrev d9 : Stmt := top 12
abbrev N9 : List Str := ["_law_script", "_law_k", "_law_cell", "_law_large"]
abbrev p9 : List Str := ["_law_script", "_law_k"]
def m9 : MSs := (.c (.asg (.v 2) (.bin .add (.bin .mul (.int 3) (.var 1)) (.b1 .len (.var 0))))
  (.c (.ite (.cmp .lt (.var 1) (.b1 .len (.var 0))) (.c (.asg (.v 2) (.ix (.var 0) (.var 1)))
  .n) .n)
  (.c (.asg (.v 3) (.bin .mul (.bin .md (.b1 .abs (.var 2)) (.b1 .int (.bin .add (.str [49]) (.bin .mul (.str [48]) (.int 400))))) (.b1 .int (.cmp .ge (.b1 .abs (.var 2)) (.bin .pow (.int 10) (.int 18))))))
  (.c (.ret (.b1 .mut (.lst (.c (.var 3) (.c (.bin .md (.bin .mul (.bin .add (.bin .add (.bin .md (.var 2) (.int 2305843009213693951)) (.bin .mul (.bin .mul (.int 8191) (.var 1)) (.var 1))) (.int 17)) (.int 48271)) (.int 2305843009213693951)) .n)))))
  .n))))
theorem sc9 : FnScope N9 p9 (defScope d9) := ⟨rfl, rfl, rfl, by decide +kernel, rfl, by decide +kernel, by decide +kernel⟩
/-! _law_draw -/
abbrev d10 : Stmt := top 13
abbrev N10 : List Str := ["_law_source", "_law_limit", "_law_digit"]
abbrev p10 : List Str := ["_law_source", "_law_limit"]
def m10 : MSs := (.c (.ite (.cmp .gt (.ix (.var 0) (.int 0)) (.int 0)) (.c (.asg (.v 2) (.bin .md (.ix (.var 0) (.int 0)) (.var 1)))
  (.c (.iset (.var 0) (.int 0) (.bin .fdv (.ix (.var 0) (.int 0)) (.var 1)))
  (.c (.ret (.var 2))
  .n))) .n)
  (.c (.iset (.var 0) (.int 1) (.bin .md (.bin .add (.bin .mul (.ix (.var 0) (.int 1)) (.int 1181783497276652981)) (.int 12345678910987)) (.int 2305843009213693951)))
  (.c (.ret (.bin .md (.bin .fdv (.bin .md (.bin .mul (.bin .fdv (.ix (.var 0) (.int 1)) (.int 65537)) (.bin .add (.bin .md (.ix (.var 0) (.int 1)) (.int 65537)) (.int 3))) (.int 2305843009213693921)) (.int 97)) (.var 1)))
  .n)))
theorem sc10 : FnScope N10 p10 (defScope d10) := ⟨rfl, rfl, rfl, by decide +kernel, rfl, by decide +kernel, by decide +kernel⟩
/-! _law_choice -/
abbrev d11 : Stmt := top 14
abbrev N11 : List Str := ["_law_source", "_law_items"]
abbrev p11 : List Str := ["_law_source", "_law_items"]
def m11 : MSs := (.c (.ret (.ix (.var 1) (.call 10 (.c (.var 0) (.c (.b1 .len (.var 1)) .n)))))
  .n)
theorem sc11 : FnScope N11 p11 (defScope d11) := ⟨rfl, rfl, rfl, by decide +kernel, rfl, by decide +kernel, by decide +kernel⟩
/-! _law_is_integer -/
abbrev d12 : Stmt := top 15
abbrev N12 : List Str := ["_law_value"]
abbrev p12 : List Str := ["_law_value"]
def m12 : MSs := (.c (.ret (.and (.isi [.int] (.var 0)) (.b1 .not (.isi [.bool] (.var 0)))))
  .n)
theorem sc12 : FnScope N12 p12 (defScope d12) := ⟨rfl, rfl, rfl, by decide +kernel, rfl, by decide +kernel, by decide +kernel⟩
/-! _law_deep -/
abbrev d13 : Stmt := top 16
abbrev N13 : List Str := ["_law_levels", "_law_found", "_law_level"]
abbrev p13 : List Str := ["_law_levels"]
def m13 : MSs := (.c (.asg (.v 1) (.int 0))
  (.c (.for_ (.v 2) (.b1 .range (.var 0)) (.c (.asg (.v 1) (.ix (.lst (.c (.tup (.c (.var 1) .n)) (.c (.lst (.c (.var 1) .n)) (.c (.dct (.c (.str [97]) (.c (.var 1) .n))) .n)))) (.bin .md (.var 2) (.int 3))))
  .n))
  (.c (.ret (.var 1))
  .n)))
theorem sc13 : FnScope N13 p13 (defScope d13) := ⟨rfl, rfl, rfl, by decide +kernel, rfl, by decide +kernel, by decide +kernel⟩
/-! _law_some_columns -/
abbrev d14 : Stmt := top 17
abbrev N14 : List Str := ["_law_source", "_law_count", "_law_every", "_law_turn", "_law_found", "_law_left"]
abbrev p14 : List Str := ["_law_source", "_law_count"]
def m14 : MSs := (.c (.asg (.v 2) (.lst (.c (.tup (.c (.str [97]) (.c (.str [120]) .n))) (.c (.tup (.c (.str [98]) (.c (.str [120]) .n))) (.c (.tup (.c (.str [97]) (.c (.str [121]) .n))) (.c (.tup (.c (.str [116, 97, 98]) (.c (.str [120]) .n))) (.c (.tup (.c (.str [98]) (.c (.str [122, 122, 122, 122, 122, 122, 122, 122]) .n))) (.c (.tup (.c (.str [116, 97, 98]) (.c (.str [97]) .n))) .n))))))))
  (.c (.asg (.t [.v 4, .v 5]) (.tup (.c (.b1 .mut (.lst .n)) (.c (.b1 .mut (.b1 .list (.var 2))) .n))))
  (.c (.for_ (.v 3) (.b1 .range (.var 1)) (.c (.ex (.mb .append (.var 4) (.c (.mb .pop0 (.var 5) (.c (.call 10 (.c (.var 0) (.c (.b1 .len (.var 5)) .n))) .n)) .n)))
  .n))
  (.c (.ret (.b1 .frz (.var 4)))
  .n))))
theorem sc14 : FnScope N14 p14 (defScope d14) := ⟨rfl, rfl, rfl, by decide +kernel, rfl, by decide +kernel, by decide +kernel⟩
/-! _law_small_conditions -/
abbrev d15 : Stmt := top 18
abbrev N15 : List Str := ["_law_source", "_law_columns", "_law_count", "_law_most", "_law_found", "_law_turn", "_law_left", "_law_right_here"]
abbrev p15 : List Str := ["_law_source", "_law_columns", "_law_count", "_law_most"]
def m15 : MSs := (.c (.asg (.v 4) (.b1 .mut (.lst .n)))
  (.c (.for_ (.v 5) (.b1 .range (.var 2)) (.c (.asg (.v 6) (.call 11 (.c (.var 0) (.c (.bin .add (.var 1) (.lst (.c .non .n))) .n))))
  (.c (.asg (.v 7) (.call 11 (.c (.var 0) (.c (.bin .add (.var 1) (.bin .mul (.lst (.c .non .n)) (.b1 .int (.isn true (.var 6))))) .n))))
  (.c (.ex (.mb .append (.var 4) (.c (.tup (.c (.var 6) (.c (.var 7) (.c (.bin .sub (.call 10 (.c (.var 0) (.c (.bin .add (.bin .mul (.int 2) (.var 3)) (.int 1)) .n))) (.var 3)) .n)))) .n)))
  .n))))
  (.c (.ret (.b1 .tuple (.var 4)))
  .n)))
theorem sc15 : FnScope N15 p15 (defScope d15) := ⟨rfl, rfl, rfl, by decide +kernel, rfl, by decide +kernel, by decide +kernel⟩
/-! _law_used -/
abbrev d16 : Stmt := top 19
abbrev N16 : List Str := ["_law_conditions", "_law_found", "_law_left", "_law_right_here", "_law_bound", "_law_item"]
abbrev p16 : List Str := ["_law_conditions"]
def m16 : MSs := (.c (.asg (.v 1) (.b1 .mut (.lst .n)))
  (.c (.for_ (.t [(.v 2), (.v 3), (.v 4)]) (.var 0) (.c (.ex (.mw .extend (.var 1) (.lc [5] (.v 5) (.tup (.c (.var 2) (.c (.var 3) .n))) (.isn true (.var 5)) (.var 5))))
  .n))
  (.c (.ret (.b1 .sortset (.var 1)))
  .n)))
theorem sc16 : FnScope N16 p16 (defScope d16) := ⟨rfl, rfl, rfl, by decide +kernel, rfl, by decide +kernel, by decide +kernel⟩
/-! _law_is_chain -/
abbrev d17 : Stmt := top 20
abbrev N17 : List Str := ["_law_case", "_law_goal_here", "_law_links", "_law_link", "_law_here", "_law_rest", "_law_left", "_law_right_here", "_law_bound", "_law_item"]
abbrev p17 : List Str := ["_law_case", "_law_goal_here", "_law_links"]
def m17 : MSs := (.c (.ite (.b1 .not (.b1 .all (.lc [9] (.v 9) (.sl (.var 1) .non (.int 2)) (.bl true) (.or (.isn false (.var 9)) (.cmp .isin (.var 9) (.call 16 (.c (.var 0) .n))))))) (.c (.ret (.bl false))
  .n) .n)
  (.c (.asg (.t [.v 4, .v 5]) (.tup (.c (.ix (.var 1) (.int 0)) (.c (.ix (.var 1) (.int 2)) .n))))
  (.c (.for_ (.v 3) (.var 2) (.c (.asg (.t [(.v 6), (.v 7), (.v 8)]) (.ix (.var 0) (.var 3)))
  (.c (.ite (.cmp .ne (.var 6) (.var 4)) (.c (.ret (.bl false))
  .n) .n)
  (.c (.asg (.t [.v 4, .v 5]) (.tup (.c (.var 7) (.c (.bin .sub (.var 5) (.var 8)) .n))))
  .n))))
  (.c (.ret (.and (.cmp .eq (.var 4) (.ix (.var 1) (.int 1))) (.cmp .ge (.var 5) (.int 0))))
  .n))))
theorem sc17 : FnScope N17 p17 (defScope d17) := ⟨rfl, rfl, rfl, by decide +kernel, rfl, by decide +kernel, by decide +kernel⟩
/-! _law_is_conflict -/
abbrev d18 : Stmt := top 21
abbrev N18 : List Str := ["_law_case", "_law_links", "_law_link", "_law_here", "_law_rest", "_law_left", "_law_right_here", "_law_bound"]
abbrev p18 : List Str := ["_law_case", "_law_links"]
def m18 : MSs := (.c (.ite (.cmp .eq (.var 1) (.tup .n)) (.c (.ret (.bl false))
  .n) .n)
  (.c (.asg (.t [.v 3, .v 4]) (.tup (.c (.ix (.ix (.var 0) (.ix (.var 1) (.int 0))) (.int 0)) (.c (.int 0) .n))))
  (.c (.for_ (.v 2) (.var 1) (.c (.asg (.t [(.v 5), (.v 6), (.v 7)]) (.ix (.var 0) (.var 2)))
  (.c (.ite (.cmp .ne (.var 5) (.var 3)) (.c (.ret (.bl false))
  .n) .n)
  (.c (.asg (.t [.v 3, .v 4]) (.tup (.c (.var 6) (.c (.bin .add (.var 4) (.var 7)) .n))))
  .n))))
  (.c (.ret (.and (.cmp .eq (.var 3) (.ix (.ix (.var 0) (.ix (.var 1) (.int 0))) (.int 0))) (.cmp .lt (.var 4) (.int 0))))
  .n))))
theorem sc18 : FnScope N18 p18 (defScope d18) := ⟨rfl, rfl, rfl, by decide +kernel, rfl, by decide +kernel, by decide +kernel⟩
/-! _law_walk -/
abbrev d19 : Stmt := top 22
abbrev N19 : List Str := ["_law_source", "_law_case", "_law_length", "_law_found", "_law_turn", "_law_some", "_law_at"]
abbrev p19 : List Str := ["_law_source", "_law_case", "_law_length"]
def m19 : MSs := (.c (.asg (.v 3) (.b1 .mut (.lst .n)))
  (.c (.for_ (.v 4) (.b1 .range (.var 2)) (.c (.asg (.v 5) (.b1 .lrg (.b1 .len (.var 1))))
  (.c (.ite (.and (.cmp .ne (.var 3) (.lst .n)) (.cmp .gt (.call 10 (.c (.var 0) (.c (.int 5) .n))) (.int 0))) (.c (.asg (.v 5) (.lc [6] (.v 6) (.var 5) (.cmp .eq (.ix (.ix (.var 1) (.var 6)) (.int 0)) (.ix (.ix (.var 1) (.ix (.var 3) (.b1 .neg (.int 1)))) (.int 1))) (.var 6)))
  .n) .n)
  (.c (.ite (.cmp .eq (.var 5) (.lst .n)) (.c (.ret (.b1 .tuple (.var 3)))
  .n) .n)
  (.c (.ex (.mb .append (.var 3) (.c (.call 11 (.c (.var 0) (.c (.var 5) .n))) .n)))
  .n)))))
  (.c (.ret (.b1 .tuple (.var 3)))
  .n)))
theorem sc19 : FnScope N19 p19 (defScope d19) := ⟨rfl, rfl, rfl, by decide +kernel, rfl, by decide +kernel, by decide +kernel⟩
/-! _law_changed -/
abbrev d20 : Stmt := top 23
abbrev N20 : List Str := ["_law_source", "_law_links", "_law_count", "_law_at", "_law_strange", "_law_some"]
abbrev p20 : List Str := ["_law_source", "_law_links", "_law_count"]
def m20 : MSs := (.c (.asg (.v 3) (.call 10 (.c (.var 0) (.c (.bin .add (.b1 .len (.var 1)) (.int 1)) .n))))
  (.c (.asg (.v 4) (.call 11 (.c (.var 0) (.c (.lst (.c (.var 2) (.c (.b1 .neg (.int 1)) (.c (.bl true) (.c (.bl false) (.c .non (.c (.str [48]) (.c (.tup (.c (.int 0) .n)) (.c (.lst (.c (.int 0) .n)) (.c (.int 0) (.c (.bin .pow (.int 10) (.int 30)) .n))))))))))) .n))))
  (.c (.asg (.v 5) (.lst (.c (.b1 .list (.var 1)) (.c (.b1 .rev (.var 1)) (.c (.bin .add (.var 1) (.var 1)) (.c (.bin .add (.bin .add (.sl (.var 1) .non (.var 3)) (.tup (.c (.var 4) .n))) (.sl (.var 1) (.var 3) .non)) (.c (.bin .add (.sl (.var 1) .non (.var 3)) (.sl (.var 1) (.bin .add (.var 3) (.int 1)) .non)) .n)))))))
  (.c (.ret (.call 11 (.c (.var 0) (.c (.bin .add (.var 5) (.lst (.c (.bin .add (.bin .add (.sl (.var 1) .non (.var 3)) (.tup (.c (.var 4) .n))) (.sl (.var 1) (.bin .add (.var 3) (.int 1)) .non)) (.c (.tup (.c (.var 1) .n)) (.c (.bin .add (.var 1) (.tup (.c (.var 4) .n))) .n))))) .n))))
  .n))))
theorem sc20 : FnScope N20 p20 (defScope d20) := ⟨rfl, rfl, rfl, by decide +kernel, rfl, by decide +kernel, by decide +kernel⟩
/-! _law_right -/
abbrev d21 : Stmt := top 24
abbrev N21 : List Str := ["_law_case", "_law_goal_here", "_law_value", "_law_kept", "_law_found", "_law_due", "_law_link"]
abbrev p21 : List Str := ["_law_case", "_law_goal_here", "_law_value"]
def m21 : MSs := (.c (.asg (.v 3) (.b1 .repr (.lst (.c (.var 0) (.c (.var 1) (.c (.var 2) .n))))))
  (.c (.asg (.v 4) (.lst (.c (.call 7 (.c (.var 0) (.c (.var 1) (.c (.var 2) .n)))) (.c (.call 8 (.c (.var 0) (.c (.var 2) .n))) .n))))
  (.c (.asg (.v 5) (.lst (.c (.bl false) (.c (.bl false) .n))))
  (.c (.ite (.and (.isi [.tuple] (.var 2)) (.b1 .all (.lc [6] (.v 6) (.var 2) (.bl true) (.and (.call 12 (.c (.var 6) .n)) (.chn .le .lt (.int 0) (.var 6) (.b1 .len (.var 0))))))) (.c (.asg (.v 5) (.lst (.c (.call 17 (.c (.var 0) (.c (.var 1) (.c (.var 2) .n)))) (.c (.call 18 (.c (.var 0) (.c (.var 2) .n))) .n))))
  .n) .n)
  (.c (.ret (.and (.cmp .eq (.b1 .repr (.var 4)) (.b1 .repr (.var 5))) (.cmp .eq (.b1 .repr (.lst (.c (.var 0) (.c (.var 1) (.c (.var 2) .n))))) (.var 3))))
  .n)))))
theorem sc21 : FnScope N21 p21 (defScope d21) := ⟨rfl, rfl, rfl, by decide +kernel, rfl, by decide +kernel, by decide +kernel⟩
/-! _law_goal -/
abbrev d22 : Stmt := top 25
abbrev N22 : List Str := ["_law_source", "_law_case", "_law_links", "_law_columns", "_law_bound", "_law_left", "_law_right_here", "_law_link"]
abbrev p22 : List Str := ["_law_source", "_law_case", "_law_links", "_law_columns"]
def m22 : MSs := (.c (.ite (.or (.cmp .eq (.var 2) (.tup .n)) (.cmp .eq (.call 10 (.c (.var 0) (.c (.int 4) .n))) (.int 0))) (.c (.ret (.ix (.call 15 (.c (.var 0) (.c (.bin .add (.var 3) (.lst (.c (.tup (.c (.str [111, 116, 104, 101, 114]) (.c (.str [120]) .n))) .n))) (.c (.int 1) (.c (.int 2) .n))))) (.int 0)))
  .n) .n)
  (.c (.asg (.t [.v 5, .v 6]) (.tup (.c (.ix (.ix (.var 1) (.ix (.var 2) (.int 0))) (.int 0)) (.c (.ix (.ix (.var 1) (.ix (.var 2) (.b1 .neg (.int 1)))) (.int 1)) .n))))
  (.c (.asg (.v 4) (.bin .add (.b1 .sum (.lc [7] (.v 7) (.var 2) (.bl true) (.ix (.ix (.var 1) (.var 7)) (.int 2)))) (.call 11 (.c (.var 0) (.c (.lst (.c (.int 0) (.c (.int 1) (.c (.b1 .neg (.int 1)) (.c (.int 0) .n))))) .n)))))
  (.c (.ret (.ite (.and (.isn false (.var 5)) (.isn false (.var 6))) (.tup (.c (.ix (.var 3) (.int 0)) (.c (.ix (.var 3) (.int 0)) (.c (.var 4) .n)))) (.tup (.c (.var 5) (.c (.var 6) (.c (.var 4) .n))))))
  .n))))
theorem sc22 : FnScope N22 p22 (defScope d22) := ⟨rfl, rfl, rfl, by decide +kernel, rfl, by decide +kernel, by decide +kernel⟩
/-! law -/
abbrev d23 : Stmt := top 26
abbrev N23 : List Str := ["_law_script", "_law_k", "_law_source", "_law_turn", "_law_columns", "_law_case", "_law_links", "_law_goal_here", "_law_some", "_law_go", "_law_value"]
abbrev p23 : List Str := ["_law_script"]
def m23 : MSs := (.c (.for_ (.v 1) (.b1 .range (.b2 .max (.int 1) (.b2 .min (.int 3) (.b1 .len (.var 0))))) (.c (.asg (.v 2) (.call 9 (.c (.var 0) (.c (.var 1) .n))))
  (.c (.for_ (.v 3) (.b1 .range (.int 8)) (.c (.asg (.v 4) (.call 14 (.c (.var 2) (.c (.bin .add (.int 1) (.call 10 (.c (.var 2) (.c (.int 3) .n)))) .n))))
  (.c (.asg (.v 5) (.call 15 (.c (.var 2) (.c (.var 4) (.c (.call 10 (.c (.var 2) (.c (.int 9) .n))) (.c (.int 2) .n))))))
  (.c (.asg (.v 6) (.call 19 (.c (.var 2) (.c (.var 5) (.c (.call 10 (.c (.var 2) (.c (.int 7) .n))) .n)))))
  (.c (.asg (.v 7) (.call 22 (.c (.var 2) (.c (.var 5) (.c (.var 6) (.c (.var 4) .n))))))
  (.c (.asg (.v 8) (.bin .add (.lst (.c (.var 6) (.c (.tup .n) .n))) (.lc [9] (.v 9) (.b1 .range (.int 8)) (.bl true) (.call 20 (.c (.var 2) (.c (.var 6) (.c (.b1 .len (.var 5)) .n)))))))
  (.c (.asg (.v 8) (.bin .add (.var 8) (.lst (.c .non (.c (.bl true) (.c (.int 0) (.c (.str []) (.c (.lst .n) (.c (.dct .n) (.c (.call 13 (.c (.int 30) .n)) (.c (.tup (.c (.tup .n) .n)) (.c (.tup (.c (.bl true) .n)) (.c (.tup (.c (.int 0) .n)) (.c (.tup (.c (.int 0) (.c (.int 0) .n))) .n))))))))))))))
  (.c (.ite (.b1 .not (.b1 .all (.lc [10] (.v 10) (.var 8) (.bl true) (.call 21 (.c (.var 5) (.c (.var 7) (.c (.var 10) .n))))))) (.c (.ret (.bl false))
  .n) .n)
  .n))))))))
  .n)))
  (.c (.ret (.bl true))
  .n))
theorem sc23 : FnScope N23 p23 (defScope d23) := ⟨rfl, rfl, rfl, by decide +kernel, rfl, by decide +kernel, by decide +kernel⟩
/-- the mini program -/
def prg : Prog := ⟨fun i => [⟨1, 1, m0⟩, ⟨1, 2, m1⟩, ⟨1, 3, m2⟩, ⟨1, 5, m3⟩, ⟨2, 3, m4⟩, ⟨2, 4, m5⟩, ⟨2, 3, m6⟩, ⟨3, 8, m7⟩, ⟨2, 3, m8⟩, ⟨2, 4, m9⟩, ⟨2, 3, m10⟩, ⟨2, 2, m11⟩, ⟨1, 1, m12⟩, ⟨1, 3, m13⟩, ⟨2, 6, m14⟩, ⟨4, 8, m15⟩, ⟨1, 6, m16⟩, ⟨3, 10, m17⟩, ⟨2, 8, m18⟩, ⟨3, 7, m19⟩, ⟨3, 6, m20⟩, ⟨3, 7, m21⟩, ⟨4, 8, m22⟩, ⟨1, 11, m23⟩][i]?, fun g => ([] : List MP.D)[g]?, fun _ _ => none, fun _ => none⟩
def pss (i : Nat) : List Str := match i with
  | 0 => p0
  | 1 => p1
  | 2 => p2
  | 3 => p3
  | 4 => p4
  | 5 => p5
  | 6 => p6
  | 7 => p7
  | 8 => p8
  | 9 => p9
  | 10 => p10
  | 11 => p11
  | 12 => p12
  | 13 => p13
  | 14 => p14
  | 15 => p15
  | 16 => p16
  | 17 => p17
  | 18 => p18
  | 19 => p19
  | 20 => p20
  | 21 => p21
  | 22 => p22
  | 23 => p23
  | _ => []
/-- what the text and the heap behind it tell -/
structure Facts (K : PySem.W.Frag) (mg : Str → Option Value) (fa : Nat → Addr) (fd : Nat → FuncData) : Prop where
  s0 : Stat K mg "is_integer" d0 N0 (pss 0) (fa 0) (fd 0)
  s1 : Stat K mg "order_key" d1 N1 (pss 1) (fa 1) (fd 1)
  s2 : Stat K mg "ascending" d2 N2 (pss 2) (fa 2) (fd 2)
  s3 : Stat K mg "columns_of" d3 N3 (pss 3) (fa 3) (fd 3)
  s4 : Stat K mg "are_indices" d4 N4 (pss 4) (fa 4) (fd 4)
  s5 : Stat K mg "are_linked" d5 N5 (pss 5) (fa 5) (fd 5)
  s6 : Stat K mg "bound_sum" d6 N6 (pss 6) (fa 6) (fd 6)
  s7 : Stat K mg "shows_chain" d7 N7 (pss 7) (fa 7) (fd 7)
  s8 : Stat K mg "shows_conflict" d8 N8 (pss 8) (fa 8) (fd 8)
  s9 : Stat K mg "_law_start" d9 N9 (pss 9) (fa 9) (fd 9)
  s10 : Stat K mg "_law_draw" d10 N10 (pss 10) (fa 10) (fd 10)
  s11 : Stat K mg "_law_choice" d11 N11 (pss 11) (fa 11) (fd 11)
  s12 : Stat K mg "_law_is_integer" d12 N12 (pss 12) (fa 12) (fd 12)
  s13 : Stat K mg "_law_deep" d13 N13 (pss 13) (fa 13) (fd 13)
  s14 : Stat K mg "_law_some_columns" d14 N14 (pss 14) (fa 14) (fd 14)
  s15 : Stat K mg "_law_small_conditions" d15 N15 (pss 15) (fa 15) (fd 15)
  s16 : Stat K mg "_law_used" d16 N16 (pss 16) (fa 16) (fd 16)
  s17 : Stat K mg "_law_is_chain" d17 N17 (pss 17) (fa 17) (fd 17)
  s18 : Stat K mg "_law_is_conflict" d18 N18 (pss 18) (fa 18) (fd 18)
  s19 : Stat K mg "_law_walk" d19 N19 (pss 19) (fa 19) (fd 19)
  s20 : Stat K mg "_law_changed" d20 N20 (pss 20) (fa 20) (fd 20)
  s21 : Stat K mg "_law_right" d21 N21 (pss 21) (fa 21) (fd 21)
  s22 : Stat K mg "_law_goal" d22 N22 (pss 22) (fa 22) (fd 22)
  s23 : Stat K mg "law" d23 N23 (pss 23) (fa 23) (fd 23)
  b_abs : mg "abs" = none
  b_all : mg "all" = none
  b_bool : mg "bool" = none
  b_int : mg "int" = none
  b_isinstance : mg "isinstance" = none
  b_len : mg "len" = none
  b_list : mg "list" = none
  b_max : mg "max" = none
  b_min : mg "min" = none
  b_range : mg "range" = none
  b_repr : mg "repr" = none
  b_set : mg "set" = none
  b_sorted : mg "sorted" = none
  b_sum : mg "sum" = none
  b_tuple : mg "tuple" = none
  b_zip : mg "zip" = none
abbrev sx (K : PySem.W.Frag) (w : World) : Sx := ⟨K, w, prg, fun _ => none, fun _ => ""⟩
section
variable {P : Program} {w : World} {K : PySem.W.Frag} {mg : Str → Option Value} {base : Heap} {fa : Nat → Addr} {fd : Nat → FuncData} {cf : CF} {k : Nat} {f : Addr} {cdv : Value} {A : Around} {outer : List PySem.Env} {s : Shared} {H : Hp}
theorem b0 (F : Facts K mg fa fd) (R0 : AllR P w (sx K w) mg base fa fd pss cf k) (R : AllR P w (sx K w) mg base fa fd pss cf (k + 2)) (C : Ctx (bodyCx P w (sx K w) mg base N0 "is_integer" (defScope d0) f cdv A outer s H) (sx K w) (k + 2)) : BX (bodyCx P w (sx K w) mg base N0 "is_integer" (defScope d0) f cdv A outer s H) (sx K w) cf (defBody d0) m0 :=
  (b_cons (s_ret (e_and C (e_isi C (t := .int) (m := 2) rfl (by decide) F.b_isinstance F.b_int bt_int (e_var 0)) (e_one (e_not C (e_isi C (t := .bool) (m := 1) rfl (by decide) F.b_isinstance F.b_bool bt_bool (e_var 0))))))
  b_nil)
theorem b1 (F : Facts K mg fa fd) (R0 : AllR P w (sx K w) mg base fa fd pss cf k) (R : AllR P w (sx K w) mg base fa fd pss cf (k + 2)) (C : Ctx (bodyCx P w (sx K w) mg base N1 "order_key" (defScope d1) f cdv A outer s H) (sx K w) (k + 2)) : BX (bodyCx P w (sx K w) mg base N1 "order_key" (defScope d1) f cdv A outer s H) (sx K w) cf (defBody d1) m1 :=
  (b_cons (s_if ((t_isn false (e_var 0))) (b_cons (s_ret (e_tup (a_cons e_int a_nil)))
  b_nil) b_nil)
  (b_cons (s_if (t_val C (e_isi C (t := .tuple) (m := 4) rfl (by decide) F.b_isinstance F.b_tuple bt_tuple (e_var 0))) (b_cons (s_ret (e_tup (a_cons e_int (a_cons (e_fT (cx_tuple C) F.b_tuple bt_tuple (e_lc C [("item", 1)] (i_val C (e_var 0)) (by show BlkOk N1 (defScope d1) _ _; exact ⟨rfl, by decide +kernel, by decide +kernel, by decide +kernel, by decide +kernel⟩) (fun _ _ _ _ _ => (g_v 1 (C.blk _ _ _ _ _))) (fun _ _ _ _ _ => c_0) (fun _ _ _ _ _ => (e_call (C.blk _ _ _ _ _) F.s1 (R 1) (a_cons (e_var 1) a_nil))))) a_nil))))
  b_nil) b_nil)
  (b_cons (s_ret (e_tup (a_cons e_int (a_cons (e_var 0) a_nil))))
  b_nil)))
theorem b2 (F : Facts K mg fa fd) (R0 : AllR P w (sx K w) mg base fa fd pss cf k) (R : AllR P w (sx K w) mg base fa fd pss cf (k + 2)) (C : Ctx (bodyCx P w (sx K w) mg base N2 "ascending" (defScope d2) f cdv A outer s H) (sx K w) (k + 2)) : BX (bodyCx P w (sx K w) mg base N2 "ascending" (defScope d2) f cdv A outer s H) (sx K w) cf (defBody d2) m2 :=
  (b_cons (s_setDc 1 C [("value", 2)] (i_val C (e_var 0)) (by show BlkOk N2 (defScope d2) _ _; exact ⟨rfl, by decide +kernel, by decide +kernel, by decide +kernel, by decide +kernel⟩) (fun _ _ _ _ _ => (g_v 2 (C.blk _ _ _ _ _))) (fun _ _ _ _ _ => c_0) (fun _ _ _ _ _ => (e_var 2)) (fun _ _ _ _ _ => e_bl))
  (b_cons (s_ret (e_fT (cx_tuple C) F.b_tuple bt_tuple (e_srk C F.s1 (R0 1) F.b_sorted (e_var 1))))
  b_nil))
theorem b3 (F : Facts K mg fa fd) (R0 : AllR P w (sx K w) mg base fa fd pss cf k) (R : AllR P w (sx K w) mg base fa fd pss cf (k + 2)) (C : Ctx (bodyCx P w (sx K w) mg base N3 "columns_of" (defScope d3) f cdv A outer s H) (sx K w) (k + 2)) : BX (bodyCx P w (sx K w) mg base N3 "columns_of" (defScope d3) f cdv A outer s H) (sx K w) cf (defBody d3) m3 :=
  (b_cons (s_ret (e_call C F.s2 (R 2) (a_cons (e_lc2 C [("left", 2), ("right", 3), ("bound", 4), ("item", 1)] [1] (i_val C (e_var 0)) (by show BlkOk N3 (defScope d3) _ _; exact ⟨rfl, by decide +kernel, by decide +kernel, by decide +kernel, by decide +kernel⟩) (fun _ _ _ _ _ => (g_t (C.blk _ _ _ _ _) (gs_cons (g_v 2 (C.blk _ _ _ _ _)) (gs_cons (g_v 3 (C.blk _ _ _ _ _)) (gs_cons (g_v 4 (C.blk _ _ _ _ _)) gs_nil))))) (fun _ _ _ _ _ => c_0) (fun _ _ _ _ _ => (i_val (C.blk _ _ _ _ _) (e_tup (a_cons (e_var 2) (a_cons (e_var 3) a_nil))))) (fun _ _ _ _ _ => (g_v 1 (C.blk _ _ _ _ _))) (fun _ _ _ _ _ => (c_1 ((t_isn true (e_var 1))))) (fun _ _ _ _ _ => (e_var 1))) a_nil)))
  b_nil)
theorem b4 (F : Facts K mg fa fd) (R0 : AllR P w (sx K w) mg base fa fd pss cf k) (R : AllR P w (sx K w) mg base fa fd pss cf (k + 2)) (C : Ctx (bodyCx P w (sx K w) mg base N4 "are_indices" (defScope d4) f cdv A outer s H) (sx K w) (k + 2)) : BX (bodyCx P w (sx K w) mg base N4 "are_indices" (defScope d4) f cdv A outer s H) (sx K w) cf (defBody d4) m4 :=
  (b_cons (s_if (t_of (w_not (t_val C (e_isi C (t := .tuple) (m := 4) rfl (by decide) F.b_isinstance F.b_tuple bt_tuple (e_var 1))))) (b_cons (s_ret e_bl)
  b_nil) b_nil)
  (b_cons (s_ret (e_fB (cx_all C) F.b_all bt_all (e_lc C [("index", 2)] (i_val C (e_var 1)) (by show BlkOk N4 (defScope d4) _ _; exact ⟨rfl, by decide +kernel, by decide +kernel, by decide +kernel, by decide +kernel⟩) (fun _ _ _ _ _ => (g_v 2 (C.blk _ _ _ _ _))) (fun _ _ _ _ _ => c_0) (fun _ _ _ _ _ => (e_and (C.blk _ _ _ _ _) (e_call (C.blk _ _ _ _ _) F.s0 (R 0) (a_cons (e_var 2) a_nil)) (e_one (e_chn (C.blk _ _ _ _ _) .le .lt e_int (e_var 2) (e_fB (cx_len (C.blk _ _ _ _ _)) F.b_len bt_len (e_var 0)))))))))
  b_nil))
theorem b5 (F : Facts K mg fa fd) (R0 : AllR P w (sx K w) mg base fa fd pss cf k) (R : AllR P w (sx K w) mg base fa fd pss cf (k + 2)) (C : Ctx (bodyCx P w (sx K w) mg base N5 "are_linked" (defScope d5) f cdv A outer s H) (sx K w) (k + 2)) : BX (bodyCx P w (sx K w) mg base N5 "are_linked" (defScope d5) f cdv A outer s H) (sx K w) cf (defBody d5) m5 :=
  (b_cons (s_ret (e_fB (cx_all C) F.b_all bt_all (e_lc C [("one", 2), ("two", 3)] (i_zip C F.b_zip (e_var 1) (e_sl10 C (e_var 1) e_int)) (by show BlkOk N5 (defScope d5) _ _; exact ⟨rfl, by decide +kernel, by decide +kernel, by decide +kernel, by decide +kernel⟩) (fun _ _ _ _ _ => (g_t (C.blk _ _ _ _ _) (gs_cons (g_v 2 (C.blk _ _ _ _ _)) (gs_cons (g_v 3 (C.blk _ _ _ _ _)) gs_nil)))) (fun _ _ _ _ _ => c_0) (fun _ _ _ _ _ => (e_cmp (C.blk _ _ _ _ _) .eq (e_ix (C.blk _ _ _ _ _) (e_ix (C.blk _ _ _ _ _) (e_var 0) (e_var 2)) e_int) (e_ix (C.blk _ _ _ _ _) (e_ix (C.blk _ _ _ _ _) (e_var 0) (e_var 3)) e_int))))))
  b_nil)
theorem b6 (F : Facts K mg fa fd) (R0 : AllR P w (sx K w) mg base fa fd pss cf k) (R : AllR P w (sx K w) mg base fa fd pss cf (k + 2)) (C : Ctx (bodyCx P w (sx K w) mg base N6 "bound_sum" (defScope d6) f cdv A outer s H) (sx K w) (k + 2)) : BX (bodyCx P w (sx K w) mg base N6 "bound_sum" (defScope d6) f cdv A outer s H) (sx K w) cf (defBody d6) m6 :=
  (b_cons (s_ret (e_fB (cx_sum C) F.b_sum bt_sum (e_lc C [("index", 2)] (i_val C (e_var 1)) (by show BlkOk N6 (defScope d6) _ _; exact ⟨rfl, by decide +kernel, by decide +kernel, by decide +kernel, by decide +kernel⟩) (fun _ _ _ _ _ => (g_v 2 (C.blk _ _ _ _ _))) (fun _ _ _ _ _ => c_0) (fun _ _ _ _ _ => (e_ix (C.blk _ _ _ _ _) (e_ix (C.blk _ _ _ _ _) (e_var 0) (e_var 2)) e_int)))))
  b_nil)
theorem b7 (F : Facts K mg fa fd) (R0 : AllR P w (sx K w) mg base fa fd pss cf k) (R : AllR P w (sx K w) mg base fa fd pss cf (k + 2)) (C : Ctx (bodyCx P w (sx K w) mg base N7 "shows_chain" (defScope d7) f cdv A outer s H) (sx K w) (k + 2)) : BX (bodyCx P w (sx K w) mg base N7 "shows_chain" (defScope d7) f cdv A outer s H) (sx K w) cf (defBody d7) m7 :=
  (b_cons (s_set 3 C (e_call C F.s3 (R 3) (a_cons (e_var 0) a_nil)))
  (b_cons (s_if (t_of (w_or (t_of (w_not (t_val C (e_call C F.s4 (R 4) (a_cons (e_var 0) (a_cons (e_var 2) a_nil)))))) (w_or1 (t_of (w_not (t_val C (e_fB (cx_all C) F.b_all bt_all (e_lc C [("column", 7)] (i_val C (e_call C F.s3 (R 3) (a_cons (e_tup (a_cons (e_var 1) a_nil)) a_nil))) (by show BlkOk N7 (defScope d7) _ _; exact ⟨rfl, by decide +kernel, by decide +kernel, by decide +kernel, by decide +kernel⟩) (fun _ _ _ _ _ => (g_v 7 (C.blk _ _ _ _ _))) (fun _ _ _ _ _ => c_0) (fun _ _ _ _ _ => (e_cmp (C.blk _ _ _ _ _) .isin (e_var 7) (e_var 3))))))))))) (b_cons (s_ret e_bl)
  b_nil) b_nil)
  (b_cons (s_asg C (e_var 1) (g_t C (gs_cons (g_v 4 C) (gs_cons (g_v 5 C) (gs_cons (g_v 6 C) gs_nil)))))
  (b_cons (s_if ((t_cmp C .eq (e_var 2) (e_tup a_nil))) (b_cons (s_ret (e_and C (e_cmp C .eq (e_var 4) (e_var 5)) (e_one (e_cmp C .ge (e_var 6) e_int))))
  b_nil) b_nil)
  (b_cons (s_if (t_of (w_or ((t_cmp C .ne (e_ix C (e_ix C (e_var 0) (e_ix C (e_var 2) e_int)) e_int) (e_var 4))) (w_or1 ((t_cmp C .ne (e_ix C (e_ix C (e_var 0) (e_ix C (e_var 2) (e_neg e_int))) e_int) (e_var 5)))))) (b_cons (s_ret e_bl)
  b_nil) b_nil)
  (b_cons (s_ret (e_and C (e_call C F.s5 (R 5) (a_cons (e_var 0) (a_cons (e_var 2) a_nil))) (e_one (e_cmp C .le (e_call C F.s6 (R 6) (a_cons (e_var 0) (a_cons (e_var 2) a_nil))) (e_var 6)))))
  b_nil))))))
theorem b8 (F : Facts K mg fa fd) (R0 : AllR P w (sx K w) mg base fa fd pss cf k) (R : AllR P w (sx K w) mg base fa fd pss cf (k + 2)) (C : Ctx (bodyCx P w (sx K w) mg base N8 "shows_conflict" (defScope d8) f cdv A outer s H) (sx K w) (k + 2)) : BX (bodyCx P w (sx K w) mg base N8 "shows_conflict" (defScope d8) f cdv A outer s H) (sx K w) cf (defBody d8) m8 :=
  (b_cons (s_if (t_of (w_or (t_of (w_not (t_val C (e_call C F.s4 (R 4) (a_cons (e_var 0) (a_cons (e_var 1) a_nil)))))) (w_or1 ((t_cmp C .eq (e_var 1) (e_tup a_nil)))))) (b_cons (s_ret e_bl)
  b_nil) b_nil)
  (b_cons (s_set 2 C (e_cmp C .eq (e_ix C (e_ix C (e_var 0) (e_ix C (e_var 1) (e_neg e_int))) e_int) (e_ix C (e_ix C (e_var 0) (e_ix C (e_var 1) e_int)) e_int)))
  (b_cons (s_ret (e_and C (e_var 2) (e_and C (e_call C F.s5 (R 5) (a_cons (e_var 0) (a_cons (e_var 1) a_nil))) (e_one (e_cmp C .lt (e_call C F.s6 (R 6) (a_cons (e_var 0) (a_cons (e_var 1) a_nil))) e_int)))))
  b_nil)))
theorem b9 (F : Facts K mg fa fd) (R0 : AllR P w (sx K w) mg base fa fd pss cf k) (R : AllR P w (sx K w) mg base fa fd pss cf (k + 2)) (C : Ctx (bodyCx P w (sx K w) mg base N9 "_law_start" (defScope d9) f cdv A outer s H) (sx K w) (k + 2)) : BX (bodyCx P w (sx K w) mg base N9 "_law_start" (defScope d9) f cdv A outer s H) (sx K w) cf (defBody d9) m9 :=
  (b_cons (s_set 2 C (e_bin C .add (e_bin C .mul e_int (e_var 1)) (e_fB (cx_len C) F.b_len bt_len (e_var 0))))
  (b_cons (s_if ((t_cmp C .lt (e_var 1) (e_fB (cx_len C) F.b_len bt_len (e_var 0)))) (b_cons (s_set 2 C (e_ix C (e_var 0) (e_var 1)))
  b_nil) b_nil)
  (b_cons (s_set 3 C (e_bin C .mul (e_bin C .md (e_fB cx_abs F.b_abs bt_abs (e_var 2)) (e_fT cx_int F.b_int bt_int (e_bin C .add e_str (e_bin C .mul e_str e_int)))) (e_fT cx_int F.b_int bt_int (e_cmp C .ge (e_fB cx_abs F.b_abs bt_abs (e_var 2)) (e_bin C .pow e_int e_int)))))
  (b_cons (s_ret (e_mut (e_lst (a_cons (e_var 3) (a_cons (e_bin C .md (e_bin C .mul (e_bin C .add (e_bin C .add (e_bin C .md (e_var 2) e_int) (e_bin C .mul (e_bin C .mul e_int (e_var 1)) (e_var 1))) e_int) e_int) e_int) a_nil)))))
  b_nil))))
theorem b10 (F : Facts K mg fa fd) (R0 : AllR P w (sx K w) mg base fa fd pss cf k) (R : AllR P w (sx K w) mg base fa fd pss cf (k + 2)) (C : Ctx (bodyCx P w (sx K w) mg base N10 "_law_draw" (defScope d10) f cdv A outer s H) (sx K w) (k + 2)) : BX (bodyCx P w (sx K w) mg base N10 "_law_draw" (defScope d10) f cdv A outer s H) (sx K w) cf (defBody d10) m10 :=
  (b_cons (s_if ((t_cmp C .gt (e_ix C (e_var 0) e_int) e_int)) (b_cons (s_set 2 C (e_bin C .md (e_ix C (e_var 0) e_int) (e_var 1)))
  (b_cons (s_iset C (e_var 0) e_int (e_bin C .fdv (e_ix C (e_var 0) e_int) (e_var 1)))
  (b_cons (s_ret (e_var 2))
  b_nil))) b_nil)
  (b_cons (s_iset C (e_var 0) e_int (e_bin C .md (e_bin C .add (e_bin C .mul (e_ix C (e_var 0) e_int) e_int) e_int) e_int))
  (b_cons (s_ret (e_bin C .md (e_bin C .fdv (e_bin C .md (e_bin C .mul (e_bin C .fdv (e_ix C (e_var 0) e_int) e_int) (e_bin C .add (e_bin C .md (e_ix C (e_var 0) e_int) e_int) e_int)) e_int) e_int) (e_var 1)))
  b_nil)))
theorem b11 (F : Facts K mg fa fd) (R0 : AllR P w (sx K w) mg base fa fd pss cf k) (R : AllR P w (sx K w) mg base fa fd pss cf (k + 2)) (C : Ctx (bodyCx P w (sx K w) mg base N11 "_law_choice" (defScope d11) f cdv A outer s H) (sx K w) (k + 2)) : BX (bodyCx P w (sx K w) mg base N11 "_law_choice" (defScope d11) f cdv A outer s H) (sx K w) cf (defBody d11) m11 :=
  (b_cons (s_ret (e_ix C (e_var 1) (e_call C F.s10 (R 10) (a_cons (e_var 0) (a_cons (e_fB (cx_len C) F.b_len bt_len (e_var 1)) a_nil)))))
  b_nil)
theorem b12 (F : Facts K mg fa fd) (R0 : AllR P w (sx K w) mg base fa fd pss cf k) (R : AllR P w (sx K w) mg base fa fd pss cf (k + 2)) (C : Ctx (bodyCx P w (sx K w) mg base N12 "_law_is_integer" (defScope d12) f cdv A outer s H) (sx K w) (k + 2)) : BX (bodyCx P w (sx K w) mg base N12 "_law_is_integer" (defScope d12) f cdv A outer s H) (sx K w) cf (defBody d12) m12 :=
  (b_cons (s_ret (e_and C (e_isi C (t := .int) (m := 2) rfl (by decide) F.b_isinstance F.b_int bt_int (e_var 0)) (e_one (e_not C (e_isi C (t := .bool) (m := 1) rfl (by decide) F.b_isinstance F.b_bool bt_bool (e_var 0))))))
  b_nil)
theorem b13 (F : Facts K mg fa fd) (R0 : AllR P w (sx K w) mg base fa fd pss cf k) (R : AllR P w (sx K w) mg base fa fd pss cf (k + 2)) (C : Ctx (bodyCx P w (sx K w) mg base N13 "_law_deep" (defScope d13) f cdv A outer s H) (sx K w) (k + 2)) : BX (bodyCx P w (sx K w) mg base N13 "_law_deep" (defScope d13) f cdv A outer s H) (sx K w) cf (defBody d13) m13 :=
  (b_cons (s_set 1 C e_int)
  (b_cons (s_for C (i_range1 C F.b_range (e_var 0)) (g_v 2 C) (b_cons (s_set 1 C (e_ix C (e_lst (a_cons (e_tup (a_cons (e_var 1) a_nil)) (a_cons (e_lst (a_cons (e_var 1) a_nil)) (a_cons (e_dct C (d_cons e_str (e_var 1) d_nil)) a_nil)))) (e_bin C .md (e_var 2) e_int)))
  b_nil))
  (b_cons (s_ret (e_var 1))
  b_nil)))
theorem b14 (F : Facts K mg fa fd) (R0 : AllR P w (sx K w) mg base fa fd pss cf k) (R : AllR P w (sx K w) mg base fa fd pss cf (k + 2)) (C : Ctx (bodyCx P w (sx K w) mg base N14 "_law_some_columns" (defScope d14) f cdv A outer s H) (sx K w) (k + 2)) : BX (bodyCx P w (sx K w) mg base N14 "_law_some_columns" (defScope d14) f cdv A outer s H) (sx K w) cf (defBody d14) m14 :=
  (b_cons (s_set 2 C (e_lst (a_cons (e_tup (a_cons e_str (a_cons e_str a_nil))) (a_cons (e_tup (a_cons e_str (a_cons e_str a_nil))) (a_cons (e_tup (a_cons e_str (a_cons e_str a_nil))) (a_cons (e_tup (a_cons e_str (a_cons e_str a_nil))) (a_cons (e_tup (a_cons e_str (a_cons e_str a_nil))) (a_cons (e_tup (a_cons e_str (a_cons e_str a_nil))) a_nil))))))))
  (b_cons (s_par 4 5 C (a_cons (e_mut (e_lst a_nil)) (a_cons (e_mut (e_fT (cx_list C) F.b_list bt_list (e_var 2))) a_nil)))
  (b_cons (s_for C (i_range1 C F.b_range (e_var 1)) (g_v 3 C) (b_cons (s_ex (e_mb C PySem.F.plainAttrs_list PySem.F.slot_list_append PySem.F.type_list_append mx_append (e_var 4) (a_cons (e_mb C PySem.F.plainAttrs_list PySem.F.slot_list_pop PySem.F.type_list_pop mx_popAt (e_var 5) (a_cons (e_call C F.s10 (R 10) (a_cons (e_var 0) (a_cons (e_fB (cx_len C) F.b_len bt_len (e_var 5)) a_nil))) a_nil)) a_nil)))
  b_nil))
  (b_cons (s_ret (e_frz (e_var 4)))
  b_nil))))
theorem b15 (F : Facts K mg fa fd) (R0 : AllR P w (sx K w) mg base fa fd pss cf k) (R : AllR P w (sx K w) mg base fa fd pss cf (k + 2)) (C : Ctx (bodyCx P w (sx K w) mg base N15 "_law_small_conditions" (defScope d15) f cdv A outer s H) (sx K w) (k + 2)) : BX (bodyCx P w (sx K w) mg base N15 "_law_small_conditions" (defScope d15) f cdv A outer s H) (sx K w) cf (defBody d15) m15 :=
  (b_cons (s_set 4 C (e_mut (e_lst a_nil)))
  (b_cons (s_for C (i_range1 C F.b_range (e_var 2)) (g_v 5 C) (b_cons (s_set 6 C (e_call C F.s11 (R 11) (a_cons (e_var 0) (a_cons (e_bin C .add (e_var 1) (e_lst (a_cons e_non a_nil))) a_nil))))
  (b_cons (s_set 7 C (e_call C F.s11 (R 11) (a_cons (e_var 0) (a_cons (e_bin C .add (e_var 1) (e_bin C .mul (e_lst (a_cons e_non a_nil)) (e_fT cx_int F.b_int bt_int (e_isn true (e_var 6))))) a_nil))))
  (b_cons (s_ex (e_mb C PySem.F.plainAttrs_list PySem.F.slot_list_append PySem.F.type_list_append mx_append (e_var 4) (a_cons (e_tup (a_cons (e_var 6) (a_cons (e_var 7) (a_cons (e_bin C .sub (e_call C F.s10 (R 10) (a_cons (e_var 0) (a_cons (e_bin C .add (e_bin C .mul e_int (e_var 3)) e_int) a_nil))) (e_var 3)) a_nil)))) a_nil)))
  b_nil))))
  (b_cons (s_ret (e_fT (cx_tuple C) F.b_tuple bt_tuple (e_var 4)))
  b_nil)))
theorem b16 (F : Facts K mg fa fd) (R0 : AllR P w (sx K w) mg base fa fd pss cf k) (R : AllR P w (sx K w) mg base fa fd pss cf (k + 2)) (C : Ctx (bodyCx P w (sx K w) mg base N16 "_law_used" (defScope d16) f cdv A outer s H) (sx K w) (k + 2)) : BX (bodyCx P w (sx K w) mg base N16 "_law_used" (defScope d16) f cdv A outer s H) (sx K w) cf (defBody d16) m16 :=
  (b_cons (s_set 1 C (e_mut (e_lst a_nil)))
  (b_cons (s_for C (i_val C (e_var 0)) (g_t C (gs_cons (g_v 2 C) (gs_cons (g_v 3 C) (gs_cons (g_v 4 C) gs_nil)))) (b_cons (s_ex (e_mw C PySem.F.plainAttrs_list PySem.F.slot_list_extend PySem.F.type_list_extend (mx_extend C) (e_var 1) (e_lc C [("_law_item", 5)] (i_val C (e_tup (a_cons (e_var 2) (a_cons (e_var 3) a_nil)))) (by show BlkOk N16 (defScope d16) _ _; exact ⟨rfl, by decide +kernel, by decide +kernel, by decide +kernel, by decide +kernel⟩) (fun _ _ _ _ _ => (g_v 5 (C.blk _ _ _ _ _))) (fun _ _ _ _ _ => (c_1 ((t_isn true (e_var 5))))) (fun _ _ _ _ _ => (e_var 5)))))
  b_nil))
  (b_cons (s_ret (e_setX (sx_sorted C) F.b_sorted bt_sorted F.b_set (e_var 1)))
  b_nil)))
theorem b17 (F : Facts K mg fa fd) (R0 : AllR P w (sx K w) mg base fa fd pss cf k) (R : AllR P w (sx K w) mg base fa fd pss cf (k + 2)) (C : Ctx (bodyCx P w (sx K w) mg base N17 "_law_is_chain" (defScope d17) f cdv A outer s H) (sx K w) (k + 2)) : BX (bodyCx P w (sx K w) mg base N17 "_law_is_chain" (defScope d17) f cdv A outer s H) (sx K w) cf (defBody d17) m17 :=
  (b_cons (s_if (t_of (w_not (t_val C (e_fB (cx_all C) F.b_all bt_all (e_lc C [("_law_item", 9)] (i_val C (e_sl01 C (e_var 1) e_int)) (by show BlkOk N17 (defScope d17) _ _; exact ⟨rfl, by decide +kernel, by decide +kernel, by decide +kernel, by decide +kernel⟩) (fun _ _ _ _ _ => (g_v 9 (C.blk _ _ _ _ _))) (fun _ _ _ _ _ => c_0) (fun _ _ _ _ _ => (e_or (C.blk _ _ _ _ _) (e_isn false (e_var 9)) (e_one (e_cmp (C.blk _ _ _ _ _) .isin (e_var 9) (e_call (C.blk _ _ _ _ _) F.s16 (R 16) (a_cons (e_var 0) a_nil))))))))))) (b_cons (s_ret e_bl)
  b_nil) b_nil)
  (b_cons (s_par 4 5 C (a_cons (e_ix C (e_var 1) e_int) (a_cons (e_ix C (e_var 1) e_int) a_nil)))
  (b_cons (s_for C (i_val C (e_var 2)) (g_v 3 C) (b_cons (s_asg C (e_ix C (e_var 0) (e_var 3)) (g_t C (gs_cons (g_v 6 C) (gs_cons (g_v 7 C) (gs_cons (g_v 8 C) gs_nil)))))
  (b_cons (s_if ((t_cmp C .ne (e_var 6) (e_var 4))) (b_cons (s_ret e_bl)
  b_nil) b_nil)
  (b_cons (s_par 4 5 C (a_cons (e_var 7) (a_cons (e_bin C .sub (e_var 5) (e_var 8)) a_nil)))
  b_nil))))
  (b_cons (s_ret (e_and C (e_cmp C .eq (e_var 4) (e_ix C (e_var 1) e_int)) (e_one (e_cmp C .ge (e_var 5) e_int))))
  b_nil))))
theorem b18 (F : Facts K mg fa fd) (R0 : AllR P w (sx K w) mg base fa fd pss cf k) (R : AllR P w (sx K w) mg base fa fd pss cf (k + 2)) (C : Ctx (bodyCx P w (sx K w) mg base N18 "_law_is_conflict" (defScope d18) f cdv A outer s H) (sx K w) (k + 2)) : BX (bodyCx P w (sx K w) mg base N18 "_law_is_conflict" (defScope d18) f cdv A outer s H) (sx K w) cf (defBody d18) m18 :=
  (b_cons (s_if ((t_cmp C .eq (e_var 1) (e_tup a_nil))) (b_cons (s_ret e_bl)
  b_nil) b_nil)
  (b_cons (s_par 3 4 C (a_cons (e_ix C (e_ix C (e_var 0) (e_ix C (e_var 1) e_int)) e_int) (a_cons e_int a_nil)))
  (b_cons (s_for C (i_val C (e_var 1)) (g_v 2 C) (b_cons (s_asg C (e_ix C (e_var 0) (e_var 2)) (g_t C (gs_cons (g_v 5 C) (gs_cons (g_v 6 C) (gs_cons (g_v 7 C) gs_nil)))))
  (b_cons (s_if ((t_cmp C .ne (e_var 5) (e_var 3))) (b_cons (s_ret e_bl)
  b_nil) b_nil)
  (b_cons (s_par 3 4 C (a_cons (e_var 6) (a_cons (e_bin C .add (e_var 4) (e_var 7)) a_nil)))
  b_nil))))
  (b_cons (s_ret (e_and C (e_cmp C .eq (e_var 3) (e_ix C (e_ix C (e_var 0) (e_ix C (e_var 1) e_int)) e_int)) (e_one (e_cmp C .lt (e_var 4) e_int))))
  b_nil))))
theorem b19 (F : Facts K mg fa fd) (R0 : AllR P w (sx K w) mg base fa fd pss cf k) (R : AllR P w (sx K w) mg base fa fd pss cf (k + 2)) (C : Ctx (bodyCx P w (sx K w) mg base N19 "_law_walk" (defScope d19) f cdv A outer s H) (sx K w) (k + 2)) : BX (bodyCx P w (sx K w) mg base N19 "_law_walk" (defScope d19) f cdv A outer s H) (sx K w) cf (defBody d19) m19 :=
  (b_cons (s_set 3 C (e_mut (e_lst a_nil)))
  (b_cons (s_for C (i_range1 C F.b_range (e_var 2)) (g_v 4 C) (b_cons (s_set 5 C (e_lrg C F.b_list F.b_range (e_fB (cx_len C) F.b_len bt_len (e_var 1))))
  (b_cons (s_if (t_of (w_and ((t_cmp C .ne (e_var 3) (e_lst a_nil))) (w_and1 ((t_cmp C .gt (e_call C F.s10 (R 10) (a_cons (e_var 0) (a_cons e_int a_nil))) e_int))))) (b_cons (s_setLc 5 C [("_law_at", 6)] (i_val C (e_var 5)) (by show BlkOk N19 (defScope d19) _ _; exact ⟨rfl, by decide +kernel, by decide +kernel, by decide +kernel, by decide +kernel⟩) (fun _ _ _ _ _ => (g_v 6 (C.blk _ _ _ _ _))) (fun _ _ _ _ _ => (c_1 ((t_cmp (C.blk _ _ _ _ _) .eq (e_ix (C.blk _ _ _ _ _) (e_ix (C.blk _ _ _ _ _) (e_var 1) (e_var 6)) e_int) (e_ix (C.blk _ _ _ _ _) (e_ix (C.blk _ _ _ _ _) (e_var 1) (e_ix (C.blk _ _ _ _ _) (e_var 3) (e_neg e_int))) e_int))))) (fun _ _ _ _ _ => (e_var 6)))
  b_nil) b_nil)
  (b_cons (s_if ((t_cmp C .eq (e_var 5) (e_lst a_nil))) (b_cons (s_ret (e_fT (cx_tuple C) F.b_tuple bt_tuple (e_var 3)))
  b_nil) b_nil)
  (b_cons (s_ex (e_mb C PySem.F.plainAttrs_list PySem.F.slot_list_append PySem.F.type_list_append mx_append (e_var 3) (a_cons (e_call C F.s11 (R 11) (a_cons (e_var 0) (a_cons (e_var 5) a_nil))) a_nil)))
  b_nil)))))
  (b_cons (s_ret (e_fT (cx_tuple C) F.b_tuple bt_tuple (e_var 3)))
  b_nil)))
theorem b20 (F : Facts K mg fa fd) (R0 : AllR P w (sx K w) mg base fa fd pss cf k) (R : AllR P w (sx K w) mg base fa fd pss cf (k + 2)) (C : Ctx (bodyCx P w (sx K w) mg base N20 "_law_changed" (defScope d20) f cdv A outer s H) (sx K w) (k + 2)) : BX (bodyCx P w (sx K w) mg base N20 "_law_changed" (defScope d20) f cdv A outer s H) (sx K w) cf (defBody d20) m20 :=
  (b_cons (s_set 3 C (e_call C F.s10 (R 10) (a_cons (e_var 0) (a_cons (e_bin C .add (e_fB (cx_len C) F.b_len bt_len (e_var 1)) e_int) a_nil))))
  (b_cons (s_set 4 C (e_call C F.s11 (R 11) (a_cons (e_var 0) (a_cons (e_lst (a_cons (e_var 2) (a_cons (e_neg e_int) (a_cons e_bl (a_cons e_bl (a_cons e_non (a_cons e_str (a_cons (e_tup (a_cons e_int a_nil)) (a_cons (e_lst (a_cons e_int a_nil)) (a_cons e_int (a_cons (e_bin C .pow e_int e_int) a_nil))))))))))) a_nil))))
  (b_cons (s_set 5 C (e_lst (a_cons (e_fT (cx_list C) F.b_list bt_list (e_var 1)) (a_cons (e_rev C (e_var 1) (e_neg e_int)) (a_cons (e_bin C .add (e_var 1) (e_var 1)) (a_cons (e_bin C .add (e_bin C .add (e_sl01 C (e_var 1) (e_var 3)) (e_tup (a_cons (e_var 4) a_nil))) (e_sl10 C (e_var 1) (e_var 3))) (a_cons (e_bin C .add (e_sl01 C (e_var 1) (e_var 3)) (e_sl10 C (e_var 1) (e_bin C .add (e_var 3) e_int))) a_nil)))))))
  (b_cons (s_ret (e_call C F.s11 (R 11) (a_cons (e_var 0) (a_cons (e_bin C .add (e_var 5) (e_lst (a_cons (e_bin C .add (e_bin C .add (e_sl01 C (e_var 1) (e_var 3)) (e_tup (a_cons (e_var 4) a_nil))) (e_sl10 C (e_var 1) (e_bin C .add (e_var 3) e_int))) (a_cons (e_tup (a_cons (e_var 1) a_nil)) (a_cons (e_bin C .add (e_var 1) (e_tup (a_cons (e_var 4) a_nil))) a_nil))))) a_nil))))
  b_nil))))
theorem b21 (F : Facts K mg fa fd) (R0 : AllR P w (sx K w) mg base fa fd pss cf k) (R : AllR P w (sx K w) mg base fa fd pss cf (k + 2)) (C : Ctx (bodyCx P w (sx K w) mg base N21 "_law_right" (defScope d21) f cdv A outer s H) (sx K w) (k + 2)) : BX (bodyCx P w (sx K w) mg base N21 "_law_right" (defScope d21) f cdv A outer s H) (sx K w) cf (defBody d21) m21 :=
  (b_cons (s_set 3 C (e_fB (cx_repr C) F.b_repr bt_repr (e_lst (a_cons (e_var 0) (a_cons (e_var 1) (a_cons (e_var 2) a_nil))))))
  (b_cons (s_set 4 C (e_lst (a_cons (e_call C F.s7 (R 7) (a_cons (e_var 0) (a_cons (e_var 1) (a_cons (e_var 2) a_nil)))) (a_cons (e_call C F.s8 (R 8) (a_cons (e_var 0) (a_cons (e_var 2) a_nil))) a_nil))))
  (b_cons (s_set 5 C (e_lst (a_cons e_bl (a_cons e_bl a_nil))))
  (b_cons (s_if (t_of (w_and (t_val C (e_isi C (t := .tuple) (m := 4) rfl (by decide) F.b_isinstance F.b_tuple bt_tuple (e_var 2))) (w_and1 (t_val C (e_fB (cx_all C) F.b_all bt_all (e_lc C [("_law_link", 6)] (i_val C (e_var 2)) (by show BlkOk N21 (defScope d21) _ _; exact ⟨rfl, by decide +kernel, by decide +kernel, by decide +kernel, by decide +kernel⟩) (fun _ _ _ _ _ => (g_v 6 (C.blk _ _ _ _ _))) (fun _ _ _ _ _ => c_0) (fun _ _ _ _ _ => (e_and (C.blk _ _ _ _ _) (e_call (C.blk _ _ _ _ _) F.s12 (R 12) (a_cons (e_var 6) a_nil)) (e_one (e_chn (C.blk _ _ _ _ _) .le .lt e_int (e_var 6) (e_fB (cx_len (C.blk _ _ _ _ _)) F.b_len bt_len (e_var 0)))))))))))) (b_cons (s_set 5 C (e_lst (a_cons (e_call C F.s17 (R 17) (a_cons (e_var 0) (a_cons (e_var 1) (a_cons (e_var 2) a_nil)))) (a_cons (e_call C F.s18 (R 18) (a_cons (e_var 0) (a_cons (e_var 2) a_nil))) a_nil))))
  b_nil) b_nil)
  (b_cons (s_ret (e_and C (e_cmp C .eq (e_fB (cx_repr C) F.b_repr bt_repr (e_var 4)) (e_fB (cx_repr C) F.b_repr bt_repr (e_var 5))) (e_one (e_cmp C .eq (e_fB (cx_repr C) F.b_repr bt_repr (e_lst (a_cons (e_var 0) (a_cons (e_var 1) (a_cons (e_var 2) a_nil))))) (e_var 3)))))
  b_nil)))))
theorem b22 (F : Facts K mg fa fd) (R0 : AllR P w (sx K w) mg base fa fd pss cf k) (R : AllR P w (sx K w) mg base fa fd pss cf (k + 2)) (C : Ctx (bodyCx P w (sx K w) mg base N22 "_law_goal" (defScope d22) f cdv A outer s H) (sx K w) (k + 2)) : BX (bodyCx P w (sx K w) mg base N22 "_law_goal" (defScope d22) f cdv A outer s H) (sx K w) cf (defBody d22) m22 :=
  (b_cons (s_if (t_of (w_or ((t_cmp C .eq (e_var 2) (e_tup a_nil))) (w_or1 ((t_cmp C .eq (e_call C F.s10 (R 10) (a_cons (e_var 0) (a_cons e_int a_nil))) e_int))))) (b_cons (s_ret (e_ix C (e_call C F.s15 (R 15) (a_cons (e_var 0) (a_cons (e_bin C .add (e_var 3) (e_lst (a_cons (e_tup (a_cons e_str (a_cons e_str a_nil))) a_nil))) (a_cons e_int (a_cons e_int a_nil))))) e_int))
  b_nil) b_nil)
  (b_cons (s_par 5 6 C (a_cons (e_ix C (e_ix C (e_var 1) (e_ix C (e_var 2) e_int)) e_int) (a_cons (e_ix C (e_ix C (e_var 1) (e_ix C (e_var 2) (e_neg e_int))) e_int) a_nil)))
  (b_cons (s_set 4 C (e_bin C .add (e_fB (cx_sum C) F.b_sum bt_sum (e_lc C [("_law_link", 7)] (i_val C (e_var 2)) (by show BlkOk N22 (defScope d22) _ _; exact ⟨rfl, by decide +kernel, by decide +kernel, by decide +kernel, by decide +kernel⟩) (fun _ _ _ _ _ => (g_v 7 (C.blk _ _ _ _ _))) (fun _ _ _ _ _ => c_0) (fun _ _ _ _ _ => (e_ix (C.blk _ _ _ _ _) (e_ix (C.blk _ _ _ _ _) (e_var 1) (e_var 7)) e_int)))) (e_call C F.s11 (R 11) (a_cons (e_var 0) (a_cons (e_lst (a_cons e_int (a_cons e_int (a_cons (e_neg e_int) (a_cons e_int a_nil))))) a_nil)))))
  (b_cons (s_ret (e_ite (t_of (w_and ((t_isn false (e_var 5))) (w_and1 ((t_isn false (e_var 6)))))) (e_tup (a_cons (e_ix C (e_var 3) e_int) (a_cons (e_ix C (e_var 3) e_int) (a_cons (e_var 4) a_nil)))) (e_tup (a_cons (e_var 5) (a_cons (e_var 6) (a_cons (e_var 4) a_nil))))))
  b_nil))))
theorem b23 (F : Facts K mg fa fd) (R0 : AllR P w (sx K w) mg base fa fd pss cf k) (R : AllR P w (sx K w) mg base fa fd pss cf (k + 2)) (C : Ctx (bodyCx P w (sx K w) mg base N23 "law" (defScope d23) f cdv A outer s H) (sx K w) (k + 2)) : BX (bodyCx P w (sx K w) mg base N23 "law" (defScope d23) f cdv A outer s H) (sx K w) cf (defBody d23) m23 :=
  (b_cons (s_for C (i_range1 C F.b_range (e_max2 C F.b_max e_int (e_min2 C F.b_min e_int (e_fB (cx_len C) F.b_len bt_len (e_var 0))))) (g_v 1 C) (b_cons (s_set 2 C (e_call C F.s9 (R 9) (a_cons (e_var 0) (a_cons (e_var 1) a_nil))))
  (b_cons (s_for C (i_range1 C F.b_range e_int) (g_v 3 C) (b_cons (s_set 4 C (e_call C F.s14 (R 14) (a_cons (e_var 2) (a_cons (e_bin C .add e_int (e_call C F.s10 (R 10) (a_cons (e_var 2) (a_cons e_int a_nil)))) a_nil))))
  (b_cons (s_set 5 C (e_call C F.s15 (R 15) (a_cons (e_var 2) (a_cons (e_var 4) (a_cons (e_call C F.s10 (R 10) (a_cons (e_var 2) (a_cons e_int a_nil))) (a_cons e_int a_nil))))))
  (b_cons (s_set 6 C (e_call C F.s19 (R 19) (a_cons (e_var 2) (a_cons (e_var 5) (a_cons (e_call C F.s10 (R 10) (a_cons (e_var 2) (a_cons e_int a_nil))) a_nil)))))
  (b_cons (s_set 7 C (e_call C F.s22 (R 22) (a_cons (e_var 2) (a_cons (e_var 5) (a_cons (e_var 6) (a_cons (e_var 4) a_nil))))))
  (b_cons (s_set 8 C (e_bin C .add (e_lst (a_cons (e_var 6) (a_cons (e_tup a_nil) a_nil))) (e_lc C [("_law_go", 9)] (i_range1 C F.b_range e_int) (by show BlkOk N23 (defScope d23) _ _; exact ⟨rfl, by decide +kernel, by decide +kernel, by decide +kernel, by decide +kernel⟩) (fun _ _ _ _ _ => (g_v 9 (C.blk _ _ _ _ _))) (fun _ _ _ _ _ => c_0) (fun _ _ _ _ _ => (e_call (C.blk _ _ _ _ _) F.s20 (R 20) (a_cons (e_var 2) (a_cons (e_var 6) (a_cons (e_fB (cx_len (C.blk _ _ _ _ _)) F.b_len bt_len (e_var 5)) a_nil))))))))
  (b_cons (s_set 8 C (e_bin C .add (e_var 8) (e_lst (a_cons e_non (a_cons e_bl (a_cons e_int (a_cons e_str (a_cons (e_lst a_nil) (a_cons (e_dct0 C) (a_cons (e_call C F.s13 (R 13) (a_cons e_int a_nil)) (a_cons (e_tup (a_cons (e_tup a_nil) a_nil)) (a_cons (e_tup (a_cons e_bl a_nil)) (a_cons (e_tup (a_cons e_int a_nil)) (a_cons (e_tup (a_cons e_int (a_cons e_int a_nil))) a_nil))))))))))))))
  (b_cons (s_if (t_of (w_not (t_val C (e_fB (cx_all C) F.b_all bt_all (e_lc C [("_law_value", 10)] (i_val C (e_var 8)) (by show BlkOk N23 (defScope d23) _ _; exact ⟨rfl, by decide +kernel, by decide +kernel, by decide +kernel, by decide +kernel⟩) (fun _ _ _ _ _ => (g_v 10 (C.blk _ _ _ _ _))) (fun _ _ _ _ _ => c_0) (fun _ _ _ _ _ => (e_call (C.blk _ _ _ _ _) F.s21 (R 21) (a_cons (e_var 5) (a_cons (e_var 7) (a_cons (e_var 10) a_nil)))))))))) (b_cons (s_ret e_bl)
  b_nil) b_nil)
  b_nil))))))))
  b_nil)))
  (b_cons (s_ret e_bl)
  b_nil))
theorem step (F : Facts K mg fa fd) (n : Nat) (R : AllR P w (sx K w) mg base fa fd pss (callF prg n) (3 * n)) : AllR P w (sx K w) mg base fa fd pss (callF prg (n + 1)) (3 * n + 3) := fun i => match i with
  | 0 => runs_of (S := sx K w) rfl F.s0 rfl fun cdv A outer s H C => (b0 F R (fun i => (R i).mono (Nat.le_add_right _ 2)) C).h
  | 1 => runs_of (S := sx K w) rfl F.s1 rfl fun cdv A outer s H C => (b1 F R (fun i => (R i).mono (Nat.le_add_right _ 2)) C).h
  | 2 => runs_of (S := sx K w) rfl F.s2 rfl fun cdv A outer s H C => (b2 F R (fun i => (R i).mono (Nat.le_add_right _ 2)) C).h
  | 3 => runs_of (S := sx K w) rfl F.s3 rfl fun cdv A outer s H C => (b3 F R (fun i => (R i).mono (Nat.le_add_right _ 2)) C).h
  | 4 => runs_of (S := sx K w) rfl F.s4 rfl fun cdv A outer s H C => (b4 F R (fun i => (R i).mono (Nat.le_add_right _ 2)) C).h
  | 5 => runs_of (S := sx K w) rfl F.s5 rfl fun cdv A outer s H C => (b5 F R (fun i => (R i).mono (Nat.le_add_right _ 2)) C).h
  | 6 => runs_of (S := sx K w) rfl F.s6 rfl fun cdv A outer s H C => (b6 F R (fun i => (R i).mono (Nat.le_add_right _ 2)) C).h
  | 7 => runs_of (S := sx K w) rfl F.s7 rfl fun cdv A outer s H C => (b7 F R (fun i => (R i).mono (Nat.le_add_right _ 2)) C).h
  | 8 => runs_of (S := sx K w) rfl F.s8 rfl fun cdv A outer s H C => (b8 F R (fun i => (R i).mono (Nat.le_add_right _ 2)) C).h
  | 9 => runs_of (S := sx K w) rfl F.s9 rfl fun cdv A outer s H C => (b9 F R (fun i => (R i).mono (Nat.le_add_right _ 2)) C).h
  | 10 => runs_of (S := sx K w) rfl F.s10 rfl fun cdv A outer s H C => (b10 F R (fun i => (R i).mono (Nat.le_add_right _ 2)) C).h
  | 11 => runs_of (S := sx K w) rfl F.s11 rfl fun cdv A outer s H C => (b11 F R (fun i => (R i).mono (Nat.le_add_right _ 2)) C).h
  | 12 => runs_of (S := sx K w) rfl F.s12 rfl fun cdv A outer s H C => (b12 F R (fun i => (R i).mono (Nat.le_add_right _ 2)) C).h
  | 13 => runs_of (S := sx K w) rfl F.s13 rfl fun cdv A outer s H C => (b13 F R (fun i => (R i).mono (Nat.le_add_right _ 2)) C).h
  | 14 => runs_of (S := sx K w) rfl F.s14 rfl fun cdv A outer s H C => (b14 F R (fun i => (R i).mono (Nat.le_add_right _ 2)) C).h
  | 15 => runs_of (S := sx K w) rfl F.s15 rfl fun cdv A outer s H C => (b15 F R (fun i => (R i).mono (Nat.le_add_right _ 2)) C).h
  | 16 => runs_of (S := sx K w) rfl F.s16 rfl fun cdv A outer s H C => (b16 F R (fun i => (R i).mono (Nat.le_add_right _ 2)) C).h
  | 17 => runs_of (S := sx K w) rfl F.s17 rfl fun cdv A outer s H C => (b17 F R (fun i => (R i).mono (Nat.le_add_right _ 2)) C).h
  | 18 => runs_of (S := sx K w) rfl F.s18 rfl fun cdv A outer s H C => (b18 F R (fun i => (R i).mono (Nat.le_add_right _ 2)) C).h
  | 19 => runs_of (S := sx K w) rfl F.s19 rfl fun cdv A outer s H C => (b19 F R (fun i => (R i).mono (Nat.le_add_right _ 2)) C).h
  | 20 => runs_of (S := sx K w) rfl F.s20 rfl fun cdv A outer s H C => (b20 F R (fun i => (R i).mono (Nat.le_add_right _ 2)) C).h
  | 21 => runs_of (S := sx K w) rfl F.s21 rfl fun cdv A outer s H C => (b21 F R (fun i => (R i).mono (Nat.le_add_right _ 2)) C).h
  | 22 => runs_of (S := sx K w) rfl F.s22 rfl fun cdv A outer s H C => (b22 F R (fun i => (R i).mono (Nat.le_add_right _ 2)) C).h
  | 23 => runs_of (S := sx K w) rfl F.s23 rfl fun cdv A outer s H C => (b23 F R (fun i => (R i).mono (Nat.le_add_right _ 2)) C).h
  | _ + 24 => runs_none rfl
theorem all (F : Facts K mg fa fd) (n : Nat) : AllR P w (sx K w) mg base fa fd pss (callF prg n) (3 * n) := AllR.all (S := sx K w) (fun n R => step F n R) n
end
/-- by number -/
def pick {α : Type} (d : α) : List α → Nat → α := fun l i => l.getD i d
theorem all_mk {l : PySem.W.OpenLaw} {w : World} {K : PySem.W.Frag} {h : Heap} {mg : Str → Option Value} {g : Addr} (X : K.In h) (G : h.Ns mainGlobals mg) (hg : mg "law" = some (.ref g))
    {od0 an0 : Option Addr} {sl0 : Array (Option Value)} {oc0 kV0 dc0 pm0 cd0 ct0 : Value} {f0 : Addr}
    {od1 an1 : Option Addr} {sl1 : Array (Option Value)} {oc1 kV1 dc1 pm1 cd1 ct1 : Value} {f1 : Addr}
    {od2 an2 : Option Addr} {sl2 : Array (Option Value)} {oc2 kV2 dc2 pm2 cd2 ct2 : Value} {f2 : Addr}
    {od3 an3 : Option Addr} {sl3 : Array (Option Value)} {oc3 kV3 dc3 pm3 cd3 ct3 : Value} {f3 : Addr}
    {od4 an4 : Option Addr} {sl4 : Array (Option Value)} {oc4 kV4 dc4 pm4 cd4 ct4 : Value} {f4 : Addr}
    {od5 an5 : Option Addr} {sl5 : Array (Option Value)} {oc5 kV5 dc5 pm5 cd5 ct5 : Value} {f5 : Addr}
    {od6 an6 : Option Addr} {sl6 : Array (Option Value)} {oc6 kV6 dc6 pm6 cd6 ct6 : Value} {f6 : Addr}
    {od7 an7 : Option Addr} {sl7 : Array (Option Value)} {oc7 kV7 dc7 pm7 cd7 ct7 : Value} {f7 : Addr}
    {od8 an8 : Option Addr} {sl8 : Array (Option Value)} {oc8 kV8 dc8 pm8 cd8 ct8 : Value} {f8 : Addr}
    {od9 an9 : Option Addr} {sl9 : Array (Option Value)} {oc9 kV9 dc9 pm9 cd9 ct9 : Value} {f9 : Addr}
    {od10 an10 : Option Addr} {sl10 : Array (Option Value)} {oc10 kV10 dc10 pm10 cd10 ct10 : Value} {f10 : Addr}
    {od11 an11 : Option Addr} {sl11 : Array (Option Value)} {oc11 kV11 dc11 pm11 cd11 ct11 : Value} {f11 : Addr}
    {od12 an12 : Option Addr} {sl12 : Array (Option Value)} {oc12 kV12 dc12 pm12 cd12 ct12 : Value} {f12 : Addr}
    {od13 an13 : Option Addr} {sl13 : Array (Option Value)} {oc13 kV13 dc13 pm13 cd13 ct13 : Value} {f13 : Addr}
    {od14 an14 : Option Addr} {sl14 : Array (Option Value)} {oc14 kV14 dc14 pm14 cd14 ct14 : Value} {f14 : Addr}
    {od15 an15 : Option Addr} {sl15 : Array (Option Value)} {oc15 kV15 dc15 pm15 cd15 ct15 : Value} {f15 : Addr}
    {od16 an16 : Option Addr} {sl16 : Array (Option Value)} {oc16 kV16 dc16 pm16 cd16 ct16 : Value} {f16 : Addr}
    {od17 an17 : Option Addr} {sl17 : Array (Option Value)} {oc17 kV17 dc17 pm17 cd17 ct17 : Value} {f17 : Addr}
    {od18 an18 : Option Addr} {sl18 : Array (Option Value)} {oc18 kV18 dc18 pm18 cd18 ct18 : Value} {f18 : Addr}
    {od19 an19 : Option Addr} {sl19 : Array (Option Value)} {oc19 kV19 dc19 pm19 cd19 ct19 : Value} {f19 : Addr}
    {od20 an20 : Option Addr} {sl20 : Array (Option Value)} {oc20 kV20 dc20 pm20 cd20 ct20 : Value} {f20 : Addr}
    {od21 an21 : Option Addr} {sl21 : Array (Option Value)} {oc21 kV21 dc21 pm21 cd21 ct21 : Value} {f21 : Addr}
    {od22 an22 : Option Addr} {sl22 : Array (Option Value)} {oc22 kV22 dc22 pm22 cd22 ct22 : Value} {f22 : Addr}
    {od23 an23 : Option Addr} {sl23 : Array (Option Value)} {oc23 kV23 dc23 pm23 cd23 ct23 : Value} {f23 : Addr}
    (a0 : PySem.W.nsIn K mainGlobals "is_integer" = some (some (.ref f0))) (l0 : K.lookup f0 = some ⟨oc0, od0, .func (PySem.W.fnOf "is_integer" "is_integer" (defArgs d0) (defBody d0) (defScope d0) .none kV0 dc0 pm0 an0 cd0 ct0), sl0⟩) (c0 : PySem.W.codeIn K cd0 "is_integer" = true) (k0 : PySem.W.keepIn K (.ref f0) = true)
    (a1 : PySem.W.nsIn K mainGlobals "order_key" = some (some (.ref f1))) (l1 : K.lookup f1 = some ⟨oc1, od1, .func (PySem.W.fnOf "order_key" "order_key" (defArgs d1) (defBody d1) (defScope d1) .none kV1 dc1 pm1 an1 cd1 ct1), sl1⟩) (c1 : PySem.W.codeIn K cd1 "order_key" = true) (k1 : PySem.W.keepIn K (.ref f1) = true)
    (a2 : PySem.W.nsIn K mainGlobals "ascending" = some (some (.ref f2))) (l2 : K.lookup f2 = some ⟨oc2, od2, .func (PySem.W.fnOf "ascending" "ascending" (defArgs d2) (defBody d2) (defScope d2) .none kV2 dc2 pm2 an2 cd2 ct2), sl2⟩) (c2 : PySem.W.codeIn K cd2 "ascending" = true) (k2 : PySem.W.keepIn K (.ref f2) = true)
    (a3 : PySem.W.nsIn K mainGlobals "columns_of" = some (some (.ref f3))) (l3 : K.lookup f3 = some ⟨oc3, od3, .func (PySem.W.fnOf "columns_of" "columns_of" (defArgs d3) (defBody d3) (defScope d3) .none kV3 dc3 pm3 an3 cd3 ct3), sl3⟩) (c3 : PySem.W.codeIn K cd3 "columns_of" = true) (k3 : PySem.W.keepIn K (.ref f3) = true)
    (a4 : PySem.W.nsIn K mainGlobals "are_indices" = some (some (.ref f4))) (l4 : K.lookup f4 = some ⟨oc4, od4, .func (PySem.W.fnOf "are_indices" "are_indices" (defArgs d4) (defBody d4) (defScope d4) .none kV4 dc4 pm4 an4 cd4 ct4), sl4⟩) (c4 : PySem.W.codeIn K cd4 "are_indices" = true) (k4 : PySem.W.keepIn K (.ref f4) = true)
    (a5 : PySem.W.nsIn K mainGlobals "are_linked" = some (some (.ref f5))) (l5 : K.lookup f5 = some ⟨oc5, od5, .func (PySem.W.fnOf "are_linked" "are_linked" (defArgs d5) (defBody d5) (defScope d5) .none kV5 dc5 pm5 an5 cd5 ct5), sl5⟩) (c5 : PySem.W.codeIn K cd5 "are_linked" = true) (k5 : PySem.W.keepIn K (.ref f5) = true)
    (a6 : PySem.W.nsIn K mainGlobals "bound_sum" = some (some (.ref f6))) (l6 : K.lookup f6 = some ⟨oc6, od6, .func (PySem.W.fnOf "bound_sum" "bound_sum" (defArgs d6) (defBody d6) (defScope d6) .none kV6 dc6 pm6 an6 cd6 ct6), sl6⟩) (c6 : PySem.W.codeIn K cd6 "bound_sum" = true) (k6 : PySem.W.keepIn K (.ref f6) = true)
    (a7 : PySem.W.nsIn K mainGlobals "shows_chain" = some (some (.ref f7))) (l7 : K.lookup f7 = some ⟨oc7, od7, .func (PySem.W.fnOf "shows_chain" "shows_chain" (defArgs d7) (defBody d7) (defScope d7) .none kV7 dc7 pm7 an7 cd7 ct7), sl7⟩) (c7 : PySem.W.codeIn K cd7 "shows_chain" = true) (k7 : PySem.W.keepIn K (.ref f7) = true)
    (a8 : PySem.W.nsIn K mainGlobals "shows_conflict" = some (some (.ref f8))) (l8 : K.lookup f8 = some ⟨oc8, od8, .func (PySem.W.fnOf "shows_conflict" "shows_conflict" (defArgs d8) (defBody d8) (defScope d8) .none kV8 dc8 pm8 an8 cd8 ct8), sl8⟩) (c8 : PySem.W.codeIn K cd8 "shows_conflict" = true) (k8 : PySem.W.keepIn K (.ref f8) = true)
    (a9 : PySem.W.nsIn K mainGlobals "_law_start" = some (some (.ref f9))) (l9 : K.lookup f9 = some ⟨oc9, od9, .func (PySem.W.fnOf "_law_start" "_law_start" (defArgs d9) (defBody d9) (defScope d9) .none kV9 dc9 pm9 an9 cd9 ct9), sl9⟩) (c9 : PySem.W.codeIn K cd9 "_law_start" = true) (k9 : PySem.W.keepIn K (.ref f9) = true)
    (a10 : PySem.W.nsIn K mainGlobals "_law_draw" = some (some (.ref f10))) (l10 : K.lookup f10 = some ⟨oc10, od10, .func (PySem.W.fnOf "_law_draw" "_law_draw" (defArgs d10) (defBody d10) (defScope d10) .none kV10 dc10 pm10 an10 cd10 ct10), sl10⟩) (c10 : PySem.W.codeIn K cd10 "_law_draw" = true) (k10 : PySem.W.keepIn K (.ref f10) = true)
    (a11 : PySem.W.nsIn K mainGlobals "_law_choice" = some (some (.ref f11))) (l11 : K.lookup f11 = some ⟨oc11, od11, .func (PySem.W.fnOf "_law_choice" "_law_choice" (defArgs d11) (defBody d11) (defScope d11) .none kV11 dc11 pm11 an11 cd11 ct11), sl11⟩) (c11 : PySem.W.codeIn K cd11 "_law_choice" = true) (k11 : PySem.W.keepIn K (.ref f11) = true)
    (a12 : PySem.W.nsIn K mainGlobals "_law_is_integer" = some (some (.ref f12))) (l12 : K.lookup f12 = some ⟨oc12, od12, .func (PySem.W.fnOf "_law_is_integer" "_law_is_integer" (defArgs d12) (defBody d12) (defScope d12) .none kV12 dc12 pm12 an12 cd12 ct12), sl12⟩) (c12 : PySem.W.codeIn K cd12 "_law_is_integer" = true) (k12 : PySem.W.keepIn K (.ref f12) = true)
    (a13 : PySem.W.nsIn K mainGlobals "_law_deep" = some (some (.ref f13))) (l13 : K.lookup f13 = some ⟨oc13, od13, .func (PySem.W.fnOf "_law_deep" "_law_deep" (defArgs d13) (defBody d13) (defScope d13) .none kV13 dc13 pm13 an13 cd13 ct13), sl13⟩) (c13 : PySem.W.codeIn K cd13 "_law_deep" = true) (k13 : PySem.W.keepIn K (.ref f13) = true)
    (a14 : PySem.W.nsIn K mainGlobals "_law_some_columns" = some (some (.ref f14))) (l14 : K.lookup f14 = some ⟨oc14, od14, .func (PySem.W.fnOf "_law_some_columns" "_law_some_columns" (defArgs d14) (defBody d14) (defScope d14) .none kV14 dc14 pm14 an14 cd14 ct14), sl14⟩) (c14 : PySem.W.codeIn K cd14 "_law_some_columns" = true) (k14 : PySem.W.keepIn K (.ref f14) = true)
    (a15 : PySem.W.nsIn K mainGlobals "_law_small_conditions" = some (some (.ref f15))) (l15 : K.lookup f15 = some ⟨oc15, od15, .func (PySem.W.fnOf "_law_small_conditions" "_law_small_conditions" (defArgs d15) (defBody d15) (defScope d15) .none kV15 dc15 pm15 an15 cd15 ct15), sl15⟩) (c15 : PySem.W.codeIn K cd15 "_law_small_conditions" = true) (k15 : PySem.W.keepIn K (.ref f15) = true)
    (a16 : PySem.W.nsIn K mainGlobals "_law_used" = some (some (.ref f16))) (l16 : K.lookup f16 = some ⟨oc16, od16, .func (PySem.W.fnOf "_law_used" "_law_used" (defArgs d16) (defBody d16) (defScope d16) .none kV16 dc16 pm16 an16 cd16 ct16), sl16⟩) (c16 : PySem.W.codeIn K cd16 "_law_used" = true) (k16 : PySem.W.keepIn K (.ref f16) = true)
    (a17 : PySem.W.nsIn K mainGlobals "_law_is_chain" = some (some (.ref f17))) (l17 : K.lookup f17 = some ⟨oc17, od17, .func (PySem.W.fnOf "_law_is_chain" "_law_is_chain" (defArgs d17) (defBody d17) (defScope d17) .none kV17 dc17 pm17 an17 cd17 ct17), sl17⟩) (c17 : PySem.W.codeIn K cd17 "_law_is_chain" = true) (k17 : PySem.W.keepIn K (.ref f17) = true)
    (a18 : PySem.W.nsIn K mainGlobals "_law_is_conflict" = some (some (.ref f18))) (l18 : K.lookup f18 = some ⟨oc18, od18, .func (PySem.W.fnOf "_law_is_conflict" "_law_is_conflict" (defArgs d18) (defBody d18) (defScope d18) .none kV18 dc18 pm18 an18 cd18 ct18), sl18⟩) (c18 : PySem.W.codeIn K cd18 "_law_is_conflict" = true) (k18 : PySem.W.keepIn K (.ref f18) = true)
    (a19 : PySem.W.nsIn K mainGlobals "_law_walk" = some (some (.ref f19))) (l19 : K.lookup f19 = some ⟨oc19, od19, .func (PySem.W.fnOf "_law_walk" "_law_walk" (defArgs d19) (defBody d19) (defScope d19) .none kV19 dc19 pm19 an19 cd19 ct19), sl19⟩) (c19 : PySem.W.codeIn K cd19 "_law_walk" = true) (k19 : PySem.W.keepIn K (.ref f19) = true)
    (a20 : PySem.W.nsIn K mainGlobals "_law_changed" = some (some (.ref f20))) (l20 : K.lookup f20 = some ⟨oc20, od20, .func (PySem.W.fnOf "_law_changed" "_law_changed" (defArgs d20) (defBody d20) (defScope d20) .none kV20 dc20 pm20 an20 cd20 ct20), sl20⟩) (c20 : PySem.W.codeIn K cd20 "_law_changed" = true) (k20 : PySem.W.keepIn K (.ref f20) = true)
    (a21 : PySem.W.nsIn K mainGlobals "_law_right" = some (some (.ref f21))) (l21 : K.lookup f21 = some ⟨oc21, od21, .func (PySem.W.fnOf "_law_right" "_law_right" (defArgs d21) (defBody d21) (defScope d21) .none kV21 dc21 pm21 an21 cd21 ct21), sl21⟩) (c21 : PySem.W.codeIn K cd21 "_law_right" = true) (k21 : PySem.W.keepIn K (.ref f21) = true)
    (a22 : PySem.W.nsIn K mainGlobals "_law_goal" = some (some (.ref f22))) (l22 : K.lookup f22 = some ⟨oc22, od22, .func (PySem.W.fnOf "_law_goal" "_law_goal" (defArgs d22) (defBody d22) (defScope d22) .none kV22 dc22 pm22 an22 cd22 ct22), sl22⟩) (c22 : PySem.W.codeIn K cd22 "_law_goal" = true) (k22 : PySem.W.keepIn K (.ref f22) = true)
    (a23 : PySem.W.nsIn K mainGlobals "law" = some (some (.ref f23))) (l23 : K.lookup f23 = some ⟨oc23, od23, .func (PySem.W.fnOf "law" "law" (defArgs d23) (defBody d23) (defScope d23) .none kV23 dc23 pm23 an23 cd23 ct23), sl23⟩) (c23 : PySem.W.codeIn K cd23 "law" = true) (k23 : PySem.W.keepIn K (.ref f23) = true)
    (z_abs : PySem.W.nsIn K mainGlobals "abs" = some none)
    (z_all : PySem.W.nsIn K mainGlobals "all" = some none)
    (z_bool : PySem.W.nsIn K mainGlobals "bool" = some none)
    (z_int : PySem.W.nsIn K mainGlobals "int" = some none)
    (z_isinstance : PySem.W.nsIn K mainGlobals "isinstance" = some none)
    (z_len : PySem.W.nsIn K mainGlobals "len" = some none)
    (z_list : PySem.W.nsIn K mainGlobals "list" = some none)
    (z_max : PySem.W.nsIn K mainGlobals "max" = some none)
    (z_min : PySem.W.nsIn K mainGlobals "min" = some none)
    (z_range : PySem.W.nsIn K mainGlobals "range" = some none)
    (z_repr : PySem.W.nsIn K mainGlobals "repr" = some none)
    (z_set : PySem.W.nsIn K mainGlobals "set" = some none)
    (z_sorted : PySem.W.nsIn K mainGlobals "sorted" = some none)
    (z_sum : PySem.W.nsIn K mainGlobals "sum" = some none)
    (z_tuple : PySem.W.nsIn K mainGlobals "tuple" = some none)
    (z_zip : PySem.W.nsIn K mainGlobals "zip" = some none)
    :
    ∃ (fd : FuncData) (S : Sx), S.K = K ∧ (∀ (s : Shared) (u : Value), BindsTo s fd ⟨[u], []⟩ [("_law_script", u)]) ∧ ∀ base : Heap, K.In base → base.Ns mainGlobals mg → Runs l.prog w S mg base (callF prg 20) (3 * 20) 23 g fd ["_law_script"] := by
  have e := hg.symm.trans (PySem.W.mg_of X G a23)
  cases e
  have F0 := fun_mk (st := d0) l0 c0 k0
  have B0 := F0.binds (ps := p0) fun _ _ _ _ _ _ us hl => match us, hl with | [_], _ => rfl
  have F1 := fun_mk (st := d1) l1 c1 k1
  have B1 := F1.binds (ps := p1) fun _ _ _ _ _ _ us hl => match us, hl with | [_], _ => rfl
  have F2 := fun_mk (st := d2) l2 c2 k2
  have B2 := F2.binds (ps := p2) fun _ _ _ _ _ _ us hl => match us, hl with | [_], _ => rfl
  have F3 := fun_mk (st := d3) l3 c3 k3
  have B3 := F3.binds (ps := p3) fun _ _ _ _ _ _ us hl => match us, hl with | [_], _ => rfl
  have F4 := fun_mk (st := d4) l4 c4 k4
  have B4 := F4.binds (ps := p4) fun _ _ _ _ _ _ us hl => match us, hl with | [_, _], _ => rfl
  have F5 := fun_mk (st := d5) l5 c5 k5
  have B5 := F5.binds (ps := p5) fun _ _ _ _ _ _ us hl => match us, hl with | [_, _], _ => rfl
  have F6 := fun_mk (st := d6) l6 c6 k6
  have B6 := F6.binds (ps := p6) fun _ _ _ _ _ _ us hl => match us, hl with | [_, _], _ => rfl
  have F7 := fun_mk (st := d7) l7 c7 k7
  have B7 := F7.binds (ps := p7) fun _ _ _ _ _ _ us hl => match us, hl with | [_, _, _], _ => rfl
  have F8 := fun_mk (st := d8) l8 c8 k8
  have B8 := F8.binds (ps := p8) fun _ _ _ _ _ _ us hl => match us, hl with | [_, _], _ => rfl
  have F9 := fun_mk (st := d9) l9 c9 k9
  have B9 := F9.binds (ps := p9) fun _ _ _ _ _ _ us hl => match us, hl with | [_, _], _ => rfl
  have F10 := fun_mk (st := d10) l10 c10 k10
  have B10 := F10.binds (ps := p10) fun _ _ _ _ _ _ us hl => match us, hl with | [_, _], _ => rfl
  have F11 := fun_mk (st := d11) l11 c11 k11
  have B11 := F11.binds (ps := p11) fun _ _ _ _ _ _ us hl => match us, hl with | [_, _], _ => rfl
  have F12 := fun_mk (st := d12) l12 c12 k12
  have B12 := F12.binds (ps := p12) fun _ _ _ _ _ _ us hl => match us, hl with | [_], _ => rfl
  have F13 := fun_mk (st := d13) l13 c13 k13
  have B13 := F13.binds (ps := p13) fun _ _ _ _ _ _ us hl => match us, hl with | [_], _ => rfl
  have F14 := fun_mk (st := d14) l14 c14 k14
  have B14 := F14.binds (ps := p14) fun _ _ _ _ _ _ us hl => match us, hl with | [_, _], _ => rfl
  have F15 := fun_mk (st := d15) l15 c15 k15
  have B15 := F15.binds (ps := p15) fun _ _ _ _ _ _ us hl => match us, hl with | [_, _, _, _], _ => rfl
  have F16 := fun_mk (st := d16) l16 c16 k16
  have B16 := F16.binds (ps := p16) fun _ _ _ _ _ _ us hl => match us, hl with | [_], _ => rfl
  have F17 := fun_mk (st := d17) l17 c17 k17
  have B17 := F17.binds (ps := p17) fun _ _ _ _ _ _ us hl => match us, hl with | [_, _, _], _ => rfl
  have F18 := fun_mk (st := d18) l18 c18 k18
  have B18 := F18.binds (ps := p18) fun _ _ _ _ _ _ us hl => match us, hl with | [_, _], _ => rfl
  have F19 := fun_mk (st := d19) l19 c19 k19
  have B19 := F19.binds (ps := p19) fun _ _ _ _ _ _ us hl => match us, hl with | [_, _, _], _ => rfl
  have F20 := fun_mk (st := d20) l20 c20 k20
  have B20 := F20.binds (ps := p20) fun _ _ _ _ _ _ us hl => match us, hl with | [_, _, _], _ => rfl
  have F21 := fun_mk (st := d21) l21 c21 k21
  have B21 := F21.binds (ps := p21) fun _ _ _ _ _ _ us hl => match us, hl with | [_, _, _], _ => rfl
  have F22 := fun_mk (st := d22) l22 c22 k22
  have B22 := F22.binds (ps := p22) fun _ _ _ _ _ _ us hl => match us, hl with | [_, _, _, _], _ => rfl
  have F23 := fun_mk (st := d23) l23 c23 k23
  have B23 := F23.binds (ps := p23) fun _ _ _ _ _ _ us hl => match us, hl with | [_], _ => rfl
  have FF : Facts K mg (pick g [f0, f1, f2, f3, f4, f5, f6, f7, f8, f9, f10, f11, f12, f13, f14, f15, f16, f17, f18, f19, f20, f21, f22, g]) (pick (PySem.W.fnOf "law" "law" (defArgs d23) (defBody d23) (defScope d23) .none kV23 dc23 pm23 an23 cd23 ct23) [PySem.W.fnOf "is_integer" "is_integer" (defArgs d0) (defBody d0) (defScope d0) .none kV0 dc0 pm0 an0 cd0 ct0, PySem.W.fnOf "order_key" "order_key" (defArgs d1) (defBody d1) (defScope d1) .none kV1 dc1 pm1 an1 cd1 ct1, PySem.W.fnOf "ascending" "ascending" (defArgs d2) (defBody d2) (defScope d2) .none kV2 dc2 pm2 an2 cd2 ct2, PySem.W.fnOf "columns_of" "columns_of" (defArgs d3) (defBody d3) (defScope d3) .none kV3 dc3 pm3 an3 cd3 ct3, PySem.W.fnOf "are_indices" "are_indices" (defArgs d4) (defBody d4) (defScope d4) .none kV4 dc4 pm4 an4 cd4 ct4, PySem.W.fnOf "are_linked" "are_linked" (defArgs d5) (defBody d5) (defScope d5) .none kV5 dc5 pm5 an5 cd5 ct5, PySem.W.fnOf "bound_sum" "bound_sum" (defArgs d6) (defBody d6) (defScope d6) .none kV6 dc6 pm6 an6 cd6 ct6, PySem.W.fnOf "shows_chain" "shows_chain" (defArgs d7) (defBody d7) (defScope d7) .none kV7 dc7 pm7 an7 cd7 ct7, PySem.W.fnOf "shows_conflict" "shows_conflict" (defArgs d8) (defBody d8) (defScope d8) .none kV8 dc8 pm8 an8 cd8 ct8, PySem.W.fnOf "_law_start" "_law_start" (defArgs d9) (defBody d9) (defScope d9) .none kV9 dc9 pm9 an9 cd9 ct9, PySem.W.fnOf "_law_draw" "_law_draw" (defArgs d10) (defBody d10) (defScope d10) .none kV10 dc10 pm10 an10 cd10 ct10, PySem.W.fnOf "_law_choice" "_law_choice" (defArgs d11) (defBody d11) (defScope d11) .none kV11 dc11 pm11 an11 cd11 ct11, PySem.W.fnOf "_law_is_integer" "_law_is_integer" (defArgs d12) (defBody d12) (defScope d12) .none kV12 dc12 pm12 an12 cd12 ct12, PySem.W.fnOf "_law_deep" "_law_deep" (defArgs d13) (defBody d13) (defScope d13) .none kV13 dc13 pm13 an13 cd13 ct13, PySem.W.fnOf "_law_some_columns" "_law_some_columns" (defArgs d14) (defBody d14) (defScope d14) .none kV14 dc14 pm14 an14 cd14 ct14, PySem.W.fnOf "_law_small_conditions" "_law_small_conditions" (defArgs d15) (defBody d15) (defScope d15) .none kV15 dc15 pm15 an15 cd15 ct15, PySem.W.fnOf "_law_used" "_law_used" (defArgs d16) (defBody d16) (defScope d16) .none kV16 dc16 pm16 an16 cd16 ct16, PySem.W.fnOf "_law_is_chain" "_law_is_chain" (defArgs d17) (defBody d17) (defScope d17) .none kV17 dc17 pm17 an17 cd17 ct17, PySem.W.fnOf "_law_is_conflict" "_law_is_conflict" (defArgs d18) (defBody d18) (defScope d18) .none kV18 dc18 pm18 an18 cd18 ct18, PySem.W.fnOf "_law_walk" "_law_walk" (defArgs d19) (defBody d19) (defScope d19) .none kV19 dc19 pm19 an19 cd19 ct19, PySem.W.fnOf "_law_changed" "_law_changed" (defArgs d20) (defBody d20) (defScope d20) .none kV20 dc20 pm20 an20 cd20 ct20, PySem.W.fnOf "_law_right" "_law_right" (defArgs d21) (defBody d21) (defScope d21) .none kV21 dc21 pm21 an21 cd21 ct21, PySem.W.fnOf "_law_goal" "_law_goal" (defArgs d22) (defBody d22) (defScope d22) .none kV22 dc22 pm22 an22 cd22 ct22, PySem.W.fnOf "law" "law" (defArgs d23) (defBody d23) (defScope d23) .none kV23 dc23 pm23 an23 cd23 ct23]) := by
    exact ⟨⟨F0, sc0, B0, PySem.W.mg_of X G a0⟩,
      ⟨F1, sc1, B1, PySem.W.mg_of X G a1⟩,
      ⟨F2, sc2, B2, PySem.W.mg_of X G a2⟩,
      ⟨F3, sc3, B3, PySem.W.mg_of X G a3⟩,
      ⟨F4, sc4, B4, PySem.W.mg_of X G a4⟩,
      ⟨F5, sc5, B5, PySem.W.mg_of X G a5⟩,
      ⟨F6, sc6, B6, PySem.W.mg_of X G a6⟩,
      ⟨F7, sc7, B7, PySem.W.mg_of X G a7⟩,
      ⟨F8, sc8, B8, PySem.W.mg_of X G a8⟩,
      ⟨F9, sc9, B9, PySem.W.mg_of X G a9⟩,
      ⟨F10, sc10, B10, PySem.W.mg_of X G a10⟩,
      ⟨F11, sc11, B11, PySem.W.mg_of X G a11⟩,
      ⟨F12, sc12, B12, PySem.W.mg_of X G a12⟩,
      ⟨F13, sc13, B13, PySem.W.mg_of X G a13⟩,
      ⟨F14, sc14, B14, PySem.W.mg_of X G a14⟩,
      ⟨F15, sc15, B15, PySem.W.mg_of X G a15⟩,
      ⟨F16, sc16, B16, PySem.W.mg_of X G a16⟩,
      ⟨F17, sc17, B17, PySem.W.mg_of X G a17⟩,
      ⟨F18, sc18, B18, PySem.W.mg_of X G a18⟩,
      ⟨F19, sc19, B19, PySem.W.mg_of X G a19⟩,
      ⟨F20, sc20, B20, PySem.W.mg_of X G a20⟩,
      ⟨F21, sc21, B21, PySem.W.mg_of X G a21⟩,
      ⟨F22, sc22, B22, PySem.W.mg_of X G a22⟩,
      ⟨F23, sc23, B23, PySem.W.mg_of X G a23⟩,
      PySem.W.mg_none_of X G z_abs,
      PySem.W.mg_none_of X G z_all,
      PySem.W.mg_none_of X G z_bool,
      PySem.W.mg_none_of X G z_int,
      PySem.W.mg_none_of X G z_isinstance,
      PySem.W.mg_none_of X G z_len,
      PySem.W.mg_none_of X G z_list,
      PySem.W.mg_none_of X G z_max,
      PySem.W.mg_none_of X G z_min,
      PySem.W.mg_none_of X G z_range,
      PySem.W.mg_none_of X G z_repr,
      PySem.W.mg_none_of X G z_set,
      PySem.W.mg_none_of X G z_sorted,
      PySem.W.mg_none_of X G z_sum,
      PySem.W.mg_none_of X G z_tuple,
      PySem.W.mg_none_of X G z_zip⟩
  exact ⟨_, sx K w, rfl, fun s v => .of_eq rfl, fun base _ _ => all FF 20 23⟩
end Law

set_option maxHeartbeats 400000
namespace Law
open MP
theorem drawS (n : Nat) : DrawSp (callF prg (n + 1)) 10 := draw_sp rfl
theorem choiceS (n : Nat) : ChoiceSp (callF prg (n + 2)) 11 := choice_sp rfl (drawS n)
theorem startS (n : Nat) : StartSp (callF prg (n + 1)) 9 := start_sp rfl
theorem someS (n : Nat) : SomeColsSp (callF prg (n + 2)) 14 := some_columns_sp rfl (drawS n)
theorem smallS (n : Nat) : SmallCndsSp (callF prg (n + 3)) 15 := small_conditions_sp rfl (choiceS n) (drawS (n + 1))
theorem sp1s (n : Nat) (h s) : Gives (callF prg (n + 1)) 1 [.str s] h (keyS s) := order_text_sp rfl h s
theorem sp1c (n : Nat) (h c) : Gives (callF prg (n + 2)) 1 [colD c] h (keyC c) := order_col_sp rfl (sp1s n) h c
theorem ascC (n : Nat) (h : MH) (xs : List Col) (l : xs.length ≤ 1000000) (p : ∀ x ∈ xs, Pl (keyC x)) : Gives (callF prg (n + 3)) 2 [.lst (xs.map colD)] h (.tup ((srt colD xs).map colD)) :=
  ascending_sp ord_col rfl (sp1c n) h xs l p fun _ => rfl
theorem columnsS (n : Nat) (h : MH) (cn : List Cnd) (l : cn.length ≤ 1000) (g : GoodCn cn) : Gives (callF prg (n + 4)) 3 [cndsD cn] h (.tup ((usedC cn).map colD)) := columns_of_sp rfl (ascC n) h cn l g
theorem usedS (n : Nat) (b : Bs) (s : Sr) (cn : List Cnd) (l : cn.length < 32) (g : GoodCn cn) : Gives (callF prg (n + 1)) 16 [cndsD cn] (hp b s []) (.lst ((usedC cn).map colD)) := used_sp rfl b s cn l g
theorem intS (n : Nat) (h v) (s : v.sh = true) : Gives (callF prg (n + 1)) 0 [v] h (.bl (isIntB v)) := is_integer_sp rfl h v s
theorem intL (n : Nat) (h v) (s : v.sh = true) : Gives (callF prg (n + 1)) 12 [v] h (.bl (isIntB v)) := is_integer_sp rfl h v s
/-! ### walks -/
def gt (cn : List Cnd) (j : Nat) : Cnd := cn.getD j (none, none, 0)
def wk (cn : List Cnd) (s : Int) : Itm → Int → List Nat → Option (Itm × Int)
  | here, rest, [] => some (here, rest)
  | here, rest, l :: ls => if (gt cn l).1 = here then wk cn s (gt cn l).2.1 (rest + s * (gt cn l).2.2) ls else none
def lastN : Nat → List Nat → Nat
  | l, [] => l
  | _, m :: ms => lastN m ms
def linkB (cn : List Cnd) : List Nat → Bool
  | l :: m :: ms => decide ((gt cn l).2.1 = (gt cn m).1) && linkB cn (m :: ms)
  | _ => true
def sumB (cn : List Cnd) (ls : List Nat) : Int := (ls.map fun l => (gt cn l).2.2).sum
theorem wk_eq (cn : List Cnd) (s : Int) : ∀ (ls : List Nat) (l : Nat) (here : Itm) (rest : Int),
    wk cn s here rest (l :: ls) = if (gt cn l).1 = here ∧ linkB cn (l :: ls) = true then some ((gt cn (lastN l ls)).2.1, rest + s * sumB cn (l :: ls)) else none
  | [], l, here, rest => by simp [wk, linkB, lastN, sumB]
  | m :: ms, l, here, rest => by
    unfold wk
    rw [wk_eq cn s ms m]
    by_cases h : (gt cn l).1 = here
    · by_cases k : (gt cn m).1 = (gt cn l).2.1
      · have k2 : decide ((gt cn l).2.1 = (gt cn m).1) = true := decide_eq_true k.symm
        simp only [h, k, linkB, k2, Bool.true_and, true_and, if_true, lastN]
        have e : rest + s * (gt cn l).2.2 + s * sumB cn (m :: ms) = rest + s * sumB cn (l :: m :: ms) := by
          simp only [sumB, List.map_cons, List.sum_cons, Int.mul_add]
          omega
        rw [e]
        simp only [decide_true, Bool.true_and]
      · have k2 : decide ((gt cn l).2.1 = (gt cn m).1) = false := decide_eq_false fun z => k z.symm
        simp [h, k, linkB, k2]
    · simp [h]
theorem lastN_get : ∀ (ls : List Nat) (l : Nat), (l :: ls)[ls.length]? = some (lastN l ls)
  | [], l => rfl
  | m :: ms, l => by
    rw [List.length_cons, List.getElem?_cons_succ]
    exact lastN_get ms m
theorem atD_lastN (f : Nat → MP.D) (l : Nat) (ls : List Nat) : atD ((l :: ls).map f) (-1) = some (f (lastN l ls)) := by
  have e := lastN_get ls l
  have e2 : atD ((l :: ls).map f) (-1) = ((l :: ls).map f)[ls.length]? := by
    have i : (-1 + (((l :: ls).map f).length : Int)).toNat = ls.length := by simp; omega
    unfold atD
    simp
    constructor
    · omega
    · rw [show ((ls.length : Int) + 1 + -1).toNat = ls.length by omega]
      simp
  rw [e2, List.getElem?_map, e]
  rfl
theorem lastN_mem : ∀ (ls : List Nat) (l : Nat), lastN l ls ∈ l :: ls
  | [], l => by simp [lastN]
  | m :: ms, l => List.mem_cons_of_mem _ (lastN_mem ms m)
def headB (cn : List Cnd) (g : Cnd) : Bool := (colsOf [g]).all fun c => decide (c ∈ colsOf cn)
/-- what shows_chain gives on valid indices -/
def chainA (cn : List Cnd) (g : Cnd) : List Nat → Bool
  | [] => decide (g.1 = g.2.1) && decide (0 ≤ g.2.2)
  | l :: ls => decide ((gt cn l).1 = g.1) && decide ((gt cn (lastN l ls)).2.1 = g.2.1) && linkB cn (l :: ls) && decide (sumB cn (l :: ls) ≤ g.2.2)
def chainB (cn : List Cnd) (g : Cnd) (ls : List Nat) : Bool := match wk cn (-1) g.1 g.2.2 ls with
  | some (h, r) => decide (h = g.2.1) && decide (0 ≤ r)
  | none => false
theorem chain_eq (cn : List Cnd) (g : Cnd) (ls : List Nat) : chainA cn g ls = chainB cn g ls := by
  cases ls with
  | nil => rfl
  | cons l ls =>
    unfold chainB
    rw [wk_eq]
    by_cases h : (gt cn l).1 = g.1
    · by_cases k : linkB cn (l :: ls) = true
      · rw [if_pos ⟨h, k⟩]
        simp only [chainA, h, k, decide_true, Bool.true_and, Bool.and_true]
        congr 1
        exact decide_eq_decide.mpr (by omega)
      · rw [if_neg fun z => k z.2]
        simp [chainA, k]
    · rw [if_neg fun z => h z.1]
      simp [chainA, h]
def confA (cn : List Cnd) : List Nat → Bool
  | [] => false
  | l :: ls => decide ((gt cn (lastN l ls)).2.1 = (gt cn l).1) && (linkB cn (l :: ls) && decide (sumB cn (l :: ls) < 0))
def confB (cn : List Cnd) : List Nat → Bool
  | [] => false
  | l :: ls => match wk cn 1 (gt cn l).1 0 (l :: ls) with
    | some (h, r) => decide (h = (gt cn l).1) && decide (r < 0)
    | none => false
theorem conf_eq (cn : List Cnd) (ls : List Nat) : confA cn ls = confB cn ls := by
  cases ls with
  | nil => rfl
  | cons l ls =>
    show confA cn (l :: ls) = match wk cn 1 (gt cn l).1 0 (l :: ls) with
      | some (h, r) => decide (h = (gt cn l).1) && decide (r < 0)
      | none => false
    rw [wk_eq]
    by_cases k : linkB cn (l :: ls) = true
    · rw [if_pos ⟨rfl, k⟩]
      simp only [confA, k, Bool.true_and]
      congr 1
      exact decide_eq_decide.mpr (by omega)
    · rw [if_neg fun z => k z.2]
      simp [confA, k]
/-! ### indices -/
def isIx (n : Nat) : MP.D → Bool
  | .int i => decide (0 ≤ i) && decide (i < (n : Int))
  | _ => false
def ixB (n : Nat) : MP.D → Bool
  | .tup xs => xs.all (isIx n)
  | _ => false
def ixD (ls : List Nat) : List MP.D := ls.map fun (j : Nat) => .int (j : Int)
theorem ixs_of {n : Nat} : ∀ {xs : List MP.D}, xs.all (isIx n) = true ↔ ∃ ls : List Nat, xs = ixD ls ∧ ∀ l ∈ ls, l < n := by
  intro xs
  induction xs with
  | nil => exact ⟨fun _ => ⟨[], rfl, fun _ q => nomatch q⟩, fun _ => rfl⟩
  | cons x r ih =>
    rw [List.all_cons, Bool.and_eq_true, ih]
    constructor
    · rintro ⟨h, ls, rfl, hl⟩
      cases x with
      | int i =>
        simp [isIx] at h
        refine ⟨i.toNat :: ls, ?_, fun l q => ?_⟩
        · simp [ixD]; omega
        · rcases List.mem_cons.mp q with rfl | q
          · omega
          · exact hl l q
      | _ => cases h
    · rintro ⟨ls, e, hl⟩
      cases ls with
      | nil => cases e
      | cons l ls =>
        simp [ixD] at e
        obtain ⟨rfl, e⟩ := e
        refine ⟨?_, ls, e, fun z q => hl z (List.mem_cons_of_mem _ q)⟩
        have := hl l List.mem_cons_self
        simp [isIx]
        omega
theorem ix_cases (n : Nat) (v : MP.D) : (∃ ls : List Nat, v = .tup (ixD ls) ∧ (∀ l ∈ ls, l < n) ∧ ixB n v = true) ∨ ixB n v = false := by
  cases h : ixB n v with
  | false => exact .inr rfl
  | true =>
    cases v with
    | tup xs =>
      obtain ⟨ls, rfl, hl⟩ := ixs_of.mp h
      exact .inl ⟨ls, rfl, hl, rfl⟩
    | _ => cases h
end Law
namespace Law
open MP
/-! ### specs on valid indices -/
def GI (cn : List Cnd) : Prop := ∀ c ∈ cn, (∀ x, c.1 = some x → GoodC x) ∧ (∀ x, c.2.1 = some x → GoodC x)
theorem GI.cn {cn : List Cnd} (h : GI cn) : GoodCn cn := fun c q => by
  obtain ⟨x, hx, q⟩ := List.mem_flatMap.mp q
  simp at q
  rcases q with q | q
  · exact (h x hx).1 c q.symm
  · exact (h x hx).2 c q.symm
theorem pl_itm {it : Itm} (h : ∀ c, it = some c → GoodC c) : Pl (itmD it) := by
  cases it with
  | none => exact Pl_non
  | some c => exact (PlN_col (h c rfl)).pl (by omega)
theorem ple_itm {a b : Itm} (h : ∀ c, a = some c → GoodC c) (g : ∀ c, b = some c → GoodC c) : PlE (itmD a) (itmD b) := .of (pl_itm h) (pl_itm g)
theorem eq_itm (a b : Itm) : eqD (itmD a) (itmD b) = decide (a = b) := by
  cases a with
  | none => cases b with
    | none => simp [itmD, eqD, toPD, PySem.PyData.eqv]
    | some b => simp [itmD, colD, eqD, toPD, PySem.PyData.eqv]
  | some a => cases b with
    | none => simp [itmD, colD, eqD, toPD, PySem.PyData.eqv]
    | some b =>
      show eqD (colD a) (colD b) = _
      rw [eq_col.eq]
      exact decide_eq_decide.mpr ⟨fun e => by rw [e], fun e => by cases e; rfl⟩
theorem gt_mem {cn : List Cnd} {j : Nat} (h : j < cn.length) : gt cn j ∈ cn := by
  unfold gt
  rw [List.getD_eq_getElem?_getD, List.getElem?_eq_getElem h]
  exact List.getElem_mem h
theorem at_gt {cn : List Cnd} {j : Nat} (h : j < cn.length) : atD (cn.map cndD) (j : Int) = some (cndD (gt cn j)) := by
  unfold gt
  rw [atD_n, List.getElem?_map, List.getD_eq_getElem?_getD, List.getElem?_eq_getElem h]
  rfl
theorem gt1 {cn : List Cnd} (g : GI cn) {j : Nat} (h : j < cn.length) : ∀ x, (gt cn j).1 = some x → GoodC x := (g _ (gt_mem h)).1
theorem gt2 {cn : List Cnd} (g : GI cn) {j : Nat} (h : j < cn.length) : ∀ x, (gt cn j).2.1 = some x → GoodC x := (g _ (gt_mem h)).2
theorem cut_tail (ls : List Nat) : cutL (ixD ls) (cutN ls.length 0 (some 1)) (cutN ls.length ls.length none) = ixD ls.tail := by
  cases ls with
  | nil => rfl
  | cons l r =>
    have e1 : cutN (l :: r).length 0 (some 1) = 1 := by
      show (if (1 : Int) < 0 then ((1 : Int) + ((l :: r).length : Nat)).toNat else min (1 : Int).toNat (l :: r).length) = 1
      rw [if_neg (by omega), List.length_cons]
      omega
    have e2 : cutN (l :: r).length (l :: r).length none = (l :: r).length := rfl
    unfold cutL
    rw [e1, e2]
    simp [ixD]
    exact List.take_of_length_le (by simp)
theorem zip_ix : ∀ (ls ms : List Nat), zipD (ixD ls) (ixD ms) = (ls.zip ms).map fun p => .tup [.int (p.1 : Int), .int (p.2 : Int)]
  | [], _ => by cases ‹List Nat› <;> rfl
  | _ :: _, [] => rfl
  | a :: r, b :: s => by
    have := zip_ix r s
    simp only [ixD] at this ⊢
    simp only [List.map_cons, zipD, this, List.zip_cons_cons]
theorem link_zip (cn : List Cnd) : ∀ ls : List Nat, ((ls.zip ls.tail).all fun p => decide ((gt cn p.1).2.1 = (gt cn p.2).1)) = linkB cn ls
  | [] => rfl
  | [_] => rfl
  | a :: b :: r => by
    have := link_zip cn (b :: r)
    simp only [List.tail_cons] at this ⊢
    rw [List.zip_cons_cons, List.all_cons, this]
    rfl
theorem zip_lt {n : Nat} {ls : List Nat} (h : ∀ l ∈ ls, l < n) {p : Nat × Nat} (q : p ∈ ls.zip ls.tail) : p.1 < n ∧ p.2 < n := by
  obtain ⟨a, b⟩ := p
  have := List.of_mem_zip q
  exact ⟨h a this.1, h b (List.mem_of_mem_tail this.2)⟩
theorem linked_sp (n : Nat) (h : MH) (cn : List Cnd) (ls : List Nat) (g : GI cn) (hl : ∀ l ∈ ls, l < cn.length) (l1 : ls.length ≤ 1000) : Gives (callF prg (n + 1)) 5 [cndsD cn, .tup (ixD ls)] h (.bl (linkB cn ls)) := by
  unfold Gives
  rw [call_run (d := ⟨2, 4, m5⟩) rfl rfl]
  have lx : (ixD ls).length = ls.length := by simp [ixD]
  have ct := cut_tail ls
  rw [← lx] at ct
  have lz : (ls.zip ls.tail).length ≤ 1000 := by rw [List.length_zip]; omega
  have hz : zipD (ixD ls) (ixD ls).tail = (ls.zip ls.tail).map fun p => .tup [.int (p.1 : Int), .int (p.2 : Int)] := by
    rw [show (ixD ls).tail = ixD ls.tail by simp [ixD]]
    exact zip_ix _ _
  simp [m5, cndsD, wipe, ct, hz]
  refine ⟨by omega, ?_⟩
  refine WP.compTM (fun p => .bl (decide ((gt cn p.1).2.1 = (gt cn p.2).1))) (guarded_nil _) (fun p m => ?_) ?_
  · obtain ⟨a, b⟩ := zip_lt hl m
    simp [at_gt a, at_gt b, cndD, eq_itm, ple_itm (gt2 g a) (gt1 g b)]
  · have e := blsOf_map (fun p : Nat × Nat => decide ((gt cn p.1).2.1 = (gt cn p.2).1)) (ls.zip ls.tail)
    have e2 := link_zip cn ls
    simp [e, all_map, -List.all_eq_true, trim_same]
    exact e2
theorem ints_map {α : Type} (f : α → Int) (xs : List α) : intsOf (xs.map fun x => .int (f x)) = some (xs.map f) := by
  induction xs with
  | nil => rfl
  | cons x r ih => simp [intsOf, ih]
theorem sum_sp (n : Nat) (h : MH) (cn : List Cnd) (ls : List Nat) (hl : ∀ l ∈ ls, l < cn.length) (l1 : ls.length ≤ 1000) : Gives (callF prg (n + 1)) 6 [cndsD cn, .tup (ixD ls)] h (.int (sumB cn ls)) := by
  unfold Gives
  rw [call_run (d := ⟨2, 3, m6⟩) rfl rfl]
  simp [m6, cndsD, wipe, ixD]
  refine ⟨by omega, ?_⟩
  refine WP.compTM (fun l => .int (gt cn l).2.2) (guarded_nil _) (fun l m => ?_) ?_
  · simp [at_gt (hl l m), cndD]
  · have e := ints_map (fun l => (gt cn l).2.2) ls
    simp [e, trim_same, sumB]
theorem isIx_not {n : Nat} {x : MP.D} (h : isIntB x = false) : isIx n x = false := by cases x <;> first | rfl | cases h
theorem ix_sp (n : Nat) (h : MH) (cn : List Cnd) (v : MP.D) (V : Vl v) : Gives (callF prg (n + 2)) 4 [cndsD cn, v] h (.bl (ixB cn.length v)) := by
  unfold Gives
  rw [call_run (d := ⟨2, 3, m4⟩) rfl rfl]
  rcases isTup_of (h := h) V.av.sh with ⟨xs, rfl, ty⟩ | ⟨nt, ty⟩
  · have l := V.len
    simp [m4, isTys, ty, cndsD, wipe]
    refine ⟨by omega, ?_⟩
    refine WP.compM (fun x => .bl (isIx cn.length x)) (guarded_nil _) (fun x m => ?_) ?_
    · simp
      refine (intS n h x (V.mem m).av.sh).mono ?_
      rintro _ h ⟨rfl, rfl⟩
      cases hx : isIntB x with
      | false => simp [isIx_not hx]
      | true =>
        cases x with
        | int i =>
          simp [isIx]
          refine WC.ofD (fun h0 => ?_) (fun h0 => ?_) <;> simp [h0]
        | _ => cases hx
    · have e := blsOf_map (isIx cn.length) xs
      simp [e, all_map, -List.all_eq_true, ixB, trim_same]
  · simp [m4, isTys, ty, trim_same]
    cases v with
    | tup s => exact absurd rfl (nt s)
    | _ => rfl
end Law
namespace Law
open MP
theorem usedC_mem {cn : List Cnd} {c : Col} : c ∈ usedC cn ↔ c ∈ colsOf cn := srt_mem _ _
theorem head_eq (cn : List Cnd) (g : Cnd) : ((usedC [g]).all fun c => decide (c ∈ usedC cn)) = headB cn g := by
  unfold headB
  rw [Bool.eq_iff_iff, List.all_eq_true, List.all_eq_true]
  constructor
  · intro h c q
    exact decide_eq_true (usedC_mem.mp (of_decide_eq_true (h c (usedC_mem.mpr q))))
  · intro h c q
    exact decide_eq_true (usedC_mem.mpr (of_decide_eq_true (h c (usedC_mem.mp q))))
theorem head_eq2 (cn : List Cnd) (g : Cnd) : (([g.1, g.2.1] : List Itm).all fun it => it.all fun c => decide (c ∈ usedC cn)) = headB cn g := by
  have e : colsOf [g] = [g.1, g.2.1].filterMap id := by simp [colsOf]
  unfold headB
  rw [e]
  cases g.1 with
  | none => cases g.2.1 with
    | none => rfl
    | some y => simp [usedC_mem]
  | some x => cases g.2.1 with
    | none => simp [usedC_mem]
    | some y => simp [usedC_mem]
theorem good_used {cn : List Cnd} (g : GoodCn cn) : ∀ c ∈ usedC cn, GoodC c := fun c q => g c (usedC_mem.mp q)
theorem pls_cols {cs : List Col} (g : ∀ c ∈ cs, GoodC c) : pls (cs.map colD) 29 = true := pls_iff.mpr fun x q => by
  obtain ⟨c, hc, rfl⟩ := List.mem_map.mp q
  exact pl_le (by omega) (PlN_col (g c hc))
theorem pl_col {c : Col} (g : GoodC c) : Pl (colD c) := (PlN_col g).pl (by omega)
theorem ded_le {K : Type} [DecidableEq K] (xs : List K) : (ded xs).length ≤ xs.length := by
  induction xs using rev_ind with
  | h0 => exact Nat.le_refl _
  | hs xs x ih =>
    rw [ded_snoc, List.length_append]
    split
    · omega
    · rw [List.length_append]; simp; omega
theorem nm_col (c : Col) (h : MH) : norm (X.d (colD c)) h = some (colD c) := rfl
theorem nm_itm (c : Itm) (h : MH) : norm (X.d (itmD c)) h = some (itmD c) := by cases c <;> rfl
theorem usedC_len (cn : List Cnd) : (usedC cn).length ≤ 2 * cn.length := by
  have h1 := colsOf_len cn
  have : (usedC cn).length ≤ (colsOf cn).length := by
    unfold usedC srt
    rw [List.length_mergeSort]
    exact ded_le _
  omega
theorem show_not (n : Nat) (h : MH) (cn : List Cnd) (g : Cnd) (v : MP.D) (V : Vl v) (gc : GI cn) (lc : cn.length ≤ 100) (hv : ixB cn.length v = false) : Gives (callF prg (n + 5)) 7 [cndsD cn, cndD g, v] h (.bl false) := by
  unfold Gives
  rw [call_run (d := ⟨3, 8, m7⟩) rfl rfl]
  simp [m7]
  refine (columnsS n h cn (by omega) gc.cn).mono ?_
  rintro _ h ⟨rfl, rfl⟩
  simp
  refine (ix_sp (n + 2) h cn v V).mono ?_
  rintro _ h ⟨rfl, rfl⟩
  simp [hv, trim_same]
theorem show_ix (n : Nat) (h : MH) (cn : List Cnd) (g : Cnd) (ls : List Nat) (V : Vl (.tup (ixD ls))) (gc : GI cn) (gg : GI [g]) (lc : cn.length ≤ 100) (ll : ls.length ≤ 1000) (hl : ∀ l ∈ ls, l < cn.length) (hv : ixB cn.length (.tup (ixD ls)) = true) : Gives (callF prg (n + 5)) 7 [cndsD cn, cndD g, .tup (ixD ls)] h (.bl (headB cn g && chainA cn g ls)) := by
  unfold Gives
  rw [call_run (d := ⟨3, 8, m7⟩) rfl rfl]
  have gu := good_used gc.cn
  have pu := pls_cols gu
  have ul := usedC_len [g]
  simp [m7]
  refine (columnsS n h cn (by omega) gc.cn).mono ?_
  rintro _ h ⟨rfl, rfl⟩
  simp
  refine (ix_sp (n + 2) h cn _ V).mono ?_
  rintro _ h ⟨rfl, rfl⟩
  simp [hv]
  refine (columnsS n h [g] (by simp) gg.cn).mono ?_
  rintro _ h ⟨rfl, rfl⟩
  simp [wipe]
  refine ⟨by simp at ul; omega, ?_⟩
  refine WP.compTM (fun c => .bl (decide (c ∈ usedC cn))) (guarded_nil _) (fun c m => ?_) ?_
  · have em := eq_col.mem c (usedC cn)
    simp only [memD] at em
    simp [nm_col, pl_col (good_used gg.cn c m), pu, memD, em]
  · have e := blsOf_map (fun c => decide (c ∈ usedC cn)) (usedC [g])
    have e2 := head_eq cn g
    simp [e, all_map, -List.all_eq_true]
    rw [e2]
    have p1 := (gg g (by simp)).1
    have p2 := (gg g (by simp)).2
    cases hb : headB cn g with
    | false => simp [trim_same]
    | true =>
      have av : AVs NMAX (ixD ls) := by have := V.av; simpa using this
      have dl : dps (ixD ls) ≤ 60 := Nat.le_trans (dps_const (k := 0) fun x q => by obtain ⟨l, _, rfl⟩ := List.mem_map.mp q; simp) (by omega)
      simp [cndD, PlE_nil av dl, eqD_nilA]
      cases ls with
      | nil =>
        simp [ixD, ple_itm p1 p2, eq_itm, chainA, trim_same]
        refine WC.ofD (fun h0 => ?_) (fun h0 => ?_) <;> simp [h0, eq_itm, trim_same]
      | cons l r =>
        have a0 := hl l List.mem_cons_self
        have a1 := hl _ (lastN_mem r l)
        have at0 : atD (ixD (l :: r)) 0 = some (.int (l : Int)) := rfl
        have at1 : atD (ixD (l :: r)) (-1) = some (.int (lastN l r : Int)) := atD_lastN _ l r
        have ne : (ixD (l :: r)).isEmpty = false := rfl
        simp [ne, at0, at1, cndsD, at_gt a0, at_gt a1, cndD, ple_itm (gt1 gc a0) p1, ple_itm (gt2 gc a1) p2, eq_itm]
        refine WC.ofD (fun h0 => ?_) (fun h0 => ?_)
        · simp [at1, at_gt a1, cndD, ple_itm (gt2 gc a1) p2, eq_itm]
          refine WC.ofD (fun h1 => ?_) (fun h1 => ?_)
          · simp [eq_itm, h1]
            refine (linked_sp (n + 3) h cn (l :: r) gc hl ll).mono ?_
            rintro _ h ⟨rfl, rfl⟩
            cases hk : linkB cn (l :: r) with
            | false => simp [chainA, hk, trim_same]
            | true =>
              simp
              refine (sum_sp (n + 3) h cn (l :: r) hl ll).mono ?_
              rintro _ h ⟨rfl, rfl⟩
              simp [chainA, hk, h0, h1, trim_same]
          · simp [eq_itm, h1, chainA, trim_same]
        · simp [eq_itm, h0, chainA, trim_same]
/-! ### shows_conflict -/
theorem conf_not (n : Nat) (h : MH) (cn : List Cnd) (v : MP.D) (V : Vl v) (hv : ixB cn.length v = false) : Gives (callF prg (n + 3)) 8 [cndsD cn, v] h (.bl false) := by
  unfold Gives
  rw [call_run (d := ⟨2, 3, m8⟩) rfl rfl]
  simp [m8]
  refine (ix_sp n h cn v V).mono ?_
  rintro _ h ⟨rfl, rfl⟩
  simp [hv, trim_same]
theorem conf_ix (n : Nat) (h : MH) (cn : List Cnd) (ls : List Nat) (V : Vl (.tup (ixD ls))) (gc : GI cn) (ll : ls.length ≤ 1000) (hl : ∀ l ∈ ls, l < cn.length) (hv : ixB cn.length (.tup (ixD ls)) = true) : Gives (callF prg (n + 3)) 8 [cndsD cn, .tup (ixD ls)] h (.bl (confA cn ls)) := by
  unfold Gives
  rw [call_run (d := ⟨2, 3, m8⟩) rfl rfl]
  have av : AVs NMAX (ixD ls) := by have := V.av; simpa using this
  have dl : dps (ixD ls) ≤ 60 := Nat.le_trans (dps_const (k := 0) fun x q => by obtain ⟨l, _, rfl⟩ := List.mem_map.mp q; simp) (by omega)
  simp [m8]
  refine (ix_sp n h cn _ V).mono ?_
  rintro _ h ⟨rfl, rfl⟩
  simp [hv, PlE_nil av dl, eqD_nilA]
  cases ls with
  | nil => simp [ixD, confA, trim_same]
  | cons l r =>
    have a0 := hl l List.mem_cons_self
    have a1 := hl _ (lastN_mem r l)
    have at0 : atD (ixD (l :: r)) 0 = some (.int (l : Int)) := rfl
    have at1 : atD (ixD (l :: r)) (-1) = some (.int (lastN l r : Int)) := atD_lastN _ l r
    have ne : (ixD (l :: r)).isEmpty = false := rfl
    simp [ne, at0, at1, cndsD, at_gt a0, at_gt a1, cndD, ple_itm (gt2 gc a1) (gt1 gc a0), eq_itm]
    refine WC.ofD (fun h0 => ?_) (fun h0 => ?_)
    · simp
      refine (linked_sp (n + 1) h cn (l :: r) gc hl ll).mono ?_
      rintro _ h ⟨rfl, rfl⟩
      cases hk : linkB cn (l :: r) with
      | false => simp [confA, hk, trim_same]
      | true =>
        simp
        refine (sum_sp (n + 1) h cn (l :: r) hl ll).mono ?_
        rintro _ h ⟨rfl, rfl⟩
        simp [confA, hk, h0, trim_same]
    · simp [eq_itm, h0, confA, trim_same]
/-! ### the law's own walks -/
def ChI (cn : List Cnd) (s : Int) (i0 : Itm) (r0 : Int) (ls : List Nat) (a0 a1 a2 : Option MP.D) (h0 : MH) (d r : List Nat) (e : Env) (h : MH) : Prop :=
  ∃ (here : Itm) (rest : Int) (u3 u6 u7 u8 u9 : Option MP.D), e = [a0, a1, a2, u3, some (itmD here), some (.int rest), u6, u7, u8, u9] ∧ h = h0 ∧ wk cn s i0 r0 ls = wk cn s here rest r ∧ ∀ c, here = some c → GoodC c
theorem chainL_sp (n : Nat) (b : Bs) (s : Sr) (cn : List Cnd) (g : Cnd) (ls : List Nat) (gc : GI cn) (gg : GI [g]) (lc : cn.length < 32) (hl : ∀ l ∈ ls, l < cn.length) : Gives (callF prg (n + 2)) 17 [cndsD cn, cndD g, .tup (ixD ls)] (hp b s []) (.bl (headB cn g && chainB cn g ls)) := by
  unfold Gives
  rw [call_run (d := ⟨3, 10, m17⟩) rfl rfl]
  have gu := good_used gc.cn
  have pu := pls_cols gu
  have p1 := (gg g (by simp)).1
  have p2 := (gg g (by simp)).2
  simp [m17, cndD, wipe]
  refine WP.compTM (as := [g.1, g.2.1]) (k := itmD) (fun it => .bl (it.all fun c => decide (c ∈ usedC cn))) (guarded_nil _) (fun it m => ?_) ?_
  · cases it with
    | none => simp [itmD]
    | some c =>
      have gcc : GoodC c := by
        simp at m
        rcases m with m | m
        · exact p1 c m.symm
        · exact p2 c m.symm
      simp [itmD, colD]
      refine (usedS n b s cn lc gc.cn).mono ?_
      rintro _ h ⟨rfl, rfl⟩
      have em := eq_col.mem c (usedC cn)
      have pc := pl_col gcc
      simp only [memD, colD] at em
      simp only [colD] at pc
      have pu2 := pu
      simp [pc, pu2, memD, em]
  · have e := blsOf_map (fun it : Itm => it.all fun c => decide (c ∈ usedC cn)) [g.1, g.2.1]
    have e2 := head_eq2 cn g
    generalize ([g.1, g.2.1] : List Itm) = ys at e e2 ⊢
    simp [e, all_map, -List.all_eq_true]
    rw [e2]
    cases hb : headB cn g with
    | false => simp [trim_same]
    | true =>
      simp
      refine WP.forT (ChI cn (-1) g.1 g.2.2 ls (some (cndsD cn)) (some (.tup [itmD g.1, itmD g.2.1, .int g.2.2])) (some (.tup (ixD ls))) (hp b s [])) ?_ ?_ ?_
      · rintro d l r e h q ⟨here, rest, u3, u6, u7, u8, u9, rfl, rfl, ew, gh⟩
        have ll := hl l (by rw [← q]; simp)
        simp [cndsD, at_gt ll, cndD, ple_itm (gt1 gc ll) gh, eq_itm]
        by_cases h0 : (gt cn l).1 = here
        · simp [h0]
          refine ⟨_, _, _, _, _, _, _, rfl, rfl, ?_, gt2 gc ll⟩
          rw [ew]
          show (if (gt cn l).1 = here then _ else none) = _
          rw [if_pos h0, show rest + -1 * (gt cn l).2.2 = rest - (gt cn l).2.2 by omega]
        · have ec : chainB cn g ls = false := by
            unfold chainB
            rw [ew]
            have : wk cn (-1) here rest (l :: r) = none := by
              show (if (gt cn l).1 = here then _ else none) = _
              rw [if_neg h0]
            rw [this]
          simp [h0, ec, trim_same]
      · rintro e h ⟨here, rest, u3, u6, u7, u8, u9, rfl, rfl, ew, gh⟩
        have ec : chainB cn g ls = (decide (here = g.2.1) && decide (0 ≤ rest)) := by
          unfold chainB
          rw [ew]
          rfl
        simp [ple_itm gh p2, eq_itm]
        refine WC.ofD (fun h1 => ?_) (fun h1 => ?_)
        · simp [ec, h1, trim_same]
        · simp [ec, h1, eq_itm, trim_same]
      · exact ⟨_, _, _, _, _, _, _, rfl, rfl, rfl, p1⟩
def CfI (cn : List Cnd) (s : Int) (i0 : Itm) (r0 : Int) (ls : List Nat) (a0 a1 : Option MP.D) (h0 : MH) (d r : List Nat) (e : Env) (h : MH) : Prop :=
  ∃ (here : Itm) (rest : Int) (u2 u5 u6 u7 : Option MP.D), e = [a0, a1, u2, some (itmD here), some (.int rest), u5, u6, u7] ∧ h = h0 ∧ wk cn s i0 r0 ls = wk cn s here rest r ∧ ∀ c, here = some c → GoodC c
theorem confL_sp (n : Nat) (h : MH) (cn : List Cnd) (ls : List Nat) (V : Vl (.tup (ixD ls))) (gc : GI cn) (hl : ∀ l ∈ ls, l < cn.length) : Gives (callF prg (n + 1)) 18 [cndsD cn, .tup (ixD ls)] h (.bl (confB cn ls)) := by
  unfold Gives
  rw [call_run (d := ⟨2, 8, m18⟩) rfl rfl]
  have av : AVs NMAX (ixD ls) := by have := V.av; simpa using this
  have dl : dps (ixD ls) ≤ 60 := Nat.le_trans (dps_const (k := 0) fun x q => by obtain ⟨l, _, rfl⟩ := List.mem_map.mp q; simp) (by omega)
  simp [m18, PlE_nil av dl, eqD_nilA]
  cases ls with
  | nil => simp [ixD, confB, trim_same]
  | cons l0 r0 =>
    have a0 := hl l0 List.mem_cons_self
    have at0 : atD (ixD (l0 :: r0)) 0 = some (.int (l0 : Int)) := rfl
    have ne : (ixD (l0 :: r0)).isEmpty = false := rfl
    simp [ne, at0, cndsD, at_gt a0, cndD]
    refine WP.forT (CfI cn 1 (gt cn l0).1 0 (l0 :: r0) (some (.tup (cn.map cndD))) (some (.tup (ixD (l0 :: r0)))) h) ?_ ?_ ?_
    · rintro d l r e h' q ⟨here, rest, u2, u5, u6, u7, rfl, rfl, ew, gh⟩
      have ll := hl l (by rw [← q]; simp)
      simp [at_gt ll, cndD, ple_itm (gt1 gc ll) gh, eq_itm]
      by_cases h0 : (gt cn l).1 = here
      · simp [h0]
        refine ⟨_, _, _, _, _, _, rfl, rfl, ?_, gt2 gc ll⟩
        rw [ew]
        show (if (gt cn l).1 = here then _ else none) = _
        rw [if_pos h0, show rest + 1 * (gt cn l).2.2 = rest + (gt cn l).2.2 by omega]
      · have ec : confB cn (l0 :: r0) = false := by
          show (match wk cn 1 (gt cn l0).1 0 (l0 :: r0) with
            | some (h, r) => decide (h = (gt cn l0).1) && decide (r < 0)
            | none => false) = false
          rw [ew]
          have : wk cn 1 here rest (l :: r) = none := by
            show (if (gt cn l).1 = here then _ else none) = _
            rw [if_neg h0]
          rw [this]
        simp [h0, ec, trim_same]
    · rintro e h' ⟨here, rest, u2, u5, u6, u7, rfl, rfl, ew, gh⟩
      have ec : confB cn (l0 :: r0) = (decide (here = (gt cn l0).1) && decide (rest < 0)) := by
        show (match wk cn 1 (gt cn l0).1 0 (l0 :: r0) with
            | some (h, r) => decide (h = (gt cn l0).1) && decide (r < 0)
            | none => false) = _
        rw [ew]
        rfl
      simp [at0, at_gt a0, cndD, ple_itm gh (gt1 gc a0), eq_itm]
      refine WC.ofD (fun h1 => ?_) (fun h1 => ?_)
      · simp [ec, h1, trim_same]
      · simp [ec, h1, eq_itm, trim_same]
    · exact ⟨_, _, _, _, _, _, rfl, rfl, rfl, gt1 gc a0⟩
end Law
namespace Law
open MP
theorem all_ix (n : Nat) (h : MH) (cn : List Cnd) (v : MP.D) (xs : List MP.D) : (xs.map fun x => isIx cn.length x).all id = xs.all (isIx cn.length) := by simp
theorem shown_two (a b : Bool) : Shown (.lst [.bl a, .bl b]) := (show AV NMAX (.lst [.bl a, .bl b]) by simp).shown (by simp) (by simp)
theorem right_sp (n : Nat) (b : Bs) (s : Sr) (cn : List Cnd) (g : Cnd) (v : MP.D) (V : Vl v) (m1 : v.mz List.length 1 ≤ 1000) (gc : GI cn) (gg : GI [g]) (lc : cn.length < 32) (sh : Shown (.lst [cndsD cn, cndD g, v])) : Gives (callF prg (n + 6)) 21 [cndsD cn, cndD g, v] (hp b s []) (.bl true) := by
  unfold Gives
  rw [call_run (d := ⟨3, 7, m21⟩) rfl rfl]
  have nx := V.av.nr
  rcases ix_cases cn.length v with ⟨ls, rfl, hl, hv⟩ | hv
  · have ll : ls.length ≤ 1000 := by
      have := len_mz1 (xs := ixD ls)
      simp at m1
      have e : (ixD ls).length = ls.length := by simp [ixD]
      omega
    simp [m21, sh, nx]
    refine (show_ix n _ cn g ls V gc gg (by omega) ll hl hv).mono ?_
    rintro _ _ ⟨rfl, rfl⟩
    simp
    refine (conf_ix (n + 2) _ cn ls V gc ll hl hv).mono ?_
    rintro _ _ ⟨rfl, rfl⟩
    have ty : isTy (.tup (ixD ls)) (hp b s []) .tuple = some true := by
      rcases isTup_of (h := hp b s []) V.av.sh with ⟨xs, _, ty⟩ | ⟨nt, _⟩
      · exact ty
      · exact absurd rfl (nt (ixD ls))
    have lx : (ixD ls).length = ls.length := by simp [ixD]
    simp [isTys, ty, wipe]
    refine ⟨by omega, ?_⟩
    refine WP.compM (fun x => .bl (isIx cn.length x)) (guarded_nil _) (fun x m => ?_) ?_
    · simp
      refine (intL (n + 4) _ x (V.mem m).av.sh).mono ?_
      rintro _ h ⟨rfl, rfl⟩
      cases hx : isIntB x with
      | false => simp [isIx_not hx]
      | true =>
        cases x with
        | int i =>
          simp [isIx, cndsD]
          refine WC.ofD (fun h0 => ?_) (fun h0 => ?_) <;> simp [h0]
        | _ => cases hx
    · have e := blsOf_map (isIx cn.length) (ixD ls)
      have hv : (ixD ls).all (isIx cn.length) = true := hv
      simp [e, all_map, -List.all_eq_true, hv]
      refine (chainL_sp (n + 3) b s cn g ls gc gg lc hl).mono ?_
      rintro _ _ ⟨rfl, rfl⟩
      simp
      refine (confL_sp (n + 4) _ cn ls V gc hl).mono ?_
      rintro _ _ ⟨rfl, rfl⟩
      have ec := chain_eq cn g ls
      have ef := conf_eq cn ls
      simp [ec, ef, shown_two, sh, nx, trim_same]
  · simp [m21, sh, nx]
    refine (show_not n _ cn g v V gc (by omega) hv).mono ?_
    rintro _ _ ⟨rfl, rfl⟩
    simp
    refine (conf_not (n + 2) _ cn v V hv).mono ?_
    rintro _ _ ⟨rfl, rfl⟩
    rcases isTup_of (h := hp b s []) V.av.sh with ⟨xs, rfl, ty⟩ | ⟨nt, ty⟩
    · have l := V.len
      simp [isTys, ty, wipe]
      refine ⟨by omega, ?_⟩
      refine WP.compM (fun x => .bl (isIx cn.length x)) (guarded_nil _) (fun x m => ?_) ?_
      · simp
        refine (intL (n + 4) _ x (V.mem m).av.sh).mono ?_
        rintro _ h ⟨rfl, rfl⟩
        cases hx : isIntB x with
        | false => simp [isIx_not hx]
        | true =>
          cases x with
          | int i =>
            simp [isIx, cndsD]
            refine WC.ofD (fun h0 => ?_) (fun h0 => ?_) <;> simp [h0]
          | _ => cases hx
      · have e := blsOf_map (isIx cn.length) xs
        have hv : xs.all (isIx cn.length) = false := hv
        simp [e, all_map, -List.all_eq_true, -List.all_eq_false, hv, shown_two, sh, nx, trim_same]
    · simp [isTys, ty, shown_two, sh, nx, trim_same]
end Law
namespace Law
open MP
structure VS (A C : Nat) (v : MP.D) : Prop where
  av : AV NMAX v
  a : v.mz List.length 1 ≤ A
  c : v.dp ≤ C
theorem VS.up {A C A' C' : Nat} {v : MP.D} (h : VS A C v) (l1 : A ≤ A') (l2 : C ≤ C') : VS A' C' v := ⟨h.av, by have := h.a; omega, by have := h.c; omega⟩
theorem VS.vl {A C : Nat} {v : MP.D} (h : VS A C v) (l : A ≤ 12000) : Vl v := ⟨h.av, by have := h.a; omega⟩
/-! ### deep -/
def DeepI (h0 : MH) (k : Nat) (e : Env) (h : MH) : Prop := ∃ (x : MP.D) (u2 : Option MP.D), e = [some (.int 30), some x, u2] ∧ h = h0 ∧ VS (3 * k) k x
theorem deep_sp (n : Nat) (h : MH) : WP NE (callF prg (n + 1) 13 [.int 30] h) fun v h' => VS 90 30 v ∧ h' = h := by
  rw [call_run (d := ⟨1, 3, m13⟩) rfl rfl]
  simp [m13]
  refine WP.forN (DeepI h) ?_ ?_ ?_
  · rintro k e h' lk ⟨x, u2, rfl, rfl, vx⟩
    obtain ⟨av, a, c⟩ := vx
    have okk : okKeys [(MP.D.str [97], x)] = true := by simp [okKeys, okKey, keyOf, PySem.NestedKey.depth]
    simp [pairUp, okk, dputs, dput]
    have k3 : (k : Int) % 3 = 0 ∨ (k : Int) % 3 = 1 ∨ (k : Int) % 3 = 2 := by omega
    rcases k3 with k3 | k3 | k3
    · simp [k3]
      exact ⟨_, _, rfl, rfl, ⟨by simpa using av, by simp; omega, by simp; omega⟩⟩
    · simp [k3]
      exact ⟨_, _, rfl, rfl, ⟨by simpa using av, by simp; omega, by simp; omega⟩⟩
    · simp [k3]
      exact ⟨_, _, rfl, rfl, ⟨by simp [AV, D.av, avk] at av ⊢; exact av, by simp [D.mz, mzk]; omega, by simp [D.dp, toPD, toPDk, PySem.PyData.depth, PySem.PyData.depthKv] at c ⊢; omega⟩⟩
  · rintro e h' ⟨x, u2, rfl, rfl, vx⟩
    have := vx.av.cl
    simp [trim_same]
    exact vx.up (by omega) (by omega)
  · exact ⟨.int 0, _, rfl, rfl, ⟨by simp, by simp, by simp⟩⟩
/-! ### a walk -/
theorem rg_ix (n : Nat) : rangeD 0 n = ixD (List.range n) := by simp [rangeD, ixD]
theorem eqL_nil (xs : List MP.D) : eqD (.lst xs) (.lst []) = xs.isEmpty := by
  rw [eqD_lst]
  cases xs <;> simp [eqDs, toPDs, PySem.PyData.eqvAll]
theorem Pl_ixL (ls : List Nat) : Pl (.lst (ixD ls)) := (PlN_lst (n := 0) fun x q => by
  obtain ⟨l, _, rfl⟩ := List.mem_map.mp q
  exact PlN_int _ _).pl (by omega)
@[simp] theorem Cls_ix (ls : List Nat) : Cls (ixD ls) := Cls_iff.mpr fun x q => by
  obtain ⟨l, _, rfl⟩ := List.mem_map.mp q
  simp
theorem PlE_nilL (ls : List Nat) : PlE (.lst (ixD ls)) (.lst []) := .of (Pl_ixL ls) (Pl_ixL [])
def WalkO (b : Bs) (n k : Nat) (v : MP.D) (h' : MH) : Prop := ∃ (t : Sr) (ls : List Nat), v = .tup (ixD ls) ∧ h' = hp b t [] ∧ (∀ l ∈ ls, l < n) ∧ ls.length ≤ k
def WalkI (b : Bs) (cn : List Cnd) (m : Nat) (k : Nat) (e : Env) (h : MH) : Prop := ∃ (t : Sr) (ls : List Nat) (u4 u5 u6 : Option MP.D), e = [some (.ref b.r), some (cndsD cn), some (.int (m : Int)), some (.ref b.n), u4, u5, u6] ∧ h = hp b t [.lst (ixD ls)] ∧ (∀ l ∈ ls, l < cn.length) ∧ ls.length = k
def wT : MSs := (.c (.ite (.cmp .eq (.var 5) (.lst .n)) (.c (.ret (.b1 .tuple (.var 3)))
  .n) .n)
  (.c (.ex (.mb .append (.var 3) (.c (.call 11 (.c (.var 0) (.c (.var 5) .n))) .n)))
  .n))
def wM : MSs := (.c (.asg (.v 3) (.b1 .mut (.lst .n)))
  (.c (.for_ (.v 4) (.b1 .range (.var 2)) (.c (.asg (.v 5) (.b1 .lrg (.b1 .len (.var 1))))
  (.c (.ite (.and (.cmp .ne (.var 3) (.lst .n)) (.cmp .gt (.call 10 (.c (.var 0) (.c (.int 5) .n))) (.int 0))) (.c (.asg (.v 5) (.lc [6] (.v 6) (.var 5) (.cmp .eq (.ix (.ix (.var 1) (.var 6)) (.int 0)) (.ix (.ix (.var 1) (.ix (.var 3) (.b1 .neg (.int 1)))) (.int 1))) (.var 6)))
  .n) .n)
  wT)))
  (.c (.ret (.b1 .tuple (.var 3)))
  .n)))
theorem walk_tail (n : Nat) (b : Bs) (cn : List Cnd) (a2 u4 u6 : Option MP.D) (t : Sr) (ls xs : List Nat) (zs : List MP.D) (hz : zs = ixD xs) (hx : ∀ x ∈ xs, x < cn.length) (lx : xs.length ≤ 1000) (ll : ls.length ≤ 1000) :
    WP NE (execSs prg (callF prg (n + 2)) wT [some (.ref b.r), some (.tup (cn.map cndD)), a2, some (.ref b.n), u4, some (.lst zs), u6] (hp b t [.lst (ixD ls)])) (fun fl h1 =>
      (∃ (t9 : Sr) (l : Nat), l < cn.length ∧ fl = .nx [some (.ref b.r), some (.tup (cn.map cndD)), a2, some (.ref b.n), u4, some (.lst zs), u6] ∧ h1 = hp b t9 [.lst (ixD (ls ++ [l]))]) ∨ (fl = .rt (.tup (ixD ls)) ∧ h1 = hp b t [.lst (ixD ls)])) := by
  subst hz
  have en := eqL_nil (ixD xs)
  simp [wT, PlE_nilL]
  rw [en]
  cases xs with
  | nil => simp [ixD]
  | cons x r =>
    have ne : (ixD (x :: r)).isEmpty = false := rfl
    have lz : (ixD (x :: r)).length < 18446744073709551616 := by simp [ixD] at lx ⊢; omega
    have l2 : (ixD ls).length < 1000000 := by simp [ixD]; omega
    simp [ne]
    refine (choiceS n b t _ (ixD (x :: r)) (by simp [ixD]) lz).mono ?_
    rintro v _ ⟨t9, hv, rfl⟩
    obtain ⟨l, hm, rfl⟩ := List.mem_map.mp hv
    simp [l2]
    exact ⟨t9, l, hx l hm, by simp [ixD]⟩
theorem walk_sp (n : Nat) (b : Bs) (s : Sr) (cn : List Cnd) (m : Nat) (gc : GI cn) (lc : cn.length ≤ 100) (m7 : m ≤ 10) : WP NE (callF prg (n + 3) 19 [.ref b.r, cndsD cn, .int (m : Int)] (hp b s [])) (WalkO b cn.length m) := by
  rw [call_run (d := ⟨3, 7, wM⟩) rfl rfl]
  have hr : rangeD 0 (cn.map cndD).length = ixD (List.range cn.length) := by rw [List.length_map]; exact rg_ix _
  have hr2 : rangeD 0 cn.length = ixD (List.range cn.length) := rg_ix _
  have rl : (rangeD 0 cn.length).length = cn.length := by rw [hr2]; simp [ixD]
  have fin : ∀ {k : Nat} {t : Sr} {ls : List Nat} {zs : List MP.D} {u4 u6 : Option MP.D} {fl : Fl} {h1 : MH}, (∀ l ∈ ls, l < cn.length) → ls.length = k → k ≤ m →
      ((∃ (t9 : Sr) (l : Nat), l < cn.length ∧ fl = .nx [some (.ref b.r), some (.tup (cn.map cndD)), some (.int (m : Int)), some (.ref b.n), u4, some (.lst zs), u6] ∧ h1 = hp b t9 [.lst (ixD (ls ++ [l]))]) ∨ (fl = .rt (.tup (ixD ls)) ∧ h1 = hp b t [.lst (ixD ls)])) →
      (∃ e1, fl = .nx e1 ∧ WalkI b cn m (k + 1) e1 h1) ∨ (∃ v, fl = .rt v ∧ WalkO b cn.length m v (trim b.n v h1)) := by
    intro k t ls zs u4 u6 fl h1 hl lls lk q
    rcases q with ⟨t9, l, hl2, rfl, rfl⟩ | ⟨rfl, rfl⟩
    · refine .inl ⟨_, rfl, t9, ls ++ [l], _, _, _, rfl, rfl, fun z q => ?_, by simp [lls]⟩
      rcases List.mem_append.mp q with q | q
      · exact hl z q
      · rw [List.mem_singleton.mp q]; exact hl2
    · exact .inr ⟨_, rfl, t, ls, rfl, by simp, hl, by omega⟩
  simp [wM]
  refine ⟨by omega, ?_⟩
  refine WP.forN (WalkI b cn m) ?_ ?_ ?_
  · rintro k e h lk ⟨t, ls, u4, u5, u6, rfl, rfl, hl, lls⟩
    simp [cndsD, PlE_nilL]
    refine ⟨by omega, ?_⟩
    have en := eqL_nil (ixD ls)
    rw [en]
    cases ls with
    | nil =>
      simp [ixD, en]
      refine (walk_tail n b cn _ _ _ t [] (List.range cn.length) _ hr2 (fun x q => List.mem_range.mp q) (by simp; omega) (by simp)).mono ?_
      intro fl h1 q
      rcases fin hl lls (by omega) q with ⟨e1, rfl, w⟩ | ⟨v, rfl, w⟩
      · simpa using w
      · simpa using w
    | cons l0 r0 =>
      have ne0 : (ixD (l0 :: r0)).isEmpty = false := rfl
      simp [ne0]
      refine (drawS (n + 1) b t _ 5 (by omega) (by omega)).mono ?_
      rintro _ _ ⟨q, t2, q0, q1, rfl, rfl⟩
      simp
      refine WC.ofD (fun hq => ?_) (fun hq => ?_)
      · have al := hl _ (lastN_mem r0 l0)
        have at1 : atD (ixD (l0 :: r0)) (-1) = some (.int (lastN l0 r0 : Int)) := atD_lastN _ l0 r0
        simp [rl, wipe]
        refine ⟨by omega, ?_⟩
        rw [hr2]
        refine WP.compT (as := List.range cn.length) (k := fun (j : Nat) => MP.D.int (j : Int)) (fun j => if (gt cn j).1 = (gt cn (lastN l0 r0)).2.1 then some (.int (j : Int)) else none) (guarded_nil _) (fun j m => ?_) ?_
        · have aj := List.mem_range.mp m
          simp [at_gt aj, at1, at_gt al, cndD, ple_itm (gt1 gc aj) (gt2 gc al), eq_itm]
          by_cases h0 : (gt cn j).1 = (gt cn (lastN l0 r0)).2.1
          · simp [h0]
          · simp [h0]
        · simp
          have ef : ((List.range cn.length).filterMap fun j => if (gt cn j).1 = (gt cn (lastN l0 r0)).2.1 then some (MP.D.int (j : Int)) else none) = ixD ((List.range cn.length).filter fun j => decide ((gt cn j).1 = (gt cn (lastN l0 r0)).2.1)) := by
            unfold ixD
            induction (List.range cn.length) with
            | nil => rfl
            | cons a r ih =>
              rw [List.filterMap_cons, List.filter_cons]
              by_cases h0 : (gt cn a).1 = (gt cn (lastN l0 r0)).2.1
              · simp only [h0, if_true, decide_true, List.map_cons]
                exact congrArg _ ih
              · simp only [h0, if_false, decide_false]
                exact ih
          refine (walk_tail n b cn _ _ _ t2 (l0 :: r0) ((List.range cn.length).filter fun j => decide ((gt cn j).1 = (gt cn (lastN l0 r0)).2.1)) _ ef (fun x q => List.mem_range.mp (List.mem_filter.mp q).1) (Nat.le_trans (List.length_filter_le _ _) (by simp; omega)) (by omega)).mono ?_
          intro fl h1 q
          rcases fin hl lls (by omega) q with ⟨e1, rfl, w⟩ | ⟨v, rfl, w⟩
          · simpa using w
          · simpa using w
      · simp
        refine (walk_tail n b cn _ _ _ t2 (l0 :: r0) (List.range cn.length) _ hr2 (fun x q => List.mem_range.mp q) (by simp; omega) (by omega)).mono ?_
        intro fl h1 q
        rcases fin hl lls (by omega) q with ⟨e1, rfl, w⟩ | ⟨v, rfl, w⟩
        · simpa using w
        · simpa using w
  · rintro e h ⟨t, ls, u4, u5, u6, rfl, rfl, hl, lls⟩
    simp
    exact ⟨t, ls, rfl, rfl, hl, by omega⟩
  · exact ⟨s, [], _, _, _, rfl, rfl, (fun x q => nomatch q), rfl⟩
end Law
namespace Law
open MP
/-! ### changed links -/
theorem ix_facts (ls : List Nat) (h : ∀ l ∈ ls, l < 100) : AVs NMAX (ixD ls) ∧ mzs List.length 1 (ixD ls) = ls.length ∧ dps (ixD ls) = 0 := by
  induction ls with
  | nil => simp [ixD]
  | cons a r ih =>
    obtain ⟨h1, h2, h3⟩ := ih fun l q => h l (List.mem_cons_of_mem _ q)
    have := h a List.mem_cons_self
    unfold ixD at h1 h2 h3 ⊢
    rw [List.map_cons]
    refine ⟨?_, ?_, ?_⟩
    · simp
      exact ⟨by unfold NMAX; omega, h1⟩
    · simp; omega
    · simp; omega
def ChangedO (b : Bs) (v : MP.D) (h' : MH) : Prop := ∃ t : Sr, VS 40 5 v ∧ h' = hp b t []
theorem changed_sp (n : Nat) (b : Bs) (s : Sr) (ls : List Nat) (c : Nat) (hl : ∀ l ∈ ls, l < 100) (ll : ls.length ≤ 7) (c9 : c ≤ 9) : WP NE (callF prg (n + 3) 20 [.ref b.r, .tup (ixD ls), .int (c : Int)] (hp b s [])) (ChangedO b) := by
  obtain ⟨f1, f2, f3⟩ := ix_facts ls hl
  have lx : (ixD ls).length = ls.length := by simp [ixD]
  rw [call_run (d := ⟨3, 6, m20⟩) rfl rfl]
  simp [m20]
  refine (drawS (n + 1) b s [] _ (by omega) (by omega)).mono ?_
  rintro _ _ ⟨j, t, j0, j1, rfl, rfl⟩
  simp [small64]
  refine (choiceS n b t [] _ (by simp) (by simp)).mono ?_
  rintro st _ ⟨t2, hst, rfl⟩
  have vs : VS 2 1 st := by
    simp at hst
    rcases hst with rfl | rfl | rfl | rfl | rfl | rfl | rfl | rfl | rfl | rfl
    · exact ⟨by simp; unfold NMAX; omega, by simp, by simp⟩
    · exact ⟨by simp [NMAX], by simp, by simp⟩
    · exact ⟨by simp, by simp, by simp⟩
    · exact ⟨by simp, by simp, by simp⟩
    · exact ⟨by simp, by simp, by simp⟩
    · exact ⟨by simp, by simp, by simp⟩
    · exact ⟨by simp, by simp, by simp⟩
    · exact ⟨by simp, by simp, by simp⟩
    · exact ⟨by simp, by simp, by simp⟩
    · exact ⟨by simp [NMAX], by simp, by simp⟩
  have sub : ∀ x y : Nat, AVs NMAX (cutL (ixD ls) x y) ∧ mzs List.length 1 (cutL (ixD ls) x y) ≤ 7 ∧ dps (cutL (ixD ls) x y) ≤ 0 ∧ (cutL (ixD ls) x y).length ≤ 7 := fun x y => by
    have sl := cut_sub (ixD ls) x y
    refine ⟨AVs_iff.mpr fun z q => AVs_iff.mp f1 z (sl.subset q), ?_, ?_, ?_⟩
    · have := mzs_sub (p := List.length) (c := 1) sl
      omega
    · rw [← f3]; exact dps_mem fun y q => sl.subset q
    · have := sl.length_le
      omega
  simp
  obtain ⟨P, hP⟩ : ∃ P, P = cutL (ixD ls) (cutN (ixD ls).length 0 none) (cutN (ixD ls).length (ixD ls).length (some j)) := ⟨_, rfl⟩
  obtain ⟨Q, hQ⟩ : ∃ P, P = cutL (ixD ls) (cutN (ixD ls).length 0 (some j)) (cutN (ixD ls).length (ixD ls).length none) := ⟨_, rfl⟩
  obtain ⟨R, hR⟩ : ∃ P, P = cutL (ixD ls) (cutN (ixD ls).length 0 (some (j + 1))) (cutN (ixD ls).length (ixD ls).length none) := ⟨_, rfl⟩
  rw [← hP, ← hQ, ← hR]
  obtain ⟨P1, P2, P3, P4⟩ := hP ▸ sub (cutN (ixD ls).length 0 none) (cutN (ixD ls).length (ixD ls).length (some j))
  obtain ⟨Q1, Q2, Q3, Q4⟩ := hQ ▸ sub (cutN (ixD ls).length 0 (some j)) (cutN (ixD ls).length (ixD ls).length none)
  obtain ⟨R1, R2, R3, R4⟩ := hR ▸ sub (cutN (ixD ls).length 0 (some (j + 1))) (cutN (ixD ls).length (ixD ls).length none)
  refine ⟨by omega, by omega, by omega, by omega, by omega, by omega, by omega, ?_⟩
  refine (choiceS n b t2 [] _ (by simp) (by simp)).mono ?_
  rintro v _ ⟨t3, hv, rfl⟩
  have v1 := vs.av
  have v2 := vs.a
  have v3 := vs.c
  have vv : VS 40 5 v := by
    simp only [List.mem_cons, List.not_mem_nil, or_false] at hv
    rcases hv with rfl | rfl | rfl | rfl | rfl | rfl | rfl | rfl
    · exact ⟨by simpa using f1, by simp; omega, by simp; omega⟩
    · exact ⟨by simpa using f1.rev, by simp; omega, by simp; omega⟩
    · exact ⟨by simpa using f1, by simp; omega, by simp; omega⟩
    · exact ⟨by simpa using ⟨P1, v1, Q1⟩, by simp; omega, by simp; omega⟩
    · exact ⟨by simpa using ⟨P1, R1⟩, by simp; omega, by simp; omega⟩
    · exact ⟨by simpa using ⟨P1, v1, R1⟩, by simp; omega, by simp; omega⟩
    · exact ⟨by simpa using f1, by simp; omega, by simp; omega⟩
    · exact ⟨by simpa using ⟨f1, v1⟩, by simp; omega, by simp; omega⟩
  have cv := vv.av.cl
  simp [cv]
  exact ⟨t3, vv, rfl⟩
/-! ### goals -/
def OTHER : Col := ([111, 116, 104, 101, 114], [120])
def ALL : List Col := OTHER :: EVERY
theorem all_small : ∀ c ∈ ALL, c.1.length ≤ 8 ∧ c.2.length ≤ 8 ∧ (∀ x ∈ c.1, x < 128) ∧ ∀ x ∈ c.2, x < 128 := by decide
def CA (m : Int) (c : Cnd) : Prop := (∀ x, c.1 = some x → x ∈ ALL) ∧ (∀ x, c.2.1 = some x → x ∈ ALL) ∧ -m ≤ c.2.2 ∧ c.2.2 ≤ m
theorem good_all {c : Col} (h : c ∈ ALL) : GoodC c := by
  obtain ⟨_, _, h3, h4⟩ := all_small c h
  exact ⟨fun x q => Nat.lt_trans (h3 x q) (by decide), fun x q => Nat.lt_trans (h4 x q) (by decide)⟩
theorem CA.gi {m : Int} {cn : List Cnd} (h : ∀ c ∈ cn, CA m c) : GI cn := fun c q => ⟨fun x e => good_all ((h c q).1 x e), fun x e => good_all ((h c q).2.1 x e)⟩
theorem CA.of {cs : List Col} {m : Int} {c : Cnd} (hs : ∀ c ∈ cs, c ∈ ALL) (h : CndOf cs m c) : CA m c := ⟨fun x e => hs _ (h.1 x e), fun x e => hs _ (h.2.1 x e), h.2.2.2.1, h.2.2.2.2⟩
theorem vs_col {c : Col} (h : c ∈ ALL) : VS 18 1 (colD c) := by
  obtain ⟨h1, h2, h3, h4⟩ := all_small c h
  refine ⟨?_, ?_, ?_⟩
  · simp [colD]
    exact ⟨fun x q => Nat.lt_trans (h3 x q) (by decide), fun x q => Nat.lt_trans (h4 x q) (by decide)⟩
  · simp [colD]; omega
  · simp [colD]
theorem vs_itm {c : Itm} (h : ∀ x, c = some x → x ∈ ALL) : VS 18 1 (itmD c) := by
  cases c with
  | none => exact ⟨by simp [itmD], by simp [itmD], by simp [itmD]⟩
  | some x => exact vs_col (h x rfl)
theorem vs_cnd {m : Int} {c : Cnd} (h : CA m c) (hm : m ≤ 1000000) : VS 40 2 (cndD c) := by
  obtain ⟨h1, h2, h3, h4⟩ := h
  have a := vs_itm h1
  have d := vs_itm h2
  have a1 := a.a; have a2 := a.c; have d1 := d.a; have d2 := d.c
  refine ⟨?_, ?_, ?_⟩
  · simp [cndD]
    exact ⟨a.av, d.av, by unfold NMAX; omega⟩
  · simp [cndD]; omega
  · simp [cndD]; omega
theorem vs_cnds {m : Int} {cn : List Cnd} (h : ∀ c ∈ cn, CA m c) (hm : m ≤ 1000000) : VS (41 * cn.length) 3 (cndsD cn) := by
  have vm : ∀ x ∈ cn.map cndD, VS 40 2 x := fun x q => by
    obtain ⟨c, hc, rfl⟩ := List.mem_map.mp q
    exact vs_cnd (h c hc) hm
  have m1 := mzs_const (p := List.length) (c := 1) (k := 40) fun x q => (vm x q).a
  have m2 := dps_const (k := 2) fun x q => (vm x q).c
  rw [List.length_map] at m1
  refine ⟨?_, ?_, ?_⟩
  · simp only [cndsD, AV_tup]; exact AVs_iff.mpr fun x q => (vm x q).av
  · simp only [cndsD, mz_tup]; omega
  · simp only [cndsD, dp_tup]; omega
def GoalO (b : Bs) (v : MP.D) (h' : MH) : Prop := ∃ (t : Sr) (g : Cnd), v = cndD g ∧ h' = hp b t [] ∧ CA 1000 g
theorem sum_small {cn : List Cnd} (hc : ∀ c ∈ cn, CA 2 c) : ∀ (ls : List Nat), (∀ l ∈ ls, l < cn.length) → -(2 * (ls.length : Int)) ≤ sumB cn ls ∧ sumB cn ls ≤ 2 * (ls.length : Int)
  | [], _ => by simp [sumB]
  | l :: r, h => by
    have ih := sum_small hc r fun z q => h z (List.mem_cons_of_mem _ q)
    have := hc _ (gt_mem (h l List.mem_cons_self))
    unfold sumB at ih ⊢
    rw [List.map_cons, List.sum_cons, List.length_cons]
    have := this.2.2
    omega
theorem goal_sp (n : Nat) (b : Bs) (s : Sr) (cn : List Cnd) (ls : List Nat) (cs : List Col) (hc : ∀ c ∈ cn, CA 2 c) (hl : ∀ l ∈ ls, l < cn.length) (lc : cn.length ≤ 50) (ll : ls.length ≤ 7) (c0 : cs ≠ []) (c6 : cs.length ≤ 6) (hs : ∀ c ∈ cs, c ∈ EVERY) :
    WP NE (callF prg (n + 4) 22 [.ref b.r, cndsD cn, .tup (ixD ls), .lst (cs.map colD)] (hp b s [])) (GoalO b) := by
  obtain ⟨f1, f2, f3⟩ := ix_facts ls fun l q => by have := hl l q; omega
  have gc := CA.gi hc
  rw [call_run (d := ⟨4, 8, m22⟩) rfl rfl]
  simp [m22, PlE_nil f1 (by omega), eqD_nilA]
  have small : ∀ (t : Sr) (R : MP.D → MH → Prop), (∀ (t2 : Sr) (g : Cnd), CA 1000 g → R (cndsD [g]) (hp b t2 [])) → WP NE (callF prg (n + 3) 15 [.ref b.r, .lst (cs.map colD ++ [.tup [.str [111, 116, 104, 101, 114], .str [120]]]), .int 1, .int 2] (hp b t [])) R := by
    intro t R k
    have := smallS n b t (cs ++ [OTHER]) 1 2 (by simp) (by simp; omega) (by omega) (by omega) (by omega)
    rw [List.map_append] at this
    refine WP.mono this ?_
    rintro _ _ ⟨t2, gs, rfl, rfl, lg, hg⟩
    obtain ⟨g, rfl⟩ := List.length_eq_one_iff.mp lg
    have := CA.of (m := 2) (fun c q => by
      rcases List.mem_append.mp q with q | q
      · exact List.mem_cons_of_mem _ (hs c q)
      · rw [List.mem_singleton.mp q]; exact List.mem_cons_self) (hg g (by simp))
    exact k t2 g ⟨this.1, this.2.1, by have := this.2.2; omega, by have := this.2.2; omega⟩
  have en : eqD (.tup []) (.tup []) = true := by rw [eqD_nilA]; rfl
  have lap : cs.length + 1 ≤ 1000000 := by omega
  cases ls with
  | nil =>
    simp [ixD, en, lap]
    refine small _ _ fun t2 g cg => ?_
    simp [cndsD]
    exact ⟨t2, g, rfl, rfl, cg⟩
  | cons l r =>
    have a0 := hl l List.mem_cons_self
    have a1 := hl _ (lastN_mem r l)
    have at0 : atD (ixD (l :: r)) 0 = some (.int (l : Int)) := rfl
    have at1 : atD (ixD (l :: r)) (-1) = some (.int (lastN l r : Int)) := atD_lastN _ l r
    have ne : (ixD (l :: r)).isEmpty = false := rfl
    have lx : (ixD (l :: r)).length ≤ 1000000 := by simp [ixD] at ll ⊢; omega
    simp [ne]
    refine (drawS (n + 2) b s _ 4 (by omega) (by omega)).mono ?_
    rintro _ _ ⟨q, t2, q0, q1, rfl, rfl⟩
    simp
    refine WC.ofD (fun hq => ?_) (fun hq => ?_)
    · simp [lap]
      refine small _ _ fun t2 g cg => ?_
      simp [cndsD]
      exact ⟨t2, g, rfl, rfl, cg⟩
    · simp [at0, at1, cndsD, at_gt a0, at_gt a1, cndD, wipe, lx]
      refine WP.compTM (as := l :: r) (k := fun (j : Nat) => MP.D.int (j : Int)) (fun j => .int (gt cn j).2.2) (guarded_nil _) (fun j m => ?_) ?_
      · simp [at_gt (hl j m), cndD]
      · have e := ints_map (fun l => (gt cn l).2.2) (l :: r)
        generalize hlr : l :: r = lr at e ⊢
        simp [e]
        refine (choiceS (n + 1) b t2 [] [.int 0, .int 1, .int (-1), .int 0] (by simp) (by simp)).mono ?_
        rintro v _ ⟨t3, hv, rfl⟩
        have : ∃ i : Int, v = .int i ∧ -1 ≤ i ∧ i ≤ 1 := by
          simp at hv
          rcases hv with rfl | rfl | rfl | rfl
          · exact ⟨_, rfl, by decide, by decide⟩
          · exact ⟨_, rfl, by decide, by decide⟩
          · exact ⟨_, rfl, by decide, by decide⟩
          · exact ⟨_, rfl, by decide, by decide⟩
        obtain ⟨i, rfl, i0, i1⟩ := this
        have ss := sum_small hc (l :: r) hl
        have sm : sumB cn (l :: r) = (lr.map fun l => (gt cn l).2.2).sum := by rw [← hlr]; rfl
        rw [sm] at ss
        simp
        have gA := (hc _ (gt_mem a0)).1
        have gB := (hc _ (gt_mem a1)).2.1
        generalize (gt cn l).1 = A at gA ⊢
        generalize (gt cn (lastN l r)).2.1 = B at gB ⊢
        generalize hX : (lr.map fun l => (gt cn l).2.2).sum + i = X
        have bX : -1000 ≤ X ∧ X ≤ 1000 := by
          simp only [List.length_cons] at ss ll
          omega
        obtain ⟨c, rs, rfl⟩ : ∃ c rs, cs = c :: rs := by
          cases cs with
          | nil => exact absurd rfl c0
          | cons c rs => exact ⟨c, rs, rfl⟩
        have hcA : c ∈ ALL := List.mem_cons_of_mem _ (hs c (by simp))
        cases A with
        | none => cases B with
          | none =>
            simp [itmD]
            exact ⟨t3, (some c, some c, X), rfl, by simp, fun x e => by cases e; exact hcA, fun x e => by cases e; exact hcA, bX.1, bX.2⟩
          | some y =>
            simp [itmD, colD]
            exact ⟨t3, (none, some y, X), rfl, by simp, (fun x e => nomatch e), gB, bX.1, bX.2⟩
        | some x => cases B with
          | none =>
            simp [itmD, colD]
            exact ⟨t3, (some x, none, X), rfl, by simp, gA, (fun x e => nomatch e), bX.1, bX.2⟩
          | some y =>
            simp [itmD, colD]
            exact ⟨t3, (some x, some y, X), rfl, by simp, gA, gB, bX.1, bX.2⟩
end Law
namespace Law
open MP
def Outer (ns : List Int) (e : Env) (h : MH) : Prop := ∃ u1 u2 u3 u4 u5 u6 u7 u8 u9 u10 : Option MP.D, e = [some (.rol (ns.map MP.D.int)), u1, u2, u3, u4, u5, u6, u7, u8, u9, u10] ∧ ∀ o ∈ h, ClO o
def Inner (b : Bs) (a0 a1 : Option MP.D) (e : Env) (h : MH) : Prop := ∃ (t : Sr) (u3 u4 u5 u6 u7 u8 u9 u10 : Option MP.D), e = [a0, a1, some (.ref b.r), u3, u4, u5, u6, u7, u8, u9, u10] ∧ h = hp b t []
def GoI (b : Bs) (d ys r : List MP.D) (h : MH) : Prop := ∃ t : Sr, h = hp b t [] ∧ ys.length = d.length ∧ ∀ y ∈ ys, VS 90 30 y
theorem shown_all {cn : List Cnd} {g : Cnd} {v : MP.D} (hc : ∀ c ∈ cn, CA 2 c) (lc : cn.length ≤ 8) (cg : CA 1000 g) (vv : VS 90 30 v) : Shown (.lst [cndsD cn, cndD g, v]) := by
  have a := vs_cnds hc (by omega)
  have b := vs_cnd cg (by omega)
  have a1 := a.a; have a2 := a.c; have b1 := b.a; have b2 := b.c; have v1 := vv.a; have v2 := vv.c
  have av : AV NMAX (.lst [cndsD cn, cndD g, v]) := by simpa using ⟨a.av, b.av, vv.av⟩
  exact av.shown (by simp; omega) (by simp; omega)
theorem holds (ns : List Int) (hn : ns.length ≤ 63) : ∃ h', callF prg 20 23 [.rol (ns.map MP.D.int)] [] = .ok (.bl true) h' := by
  have main : WP NE (callF prg (19 + 1) 23 [.rol (ns.map MP.D.int)] []) fun v _ => v = .bl true := by
    rw [call_run (d := ⟨1, 11, m23⟩) rfl rfl]
    have nl : (ns.length : Int) ≤ 63 := by omega
    simp [m23]
    generalize hN : (if 1 < (if (ns.length : Int) < 3 then (ns.length : Int) else 3) then (if (ns.length : Int) < 3 then (ns.length : Int) else 3) else 1) = N
    have N0 : 0 ≤ N ∧ N ≤ 3 := by
      rw [← hN]
      constructor <;> (split <;> (try split) <;> omega)
    repeat (refine And.intro (by omega) ?_)
    refine WP.forN (fun _ e h => Outer ns e h) ?_ ?_ ?_
    · rintro k e h lt ⟨u1, u2, u3, u4, u5, u6, u7, u8, u9, u10, rfl, cl⟩
      simp
      refine (startS _ h ns k (by omega) hn).mono ?_
      rintro _ _ ⟨t, rfl, rfl⟩
      simp
      let b : Bs := ⟨h, [], cl, fun o q => nomatch q⟩
      refine WP.forN (fun _ e h => Inner b (some (.rol (ns.map MP.D.int))) (some (.int k)) e h) ?_ ?_ ?_
      · rintro j e h' lj ⟨t0, w3, w4, w5, w6, w7, w8, w9, w10, rfl, rfl⟩
        simp
        refine (drawS _ b t0 [] 3 (by omega) (by omega)).mono ?_
        rintro _ _ ⟨c, t1, c0, c1, rfl, rfl⟩
        simp
        have sc := someS 17 b t1 (1 + c).toNat (by omega)
        rw [show (((1 + c).toNat : Nat) : Int) = 1 + c by omega] at sc
        refine sc.mono ?_
        rintro _ _ ⟨t2, cs, rfl, rfl, lcs, _, hcs⟩
        have cs0 : cs ≠ [] := fun z => by rw [z] at lcs; simp at lcs; omega
        simp
        refine (drawS _ b t2 [] 9 (by omega) (by omega)).mono ?_
        rintro _ _ ⟨m, t3, m0, m1, rfl, rfl⟩
        simp
        have sm := smallS 16 b t3 cs m.toNat 2 cs0 (by omega) (by omega) (by omega) (by omega)
        rw [show ((m.toNat : Nat) : Int) = m by omega] at sm
        refine sm.mono ?_
        rintro _ _ ⟨t4, cn, rfl, rfl, lcn, hcn⟩
        have ca : ∀ c ∈ cn, CA 2 c := fun c q => CA.of (fun c q => List.mem_cons_of_mem _ (hcs c q)) (hcn c q)
        have gc := CA.gi ca
        have lc8 : cn.length ≤ 8 := by omega
        simp
        refine (drawS _ b t4 [] 7 (by omega) (by omega)).mono ?_
        rintro _ _ ⟨w, t5, x0, x1, rfl, rfl⟩
        simp
        have wk := walk_sp 16 b t5 cn w.toNat gc (by omega) (by omega)
        rw [show ((w.toNat : Nat) : Int) = w by omega] at wk
        refine wk.mono ?_
        rintro _ _ ⟨t6, ls, rfl, rfl, hl, lls⟩
        have ll : ls.length ≤ 7 := by omega
        simp
        refine (goal_sp 15 b t6 cn ls cs ca hl (by omega) ll cs0 (by omega) hcs).mono ?_
        rintro _ _ ⟨t7, g, rfl, rfl, cg⟩
        simp [wipe]
        refine ⟨by decide, ?_⟩
        refine WP.compI (GoI b) ?_ ?_ ?_ ?_
        · intro d ys r h _
          exact guarded_nil h
        · rintro d ys x r h q ⟨t8, rfl, ly, hy⟩
          simp [cndsD]
          refine (changed_sp 16 b t8 ls cn.length (fun l q => by have := hl l q; omega) ll (by omega)).mono ?_
          rintro v _ ⟨t9, vv, rfl⟩
          simp
          refine ⟨t9, rfl, by simp [ly], fun y q => ?_⟩
          rcases List.mem_append.mp q with q | q
          · exact hy y q
          · rw [List.mem_singleton.mp q]; exact vv.up (by omega) (by omega)
        · rintro ys h ⟨t8, rfl, ly, hy⟩
          have ly8 : ys.length = 8 := by rw [ly]; rfl
          have okn : okKeys [] = true := rfl
          simp [ly8, pairUp, okn, dputs]
          refine (deep_sp 18 _).mono ?_
          rintro dv _ ⟨vd, rfl⟩
          simp [ly8]
          obtain ⟨f1, f2, f3⟩ := ix_facts ls fun l q => by have := hl l q; omega
          generalize hZ : (MP.D.tup (ixD ls) :: MP.D.tup [] :: (ys ++ [MP.D.non, .bl true, .int 0, .str [], .lst [], .dct [], dv, .tup [.tup []], .tup [.bl true], .tup [.int 0], .tup [.int 0, .int 0]])) = Z
          have vZ : ∀ z ∈ Z, VS 90 30 z := by
            rw [← hZ]
            intro z q
            simp only [List.mem_cons, List.mem_append, List.not_mem_nil, or_false] at q
            rcases q with rfl | rfl | q | rfl | rfl | rfl | rfl | rfl | rfl | rfl | rfl | rfl | rfl | rfl
            · exact ⟨by simpa using f1, by simp; omega, by simp; omega⟩
            · exact ⟨by simp, by simp, by simp⟩
            · exact hy z q
            · exact ⟨by simp, by simp, by simp⟩
            · exact ⟨by simp, by simp, by simp⟩
            · exact ⟨by simp, by simp, by simp⟩
            · exact ⟨by simp, by simp, by simp⟩
            · exact ⟨by simp, by simp, by simp⟩
            · exact ⟨by simp [AV, D.av, avk], by simp [D.mz, mzk], by simp [D.dp, toPD, toPDk, PySem.PyData.depth, PySem.PyData.depthKv]⟩
            · exact vd
            · exact ⟨by simp, by simp, by simp⟩
            · exact ⟨by simp, by simp, by simp⟩
            · exact ⟨by simp, by simp, by simp⟩
            · exact ⟨by simp, by simp, by simp⟩
          refine WP.compM (fun _ => .bl true) (guarded_nil _) (fun z q => ?_) ?_
          · have vz := vZ z q
            simp [wipe]
            refine (right_sp 13 b t8 cn g z (vz.vl (by omega)) (by have := vz.a; omega) gc (CA.gi (m := 1000) fun c q => by rw [List.mem_singleton.mp q]; exact cg) (by omega) (shown_all ca lc8 cg vz)).mono ?_
            rintro _ _ ⟨rfl, rfl⟩
            simp
          · have e := blsOf_map (fun _ : MP.D => true) Z
            have at_ : (Z.all fun _ => true) = true := List.all_eq_true.mpr fun _ _ => rfl
            simp [e, all_map, -List.all_eq_true, at_]
            exact ⟨t8, _, _, _, _, _, _, _, _, rfl, rfl⟩
        · exact ⟨t7, rfl, rfl, fun y q => nomatch q⟩
      · rintro e h' ⟨t0, w3, w4, w5, w6, w7, w8, w9, w10, rfl, rfl⟩
        refine ⟨_, _, _, _, _, _, _, _, _, _, rfl, fun o q => ?_⟩
        rcases List.mem_append.mp q with z | z
        · exact cl o z
        · rcases List.mem_singleton.mp z with rfl
          exact srO_cl _
      · exact ⟨t, _, _, _, _, _, _, _, _, rfl, rfl⟩
    · rintro e h ⟨u1, u2, u3, u4, u5, u6, u7, u8, u9, u10, rfl, cl⟩
      simp
    · exact ⟨_, _, _, _, _, _, _, _, _, _, rfl, fun o q => nomatch q⟩
  obtain ⟨a, h', e, rfl⟩ := main.get
  exact ⟨h', e⟩
end Law

open PySem PySem.W PyProof.Rows in
set_option maxHeartbeats 0 in
theorem PySem.Challenge.cw_joinequal_k11_chains_and_conflicts_of_an_holds : PySem.Challenge.rw_joinequal_k11_chains_and_conflicts_of_an.Holds := by
  w_on; o_law; k_head; (case hw => w_witness2)
  k_fill
  refine MP.walk_mini (l := PySem.Challenge.rw_joinequal_k11_chains_and_conflicts_of_an) (n := 63) (k := 60) (i := 23) (x := "_law_script") (cf := MP.callF Law.prg 20) rfl (by decide) rfl ⟨rfl, by decide, by decide⟩ (fun w h Y => PySem.W.kIn_of Y) ?F Law.holds
  case F =>
    intro w mg fa h KX G hmg
    refine' Law.all_mk KX G hmg ?a0 ?l0 ?c0 ?k0 ?a1 ?l1 ?c1 ?k1 ?a2 ?l2 ?c2 ?k2 ?a3 ?l3 ?c3 ?k3 ?a4 ?l4 ?c4 ?k4 ?a5 ?l5 ?c5 ?k5 ?a6 ?l6 ?c6 ?k6 ?a7 ?l7 ?c7 ?k7 ?a8 ?l8 ?c8 ?k8 ?a9 ?l9 ?c9 ?k9 ?a10 ?l10 ?c10 ?k10 ?a11 ?l11 ?c11 ?k11 ?a12 ?l12 ?c12 ?k12 ?a13 ?l13 ?c13 ?k13 ?a14 ?l14 ?c14 ?k14 ?a15 ?l15 ?c15 ?k15 ?a16 ?l16 ?c16 ?k16 ?a17 ?l17 ?c17 ?k17 ?a18 ?l18 ?c18 ?k18 ?a19 ?l19 ?c19 ?k19 ?a20 ?l20 ?c20 ?k20 ?a21 ?l21 ?c21 ?k21 ?a22 ?l22 ?c22 ?k22 ?a23 ?l23 ?c23 ?k23 ?z_abs ?z_all ?z_bool ?z_int ?z_isinstance ?z_len ?z_list ?z_max ?z_min ?z_range ?z_repr ?z_set ?z_sorted ?z_sum ?z_tuple ?z_zip
    (case a0 => k_is)
    (case l0 => k_is)
    (case c0 => k_is)
    (case k0 => k_is)
    (case a1 => k_is)
    (case l1 => k_is)
    (case c1 => k_is)
    (case k1 => k_is)
    (case a2 => k_is)
    (case l2 => k_is)
    (case c2 => k_is)
    (case k2 => k_is)
    (case a3 => k_is)
    (case l3 => k_is)
    (case c3 => k_is)
    (case k3 => k_is)
    (case a4 => k_is)
    (case l4 => k_is)
    (case c4 => k_is)
    (case k4 => k_is)
    (case a5 => k_is)
    (case l5 => k_is)
    (case c5 => k_is)
    (case k5 => k_is)
    (case a6 => k_is)
    (case l6 => k_is)
    (case c6 => k_is)
    (case k6 => k_is)
    (case a7 => k_is)
    (case l7 => k_is)
    (case c7 => k_is)
    (case k7 => k_is)
    (case a8 => k_is)
    (case l8 => k_is)
    (case c8 => k_is)
    (case k8 => k_is)
    (case a9 => k_is)
    (case l9 => k_is)
    (case c9 => k_is)
    (case k9 => k_is)
    (case a10 => k_is)
    (case l10 => k_is)
    (case c10 => k_is)
    (case k10 => k_is)
    (case a11 => k_is)
    (case l11 => k_is)
    (case c11 => k_is)
    (case k11 => k_is)
    (case a12 => k_is)
    (case l12 => k_is)
    (case c12 => k_is)
    (case k12 => k_is)
    (case a13 => k_is)
    (case l13 => k_is)
    (case c13 => k_is)
    (case k13 => k_is)
    (case a14 => k_is)
    (case l14 => k_is)
    (case c14 => k_is)
    (case k14 => k_is)
    (case a15 => k_is)
    (case l15 => k_is)
    (case c15 => k_is)
    (case k15 => k_is)
    (case a16 => k_is)
    (case l16 => k_is)
    (case c16 => k_is)
    (case k16 => k_is)
    (case a17 => k_is)
    (case l17 => k_is)
    (case c17 => k_is)
    (case k17 => k_is)
    (case a18 => k_is)
    (case l18 => k_is)
    (case c18 => k_is)
    (case k18 => k_is)
    (case a19 => k_is)
    (case l19 => k_is)
    (case c19 => k_is)
    (case k19 => k_is)
    (case a20 => k_is)
    (case l20 => k_is)
    (case c20 => k_is)
    (case k20 => k_is)
    (case a21 => k_is)
    (case l21 => k_is)
    (case c21 => k_is)
    (case k21 => k_is)
    (case a22 => k_is)
    (case l22 => k_is)
    (case c22 => k_is)
    (case k22 => k_is)
    (case a23 => k_is)
    (case l23 => k_is)
    (case c23 => k_is)
    (case k23 => k_is)
    (case z_abs => k_is)
    (case z_all => k_is)
    (case z_bool => k_is)
    (case z_int => k_is)
    (case z_isinstance => k_is)
    (case z_len => k_is)
    (case z_list => k_is)
    (case z_max => k_is)
    (case z_min => k_is)
    (case z_range => k_is)
    (case z_repr => k_is)
    (case z_set => k_is)
    (case z_sorted => k_is)
    (case z_sum => k_is)
    (case z_tuple => k_is)
    (case z_zip => k_is)

