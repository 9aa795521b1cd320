import PyProof.Rows.All
import Wide.All
import OpenK.AllK
import Wide.FinOn
import HandS.ForMost
import HandS.ForExc
import HandS.TupAny
import HandS.Style
import HandS.Flow
import HandS.Walk
import HandS.TryMany
import HandS.More
import HandS.Conv
import HandS.TupLe
import HandS.StrMore
import HandS.SortInts
import HandS.IsInst
import HandS.Replace
import HandS.FltList
import HandS.Dict
import HandS.Deep
import PyProof.ListCopy
import HandS.WordsDict
import KE.GoesMore
import KE.GoesEnum
import HandS.Zip
import HandS.Small
import KE.KExcSuper
import HandS.Nested
import HandS.FStr
import HandS.ExcInit
import HandS.Defaults
import HandS.ExcSuper
import HandS.ExcField
import HandS.WordsExc
import KE.KExcIs
import HandS.Codes
import HandS.Head0
import HandS.Head1
import HandS.Head2
import HandS.HeadEnd
import HandS.HeadHook1
import HandS.HeadHook2
import KE.KStateDown
import PySem.Challenge.RW_keptmarks_k35_whole_series_of_patches
set_option Elab.async false
set_option linter.all false
set_option autoImplicit false
set_option maxRecDepth 100000
set_option maxHeartbeats 16000000
/-! A small evaluator for the part of Python that the given program uses: values, a heap of lists, dicts and instances, expressions, statements, loops, calls. -/
namespace KM

/-- a value; tuples and texts are told by their parts, lists, dicts and instances by their cell -/
inductive Val where
  | non | bl (b : Bool) | int (i : Int) | str (cs : List Nat) | tup (xs : List Val) | ref (n : Nat) | rol (xs : List Val)
  deriving Inhabited

mutual
def Val.deq : (a b : Val) → Decidable (a = b)
  | .non, .non => .isTrue rfl
  | .non, .bl _ => .isFalse (fun e => nomatch e)
  | .non, .int _ => .isFalse (fun e => nomatch e)
  | .non, .str _ => .isFalse (fun e => nomatch e)
  | .non, .ref _ => .isFalse (fun e => nomatch e)
  | .non, .tup _ => .isFalse (fun e => nomatch e)
  | .non, .rol _ => .isFalse (fun e => nomatch e)
  | .bl _, .non => .isFalse (fun e => nomatch e)
  | .bl a, .bl b => if h : a = b then .isTrue (by rw [h]) else .isFalse (fun e => h (Val.bl.inj e))
  | .bl _, .int _ => .isFalse (fun e => nomatch e)
  | .bl _, .str _ => .isFalse (fun e => nomatch e)
  | .bl _, .ref _ => .isFalse (fun e => nomatch e)
  | .bl _, .tup _ => .isFalse (fun e => nomatch e)
  | .bl _, .rol _ => .isFalse (fun e => nomatch e)
  | .int _, .non => .isFalse (fun e => nomatch e)
  | .int _, .bl _ => .isFalse (fun e => nomatch e)
  | .int a, .int b => if h : a = b then .isTrue (by rw [h]) else .isFalse (fun e => h (Val.int.inj e))
  | .int _, .str _ => .isFalse (fun e => nomatch e)
  | .int _, .ref _ => .isFalse (fun e => nomatch e)
  | .int _, .tup _ => .isFalse (fun e => nomatch e)
  | .int _, .rol _ => .isFalse (fun e => nomatch e)
  | .str _, .non => .isFalse (fun e => nomatch e)
  | .str _, .bl _ => .isFalse (fun e => nomatch e)
  | .str _, .int _ => .isFalse (fun e => nomatch e)
  | .str a, .str b => if h : a = b then .isTrue (by rw [h]) else .isFalse (fun e => h (Val.str.inj e))
  | .str _, .ref _ => .isFalse (fun e => nomatch e)
  | .str _, .tup _ => .isFalse (fun e => nomatch e)
  | .str _, .rol _ => .isFalse (fun e => nomatch e)
  | .ref _, .non => .isFalse (fun e => nomatch e)
  | .ref _, .bl _ => .isFalse (fun e => nomatch e)
  | .ref _, .int _ => .isFalse (fun e => nomatch e)
  | .ref _, .str _ => .isFalse (fun e => nomatch e)
  | .ref a, .ref b => if h : a = b then .isTrue (by rw [h]) else .isFalse (fun e => h (Val.ref.inj e))
  | .ref _, .tup _ => .isFalse (fun e => nomatch e)
  | .ref _, .rol _ => .isFalse (fun e => nomatch e)
  | .tup _, .non => .isFalse (fun e => nomatch e)
  | .tup _, .bl _ => .isFalse (fun e => nomatch e)
  | .tup _, .int _ => .isFalse (fun e => nomatch e)
  | .tup _, .str _ => .isFalse (fun e => nomatch e)
  | .tup _, .ref _ => .isFalse (fun e => nomatch e)
  | .tup a, .tup b => match Val.deqs a b with
    | .isTrue h => .isTrue (by rw [h])
    | .isFalse h => .isFalse (fun e => h (Val.tup.inj e))
  | .tup _, .rol _ => .isFalse (fun e => nomatch e)
  | .rol _, .non => .isFalse (fun e => nomatch e)
  | .rol _, .bl _ => .isFalse (fun e => nomatch e)
  | .rol _, .int _ => .isFalse (fun e => nomatch e)
  | .rol _, .str _ => .isFalse (fun e => nomatch e)
  | .rol _, .ref _ => .isFalse (fun e => nomatch e)
  | .rol _, .tup _ => .isFalse (fun e => nomatch e)
  | .rol a, .rol b => match Val.deqs a b with
    | .isTrue h => .isTrue (by rw [h])
    | .isFalse h => .isFalse (fun e => h (Val.rol.inj e))
def Val.deqs : (a b : List Val) → Decidable (a = b)
  | [], [] => .isTrue rfl
  | [], _ :: _ => .isFalse (fun e => nomatch e)
  | _ :: _, [] => .isFalse (fun e => nomatch e)
  | x :: xs, y :: ys => match Val.deq x y with
    | .isFalse h => .isFalse (fun e => h (List.cons.inj e).1)
    | .isTrue h => match Val.deqs xs ys with
      | .isFalse h' => .isFalse (fun e => h' (List.cons.inj e).2)
      | .isTrue h' => .isTrue (by rw [h, h'])
end
instance : DecidableEq Val := Val.deq

/-- what a cell holds: a list, a dict (keys ints and texts; `t`: tuples of these), an instance of a class -/
inductive Cell where
  | lst (xs : List Val) | dic (t : Bool) (kvs : List (Val × Val)) | ins (c : Nat) (fs : List (Nat × Val))
  deriving DecidableEq, Inhabited

abbrev Gh := List Cell
abbrev Env := List (Option Val)

/-- an exception: its class and its fields -/
structure Exn where
  c : Nat
  fs : List Val
  deriving Inhabited

inductive R (α : Type) where
  | ok (a : α) (g : Gh) | exn (x : Exn) (g : Gh) | bad
  deriving Inhabited
def R.bind {α β : Type} : R α → (α → Gh → R β) → R β
  | .ok a g, k => k a g
  | .exn x g, _ => .exn x g
  | .bad, _ => .bad
/-- a statement's end -/
inductive SR where
  | nx (s : Env) (g : Gh) | rt (v : Val) (g : Gh) | bk (s : Env) (g : Gh) | ct (s : Env) (g : Gh) | exn (x : Exn) (s : Env) (g : Gh) | bad
  deriving Inhabited
/-- an expression within a statement -/
def R.st {α : Type} (s : Env) : R α → (α → Gh → SR) → SR
  | .ok a g, k => k a g
  | .exn x g, _ => .exn x s g
  | .bad, _ => .bad
def SR.seq : SR → (Env → Gh → SR) → SR
  | .nx s g, k => k s g
  | r, _ => r

/-- the greatest size of a list or a text that is made -/
def SL : Nat := 1000000
def WF : Nat := 100000000

/-! ### flat values -/
mutual
/-- all cells of a value lie below n -/
def okv (n : Nat) : Val → Bool
  | .ref m => decide (m < n)
  | .tup xs => okvs n xs
  | .rol xs => okvs n xs
  | _ => true
def okvs (n : Nat) : List Val → Bool
  | [] => true
  | x :: xs => okv n x && okvs n xs
end
def okc (n : Nat) : Cell → Bool
  | .lst xs => okvs n xs
  | .dic _ kvs => kvs.all fun p => okv n p.1 && okv n p.2
  | .ins _ fs => fs.all fun p => okv n p.2
/-- the old cells are as they were, or hold old cells alone -/
def okg (n : Nat) : Gh → Gh → Bool
  | c :: g, c' :: g' => (decide (c = c') || okc n c') && okg n g g'
  | [], _ => true
  | _ :: _, [] => false
/-- the cells that came are let go, where nothing holds them; a flat new one that is handed on moves down -/
def tidy (g : Gh) : R Val → R Val
  | .ok v g' =>
    if okg g.length g g' then
      if okv g.length v then .ok v (g'.take g.length)
      else match v with
        | .ref m => match g'[m]? with
          | some c => if okc g.length c then .ok (.ref g.length) (g'.take g.length ++ [c]) else .ok v g'
          | none => .ok v g'
        | _ => .ok v g'
    else .ok v g'
  | .exn x g' => if okg g.length g g' && okvs g.length x.fs then .exn x (g'.take g.length) else .exn x g'
  | .bad => .bad

/-! ### the operations -/
inductive Bop where | add | sub | mul | fdiv | mod | pow | shl | shr | band | bor | bxor deriving DecidableEq
inductive Cop where | eq | ne | lt | le | gt | ge | is | isnot | in_ | notin deriving DecidableEq

def new (c : Cell) (g : Gh) : R Val := .ok (.ref g.length) (g ++ [c])
/-- a new text -/
def mkS (cs : List Nat) (g : Gh) : R Val := if cs.length ≤ SL then .ok (.str cs) g else .bad
def mkT (xs : List Val) (g : Gh) : R Val := if xs.length ≤ SL then .ok (.tup xs) g else .bad
def mkL (xs : List Val) (g : Gh) : R Val := if xs.length ≤ SL then new (.lst xs) g else .bad

/-- the list that stands in a cell -/
def lstAt (g : Gh) (n : Nat) : Option (List Val) :=
  match g[n]? with
  | some (.lst xs) => some xs
  | _ => none

def intsIn (i : Int) : Bool := decide (i.natAbs < 2 ^ 62)
theorem intsIn_iff {i : Int} (h : intsIn i = true) : -(2 ^ 62) < i ∧ i < 2 ^ 62 := by
  have := of_decide_eq_true h
  omega

def binV (op : Bop) (v w : Val) (g : Gh) : R Val :=
  match op with
  | .add => match v, w with
    | .int i, .int j => .ok (.int (i + j)) g
    | .str a, .str b => mkS (a ++ b) g
    | .tup a, .tup b => mkT (a ++ b) g
    | .ref m, .ref n => match g[m]?, g[n]? with
      | some (.lst a), some (.lst b) => mkL (a ++ b) g
      | _, _ => .bad
    | _, _ => .bad
  | .sub => match v, w with
    | .int i, .int j => .ok (.int (i - j)) g
    | _, _ => .bad
  | .mul => match v, w with
    | .int i, .int j => if (decide (-(2 ^ 64) < i) && decide (i < 2 ^ 64)) || (decide (-(2 ^ 64) < j) && decide (j < 2 ^ 64)) then .ok (.int (i * j)) g else .bad
    | .str a, .int k => if intsIn k && decide (a.length * k.toNat ≤ SL) then .ok (.str (List.replicate k.toNat a).flatten) g else .bad
    | .ref m, .int k => match g[m]? with
      | some (.lst a) => if intsIn k && decide (a.length * k.toNat ≤ SL) then new (.lst (List.replicate k.toNat a).flatten) g else .bad
      | _ => .bad
    | _, _ => .bad
  | .fdiv => match v, w with
    | .int i, .int j => if decide (0 < j) && decide (j < 1073741824) then .ok (.int (i / j)) g else .bad
    | _, _ => .bad
  | .mod => match v, w with
    | .int i, .int j => if decide (0 < j) then .ok (.int (i % j)) g else .bad
    | _, _ => .bad
  | .pow => match v, w with
    | .int i, .int j => if decide (0 ≤ j) && decide (j ≤ 1000) && decide (i.natAbs < 2 ^ 64) then .ok (.int (i ^ j.toNat)) g else .bad
    | _, _ => .bad
  | .shl => match v, w with
    | .int i, .int j => if decide (0 ≤ j) && decide (j ≤ 1000) && decide (i.natAbs < 2 ^ 64) then .ok (.int (i * 2 ^ j.toNat)) g else .bad
    | _, _ => .bad
  | .shr => match v, w with
    | .int i, .int j => if decide (0 ≤ j) then .ok (.int (i / 2 ^ j.toNat)) g else .bad
    | _, _ => .bad
  | .band => match v, w with
    | .int i, .int j => if decide (0 ≤ i) && decide (0 ≤ j) then .ok (.int ((i.toNat &&& j.toNat : Nat) : Int)) g else .bad
    | _, _ => .bad
  | .bor => match v, w with
    | .int i, .int j => if decide (0 ≤ i) && decide (0 ≤ j) then .ok (.int ((i.toNat ||| j.toNat : Nat) : Int)) g else .bad
    | _, _ => .bad
  | _ => .bad

/-! #### equality, order -/
def b2i (b : Bool) : Int := if b then 1 else 0
mutual
/-- == of values without cells -/
def eqV : Val → Val → Bool
  | .non, .non => true
  | .bl a, .bl b => a == b
  | .bl a, .int j => b2i a == j
  | .int i, .bl b => i == b2i b
  | .int i, .int j => i == j
  | .str a, .str b => a == b
  | .tup a, .tup b => eqVs a b
  | _, _ => false
def eqVs : List Val → List Val → Bool
  | [], [] => true
  | x :: xs, y :: ys => eqV x y && eqVs xs ys
  | _, _ => false
end
mutual
/-- a value without cells, so deep at most -/
def flat : Nat → Val → Bool
  | _, .ref _ => false
  | _, .rol _ => false
  | n, .tup xs => match n with
    | 0 => false
    | n + 1 => flats n xs
  | _, _ => true
def flats : Nat → List Val → Bool
  | _, [] => true
  | n, x :: xs => flat n x && flats n xs
end
/-- == of two values -/
def eqO (v w : Val) (g : Gh) : Option Bool :=
  if flat 60 v && flat 60 w then some (eqV v w)
  else match v, w with
    | .ref m, .ref n => match lstAt g m, lstAt g n with
      | some xs, some ys => if flats 60 xs && flats 60 ys then some (eqVs xs ys) else none
      | _, _ => none
    | _, _ => none
/-- None, a bool, an int, a text -/
def sca : Val → Bool
  | .non => true
  | .bl _ => true
  | .int _ => true
  | .str _ => true
  | _ => false

/-- lists of numbers in order -/
def ltL : List Nat → List Nat → Bool
  | [], [] => false
  | [], _ :: _ => true
  | _ :: _, [] => false
  | x :: xs, y :: ys => decide (x < y) || (decide (x = y) && ltL xs ys)
def ltV : Val → Val → Option Bool
  | .int i, .int j => some (decide (i < j))
  | .str a, .str b => some (ltL a b)
  | _, _ => none

def findK (k : Val) : List (Val × Val) → Option Val
  | [] => none
  | p :: r => if p.1 = k then some p.2 else findK k r
def putKV (k v : Val) (kvs : List (Val × Val)) : List (Val × Val) :=
  if (kvs.any fun p => decide (p.1 = k)) = true then kvs.map fun p => if p.1 = k then (p.1, v) else p else kvs ++ [(k, v)]
def dropKV (k : Val) (kvs : List (Val × Val)) : List (Val × Val) := kvs.filter fun p => decide (p.1 ≠ k)
/-- tuples that stand in the program's module; no keys -/
def ctups : List (List Val) := [[.str [101, 109, 112, 116, 121]]]
def isKey1 : Val → Bool
  | .int _ => true
  | .str _ => true
  | _ => false
def isKey (t : Bool) : Val → Bool
  | .tup xs => t && (xs.all isKey1 && decide (xs ∉ ctups))
  | v => !t && isKey1 v

def inV (v w : Val) (g : Gh) : Option Bool :=
  match w with
  | .str b => match v with
    | .str [c] => some (decide (c ∈ b))
    | _ => none
  | .tup xs => if sca v && xs.all sca then some (xs.any fun x => eqV x v) else none
  | .ref n => match g[n]? with
    | some (.lst xs) => if flat 60 v && flats 60 xs then some (xs.any fun x => eqV x v) else none
    | some (.dic t kvs) => if isKey t v then some (findK v kvs).isSome else none
    | _ => none
  | _ => none

def isO (v w : Val) : Option Bool :=
  match w with
  | .non => some (decide (v = .non))
  | .bl b => match v with
    | .bl a => some (decide (a = b))
    | _ => none
  | _ => none
def cmpO (op : Cop) (v w : Val) (g : Gh) : Option Bool :=
  match op with
  | .eq => eqO v w g
  | .ne => (eqO v w g).map (!·)
  | .lt => ltV v w
  | .le => (ltV w v).map (!·)
  | .gt => ltV w v
  | .ge => (ltV v w).map (!·)
  | .is => isO v w
  | .isnot => (isO v w).map (!·)
  | .in_ => inV v w g
  | .notin => (inV v w g).map (!·)
def cmpV (op : Cop) (v w : Val) (g : Gh) : R Val :=
  match cmpO op v w g with
  | some b => .ok (.bl b) g
  | none => .bad

def truO (v : Val) (g : Gh) : Option Bool :=
  match v with
  | .non => some false
  | .bl b => some b
  | .int i => some (i != 0)
  | .str cs => some (!cs.isEmpty)
  | .tup xs => some (!xs.isEmpty)
  | .rol xs => some (!xs.isEmpty)
  | .ref n => match g[n]? with
    | some (.lst xs) => some (!xs.isEmpty)
    | some (.dic t kvs) => if t then none else some (!kvs.isEmpty)
    | _ => none

/-! #### items and parts -/
def ixN (n : Nat) (i : Int) : Option Nat :=
  if 0 ≤ i then (if i < n then some i.toNat else none) else if -(n : Int) ≤ i then some (i + n).toNat else none
def atI {α : Type} (xs : List α) (i : Int) : Option α := (ixN xs.length i).bind fun j => xs[j]?
/-- a bound of a part -/
def sIx (n d : Nat) : Option Int → Nat
  | none => d
  | some i => if 0 ≤ i then min i.toNat n else (i + n).toNat
def cutL {α : Type} (xs : List α) (lo hi : Option Int) : List α :=
  (xs.drop (sIx xs.length 0 lo)).take (sIx xs.length xs.length hi - sIx xs.length 0 lo)

def idxO (v w : Val) (g : Gh) : Option Val :=
  match v with
  | .tup xs => match w with
    | .int i => atI xs i
    | _ => none
  | .str cs => match w with
    | .int i => (atI cs i).map fun c => .str [c]
    | _ => none
  | .ref n => match g[n]? with
    | some (.lst xs) => match w with
      | .int i => atI xs i
      | _ => none
    | some (.dic t kvs) => if isKey t w then findK w kvs else none
    | _ => none
  | _ => none
def slcO (v : Val) (l h : Option Int) (g : Gh) : R Val :=
  match v with
  | .tup xs => .ok (.tup (cutL xs l h)) g
  | .str cs => .ok (.str (cutL cs l h)) g
  | .ref n => match lstAt g n with
    | some xs => new (.lst (cutL xs l h)) g
    | none => .bad
  | _ => .bad
/-- v[::-1] -/
def revV (v : Val) (g : Gh) : R Val :=
  match v with
  | .str cs => .ok (.str cs.reverse) g
  | .tup xs => .ok (.tup xs.reverse) g
  | .ref n => match lstAt g n with
    | some xs => new (.lst xs.reverse) g
    | none => .bad
  | _ => .bad

/-! #### built-in functions -/
inductive Blt where | len | tuple | list | abs | min2 | max2 | min1 | max1 | int1 | str1 | ord | chr | sum | all | any | sorted | bool1 | isStr | min3 | max3
  deriving DecidableEq

/-- a walked thing: items, or a list that stands in a cell -/
inductive IterV where | items (xs : List Val) | cell (n : Nat) | enm (n : Nat) | zp (m n : Nat)
def nxt (g : Gh) (i : Nat) : IterV → Option (Option Val)
  | .items xs => some xs[i]?
  | .cell n => (lstAt g n).map fun xs => xs[i]?
  | .enm n => (lstAt g n).map fun xs => (xs[i]?).map fun v => .tup [.int i, v]
  | .zp m n => match lstAt g m, lstAt g n with
    | some xs, some ys => match xs[i]?, ys[i]? with
      | some v, some w => some (some (.tup [v, w]))
      | _, _ => some none
    | _, _ => none
def iterOf (v : Val) (g : Gh) : Option IterV :=
  match v with
  | .tup xs => some (.items xs)
  | .str cs => some (.items (cs.map fun c => .str [c]))
  | .rol xs => some (.items xs)
  | .ref n => if (lstAt g n).isSome then some (.cell n) else none
  | _ => none
/-- the items of a list or a tuple -/
def seqOf (v : Val) (g : Gh) : Option (List Val) :=
  match v with
  | .tup xs => some xs
  | .ref n => lstAt g n
  | _ => none
def intsOf : List Val → Option (List Int)
  | [] => some []
  | .int i :: r => (intsOf r).map (i :: ·)
  | _ => none
def strsOf : List Val → Option (List (List Nat))
  | [] => some []
  | .str s :: r => (strsOf r).map (s :: ·)
  | _ => none
def blsOf : List Val → Option (List Bool)
  | [] => some []
  | .bl b :: r => (blsOf r).map (b :: ·)
  | _ => none
def maxL : Int → List Int → Int
  | m, [] => m
  | m, x :: xs => maxL (if x > m then x else m) xs
def minL : Int → List Int → Int
  | m, [] => m
  | m, x :: xs => minL (if x < m then x else m) xs
def digs : Nat → Nat → List Nat
  | 0, _ => []
  | f + 1, n => if n < 10 then [48 + n] else digs f (n / 10) ++ [48 + n % 10]
def strI (i : Int) : List Nat := if i < 0 then 45 :: digs 40 i.natAbs else digs 40 i.natAbs

/-- in order, by putting each in its place -/
def insI (x : Int) : List Int → List Int
  | [] => [x]
  | y :: ys => if x ≤ y then x :: y :: ys else y :: insI x ys
def isrt : List Int → List Int
  | [] => []
  | x :: xs => insI x (isrt xs)
def insS (x : List Nat) : List (List Nat) → List (List Nat)
  | [] => [x]
  | y :: ys => if ltL y x then y :: insS x ys else x :: y :: ys
def ssrt : List (List Nat) → List (List Nat)
  | [] => []
  | x :: xs => insS x (ssrt xs)
def bltV (b : Blt) (vs : List Val) (g : Gh) : R Val :=
  match b, vs with
  | .len, [.str cs] => .ok (.int cs.length) g
  | .len, [.tup xs] => .ok (.int xs.length) g
  | .len, [.rol xs] => .ok (.int xs.length) g
  | .len, [.ref n] => match g[n]? with
    | some (.lst xs) => .ok (.int xs.length) g
    | some (.dic t kvs) => if t then .bad else .ok (.int kvs.length) g
    | _ => .bad
  | .tuple, [.tup xs] => .ok (.tup xs) g
  | .tuple, [.ref n] => match lstAt g n with
    | some xs => .ok (.tup xs) g
    | none => .bad
  | .list, [.tup xs] => new (.lst xs) g
  | .list, [.rol xs] => new (.lst xs) g
  | .list, [.ref n] => match lstAt g n with
    | some xs => new (.lst xs) g
    | none => .bad
  | .abs, [.int i] => .ok (.int (if i < 0 then -i else i)) g
  | .min2, [.int i, .int j] => .ok (.int (if j < i then j else i)) g
  | .max2, [.int i, .int j] => .ok (.int (if j > i then j else i)) g
  | .min1, [.ref n] => match (lstAt g n).bind intsOf with
    | some (x :: xs) => .ok (.int (minL x xs)) g
    | _ => .bad
  | .max1, [.ref n] => match (lstAt g n).bind intsOf with
    | some (x :: xs) => .ok (.int (maxL x xs)) g
    | _ => .bad
  | .int1, [.int i] => .ok (.int i) g
  | .int1, [.bl b] => .ok (.int (b2i b)) g
  | .ord, [.str [c]] => .ok (.int c) g
  | .sum, [.ref n] => match (lstAt g n).bind intsOf with
    | some xs => .ok (.int xs.sum) g
    | none => .bad
  | .all, [.ref n] => match (lstAt g n).bind blsOf with
    | some xs => .ok (.bl (xs.all id)) g
    | none => .bad
  | .any, [.ref n] => match (lstAt g n).bind blsOf with
    | some xs => .ok (.bl (xs.any id)) g
    | none => .bad
  | .sorted, [.ref n] => match lstAt g n with
    | some xs => match intsOf xs with
      | some is => new (.lst ((isrt is).map .int)) g
      | none => match strsOf xs with
        | some ss => if ss.length < 64 then new (.lst ((ssrt ss).map .str)) g else .bad
        | none => .bad
    | none => .bad
  | .max3, [.int i, .int j, .int k] => .ok (.int (let m := if j > i then j else i; if k > m then k else m)) g
  | .min3, [.int i, .int j, .int k] => .ok (.int (let m := if j < i then j else i; if k < m then k else m)) g
  | _, _ => .bad

/-! #### methods of built-in things -/
inductive Bm where | append | extend | pop0 | pop1 | insert | join | split | count | index | startswith | lstrip | strip | get1 | get2 | sindex1 | sindex2 | sw2 | endswith
  deriving DecidableEq

/-- parts between places of one sign -/
def splitC (c : Nat) : List Nat → List (List Nat)
  | [] => [[]]
  | x :: xs => if x = c then [] :: splitC c xs else
    match splitC c xs with
    | p :: ps => (x :: p) :: ps
    | [] => [[x]]
def joinL (s : List Nat) : List (List Nat) → List Nat
  | [] => []
  | [x] => x
  | x :: y :: r => x ++ s ++ joinL s (y :: r)

/-- where a value stands first -/
def findI (v : Val) : List Val → Nat → Option Nat
  | [], _ => none
  | x :: xs, i => if eqV x v then some i else findI v xs (i + 1)
/-- where a sign stands first -/
def findC (c : Nat) : List Nat → Nat → Option Nat
  | [], _ => none
  | x :: xs, i => if x = c then some i else findC c xs (i + 1)
/-- is the method one of the thing's kind -/
def bmT (m : Bm) (v : Val) (g : Gh) : Bool :=
  match m, v with
  | .index, .ref n => (lstAt g n).isSome
  | .get1, .ref n => match g[n]? with
    | some (.dic _ _) => true
    | _ => false
  | .get2, .ref n => match g[n]? with
    | some (.dic _ _) => true
    | _ => false
  | .insert, .ref n => (lstAt g n).isSome
  | .append, .ref n => (lstAt g n).isSome
  | .extend, .ref n => (lstAt g n).isSome
  | .pop0, .ref n => (lstAt g n).isSome
  | .join, .str _ => true
  | .split, .str _ => true
  | .count, .str _ => true
  | .pop1, .ref n => (lstAt g n).isSome
  | .startswith, .str _ => true
  | .sw2, .str _ => true
  | .endswith, .str _ => true
  | .strip, .str _ => true
  | .lstrip, .str _ => true
  | .sindex1, .str _ => true
  | .sindex2, .str _ => true
  | _, _ => false
def bmV (m : Bm) (o : Val) (vs : List Val) (g : Gh) : R Val :=
  match m, o, vs with
  | .append, .ref n, [v] => match g[n]? with
    | some (.lst xs) => if xs.length < SL then .ok .non (g.set n (.lst (xs ++ [v]))) else .bad
    | _ => .bad
  | .get1, .ref n, [k] => match g[n]? with
    | some (.dic t kvs) => if isKey t k then .ok ((findK k kvs).getD .non) g else .bad
    | _ => .bad
  | .get2, .ref n, [k, d] => match g[n]? with
    | some (.dic t kvs) => if isKey t k then .ok ((findK k kvs).getD d) g else .bad
    | _ => .bad
  | .extend, .ref n, [.ref k] => match g[n]?, g[k]? with
    | some (.lst xs), some (.lst ys) => if xs.length + ys.length ≤ SL then .ok .non (g.set n (.lst (xs ++ ys))) else .bad
    | _, _ => .bad
  | .extend, .ref n, [.tup ys] => match g[n]? with
    | some (.lst xs) => if xs.length + ys.length ≤ SL then .ok .non (g.set n (.lst (xs ++ ys))) else .bad
    | _ => .bad
  | .pop0, .ref n, [] => match g[n]? with
    | some (.lst xs) => match xs[xs.length - 1]? with
      | some v => .ok v (g.set n (.lst xs.dropLast))
      | none => .bad
    | _ => .bad
  | .join, .str s, [w] => match (seqOf w g).bind strsOf with
    | some ss => if (ss.map List.length).sum + ss.length * s.length ≤ SL then .ok (.str (joinL s ss)) g else .bad
    | none => .bad
  | .split, .str s, [.str [c]] => if s.length + 2 ≤ SL then new (.lst ((splitC c s).map .str)) g else .bad
  | .count, .str s, [.str [c]] => .ok (.int (s.count c)) g
  | .index, .ref n, [v] => match g[n]? with
    | some (.lst xs) => if sca v && xs.all sca then match findI v xs 0 with
      | some j => .ok (.int (j : Int)) g
      | none => .bad
      else .bad
    | _ => .bad
  | .insert, .ref n, [.int i, v] => match g[n]? with
    | some (.lst xs) => if decide (xs.length < SL) && (decide (0 ≤ i) && decide (i < 2 ^ 62)) then .ok .non (g.set n (.lst (xs.take i.toNat ++ [v] ++ xs.drop i.toNat))) else .bad
    | _ => .bad
  | .pop1, .ref n, [.int i] => match g[n]? with
    | some (.lst xs) => if xs.length ≤ SL then match ixN xs.length i with
      | some k => match xs[k]? with
        | some v => .ok v (g.set n (.lst (xs.eraseIdx k)))
        | none => .bad
      | none => .bad
      else .bad
    | _ => .bad
  | .startswith, .str s, [.str t] => .ok (.bl (t.isPrefixOf s)) g
  | .sw2, .str s, [.str t, .int i] => if decide (0 ≤ i) then .ok (.bl (decide (i.toNat ≤ s.length) && t.isPrefixOf (s.drop i.toNat))) g else .bad
  | .endswith, .str s, [.str t] => .ok (.bl (t.isSuffixOf s)) g
  | .lstrip, .str s, [.str t] => .ok (.str (s.dropWhile fun c => decide (c ∈ t))) g
  | .strip, .str s, [.str t] => .ok (.str (((s.dropWhile fun c => decide (c ∈ t)).reverse.dropWhile fun c => decide (c ∈ t)).reverse)) g
  | .sindex1, .str s, [.str [c]] => match findC c s 0 with
    | some k => .ok (.int (k : Int)) g
    | none => .bad
  | .sindex2, .str s, [.str [c], .int i] => if decide (0 ≤ i) && decide (i ≤ (s.length : Int)) then match findC c (s.drop i.toNat) i.toNat with
    | some k => .ok (.int (k : Int)) g
    | none => .bad
    else .bad
  | _, _, _ => .bad

/-! ### the language -/
-- what an except suite hands back
mutual
inductive H where
  | cst (v : Val) | fld (n : Nat) | tup (hs : Hs) | cat (a b : H) | var (i : Nat) | ite (bs : List Bool) (a b : H)
inductive Hs where
  | nil | cons (h : H) (r : Hs)
end
inductive IK where | plain | range | enm | zp
  deriving DecidableEq
mutual
inductive E where
  | var (i : Nat)
  | cst (v : Val)
  | bin (op : Bop) (a b : E)
  | neg (a : E)
  | cmp (op : Cop) (a b : E)
  | chn (op op' : Cop) (a b c : E)
  | not (a : E)
  | and (es : Es)
  | or (es : Es)
  | ite (c : C) (a b : E)
  | tup (es : Es)
  | lst (es : Es)
  | idx (a b : E)
  | slc (a : E) (lo hi : B)
  | rev (a : E)
  | call (f : Nat) (es : Es)
  | blt (b : Blt) (es : Es)
  | bm (m : Bm) (o : E) (es : Es)
  | isS (a : E)
  | lset (a : E)
  | dnew (t : Bool)
  | comp (own : List Nat) (tg : Tg) (k : IK) (its : Es) (cond : C) (elt : E)
  | lrng1 (a : E)
  | lrng2 (a b : E)
/-- a bound of a part -/
inductive B where
  | no | e (a : E)
/-- a test -/
inductive C where
  | e (e : E) | not (c : C) | and (cs : Cs) | or (cs : Cs) | ite (c a b : C)
inductive Cs where
  | nil | cons (c : C) (r : Cs)
inductive Es where
  | nil | cons (e : E) (r : Es)
inductive Tg where
  | nm (i : Nat) | tp (ts : Tgs)
inductive Tgs where
  | nil | cons (t : Tg) (r : Tgs)
end
mutual
inductive S where
  | exp (e : E)
  | asg (t : Tg) (e : E)
  | par (is : List Nat) (es : Es)
  | setI (o i e : E)
  | set2 (o i o' i' e : E)
  | aug (i : Nat) (op : Bop) (e : E)
  | ret (e : E)
  | retN
  | ife (c : C) (a b : Ss)
  | whl (c : C) (b : Ss)
  | fr (t : Tg) (k : IK) (its : Es) (b : Ss)
  | rse (c : Nat) (es : Es)
  | tryR (b : Ss) (hs : List (List Bool × Option Nat × H))
  | pass | brk | cnt
inductive Ss where
  | nil | cons (s : S) (r : Ss)
end

/-! ### the evaluation -/
mutual
/-- a target takes a value -/
def asgT : Tg → Val → Env → Option Env
  | .nm i, v, s => if i < s.length then some (s.set i (some v)) else none
  | .tp ts, v, s => match v with
    | .tup xs => asgTs ts xs s
    | _ => none
def asgTs : Tgs → List Val → Env → Option Env
  | .nil, [], s => some s
  | .cons t r, x :: xs, s => (asgT t x s).bind (asgTs r xs)
  | _, _, _ => none
end
def wipe (s : Env) : List Nat → Env
  | [] => s
  | v :: vs => (wipe s vs).set v none
def mkPlain (vs : List Val) (g : Gh) : Option IterV :=
  match vs with
  | [v] => iterOf v g
  | _ => none
/-- how many steps upward -/
def stepN (i j c : Int) : Nat := if i < j then ((j - i - 1) / c + 1).toNat else 0
def mkRange (vs : List Val) : Option IterV :=
  match vs with
  | [.int j] => if intsIn j then some (.items ((List.range j.toNat).map fun (i : Nat) => .int (0 + (i : Int)))) else none
  | [.int i, .int j] => if intsIn i && intsIn j then some (.items ((List.range (j - i).toNat).map fun (k : Nat) => .int (i + (k : Int)))) else none
  | [.int i, .int j, .int c] =>
    if intsIn i && intsIn j then
      if c = -1 then some (.items ((List.range (i - j).toNat).map fun (k : Nat) => .int (i + (k : Int) * (-1))))
      else if decide (0 < c) && decide (c < 1000000) then some (.items ((List.range (stepN i j c)).map fun (k : Nat) => .int (i + (k : Int) * c)))
      else none
    else none
  | _ => none
/-- numbered -/
def enL : Nat → List Val → List Val
  | _, [] => []
  | i, x :: xs => .tup [.int i, x] :: enL (i + 1) xs
def mkEnm (vs : List Val) (g : Gh) : Option IterV :=
  match vs with
  | [.tup xs] => some (.items (enL 0 xs))
  | [.str cs] => some (.items (enL 0 (cs.map fun c => .str [c])))
  | [.ref n] => if (lstAt g n).isSome then some (.enm n) else none
  | _ => none
def mkZp (vs : List Val) (g : Gh) : Option IterV :=
  match vs with
  | [.ref m, .ref n] => if (lstAt g m).isSome && (lstAt g n).isSome then some (.zp m n) else none
  | _ => none
def mkIter (k : IK) (vs : List Val) (g : Gh) : Option IterV :=
  match k with
  | .plain => mkPlain vs g
  | .range => mkRange vs
  | .enm => mkEnm vs g
  | .zp => mkZp vs g

/-- the turns of a loop -/
def forG (body : Val → Env → Gh → SR) (it : IterV) : Nat → Nat → Env → Gh → SR
  | 0, _, _, _ => .bad
  | f + 1, i, s, g => match nxt g i it with
    | none => .bad
    | some none => .nx s g
    | some (some v) => match body v s g with
      | .nx s' g' => forG body it f (i + 1) s' g'
      | .ct s' g' => forG body it f (i + 1) s' g'
      | .bk s' g' => .nx s' g'
      | r => r
/-- the turns of a comprehension; an exception may not leave it -/
def compG (body : Val → Gh → R (Option Val)) (it : IterV) : Nat → Nat → List Val → Gh → R (List Val)
  | 0, _, _, _ => .bad
  | f + 1, i, acc, g => match nxt g i it with
    | none => .bad
    | some none => .ok acc g
    | some (some v) => match body v g with
      | .ok none g' => compG body it f (i + 1) acc g'
      | .ok (some w) g' => if acc.length < SL then compG body it f (i + 1) (acc ++ [w]) g' else .bad
      | .exn _ _ => .bad
      | .bad => .bad
def whlG (cond : Env → Gh → R Bool) (body : Env → Gh → SR) : Nat → Env → Gh → SR
  | 0, _, _ => .bad
  | f + 1, s, g => (cond s g).st s fun b g1 =>
    if b then match body s g1 with
      | .nx s' g' => whlG cond body f s' g'
      | .ct s' g' => whlG cond body f s' g'
      | .bk s' g' => .nx s' g'
      | r => r
    else .nx s g1
/-- a value with its new cells let go, as a truth -/
def truR (g : Gh) (r : R Val) : R Bool :=
  match tidy g r with
  | .ok v g' => match truO v g' with
    | some b => .ok b g'
    | none => .bad
  | .exn x g' => .exn x g'
  | .bad => .bad

/-- list(range(i, j)) -/
def lrng (i j : Int) (g : Gh) : R Val := if intsIn i && intsIn j && decide ((j - i).toNat ≤ SL) then new (.lst ((List.range (j - i).toNat).map fun (k : Nat) => .int (i + (k : Int)))) g else .bad
/-- how many unlike ones: told for unlike ones -/
def lsetV (v : Val) (g : Gh) : R Val :=
  match v with
  | .ref n => match (lstAt g n).bind intsOf with
    | some ns => if decide ns.Nodup && decide (ns.length ≤ 4000) then .ok (.int (ns.length : Nat)) g else .bad
    | none => .bad
  | _ => .bad
/-- is it a text -/
def isSV (v : Val) (g : Gh) : R Val :=
  match v with
  | .str _ => .ok (.bl true) g
  | .ref _ => .bad
  | .rol _ => .bad
  | _ => .ok (.bl false) g
abbrev Call := Nat → List Val → Gh → R Val
section
variable (call : Call)
mutual
def ev : E → Env → Gh → R Val
  | .var i, s, g => match s[i]? with
    | some (some v) => .ok v g
    | _ => .bad
  | .cst v, _, g => .ok v g
  | .bin op a b, s, g => (ev a s g).bind fun v g1 => (ev b s g1).bind fun w g2 => binV op v w g2
  | .neg a, s, g => (ev a s g).bind fun v g1 => match v with
    | .int i => .ok (.int (-i)) g1
    | _ => .bad
  | .cmp op a b, s, g => (ev a s g).bind fun v g1 => (ev b s g1).bind fun w g2 => cmpV op v w g2
  | .chn op op' a b c, s, g => (ev a s g).bind fun v g1 => (ev b s g1).bind fun w g2 => match cmpO op v w g2 with
    | some true => (ev c s g2).bind fun u g3 => cmpV op' w u g3
    | some false => .ok (.bl false) g2
    | none => .bad
  | .not a, s, g => (ev a s g).bind fun v g1 => match truO v g1 with
    | some b => .ok (.bl (!b)) g1
    | none => .bad
  | .and es, s, g => evAnd es s g
  | .or es, s, g => evOr es s g
  | .ite c a b, s, g => (evT c s g).bind fun t g1 => if t then ev a s g1 else ev b s g1
  | .tup es, s, g => (evs es s g).bind mkT
  | .lst es, s, g => (evs es s g).bind mkL
  | .idx a b, s, g => (ev a s g).bind fun v g1 => (ev b s g1).bind fun w g2 => match idxO v w g2 with
    | some x => .ok x g2
    | none => .bad
  | .slc a lo hi, s, g => (ev a s g).bind fun v g1 => (evB lo s g1).bind fun l g2 => (evB hi s g2).bind fun h g3 => slcO v l h g3
  | .rev a, s, g => (ev a s g).bind revV
  | .call f es, s, g => (evs es s g).bind fun vs g1 => call f vs g1
  | .blt b es, s, g => (evs es s g).bind fun vs g1 => bltV b vs g1
  | .bm m o es, s, g => (ev o s g).bind fun v g1 => if bmT m v g1 then (evs es s g1).bind fun vs g2 => bmV m v vs g2 else .bad
  | .isS a, s, g => (ev a s g).bind fun v g1 => isSV v g1
  | .lset a, s, g => (ev a s g).bind fun v g1 => lsetV v g1
  | .dnew t, _, g => new (.dic t []) g
  | .comp own tg k its cond elt, s, g => (evs its s g).bind fun vs g1 => match mkIter k vs g1 with
    | none => .bad
    | some it => (compG (fun v g2 => match asgT tg v (wipe s own) with
        | none => .bad
        | some s2 => (evT cond s2 g2).bind fun b g3 =>
          if b then (tidy g3 (ev elt s2 g3)).bind fun w g4 => .ok (some w) g4 else .ok none g3) it WF 0 [] g1).bind fun ws g2 => new (.lst ws) g2
  | .lrng1 a, s, g => (ev a s g).bind fun v g1 => match v with
    | .int j => lrng 0 j g1
    | _ => .bad
  | .lrng2 a b, s, g => (ev a s g).bind fun v g1 => (ev b s g1).bind fun w g2 => match v, w with
    | .int i, .int j => lrng i j g2
    | _, _ => .bad
def evB : B → Env → Gh → R (Option Int)
  | .no, _, g => .ok none g
  | .e a, s, g => (ev a s g).bind fun v g1 => match v with
    | .int i => .ok (some i) g1
    | _ => .bad
/-- a test -/
def evT : C → Env → Gh → R Bool
  | .not a, s, g => (evT a s g).bind fun b g1 => .ok (!b) g1
  | .and cs, s, g => evAndT cs s g
  | .or cs, s, g => evOrT cs s g
  | .ite c a b, s, g => (evT c s g).bind fun t g1 => if t then evT a s g1 else evT b s g1
  | .e a, s, g => truR g (ev a s g)
def evAndT : Cs → Env → Gh → R Bool
  | .nil, _, g => .ok true g
  | .cons a r, s, g => (evT a s g).bind fun t g1 => if t then evAndT r s g1 else .ok false g1
def evOrT : Cs → Env → Gh → R Bool
  | .nil, _, g => .ok false g
  | .cons a r, s, g => (evT a s g).bind fun t g1 => if t then .ok true g1 else evOrT r s g1
def evAnd : Es → Env → Gh → R Val
  | .nil, _, _ => .bad
  | .cons a .nil, s, g => ev a s g
  | .cons a (.cons b r), s, g => (ev a s g).bind fun v g1 => match truO v g1 with
    | some true => evAnd (.cons b r) s g1
    | some false => .ok v g1
    | none => .bad
def evOr : Es → Env → Gh → R Val
  | .nil, _, _ => .bad
  | .cons a .nil, s, g => ev a s g
  | .cons a (.cons b r), s, g => (ev a s g).bind fun v g1 => match truO v g1 with
    | some false => evOr (.cons b r) s g1
    | some true => .ok v g1
    | none => .bad
def evs : Es → Env → Gh → R (List Val)
  | .nil, _, g => .ok [] g
  | .cons e r, s, g => (ev e s g).bind fun v g1 => (evs r s g1).bind fun vs g2 => .ok (v :: vs) g2
end
end

def setAll : List Nat → List Val → Env → Option Env
  | [], [], s => some s
  | i :: is, v :: vs, s => if i < s.length then setAll is vs (s.set i (some v)) else none
  | _, _, _ => none
def setIG (o i v : Val) (g : Gh) : Option Gh :=
  match o with
  | .ref n => match g[n]? with
    | some (.lst xs) => match i with
      | .int k => (ixN xs.length k).map fun j => g.set n (.lst (xs.set j v))
      | _ => none
    | some (.dic t kvs) => if isKey t i && decide (kvs.length < SL) then some (g.set n (.dic t (putKV i v kvs))) else none
    | _ => none
  | _ => none
/-- x op= y, of numbers and texts -/
def augV (op : Bop) (v w : Val) (g : Gh) : R Val :=
  match op with
  | .add => match v, w with
    | .int i, .int j => .ok (.int (i + j)) g
    | .str a, .str b => mkS (a ++ b) g
    | _, _ => .bad
  | .sub => match v, w with
    | .int i, .int j => .ok (.int (i - j)) g
    | _, _ => .bad
  | _ => .bad

mutual
/-- what an except suite hands back -/
def evH : H → Exn → Env → Gh → R Val
  | .cst v, _, _, g => .ok v g
  | .fld n, x, _, g => match x.fs[n]? with
    | some v => .ok v g
    | none => .bad
  | .tup hs, x, s, g => (evHs hs x s g).bind mkT
  | .cat a b, x, s, g => (evH a x s g).bind fun v g1 => (evH b x s g1).bind fun w g2 => binV .add v w g2
  | .var i, _, s, g => match s[i]? with
    | some (some v) => .ok v g
    | _ => .bad
  | .ite bs a b, x, s, g => match bs[x.c]? with
    | some true => evH a x s g
    | some false => evH b x s g
    | none => .bad
def evHs : Hs → Exn → Env → Gh → R (List Val)
  | .nil, _, _, g => .ok [] g
  | .cons h r, x, s, g => (evH h x s g).bind fun v g1 => (evHs r x s g1).bind fun vs g2 => .ok (v :: vs) g2
end
def nmOff (nm : Option Nat) (s : Env) : Env := match nm with
  | some i => s.set i none
  | none => s
def nmIn (nm : Option Nat) (s : Env) : Bool := match nm with
  | some i => decide (i < s.length)
  | none => true
/-- the except clauses -/
def hndl : List (List Bool × Option Nat × H) → Exn → Env → Gh → SR
  | [], x, s, g => .exn x s g
  | (bs, nm, h) :: r, x, s, g => match bs[x.c]? with
    | some true => if nmIn nm s then (evH h x (nmOff nm s) g).st s fun v g1 => .rt v g1 else .bad
    | some false => hndl r x s g
    | none => .bad
/-- what an exception is made of -/
def rsOk : Val → Bool
  | .str _ => true
  | .int i => decide (i.natAbs < 2 ^ 64)
  | _ => false

section
variable (call : Call)
mutual
def ex : S → Env → Gh → SR
  | .exp e, s, g => (tidy g (ev call e s g)).st s fun _ g1 => .nx s g1
  | .asg t e, s, g => (tidy g (ev call e s g)).st s fun v g1 => match asgT t v s with
    | some s' => .nx s' g1
    | none => .bad
  | .par is es, s, g => (evs call es s g).st s fun vs g1 => match setAll is vs s with
    | some s' => .nx s' g1
    | none => .bad
  | .setI o i e, s, g => (tidy g (ev call e s g)).st s fun v g1 => (ev call o s g1).st s fun ov g2 => (ev call i s g2).st s fun iv g3 => match setIG ov iv v g3 with
    | some g4 => .nx s g4
    | none => .bad
  | .set2 o i o' i' e, s, g => (tidy g (ev call e s g)).st s fun v g1 => match v with
    | .tup [x, y] => (ev call o s g1).st s fun ov g2 => (ev call i s g2).st s fun iv g3 => match setIG ov iv x g3 with
      | some g4 => (ev call o' s g4).st s fun ov' g5 => (ev call i' s g5).st s fun iv' g6 => match setIG ov' iv' y g6 with
        | some g7 => .nx s g7
        | none => .bad
      | none => .bad
    | _ => .bad
  | .aug i op e, s, g => match s[i]? with
    | some (some v) => (tidy g (ev call e s g)).st s fun w g1 => (augV op v w g1).st s fun z g2 => .nx (s.set i (some z)) g2
    | _ => .bad
  | .ret e, s, g => (ev call e s g).st s fun v g1 => .rt v g1
  | .retN, _, g => .rt .non g
  | .ife c a b, s, g => (evT call c s g).st s fun t g1 => if t then exs a s g1 else exs b s g1
  | .whl c b, s, g => whlG (fun s g => evT call c s g) (fun s g => exs b s g) WF s g
  | .fr t k its b, s, g => (evs call its s g).st s fun vs g1 => match mkIter k vs g1 with
    | none => .bad
    | some it => forG (fun v s2 g2 => match asgT t v s2 with
        | some s3 => exs b s3 g2
        | none => .bad) it WF 0 s g1
  | .rse c es, s, g => (evs call es s g).st s fun vs g1 => if vs.all rsOk then .exn ⟨c, vs⟩ s g1 else .bad
  | .tryR b hs, s, g => match exs b s g with
    | .exn x s' g' => hndl hs x s' g'
    | r => r
  | .pass, s, g => .nx s g
  | .brk, s, g => .bk s g
  | .cnt, s, g => .ct s g
def exs : Ss → Env → Gh → SR
  | .nil, s, g => .nx s g
  | .cons a r, s, g => (ex a s g).seq fun s' g' => exs r s' g'
end
end

/-- a def of the program: how many parameters, how many names, its body -/
structure Fn where
  np : Nat
  ns : Nat
  body : Ss
/-- a def's end: what it hands back -/
def fin : SR → R Val
  | .nx _ g => .ok .non g
  | .rt v g => .ok v g
  | .exn x _ g => .exn x g
  | _ => .bad
/-- a call of a def of the table, so deep at most -/
def run (ft : Nat → Option Fn) : Nat → Call
  | 0, _, _, _ => .bad
  | k + 1, f, vs, g => match ft f with
    | none => .bad
    | some d => if vs.length = d.np then tidy g (fin (exs (run ft k) d.body (vs.map some ++ List.replicate (d.ns - d.np) none) g)) else .bad
end KM

/-! The evaluator's values and heaps as those of the hand layer. -/
namespace KM
open PySem PySem.Spec PyProof.Rows L2

abbrev toS (cs : List Nat) : Str := ⟨cs.toArray⟩
/-- what the written part says of the program -/
structure Gam where
  cls : Nat → Addr
  nm : Nat → Str
  exc : Nat → Addr
  exf : Nat → List Str

def SqF (K : PySem.W.Frag) (H : Hp) (a : Addr) (vs : List V) : Prop :=
  (∃ o, H a = some (.frz o (.lst vs))) ∨
    ∃ (o : Obj) (its : Array Value) (n : Nat), K.lookup a = some o ∧ o.cls = .type "list" ∧ o.dict = none ∧ o.data = .seq its n ∧ its.size ≤ sizeLine ∧ Vals vs its.toList
theorem SqF.sql {K : PySem.W.Frag} {H : Hp} {a : Addr} {vs : List V} (h : SqF K H a vs) : SqL K H a vs := by
  rcases h with ⟨o, h⟩ | h
  · exact .inl (.inr ⟨o, h⟩)
  · exact .inr h

/-- a tuple: one of the heap, or one of those that stand in the module -/
def SqC (K : PySem.W.Frag) (H : Hp) (a : Addr) (xs : List Val) (vs : List V) : Prop := H a = some (.tup vs) ∨ (xs ∈ ctups ∧ SqT K H a vs)
theorem SqC.t {K : PySem.W.Frag} {H : Hp} {a : Addr} {xs : List Val} {vs : List V} (h : SqC K H a xs vs) : SqT K H a vs := by
  rcases h with h | h
  · exact .inl (.inl h)
  · exact h.2
mutual
def RV (K : PySem.W.Frag) (H : Hp) (ρ : List Addr) : Val → V → Prop
  | .non, v => v = .non
  | .bl b, v => v = .bl b
  | .int i, v => v = .int i
  | .str cs, v => v = .str (toS cs) ∧ cs.length ≤ SL ∧ ∀ c ∈ cs, c < 1114112
  | .tup xs, v => ∃ a vs, v = .ref a ∧ SqC K H a xs vs ∧ RVs K H ρ xs vs
  | .rol xs, v => ∃ a vs, v = .ref a ∧ SqF K H a vs ∧ RVs K H ρ xs vs
  | .ref n, v => ∃ a, v = .ref a ∧ ρ[n]? = some a
def RVs (K : PySem.W.Frag) (H : Hp) (ρ : List Addr) : List Val → List V → Prop
  | [], vs => vs = []
  | x :: xs, vs => ∃ v r, vs = v :: r ∧ RV K H ρ x v ∧ RVs K H ρ xs r
end

section
variable {K : PySem.W.Frag} {H H' : Hp} {ρ ρ' : List Addr}
theorem RVs.length : ∀ {xs : List Val} {vs : List V}, RVs K H ρ xs vs → vs.length = xs.length
  | [], vs, h => by rw [show vs = [] from h]; rfl
  | x :: xs, vs, h => by
    obtain ⟨v, r, rfl, _, h⟩ := h
    rw [List.length_cons, List.length_cons, RVs.length h]
theorem RVs.get : ∀ {xs : List Val} {vs : List V} {i : Nat} {x : Val}, RVs K H ρ xs vs → xs[i]? = some x → ∃ v, vs[i]? = some v ∧ RV K H ρ x v
  | [], _, _, _, _, e => by simp at e
  | y :: ys, vs, 0, x, h, e => by
    obtain ⟨v, r, rfl, h1, _⟩ := h
    simp at e; subst e
    exact ⟨v, rfl, h1⟩
  | y :: ys, vs, i + 1, x, h, e => by
    obtain ⟨v, r, rfl, _, h2⟩ := h
    simp at e
    obtain ⟨u, h3, h4⟩ := RVs.get h2 e
    exact ⟨u, by simpa using h3, h4⟩
theorem RVs.append : ∀ {xs ys : List Val} {vs ws : List V}, RVs K H ρ xs vs → RVs K H ρ ys ws → RVs K H ρ (xs ++ ys) (vs ++ ws)
  | [], ys, vs, ws, h, h' => by rw [show vs = [] from h]; exact h'
  | x :: xs, ys, vs, ws, h, h' => by
    obtain ⟨v, r, rfl, h1, h2⟩ := h
    exact ⟨v, r ++ ws, rfl, h1, RVs.append h2 h'⟩
theorem RVs.set {x : Val} {v : V} (hv : RV K H ρ x v) : ∀ {xs : List Val} {vs : List V} (i : Nat), RVs K H ρ xs vs → RVs K H ρ (xs.set i x) (vs.set i v)
  | [], vs, i, h => by rw [show vs = [] from h]; rfl
  | y :: ys, vs, 0, h => by
    obtain ⟨u, r, rfl, _, h2⟩ := h
    exact ⟨v, r, rfl, hv, h2⟩
  | y :: ys, vs, i + 1, h => by
    obtain ⟨u, r, rfl, h1, h2⟩ := h
    exact ⟨u, r.set i v, rfl, h1, RVs.set hv i h2⟩
theorem RVs.take : ∀ {xs : List Val} {vs : List V} (n : Nat), RVs K H ρ xs vs → RVs K H ρ (xs.take n) (vs.take n)
  | xs, vs, 0, _ => by simp only [List.take_zero]; rfl
  | [], vs, n + 1, h => by rw [show vs = [] from h]; rfl
  | x :: xs, vs, n + 1, h => by
    obtain ⟨v, r, rfl, h1, h2⟩ := h
    exact ⟨v, r.take n, rfl, h1, RVs.take n h2⟩
theorem RVs.drop : ∀ {xs : List Val} {vs : List V} (n : Nat), RVs K H ρ xs vs → RVs K H ρ (xs.drop n) (vs.drop n)
  | xs, vs, 0, h => h
  | [], vs, n + 1, h => by rw [show vs = [] from h]; rfl
  | x :: xs, vs, n + 1, h => by
    obtain ⟨v, r, rfl, h1, h2⟩ := h
    exact RVs.drop n h2
theorem RVs.one {x : Val} {v : V} (h : RV K H ρ x v) : RVs K H ρ [x] [v] := ⟨v, [], rfl, h, rfl⟩
theorem RVs.reverse : ∀ {xs : List Val} {vs : List V}, RVs K H ρ xs vs → RVs K H ρ xs.reverse vs.reverse
  | [], vs, h => by rw [show vs = [] from h]; rfl
  | x :: xs, vs, h => by
    obtain ⟨v, r, rfl, h1, h2⟩ := h
    rw [List.reverse_cons, List.reverse_cons]
    exact (RVs.reverse h2).append (.one h1)
theorem RVs.eq1 {x : Val} {vs : List V} (h : RVs K H ρ [x] vs) : ∃ v, vs = [v] ∧ RV K H ρ x v := by
  obtain ⟨v, r, rfl, h1, h2⟩ := h
  rw [show r = [] from h2]
  exact ⟨v, rfl, h1⟩
theorem RVs.dropLast : ∀ {xs : List Val} {vs : List V}, RVs K H ρ xs vs → RVs K H ρ xs.dropLast vs.dropLast := fun {xs vs} h => by
  rw [List.dropLast_eq_take, List.dropLast_eq_take, h.length]
  exact h.take _
theorem RVs.all {P : Val → Prop} {Q : V → Prop} (f : ∀ x v, RV K H ρ x v → P x → Q v) : ∀ {xs : List Val} {vs : List V}, RVs K H ρ xs vs → (∀ x ∈ xs, P x) → ∀ v ∈ vs, Q v
  | [], vs, h, _, v, hv => by rw [show vs = [] from h] at hv; cases hv
  | x :: xs, vs, h, hp, v, hv => by
    obtain ⟨u, r, rfl, h1, h2⟩ := h
    rcases List.mem_cons.mp hv with e | hv
    · rw [e]; exact f x u h1 (hp x List.mem_cons_self)
    · exact RVs.all f h2 (fun y hy => hp y (List.mem_cons_of_mem _ hy)) v hv

/-- the state has gone on: the cells' places are kept, what is not a cell's is kept, the new cells are new -/
structure Ext (ρ : List Addr) (H : Hp) (ρ' : List Addr) (H' : Hp) : Prop where
  pre : ∀ (n : Nat) (a : Addr), ρ[n]? = some a → ρ'[n]? = some a
  keep : ∀ a o, H a = some o → a ∉ ρ → H' a = some o
  new : ∀ a, a ∈ ρ' → a ∉ ρ → H a = none
theorem Ext.refl : Ext ρ H ρ H := ⟨fun _ _ h => h, fun _ _ h _ => h, fun _ h n => absurd h n⟩
theorem Ext.trans {ρ1 ρ2 : List Addr} {H1 H2 : Hp} (a : Ext ρ H ρ1 H1) (b : Ext ρ1 H1 ρ2 H2) : Ext ρ H ρ2 H2 where
  pre := fun n x h => b.pre n x (a.pre n x h)
  keep := fun x o h n => b.keep x o (a.keep x o h n) fun m => by
    have := a.new x m n
    rw [h] at this; cases this
  new := fun x h n => by
    by_cases m : x ∈ ρ1
    · exact a.new x m n
    · have h1 := b.new x h m
      cases q : H x with
      | none => rfl
      | some o => rw [a.keep x o q n] at h1; cases h1
/-- the cells are of the kinds that may be changed -/
def MutO : HO → Prop
  | .lst _ => True
  | .dK _ => True
  | .dT _ => True
  | .ins _ _ _ => True
  | _ => False
def Typ (ρ : List Addr) (H : Hp) : Prop := ∀ a ∈ ρ, ∃ o, H a = some o ∧ MutO o

mutual
theorem RV.ext (t : Typ ρ H) (e : Ext ρ H ρ' H') : ∀ {x : Val} {v : V}, RV K H ρ x v → RV K H' ρ' x v
  | .non, v, h => h
  | .bl _, v, h => h
  | .int _, v, h => h
  | .str _, v, h => h
  | .ref n, v, h => by
    obtain ⟨a, e1, h⟩ := h
    exact ⟨a, e1, e.pre n a h⟩
  | .tup xs, v, h => by
    obtain ⟨a, vs, e1, h1, h2⟩ := h
    refine ⟨a, vs, e1, ?_, RVs.ext t e h2⟩
    rcases h1 with h1 | ⟨hc, h1⟩
    · refine .inl (e.keep _ _ h1 fun m => ?_)
      obtain ⟨o, ho, mo⟩ := t a m
      rw [h1] at ho; cases ho; exact mo
    refine .inr ⟨hc, ?_⟩
    rcases h1 with (h1 | ⟨o, h1⟩) | h1
    · refine .inl (.inl (e.keep _ _ h1 fun m => ?_))
      obtain ⟨o, ho, mo⟩ := t a m
      rw [h1] at ho; cases ho; exact mo
    · refine .inl (.inr ⟨o, e.keep _ _ h1 fun m => ?_⟩)
      obtain ⟨o', ho, mo⟩ := t a m
      rw [h1] at ho; cases ho; exact mo
    · exact .inr h1
  | .rol xs, v, h => by
    obtain ⟨a, vs, e1, h1, h2⟩ := h
    refine ⟨a, vs, e1, ?_, RVs.ext t e h2⟩
    rcases h1 with ⟨o, h1⟩ | h1
    · refine .inl ⟨o, e.keep _ _ h1 fun m => ?_⟩
      obtain ⟨o', ho, mo⟩ := t a m
      rw [h1] at ho; cases ho; exact mo
    · exact .inr h1
theorem RVs.ext (t : Typ ρ H) (e : Ext ρ H ρ' H') : ∀ {xs : List Val} {vs : List V}, RVs K H ρ xs vs → RVs K H' ρ' xs vs
  | [], vs, h => h
  | x :: xs, vs, h => by
    obtain ⟨v, r, e1, h1, h2⟩ := h
    exact ⟨v, r, e1, RV.ext t e h1, RVs.ext t e h2⟩
end
/-- only the cells below n matter to a value whose cells lie below n -/
theorem RV.cut {n : Nat} (hp : ∀ m a, m < n → ρ[m]? = some a → ρ'[m]? = some a) : ∀ {x : Val} {v : V}, okv n x = true → RV K H ρ x v → RV K H ρ' x v := by
  suffices hh : ∀ (x : Val) (v : V), okv n x = true → RV K H ρ x v → RV K H ρ' x v from fun {x v} => hh x v
  intro x
  refine Val.rec (motive_1 := fun x => ∀ v, okv n x = true → RV K H ρ x v → RV K H ρ' x v) (motive_2 := fun xs => ∀ vs, okvs n xs = true → RVs K H ρ xs vs → RVs K H ρ' xs vs) ?_ ?_ ?_ ?_ ?_ ?_ ?_ ?_ ?_ x
  · exact fun v _ h => h
  · exact fun _ v _ h => h
  · exact fun _ v _ h => h
  · exact fun _ v _ h => h
  · intro xs ih v ok h
    obtain ⟨a, vs, e1, h1, h2⟩ := h
    exact ⟨a, vs, e1, h1, ih vs ok h2⟩
  · intro m v ok h
    obtain ⟨a, e1, h⟩ := h
    exact ⟨a, e1, hp m a (of_decide_eq_true ok) h⟩
  · intro xs ih v ok h
    obtain ⟨a, vs, e1, h1, h2⟩ := h
    exact ⟨a, vs, e1, h1, ih vs ok h2⟩
  · exact fun vs _ h => h
  · intro x xs h1 h2 vs ok h
    obtain ⟨v, r, e1, h3, h4⟩ := h
    have ok' : okv n x = true ∧ okvs n xs = true := Bool.and_eq_true_iff.mp ok
    exact ⟨v, r, e1, h1 v ok'.1 h3, h2 r ok'.2 h4⟩
theorem RVs.cut {n : Nat} (hp : ∀ m a, m < n → ρ[m]? = some a → ρ'[m]? = some a) : ∀ {xs : List Val} {vs : List V}, okvs n xs = true → RVs K H ρ xs vs → RVs K H ρ' xs vs
  | [], vs, _, h => h
  | x :: xs, vs, ok, h => by
    obtain ⟨v, r, e1, h3, h4⟩ := h
    have ok' : okv n x = true ∧ okvs n xs = true := Bool.and_eq_true_iff.mp ok
    exact ⟨v, r, e1, RV.cut hp ok'.1 h3, RVs.cut hp ok'.2 h4⟩
theorem RV.okv {n : Nat} (hn : ρ.length ≤ n) : ∀ {x : Val} {v : V}, RV K H ρ x v → okv n x = true := by
  suffices hh : ∀ (x : Val) (v : V), RV K H ρ x v → KM.okv n x = true from fun {x v} => hh x v
  intro x
  refine Val.rec (motive_1 := fun x => ∀ v, RV K H ρ x v → KM.okv n x = true) (motive_2 := fun xs => ∀ vs, RVs K H ρ xs vs → okvs n xs = true) ?_ ?_ ?_ ?_ ?_ ?_ ?_ ?_ ?_ x
  · exact fun v _ => rfl
  · exact fun _ v _ => rfl
  · exact fun _ v _ => rfl
  · exact fun _ v _ => rfl
  · intro xs ih v h
    obtain ⟨a, vs, e1, h1, h2⟩ := h
    exact ih vs h2
  · intro m v h
    obtain ⟨a, e1, h⟩ := h
    exact decide_eq_true (Nat.lt_of_lt_of_le (List.getElem?_eq_some_iff.mp h).1 hn)
  · intro xs ih v h
    obtain ⟨a, vs, e1, h1, h2⟩ := h
    exact ih vs h2
  · exact fun vs _ => rfl
  · intro x xs h1 h2 vs h
    obtain ⟨v, r, e1, h3, h4⟩ := h
    exact Bool.and_eq_true_iff.mpr ⟨h1 v h3, h2 r h4⟩
theorem RVs.okvs {n : Nat} (hn : ρ.length ≤ n) : ∀ {xs : List Val} {vs : List V}, RVs K H ρ xs vs → okvs n xs = true
  | [], vs, _ => rfl
  | x :: xs, vs, h => by
    obtain ⟨v, r, e1, h3, h4⟩ := h
    exact Bool.and_eq_true_iff.mpr ⟨h3.okv hn, RVs.okvs hn h4⟩
end

/-- dicts' keys -/
def kval : Key → Val
  | .inl i => .int i
  | .inr x => .str x.cps.toList
/-- what stands at a cell's place -/
def RO (Γ : Gam) (K : PySem.W.Frag) (H : Hp) (ρ : List Addr) (a : Addr) : Cell → Prop
  | .lst xs => ∃ vs, H a = some (.lst vs) ∧ RVs K H ρ xs vs
  | .dic false kvs => ∃ ks, H a = some (.dK ks) ∧ Paired (fun (p : Val × Val) (q : Key × V) => p.1 = kval q.1 ∧ RV K H ρ p.2 q.2) kvs ks
  | .dic true kvs => ∃ ks, H a = some (.dT ks) ∧ Paired (fun (p : Val × Val) (q : List Key × V) => p.1 = .tup (q.1.map kval) ∧ RV K H ρ p.2 q.2) kvs ks
  | .ins c fs => ∃ dx gs, H a = some (.ins (Γ.cls c) dx gs) ∧ Paired (fun (p : Nat × Val) (q : Str × V) => q.1 = Γ.nm p.1 ∧ RV K H ρ p.2 q.2) fs gs
structure RG (Γ : Gam) (K : PySem.W.Frag) (H : Hp) (ρ : List Addr) (g : Gh) : Prop where
  len : ρ.length = g.length
  nd : ρ.Nodup
  at_ : ∀ (n : Nat) (c : Cell), g[n]? = some c → ∃ a, ρ[n]? = some a ∧ RO Γ K H ρ a c

section
variable {Γ : Gam} {K : PySem.W.Frag} {H H' : Hp} {ρ ρ' : List Addr} {g g' : Gh} {a : Addr} {c : Cell}
theorem Paired.mp {α β : Type} {F G : α → β → Prop} : ∀ {l₁ : List α} {l₂ : List β}, Paired F l₁ l₂ → (∀ a b, a ∈ l₁ → F a b → G a b) → Paired G l₁ l₂
  | _, _, .nil, _ => .nil
  | _, _, .cons r t, f => .cons (f _ _ List.mem_cons_self r) (Paired.mp t fun a b h => f a b (List.mem_cons_of_mem _ h))
theorem RO.mut (h : RO Γ K H ρ a c) : ∃ o, H a = some o ∧ MutO o := by
  cases c with
  | lst xs => obtain ⟨vs, e, _⟩ := h; exact ⟨_, e, trivial⟩
  | dic t kvs => cases t <;> (obtain ⟨ks, e, _⟩ := h; exact ⟨_, e, trivial⟩)
  | ins c fs => obtain ⟨dx, gs, e, _⟩ := h; exact ⟨_, e, trivial⟩
theorem RG.place (r : RG Γ K H ρ g) (h : a ∈ ρ) : ∃ (n : Nat) (c : Cell), g[n]? = some c ∧ ρ[n]? = some a ∧ RO Γ K H ρ a c := by
  obtain ⟨n, hn, e⟩ := List.mem_iff_getElem.mp h
  have h2 : n < g.length := by rw [← r.len]; exact hn
  have e2 : g[n]? = some g[n] := List.getElem?_eq_getElem h2
  obtain ⟨b, hb, ro⟩ := r.at_ n _ e2
  have e3 : ρ[n]? = some a := by rw [List.getElem?_eq_getElem hn, e]
  rw [e3] at hb; cases hb
  exact ⟨n, _, e2, e3, ro⟩
theorem RG.typ (r : RG Γ K H ρ g) : Typ ρ H := fun a h => by
  obtain ⟨n, c, _, _, ro⟩ := r.place h
  exact ro.mut
theorem RG.free (r : RG Γ K H ρ g) {p : Addr} (h : H p = none) : p ∉ ρ := fun m => by
  obtain ⟨o, e, _⟩ := r.typ p m
  rw [h] at e; cases e
theorem RV.go {x : Val} {v : V} (h : RV K H ρ x v) (r : RG Γ K H ρ g) (e : Ext ρ H ρ' H') : RV K H' ρ' x v := RV.ext r.typ e h
theorem RVs.go {xs : List Val} {vs : List V} (h : RVs K H ρ xs vs) (r : RG Γ K H ρ g) (e : Ext ρ H ρ' H') : RVs K H' ρ' xs vs := RVs.ext r.typ e h
/-- an object that is kept, behind a step -/
theorem RO.go (h : RO Γ K H ρ a c) (r : RG Γ K H ρ g) (e : Ext ρ H ρ' H') (k : H' a = H a) : RO Γ K H' ρ' a c := by
  cases c with
  | lst xs => obtain ⟨vs, e1, h1⟩ := h; exact ⟨vs, k.trans e1, h1.go r e⟩
  | dic t kvs =>
    cases t
    · obtain ⟨ks, e1, h1⟩ := h; exact ⟨ks, k.trans e1, Paired.mp h1 fun p q _ z => ⟨z.1, z.2.go r e⟩⟩
    · obtain ⟨ks, e1, h1⟩ := h; exact ⟨ks, k.trans e1, Paired.mp h1 fun p q _ z => ⟨z.1, z.2.go r e⟩⟩
  | ins c fs => obtain ⟨dx, gs, e1, h1⟩ := h; exact ⟨dx, gs, k.trans e1, Paired.mp h1 fun p q _ z => ⟨z.1, z.2.go r e⟩⟩
/-- a new object that is no cell: a tuple -/
theorem ext_tup {p : Addr} {o : HO} (r : RG Γ K H ρ g) (hp : H p = none) : Ext ρ H ρ (upd H p o) :=
  ⟨fun _ _ h => h, fun x u h _ => by rw [upd_ne (ne_of_none h hp)]; exact h, fun x h n => absurd h n⟩
theorem rg_tup {p : Addr} {o : HO} (r : RG Γ K H ρ g) (hp : H p = none) : RG Γ K (upd H p o) ρ g :=
  ⟨r.len, r.nd, fun n c h => by
    obtain ⟨a, ha, ro⟩ := r.at_ n c h
    refine ⟨a, ha, ro.go r (ext_tup r hp) ?_⟩
    obtain ⟨o, ho, _⟩ := ro.mut
    exact upd_ne (ne_of_none ho hp)⟩
/-- a new cell -/
theorem ext_new {p : Addr} {o : HO} (r : RG Γ K H ρ g) (hp : H p = none) : Ext ρ H (ρ ++ [p]) (upd H p o) :=
  ⟨fun n x h => by rw [List.getElem?_append_left (List.getElem?_eq_some_iff.mp h).1]; exact h, fun x u h _ => by rw [upd_ne (ne_of_none h hp)]; exact h, fun x h n => by
    rcases List.mem_append.mp h with h | h
    · exact absurd h n
    · rw [List.mem_singleton.mp h]; exact hp⟩
theorem rg_new {p : Addr} {o : HO} (r : RG Γ K H ρ g) (hp : H p = none) (h : RO Γ K (upd H p o) (ρ ++ [p]) p c) : RG Γ K (upd H p o) (ρ ++ [p]) (g ++ [c]) := by
  refine ⟨by rw [List.length_append, List.length_append, r.len]; rfl, ?_, fun n d hn => ?_⟩
  · refine List.nodup_append.mpr ⟨r.nd, by simp, fun x hx y hy => ?_⟩
    rw [List.mem_singleton.mp hy]
    intro e
    exact r.free hp (e ▸ hx)
  · by_cases hl : n < g.length
    · rw [List.getElem?_append_left hl] at hn
      obtain ⟨a, ha, ro⟩ := r.at_ n d hn
      refine ⟨a, (ext_new (o := o) r hp).pre n a ha, ro.go r (ext_new r hp) ?_⟩
      obtain ⟨o, ho, _⟩ := ro.mut
      exact upd_ne (ne_of_none ho hp)
    · rw [List.getElem?_append_right (by omega)] at hn
      have e : n - g.length = 0 := by
        have := (List.getElem?_eq_some_iff.mp hn).1
        simp at this
        omega
      rw [e] at hn
      simp at hn
      subst hn
      refine ⟨p, ?_, h⟩
      rw [List.getElem?_append_right (by rw [r.len]; omega), r.len, e]
      rfl
theorem ref_new {p : Addr} {H1 : Hp} (r : RG Γ K H ρ g) : RV K H1 (ρ ++ [p]) (.ref g.length) (.ref p) := ⟨p, rfl, by rw [← r.len]; simp⟩
/-- a cell is written -/
theorem ext_set {n : Nat} {o : HO} (r : RG Γ K H ρ g) (ha : ρ[n]? = some a) : Ext ρ H ρ (upd H a o) :=
  ⟨fun _ _ h => h, fun x u h m => by rw [upd_ne (fun (e : x = a) => m (e ▸ List.mem_of_getElem? ha))]; exact h, fun x h n => absurd h n⟩
theorem rg_set {n : Nat} {o : HO} (r : RG Γ K H ρ g) (ha : ρ[n]? = some a) (h : RO Γ K (upd H a o) ρ a c) : RG Γ K (upd H a o) ρ (g.set n c) := by
  refine ⟨by rw [List.length_set]; exact r.len, r.nd, fun m d hm => ?_⟩
  by_cases e : m = n
  · subst e
    have hl : m < g.length := by rw [← r.len]; exact (List.getElem?_eq_some_iff.mp ha).1
    rw [List.getElem?_set_self hl] at hm
    cases hm
    exact ⟨a, ha, h⟩
  · rw [List.getElem?_set_ne (Ne.symm e)] at hm
    obtain ⟨b, hb, ro⟩ := r.at_ m d hm
    refine ⟨b, hb, ro.go r (ext_set r ha) (upd_ne fun z => e ?_)⟩
    obtain ⟨h1, e1⟩ := List.getElem?_eq_some_iff.mp hb
    obtain ⟨h2, e2⟩ := List.getElem?_eq_some_iff.mp ha
    exact (List.getElem_inj r.nd).mp (e1.trans (z.trans e2.symm))
theorem RG.cell {n : Nat} (r : RG Γ K H ρ g) (h : g[n]? = some c) : ∃ a, ρ[n]? = some a ∧ RO Γ K H ρ a c := r.at_ n c h
theorem RG.lstAt {n : Nat} {xs : List Val} (r : RG Γ K H ρ g) (h : lstAt g n = some xs) : ∃ a vs, ρ[n]? = some a ∧ H a = some (.lst vs) ∧ RVs K H ρ xs vs := by
  unfold KM.lstAt at h
  split at h
  · rename_i ys hy
    cases h
    obtain ⟨a, ha, vs, hv, r⟩ := r.cell hy
    exact ⟨a, vs, ha, hv, r⟩
  · cases h

/-! ### new cells let go -/
theorem getElem?_take' {α : Type} (l : List α) (n m : Nat) (h : m < n) : (l.take n)[m]? = l[m]? := List.getElem?_take_of_lt h
theorem okg_get : ∀ {n : Nat} {g g' : Gh} {m : Nat} {c' : Cell}, okg n g g' = true → m < g.length → g'[m]? = some c' → g[m]? = some c' ∨ okc n c' = true
  | _, [], _, _, _, _, h, _ => absurd h (Nat.not_lt_zero _)
  | _, _ :: _, [], _, _, _, _, h => by simp at h
  | n, c :: g, c1 :: g', 0, c', ok, _, h => by
    have ok : (decide (c = c1) || okc n c1) = true ∧ okg n g g' = true := Bool.and_eq_true_iff.mp ok
    simp at h; subst h
    rcases Bool.or_eq_true_iff.mp ok.1 with h | h
    · exact .inl (by rw [of_decide_eq_true h]; rfl)
    · exact .inr h
  | n, c :: g, c1 :: g', m + 1, c', ok, hm, h => by
    have ok : (decide (c = c1) || okc n c1) = true ∧ okg n g g' = true := Bool.and_eq_true_iff.mp ok
    have := okg_get (m := m) (c' := c') ok.2 (by simpa using hm) (by simpa using h)
    simpa using this
theorem okg_len : ∀ {n : Nat} {g g' : Gh}, okg n g g' = true → g.length ≤ g'.length
  | _, [], _, _ => Nat.zero_le _
  | _, _ :: _, [], h => by cases h
  | n, _ :: g, _ :: g', h => by
    have h : (decide _ || okc n _) = true ∧ okg n g g' = true := Bool.and_eq_true_iff.mp h
    have := okg_len h.2
    simp only [List.length_cons]
    omega
theorem RO.cut {n : Nat} (hp : ∀ m a, m < n → ρ[m]? = some a → ρ'[m]? = some a) (ok : okc n c = true) (h : RO Γ K H ρ a c) : RO Γ K H ρ' a c := by
  cases c with
  | lst xs => obtain ⟨vs, e1, h1⟩ := h; exact ⟨vs, e1, h1.cut hp ok⟩
  | dic t kvs =>
    have ok2 : (kvs.all fun p => okv n p.1 && okv n p.2) = true := ok
    rw [List.all_eq_true] at ok2
    cases t
    · obtain ⟨ks, e1, h1⟩ := h
      exact ⟨ks, e1, Paired.mp h1 fun p q hm z => ⟨z.1, z.2.cut hp (Bool.and_eq_true_iff.mp (ok2 p hm)).2⟩⟩
    · obtain ⟨ks, e1, h1⟩ := h
      exact ⟨ks, e1, Paired.mp h1 fun p q hm z => ⟨z.1, z.2.cut hp (Bool.and_eq_true_iff.mp (ok2 p hm)).2⟩⟩
  | ins c fs =>
    have ok : (fs.all fun p => okv n p.2) = true := ok
    rw [List.all_eq_true] at ok
    obtain ⟨dx, gs, e1, h1⟩ := h
    exact ⟨dx, gs, e1, Paired.mp h1 fun p q hm z => ⟨z.1, z.2.cut hp (ok p hm)⟩⟩
theorem kval_ok (n : Nat) : ∀ k : Key, okv n (kval k) = true
  | .inl _ => rfl
  | .inr _ => rfl
theorem kvals_ok (n : Nat) : ∀ ks : List Key, okvs n (ks.map kval) = true
  | [] => rfl
  | k :: ks => Bool.and_eq_true_iff.mpr ⟨kval_ok n k, kvals_ok n ks⟩
/-- a cell told by the places below n holds cells below n alone -/
theorem RO.okc {n : Nat} (hn : ρ.length ≤ n) (h : RO Γ K H ρ a c) : okc n c = true := by
  cases c with
  | lst xs => obtain ⟨vs, e1, h1⟩ := h; exact h1.okvs hn
  | dic t kvs =>
    show (kvs.all fun p => okv n p.1 && okv n p.2) = true
    rw [List.all_eq_true]
    cases t
    · obtain ⟨ks, e1, h1⟩ := h
      clear e1
      induction h1 with
      | nil => intro p hp; cases hp
      | cons r t ih =>
        intro p hp
        rcases List.mem_cons.mp hp with e | hp
        · subst e; rw [r.1, kval_ok, r.2.okv hn]; rfl
        · exact ih p hp
    · obtain ⟨ks, e1, h1⟩ := h
      clear e1
      induction h1 with
      | nil => intro p hp; cases hp
      | cons r t ih =>
        intro p hp
        rcases List.mem_cons.mp hp with e | hp
        · subst e; rw [r.1, show okv n (.tup _) = okvs n _ from rfl, kvals_ok, r.2.okv hn]; rfl
        · exact ih p hp
  | ins c fs =>
    show (fs.all fun p => okv n p.2) = true
    rw [List.all_eq_true]
    obtain ⟨dx, gs, e1, h1⟩ := h
    clear e1
    induction h1 with
    | nil => intro p hp; cases hp
    | cons r t ih =>
      intro p hp
      rcases List.mem_cons.mp hp with e | hp
      · subst e; exact r.2.okv hn
      · exact ih p hp
/-- the old cells alone, behind a step -/
theorem rg_cut (r : RG Γ K H ρ g) (e : Ext ρ H ρ' H') (r' : RG Γ K H' ρ' g') (ok : okg g.length g g' = true) :
    Ext ρ H ρ H' ∧ RG Γ K H' ρ (g'.take g.length) := by
  have hl := okg_len ok
  have hp : ∀ m a, m < g.length → ρ'[m]? = some a → ρ[m]? = some a := fun m a hm h => by
    obtain ⟨b, hb⟩ : ∃ b, ρ[m]? = some b := ⟨_, List.getElem?_eq_getElem (by rw [r.len]; exact hm)⟩
    rw [e.pre m b hb] at h
    rw [hb, h]
  refine ⟨⟨fun _ _ h => h, e.keep, fun x h n => absurd h n⟩, by rw [List.length_take, r.len]; omega, r.nd, fun m c hm => ?_⟩
  have hm1 : m < g.length := by
    have := (List.getElem?_eq_some_iff.mp hm).1
    rw [List.length_take] at this
    omega
  rw [getElem?_take' _ _ _ hm1] at hm
  obtain ⟨a, ha, ro⟩ := r'.at_ m c hm
  refine ⟨a, hp m a hm1 ha, ro.cut hp ?_⟩
  rcases okg_get ok hm1 hm with h | h
  · obtain ⟨b, hb, ro'⟩ := r.at_ m c h
    exact ro'.okc (Nat.le_of_eq r.len)
  · exact h
end
end KM

namespace KM
open PySem PySem.Spec PyProof.Rows L2

/-- an exception as the model has it -/
def RX (Γ : Gam) (K : PySem.W.Frag) (H : Hp) (ρ : List Addr) (x : Exn) (cls : Value) (d : Option Addr) : Prop :=
  cls = .ref (Γ.exc x.c) ∧ x.fs.length = (Γ.exf x.c).length ∧ ((Γ.exf x.c = [] ∧ d = none) ∨
    ∃ dd fs, d = some dd ∧ H dd = some (.xd fs) ∧ ∀ (i : Nat) (n : Str) (y : Val), (Γ.exf x.c)[i]? = some n → x.fs[i]? = some y → ∃ v, fs.lookup n = some v ∧ RV K H ρ y v)

section
variable {α β γ δ : Type}
/-- what is wanted of a result -/
def FinG (Γ : Gam) (K : PySem.W.Frag) (rel : Hp → List Addr → α → β → Prop) (W : WX) (σ : L2.St) (ρ : List Addr) (H : Hp) (r : R α) (Q : β → Hp → Prop) : Prop :=
  match r with
  | .ok v g => ∀ v' ρ' H', Ext ρ H ρ' H' → RG Γ K H' ρ' g → rel H' ρ' v v' → Q v' H'
  | .exn x g => ∀ cls d ρ' H', Ext ρ H ρ' H' → RG Γ K H' ρ' g → RX Γ K H' ρ' x cls d → W cls d σ H'
  | .bad => False
variable {Γ : Gam} {K : PySem.W.Frag} {rel : Hp → List Addr → α → β → Prop} {rel2 : Hp → List Addr → γ → δ → Prop} {W : WX} {σ : L2.St} {ρ ρ1 : List Addr} {H H1 : Hp} {r : R α} {Q Q' : β → Hp → Prop}
theorem FinG.go (h : FinG Γ K rel W σ ρ H r Q) (e : Ext ρ H ρ1 H1) : FinG Γ K rel W σ ρ1 H1 r Q := by
  cases r with
  | ok v g => exact fun v' ρ' H' e' => h v' ρ' H' (e.trans e')
  | exn x g => exact fun c d ρ' H' e' => h c d ρ' H' (e.trans e')
  | bad => exact h
theorem FinG.mono (h : FinG Γ K rel W σ ρ H r Q) (hQ : ∀ v H', Q v H' → Q' v H') : FinG Γ K rel W σ ρ H r Q' := by
  cases r with
  | ok v g => exact fun v' ρ' H' e' a b => hQ _ _ (h v' ρ' H' e' a b)
  | exn x g => exact h
  | bad => exact h
theorem FinG.bind {k : α → Gh → R γ} {Q : δ → Hp → Prop} (h : FinG Γ K rel2 W σ ρ H (r.bind k) Q) :
    FinG Γ K rel W σ ρ H r (fun v' H1 => ∃ ρ1 g1 v, Ext ρ H ρ1 H1 ∧ RG Γ K H1 ρ1 g1 ∧ rel H1 ρ1 v v' ∧ FinG Γ K rel2 W σ ρ1 H1 (k v g1) Q) := by
  cases r with
  | ok v g => exact fun v' ρ' H' e rg rv => ⟨ρ', g, v, e, rg, rv, FinG.go (r := k v g) h e⟩
  | exn x g => exact h
  | bad => exact h
theorem FinG.ok {v : α} {g : Gh} {v' : β} (h : FinG Γ K rel W σ ρ H (.ok v g) Q) (e : Ext ρ H ρ1 H1) (rg : RG Γ K H1 ρ1 g) (rv : rel H1 ρ1 v v') : Q v' H1 := h v' ρ1 H1 e rg rv
end
abbrev relV (K : PySem.W.Frag) : Hp → List Addr → Val → V → Prop := fun H ρ x v => RV K H ρ x v
abbrev relVs (K : PySem.W.Frag) : Hp → List Addr → List Val → List V → Prop := fun H ρ x v => RVs K H ρ x v
abbrev relB : Hp → List Addr → Bool → Bool → Prop := fun _ _ b b' => b = b'

/-- the names' values -/
structure RS (K : PySem.W.Frag) (H : Hp) (ρ : List Addr) (s : Env) (σ : L2.St) : Prop where
  len : s.length = σ.length
  at_ : ∀ (i : Nat) (x : Val), s[i]? = some (some x) → ∃ v, σ[i]? = some (some v) ∧ RV K H ρ x v
theorem RS.go {Γ : Gam} {K : PySem.W.Frag} {H H1 : Hp} {ρ ρ1 : List Addr} {s : Env} {σ : L2.St} {g : Gh} (h : RS K H ρ s σ) (r : RG Γ K H ρ g) (e : Ext ρ H ρ1 H1) : RS K H1 ρ1 s σ :=
  ⟨h.len, fun i x q => by obtain ⟨v, h1, h2⟩ := h.at_ i x q; exact ⟨v, h1, h2.go r e⟩⟩
theorem RS.set {K : PySem.W.Frag} {H : Hp} {ρ : List Addr} {s : Env} {σ : L2.St} {i : Nat} {x : Val} {v : V} (h : RS K H ρ s σ) (hv : RV K H ρ x v) : RS K H ρ (s.set i (some x)) (σ.set i (some v)) := by
  refine ⟨by simp [h.len], fun j y q => ?_⟩
  by_cases e : i = j
  · subst e
    have hl : i < s.length := by
      have := (List.getElem?_eq_some_iff.mp q).1
      simpa using this
    rw [List.getElem?_set_self hl] at q
    cases q
    exact ⟨v, by rw [List.getElem?_set_self (by rw [← h.len]; exact hl)], hv⟩
  · rw [List.getElem?_set_ne e] at q ⊢
    exact h.at_ j y q

/-! ### readings from the evaluator -/
section
variable (Γ : Gam) (K : PySem.W.Frag) (W : WX)
def tE (f : Env → Gh → R Val) : TE := fun σ H Q => ∃ ρ g s, RS K H ρ s σ ∧ RG Γ K H ρ g ∧ FinG Γ K (relV K) W σ ρ H (f s g) Q
def tT (f : Env → Gh → R Bool) : TT := fun σ H Q => ∃ ρ g s, RS K H ρ s σ ∧ RG Γ K H ρ g ∧ FinG Γ K relB W σ ρ H (f s g) Q
def tA (f : Env → Gh → R (List Val)) : TA := fun σ H Q => ∃ ρ g s, RS K H ρ s σ ∧ RG Γ K H ρ g ∧ FinG Γ K (relVs K) W σ ρ H (f s g) Q
/-- an operation of two values -/
def rO (f : Val → Val → Gh → R Val) : R2 := fun x y H Q => ∃ W σ ρ g v w, RG Γ K H ρ g ∧ RV K H ρ v x ∧ RV K H ρ w y ∧ FinG Γ K (relV K) W σ ρ H (f v w g) Q
end
theorem pe_imp {X : Cx} {e : Expr} {t t' : TE} (h : PE X e t) (f : ∀ σ H Q, t' σ H Q → t σ H Q) : PE X e t' := ⟨fun pins s σ H Q I q => h.run pins s σ H Q I (f σ H Q q)⟩
theorem pt_imp {X : Cx} {e : Expr} {t t' : TT} (h : PT X e t) (f : ∀ σ H Q, t' σ H Q → t σ H Q) : PT X e t' := ⟨fun pins s σ H Q I q => h.run pins s σ H Q I (f σ H Q q)⟩
theorem pw_imp {X : Cx} {e : Expr} {t t' : TT} (h : PW X e t) (f : ∀ σ H Q, t' σ H Q → t σ H Q) : PW X e t' := ⟨fun wh pins s σ H Q I q => h.run wh pins s σ H Q I (f σ H Q q)⟩
theorem pa_imp {X : Cx} {e : List Expr} {t t' : TA} (h : PA X e t) (f : ∀ σ H Q, t' σ H Q → t σ H Q) : PA X e t' := ⟨fun pos pins s σ H Q I q => h.run pos pins s σ H Q I (f σ H Q q)⟩
theorem ps_imp {X : Cx} {e : Stmt} {t t' : TS} (h : PS X e t) (f : ∀ D σ H, t' D σ H → t D σ H) : PS X e t' := ⟨fun pins s σ H Q I q => h.run pins s σ H Q I (f Q σ H q)⟩
theorem pss_imp {X : Cx} {e : List Stmt} {t t' : TS} (h : PSs X e t) (f : ∀ D σ H, t' D σ H → t D σ H) : PSs X e t' := ⟨fun pins s σ H Q I q => h.run pins s σ H Q I (f Q σ H q)⟩
theorem pi_imp {X : Cx} {tg e : Expr} {t t' : TI} (h : PI X tg e t) (f : ∀ σ H R, t' σ H R → t σ H R) : PI X tg e t' := ⟨fun pins s σ H Q I q => h.run pins s σ H Q I (f σ H Q q)⟩
theorem pe_or2 {X : Cx} {e : Expr} {t t' : TE} (h : PE X e t) (h' : PE X e t') : PE X e (fun σ H Q => t σ H Q ∨ t' σ H Q) := ⟨fun pins s σ H Q I q => q.elim (h.run pins s σ H Q I) (h'.run pins s σ H Q I)⟩
theorem pi_or {X : Cx} {tg e : Expr} {t t' : TI} (h : PI X tg e t) (h' : PI X tg e t') : PI X tg e (fun σ H Q => t σ H Q ∨ t' σ H Q) := ⟨fun pins s σ H Q I q => q.elim (h.run pins s σ H Q I) (h'.run pins s σ H Q I)⟩

/-! ### the operations -/
theorem toS_app (a b : List Nat) : toS a ++ toS b = toS (a ++ b) := by
  show (⟨a.toArray ++ b.toArray⟩ : Str) = ⟨(a ++ b).toArray⟩
  rw [List.append_toArray]
theorem toS_len (a : List Nat) : (toS a).length = a.length := by show a.toArray.size = _; simp
theorem SL_le : SL ≤ sizeLine := by rw [sizeLine_eq]; decide
theorem le_line {n : Nat} (h : n ≤ SL) : n ≤ sizeLine := Nat.le_trans h SL_le

def bopOf : Bop → Operator
  | .add => .Add | .sub => .Sub | .mul => .Mult | .fdiv => .FloorDiv | .mod => .Mod | .pow => .Pow | .shl => .LShift | .shr => .RShift | .band => .BitAnd | .bor => .BitOr | .bxor => .BitXor

section
variable {Γ : Gam} {X : Cx}
theorem fin_tup {K : PySem.W.Frag} {W : WX} {σ : L2.St} {ρ : List Addr} {H : Hp} {g : Gh} {xs : List Val} {vs : List V} {Q : VK} (rg : RG Γ K H ρ g) (r : RVs K H ρ xs vs) (h : FinG Γ K (relV K) W σ ρ H (.ok (.tup xs) g) Q) :
    ∀ p, H p = none → Q (.ref p) (upd H p (.tup vs)) := fun p hp =>
  h _ ρ _ (ext_tup rg hp) (rg_tup rg hp) ⟨p, vs, rfl, .inl upd_same, r.go rg (ext_tup rg hp)⟩
theorem fin_lst {K : PySem.W.Frag} {W : WX} {σ : L2.St} {ρ : List Addr} {H : Hp} {g : Gh} {xs : List Val} {vs : List V} {Q : VK} (rg : RG Γ K H ρ g) (r : RVs K H ρ xs vs) (h : FinG Γ K (relV K) W σ ρ H (new (.lst xs) g) Q) :
    ∀ p, H p = none → Q (.ref p) (upd H p (.lst vs)) := fun p hp =>
  h _ _ _ (ext_new rg hp) (rg_new rg hp ⟨vs, upd_same, r.go rg (ext_new rg hp)⟩) (ref_new rg)

theorem o_add : OpR X (binaryOp .Add) (rO Γ X.K (binV .add)) := by
  intro pins s σ H x y v u Q I rx ry ⟨W, τ, ρ, g, a, b, rg, ra, rb, h⟩
  cases a <;> cases b <;> try exact (show False from h).elim
  · exact op_add pins s σ H x y v u Q I rx ry ⟨_, _, ra, rb, h _ ρ H .refl rg rfl⟩
  · rename_i cs ds
    have h : FinG Γ X.K (relV X.K) W τ ρ H (mkS (cs ++ ds) g) Q := h
    unfold mkS at h
    split at h
    · rename_i hz
      refine op_add_str pins s σ H x y v u Q I rx ry ⟨_, _, ra.1, rb.1, ?_, ?_⟩
      · rw [toS_len, toS_len, ← List.length_append]; exact le_line hz
      · rw [toS_app]; exact h _ ρ H .refl rg ⟨rfl, hz, fun c hc => (List.mem_append.mp hc).elim (ra.2.2 c) (rb.2.2 c)⟩
    · exact h.elim
  · rename_i xs ys
    have h : FinG Γ X.K (relV X.K) W τ ρ H (mkT (xs ++ ys) g) Q := h
    unfold mkT at h
    split at h
    · rename_i hz
      obtain ⟨a, vs, rfl, sa, va⟩ := ra
      obtain ⟨b, ws, rfl, sb, vb⟩ := rb
      refine op_catA pins s σ H _ _ v u Q I rx ry ⟨a, b, vs, ws, rfl, rfl, sa.t, sb.t, ?_, fun e => ?_, fun _ e => ?_, fun _ _ => fin_tup rg (va.append vb) h⟩
      · rw [va.length, vb.length, ← List.length_append]; exact le_line hz
      · subst e
        have : xs = [] := List.length_eq_zero_iff.mp va.length.symm
        subst this
        exact h _ ρ H .refl rg ⟨b, ws, rfl, sb, vb⟩
      · subst e
        have : ys = [] := List.length_eq_zero_iff.mp vb.length.symm
        subst this
        rw [List.append_nil] at h
        exact h _ ρ H .refl rg ⟨a, vs, rfl, sa, va⟩
    · exact h.elim
  · rename_i m n
    have h : FinG Γ X.K (relV X.K) W τ ρ H (match g[m]?, g[n]? with
      | some (.lst a), some (.lst b) => mkL (a ++ b) g
      | _, _ => .bad) Q := h
    split at h
    · rename_i xs ys h1 h2
      unfold mkL at h
      split at h
      · rename_i hz
        obtain ⟨a, rfl, ha⟩ := ra
        obtain ⟨b, rfl, hb⟩ := rb
        obtain ⟨a', ha', vs, ea, va⟩ := rg.cell h1
        obtain ⟨b', hb', ws, eb, vb⟩ := rg.cell h2
        rw [ha] at ha'; cases ha'
        rw [hb] at hb'; cases hb'
        refine op_cat pins s σ H _ _ v u Q I rx ry ⟨a, b, vs, ws, rfl, rfl, ea, eb, ?_, fin_lst rg (va.append vb) h⟩
        rw [va.length, vb.length, ← List.length_append]; exact le_line hz
      · exact h.elim
    · exact h.elim
theorem o_sub : OpR X (binaryOp .Sub) (rO Γ X.K (binV .sub)) := by
  intro pins s σ H x y v u Q I rx ry ⟨W, τ, ρ, g, a, b, rg, ra, rb, h⟩
  cases a <;> cases b <;> try exact (show False from h).elim
  exact op_sub pins s σ H x y v u Q I rx ry ⟨_, _, ra, rb, h _ ρ H .refl rg rfl⟩
end
end KM

namespace KM
open PySem PySem.Spec PyProof.Rows L2

section
variable {Γ : Gam} {X : Cx}
/-! #### products, quotients .. -/
theorem flat_list (a : List Nat) : ∀ (k : Nat) (acc : Array Nat), ((List.replicate k a.toArray).foldl (· ++ ·) acc).toList = acc.toList ++ (List.replicate k a).flatten
  | 0, acc => by simp
  | k + 1, acc => by
    rw [List.replicate_succ, List.foldl_cons, flat_list a k]
    simp [List.replicate_succ]
theorem rep_le {n : Nat} {k : Int} (h : n * k.toNat ≤ SL) : n = 0 ∨ k.toNat ≤ SL := by
  rcases Nat.eq_zero_or_pos n with e | e
  · exact .inl e
  · exact .inr (Nat.le_trans (Nat.le_mul_of_pos_left _ e) h)
theorem len_flat {α : Type} (a : List α) (k : Nat) : (List.replicate k a).flatten.length = a.length * k := by
  rw [List.length_flatten, List.map_replicate, List.sum_replicate_nat, Nat.mul_comm]
theorem o_mulS {a : List Nat} {k : Int} {pins : List (Addr × Obj)} {s : Shared} {σ : L2.St} {H : Hp} {v u : Value} {Q : VK} (I : Inv X pins σ H s) (rx : RelV (.str (toS a)) v) (ry : RelV (.int k) u) (hk : intsIn k = true) (hz : a.length * k.toNat ≤ SL)
    (q : Q (.str (toS (List.replicate k.toNat a).flatten)) H) : wpAny (model X.prog X.w) X.A (binaryOp .Mult v u) (EP X pins σ Q) X.xe s := by
  obtain ⟨t, rfl⟩ := rx
  obtain ⟨t', rfl⟩ := ry
  have hk' : -(2 ^ 62) < k ∧ k < 2 ^ 62 := by
    exact intsIn_iff hk
  have hz2 : a.length * k.toNat ≤ 16777216 := by have := le_line hz; rw [sizeLine_eq] at this; exact this
  have hok : MulOk (toS a) k := by
    refine ⟨?_, fun h1 _ => ?_, fun h1 _ => ?_⟩
    · have a1 : ¬ k < -(2 ^ 63 : Int) := by omega
      have a2 : ¬ k ≥ (2 ^ 63 : Int) := by omega
      rw [decide_eq_false a1, decide_eq_false a2]; rfl
    · have hpos : 0 < k := by omega
      have e : ((a.length * k.toNat : Nat) : Int) = (a.length : Int) * k := by
        rw [Int.natCast_mul, Int.toNat_of_nonneg (by omega)]
      have h3 : (a.length : Int) * k ≤ 2 ^ 63 - 1 := by rw [← e]; omega
      have h4 : (a.length : Int) ≤ (2 ^ 63 - 1) / k := (Int.le_ediv_iff_mul_le hpos).mpr h3
      rw [toS_len]
      omega
    · rw [toS_len]; exact short24 hz2
  refine SB.mul hok fun t2 k2 => ⟨.str (Txt.mul (toS a) k), H, I.tok k2, ⟨t2, rfl⟩, ?_⟩
  have e : Txt.mul (toS a) k = toS (List.replicate k.toNat a).flatten := by
    unfold Txt.mul
    by_cases h1 : k < 1
    · rw [if_pos h1]
      have e : k.toNat = 0 := by omega
      rw [e]; rfl
    · rw [if_neg h1]
      split
      · rename_i h2
        rcases Bool.or_eq_true_iff.mp h2 with h2 | h2
        · have e : k = 1 := by simpa using h2
          subst e
          show _ = toS (List.replicate 1 a).flatten
          simp [List.replicate]
        · have e : a.length = 0 := by rw [toS_len] at h2; simpa using h2
          have e : a = [] := List.length_eq_zero_iff.mp e
          subst e
          show (⟨#[]⟩ : Str) = ⟨(List.flatten (List.replicate k.toNat [])).toArray⟩
          congr 1
          symm
          simp
      · have e := flat_list a k.toNat #[]
        show (⟨_⟩ : Str) = ⟨_⟩
        congr 1
        apply Array.toList_inj.mp
        rw [e]
        simp
  rw [e]
  exact q
theorem two64 {i : Int} (h : (decide (-(2 ^ 64) < i) && decide (i < 2 ^ 64)) = true) : -(2 ^ 64) < i ∧ i < 2 ^ 64 := by
  rw [Bool.and_eq_true_iff] at h
  exact ⟨of_decide_eq_true h.1, of_decide_eq_true h.2⟩
theorem o_mul : OpR X (binaryOp .Mult) (rO Γ X.K (binV .mul)) := by
  intro pins s σ H x y v u Q I rx ry ⟨W, τ, ρ, g, a, b, rg, ra, rb, h⟩
  cases a <;> cases b <;> try exact (show False from h).elim
  · rename_i i j
    have h : FinG Γ X.K (relV X.K) W τ ρ H (if (decide (-(2 ^ 64) < i) && decide (i < 2 ^ 64)) || (decide (-(2 ^ 64) < j) && decide (j < 2 ^ 64)) then .ok (.int (i * j)) g else .bad) Q := h
    split at h
    · rename_i hc
      refine op_mul pins s σ H x y v u Q I rx ry ⟨_, _, ra, rb, ?_, h _ ρ H .refl rg rfl⟩
      rcases Bool.or_eq_true_iff.mp hc with hc | hc
      · exact .inl (two64 hc)
      · exact .inr (two64 hc)
    · exact h.elim
  · rename_i a k
    have h : FinG Γ X.K (relV X.K) W τ ρ H (if intsIn k && decide (a.length * k.toNat ≤ SL) then .ok (.str (List.replicate k.toNat a).flatten) g else .bad) Q := h
    split at h
    · rename_i hc
      rw [Bool.and_eq_true_iff] at hc
      obtain ⟨hc, hz⟩ := hc
      have hz := of_decide_eq_true hz
      rw [ra.1] at rx
      have rb : y = .int k := rb
      rw [rb] at ry
      exact o_mulS I rx ry hc hz (h _ ρ H .refl rg ⟨rfl, by rw [len_flat]; exact hz, fun c hc => by
        obtain ⟨l, hl, hc⟩ := List.mem_flatten.mp hc
        rw [(List.mem_replicate.mp hl).2] at hc
        exact ra.2.2 c hc⟩)
    · exact h.elim
  · rename_i n k
    have h : FinG Γ X.K (relV X.K) W τ ρ H (match g[n]? with
      | some (.lst a) => if intsIn k && decide (a.length * k.toNat ≤ SL) then new (.lst (List.replicate k.toNat a).flatten) g else .bad
      | _ => .bad) Q := h
    split at h
    · rename_i xs h1
      split at h
      · rename_i hc
        rw [Bool.and_eq_true_iff] at hc
        obtain ⟨hc, hz⟩ := hc
        have hz := of_decide_eq_true hz
        obtain ⟨b1, b2⟩ := intsIn_iff hc
        obtain ⟨a, rfl, ha⟩ := ra
        obtain ⟨a', ha', vs, ea, va⟩ := rg.cell h1
        rw [ha] at ha'; cases ha'
        refine op_rep pins s σ H _ _ v u Q I rx ry ⟨a, k, vs, rfl, rb, ea, by omega, by omega, ?_, fin_lst rg ?_ h⟩
        · rw [va.length]; exact le_line hz
        · generalize k.toNat = m
          clear h1 h hz hc
          induction m with
          | zero => rfl
          | succ m ih =>
            rw [List.replicate_succ, List.flatten_cons, List.replicate_succ, List.flatten_cons]
            exact va.append ih
      · exact h.elim
    · exact h.elim
theorem o_int2 {op : Bop} {C : Int → Int → Bool} {f : Int → Int → Int} {C' : Int → Int → Prop} (hb : ∀ i j g, binV op (.int i) (.int j) g = if C i j then .ok (.int (f i j)) g else .bad)
    (hn : ∀ v w g, (∀ i j, ¬ (v = .int i ∧ w = .int j)) → binV op v w g = .bad) (hC : ∀ i j, C i j = true → C' i j) (o : OpR X (binaryOp (bopOf op)) (rI C' fun i j => .int (f i j))) : OpR X (binaryOp (bopOf op)) (rO Γ X.K (binV op)) := by
  intro pins s σ H x y v u Q I rx ry ⟨W, τ, ρ, g, a, b, rg, ra, rb, h⟩
  by_cases hi : ∃ i j, a = .int i ∧ b = .int j
  · obtain ⟨i, j, rfl, rfl⟩ := hi
    rw [hb] at h
    split at h
    · rename_i hc
      exact o pins s σ H x y v u Q I rx ry ⟨i, j, ra, rb, hC i j hc, h _ ρ H .refl rg rfl⟩
    · exact h.elim
  · rw [hn a b g fun i j e => hi ⟨i, j, e⟩] at h
    exact h.elim
theorem o_fdiv : OpR X (binaryOp .FloorDiv) (rO Γ X.K (binV .fdiv)) :=
  o_int2 (op := .fdiv) (C := fun i j => decide (0 < j) && decide (j < 1073741824)) (f := fun i j => i / j) (fun _ _ _ => rfl) (fun v w g h => by
    cases v <;> cases w <;> first | rfl | exact absurd ⟨rfl, rfl⟩ (h _ _)) (fun i j hc => by
      rw [Bool.and_eq_true_iff] at hc
      exact (⟨of_decide_eq_true hc.1, of_decide_eq_true hc.2⟩ : CDiv i j)) op_fdiv
theorem o_mod : OpR X (binaryOp .Mod) (rO Γ X.K (binV .mod)) :=
  o_int2 (op := .mod) (C := fun i j => decide (0 < j)) (f := fun i j => i % j) (fun _ _ _ => rfl) (fun v w g h => by
    cases v <;> cases w <;> first | rfl | exact absurd ⟨rfl, rfl⟩ (h _ _)) (fun i j hc => of_decide_eq_true hc) op_mod
theorem o_pow : OpR X (binaryOp .Pow) (rO Γ X.K (binV .pow)) :=
  o_int2 (op := .pow) (C := fun i j => decide (0 ≤ j) && decide (j ≤ 1000) && decide (i.natAbs < 2 ^ 64)) (f := fun i j => i ^ j.toNat) (fun _ _ _ => rfl) (fun v w g h => by
    cases v <;> cases w <;> first | rfl | exact absurd ⟨rfl, rfl⟩ (h _ _)) (fun i j hc => by
      rw [Bool.and_eq_true_iff, Bool.and_eq_true_iff] at hc
      have h2 : j ≤ 1000 := of_decide_eq_true hc.1.2
      exact (⟨of_decide_eq_true hc.1.1, by omega, of_decide_eq_true hc.2⟩ : CPow i j)) op_pow
theorem o_shl : OpR X (binaryOp .LShift) (rO Γ X.K (binV .shl)) :=
  o_int2 (op := .shl) (C := fun i j => decide (0 ≤ j) && decide (j ≤ 1000) && decide (i.natAbs < 2 ^ 64)) (f := fun i j => i * 2 ^ j.toNat) (fun _ _ _ => rfl) (fun v w g h => by
    cases v <;> cases w <;> first | rfl | exact absurd ⟨rfl, rfl⟩ (h _ _)) (fun i j hc => by
      rw [Bool.and_eq_true_iff, Bool.and_eq_true_iff] at hc
      have h2 : j ≤ 1000 := of_decide_eq_true hc.1.2
      exact (⟨of_decide_eq_true hc.1.1, by omega, of_decide_eq_true hc.2⟩ : CPow i j)) op_shl
theorem o_shr : OpR X (binaryOp .RShift) (rO Γ X.K (binV .shr)) :=
  o_int2 (op := .shr) (C := fun i j => decide (0 ≤ j)) (f := fun i j => i / 2 ^ j.toNat) (fun _ _ _ => rfl) (fun v w g h => by
    cases v <;> cases w <;> first | rfl | exact absurd ⟨rfl, rfl⟩ (h _ _)) (fun i j hc => of_decide_eq_true hc) op_shr
theorem bitAnd_nat {i j : Int} (h1 : 0 ≤ i) (h2 : 0 ≤ j) : Builtin.bitAnd i j = ((i.toNat &&& j.toNat : Nat) : Int) := by
  unfold Builtin.bitAnd
  rw [decide_eq_true h1, decide_eq_true h2]
theorem bitOr_nat {i j : Int} (h1 : 0 ≤ i) (h2 : 0 ≤ j) : Builtin.bitOr i j = ((i.toNat ||| j.toNat : Nat) : Int) := by
  unfold Builtin.bitOr Builtin.bitAnd Builtin.bitNot
  rw [decide_eq_false (by omega : ¬ (0 : Int) ≤ -i - 1), decide_eq_false (by omega : ¬ (0 : Int) ≤ -j - 1)]
  show -(-(((-(-i - 1) - 1).toNat ||| (-(-j - 1) - 1).toNat : Nat) : Int) - 1) - 1 = _
  rw [show -(-i - 1) - 1 = i from by omega, show -(-j - 1) - 1 = j from by omega]
  omega
theorem o_band : OpR X (binaryOp .BitAnd) (rO Γ X.K (binV .band)) := by
  intro pins s σ H x y v u Q I rx ry ⟨W, τ, ρ, g, a, b, rg, ra, rb, h⟩
  cases a <;> cases b <;> try exact (show False from h).elim
  rename_i i j
  have h : FinG Γ X.K (relV X.K) W τ ρ H (if decide (0 ≤ i) && decide (0 ≤ j) then .ok (.int ((i.toNat &&& j.toNat : Nat) : Int)) g else .bad) Q := h
  split at h
  · rename_i hc
    rw [Bool.and_eq_true_iff] at hc
    exact op_and pins s σ H x y v u Q I rx ry ⟨_, _, ra, rb, by show Q (.int (Builtin.bitAnd i j)) H; rw [bitAnd_nat (of_decide_eq_true hc.1) (of_decide_eq_true hc.2)]; exact h _ ρ H .refl rg rfl⟩
  · exact h.elim
theorem o_bor : OpR X (binaryOp .BitOr) (rO Γ X.K (binV .bor)) := by
  intro pins s σ H x y v u Q I rx ry ⟨W, τ, ρ, g, a, b, rg, ra, rb, h⟩
  cases a <;> cases b <;> try exact (show False from h).elim
  rename_i i j
  have h : FinG Γ X.K (relV X.K) W τ ρ H (if decide (0 ≤ i) && decide (0 ≤ j) then .ok (.int ((i.toNat ||| j.toNat : Nat) : Int)) g else .bad) Q := h
  split at h
  · rename_i hc
    rw [Bool.and_eq_true_iff] at hc
    exact op_or pins s σ H x y v u Q I rx ry ⟨_, _, ra, rb, by show Q (.int (Builtin.bitOr i j)) H; rw [bitOr_nat (of_decide_eq_true hc.1) (of_decide_eq_true hc.2)]; exact h _ ρ H .refl rg rfl⟩
  · exact h.elim
theorem o_bad {op : Bop} {f : Value → Value → Sem Value} (h : ∀ v w g, binV op v w g = .bad) : OpR X f (rO Γ X.K (binV op)) := by
  intro pins s σ H x y v u Q I rx ry ⟨W, τ, ρ, g, a, b, rg, ra, rb, q⟩
  rw [h] at q
  exact q.elim
theorem o_all : ∀ op : Bop, OpR X (binaryOp (bopOf op)) (rO Γ X.K (binV op))
  | .add => o_add
  | .sub => o_sub
  | .mul => o_mul
  | .fdiv => o_fdiv
  | .mod => o_mod
  | .pow => o_pow
  | .shl => o_shl
  | .shr => o_shr
  | .band => o_band
  | .bor => o_bor
  | .bxor => o_bad fun _ _ _ => rfl

/-! #### comparisons -/
def copOf : Cop → CmpOp
  | .eq => .Eq | .ne => .NotEq | .lt => .Lt | .le => .LtE | .gt => .Gt | .ge => .GtE | .is => .Is | .isnot => .IsNot | .in_ => .In | .notin => .NotIn
theorem fin_cmp {op : Cop} {W : WX} {τ : L2.St} {ρ : List Addr} {H : Hp} {v w : Val} {g : Gh} {Q : VK} (rg : RG Γ X.K H ρ g) (h : FinG Γ X.K (relV X.K) W τ ρ H (cmpV op v w g) Q) : ∃ b, cmpO op v w g = some b ∧ Q (.bl b) H := by
  unfold cmpV at h
  split at h
  · rename_i b hb
    exact ⟨b, hb, h _ ρ H .refl rg rfl⟩
  · exact h.elim
theorem ltL_iff : ∀ (a b : List Nat), ltL a b = decide (a < b)
  | [], [] => by simp [ltL]
  | [], _ :: _ => by simp [ltL]
  | _ :: _, [] => by simp [ltL]
  | x :: xs, y :: ys => by
    rw [ltL, ltL_iff xs ys]
    by_cases h1 : x < y
    · rw [decide_eq_true h1, Bool.true_or]; symm
      exact decide_eq_true (List.cons_lt_cons_iff.mpr (.inl h1))
    · rw [decide_eq_false h1, Bool.false_or]
      by_cases h2 : x = y
      · subst h2
        rw [decide_eq_true rfl, Bool.true_and]
        by_cases h3 : xs < ys
        · rw [decide_eq_true h3]; symm; exact decide_eq_true (List.cons_lt_cons_iff.mpr (.inr ⟨rfl, h3⟩))
        · rw [decide_eq_false h3]; symm
          refine decide_eq_false fun q => ?_
          rcases List.cons_lt_cons_iff.mp q with q | ⟨_, q⟩
          · exact h1 q
          · exact h3 q
      · rw [decide_eq_false h2, Bool.false_and]; symm
        refine decide_eq_false fun q => ?_
        rcases List.cons_lt_cons_iff.mp q with q | ⟨q, _⟩
        · exact h1 q
        · exact h2 q
theorem c_lt : OpR X (compareOp .Lt) (rO Γ X.K (cmpV .lt)) := by
  intro pins s σ H x y v u Q I rx ry ⟨W, τ, ρ, g, a, b, rg, ra, rb, h⟩
  obtain ⟨k, hk, q⟩ := fin_cmp rg h
  have hk : ltV a b = some k := hk
  cases a <;> cases b <;> try cases hk
  · exact op_lt pins s σ H x y v u Q I rx ry ⟨_, _, ra, rb, q⟩
  · rw [ltL_iff] at q
    exact op_lt_str pins s σ H x y v u Q I rx ry ⟨_, _, ra.1, rb.1, q⟩
theorem c_gt : OpR X (compareOp .Gt) (rO Γ X.K (cmpV .gt)) := by
  intro pins s σ H x y v u Q I rx ry ⟨W, τ, ρ, g, a, b, rg, ra, rb, h⟩
  obtain ⟨k, hk, q⟩ := fin_cmp rg h
  have hk : ltV b a = some k := hk
  cases a <;> cases b <;> try cases hk
  · exact op_gt pins s σ H x y v u Q I rx ry ⟨_, _, ra, rb, q⟩
  · rw [ltL_iff] at q
    exact op_gt_str pins s σ H x y v u Q I rx ry ⟨_, _, ra.1, rb.1, q⟩
theorem c_le : OpR X (compareOp .LtE) (rO Γ X.K (cmpV .le)) := by
  intro pins s σ H x y v u Q I rx ry ⟨W, τ, ρ, g, a, b, rg, ra, rb, h⟩
  obtain ⟨k, hk, q⟩ := fin_cmp rg h
  have hk : (ltV b a).map (!·) = some k := hk
  cases a <;> cases b <;> try cases hk
  · rename_i i j
    have e : (!decide (j < i)) = decide (i ≤ j) := by
      by_cases h : j < i
      · rw [decide_eq_true h, decide_eq_false (by omega)]; rfl
      · rw [decide_eq_false h, decide_eq_true (by omega)]; rfl
    have q : Q (.bl (!decide (j < i))) H := q
    rw [e] at q
    exact op_le pins s σ H x y v u Q I rx ry ⟨_, _, ra, rb, q⟩
  · rw [ltL_iff] at q
    exact op_le_str pins s σ H x y v u Q I rx ry ⟨_, _, ra.1, rb.1, q⟩
theorem c_ge : OpR X (compareOp .GtE) (rO Γ X.K (cmpV .ge)) := by
  intro pins s σ H x y v u Q I rx ry ⟨W, τ, ρ, g, a, b, rg, ra, rb, h⟩
  obtain ⟨k, hk, q⟩ := fin_cmp rg h
  have hk : (ltV a b).map (!·) = some k := hk
  cases a <;> cases b <;> try cases hk
  · rename_i i j
    have e : (!decide (i < j)) = decide (j ≤ i) := by
      by_cases h : i < j
      · rw [decide_eq_true h, decide_eq_false (by omega)]; rfl
      · rw [decide_eq_false h, decide_eq_true (by omega)]; rfl
    have q : Q (.bl (!decide (i < j))) H := q
    rw [e] at q
    exact op_ge pins s σ H x y v u Q I rx ry ⟨_, _, ra, rb, q⟩
  · rw [ltL_iff] at q
    exact op_ge_str pins s σ H x y v u Q I rx ry ⟨_, _, ra.1, rb.1, q⟩
theorem RV.non_iff {K : PySem.W.Frag} {H : Hp} {ρ : List Addr} {a : Val} {x : V} (r : RV K H ρ a x) : decide (x = .non) = decide (a = .non) := by
  cases a with
  | non => rw [show x = .non from r]; rfl
  | bl _ => rw [show x = .bl _ from r]; rfl
  | int _ => rw [show x = .int _ from r]; rfl
  | str _ => rw [r.1]; rfl
  | tup _ => obtain ⟨a, vs, rfl, _⟩ := r; rfl
  | ref _ => obtain ⟨a, rfl, _⟩ := r; rfl
  | rol _ => obtain ⟨a, vs, rfl, _⟩ := r; rfl
theorem isO_cases {K : PySem.W.Frag} {H : Hp} {ρ : List Addr} {a b : Val} {x y : V} {k : Bool} (ra : RV K H ρ a x) (rb : RV K H ρ b y) (h : isO a b = some k) : (y = .non ∧ decide (x = .non) = k) ∨ ∃ c d, x = .bl c ∧ y = .bl d ∧ decide (c = d) = k := by
  unfold isO at h
  split at h
  · cases h
    exact .inl ⟨rb, ra.non_iff⟩
  · split at h
    · cases h
      exact .inr ⟨_, _, ra, rb, rfl⟩
    · cases h
  · cases h
theorem c_is : OpR X (compareOp .Is) (rO Γ X.K (cmpV .is)) := by
  intro pins s σ H x y v u Q I rx ry ⟨W, τ, ρ, g, a, b, rg, ra, rb, h⟩
  obtain ⟨k, hk, q⟩ := fin_cmp rg h
  rcases isO_cases ra rb hk with ⟨e, e1⟩ | ⟨c, d, e1, e2, e⟩
  · exact op_isN pins s σ H x y v u Q I rx ry ⟨e, by rw [e1]; exact q⟩
  · exact op_is_bl pins s σ H x y v u Q I rx ry ⟨c, d, e1, e2, by rw [e]; exact q⟩
theorem c_isnot : OpR X (compareOp .IsNot) (rO Γ X.K (cmpV .isnot)) := by
  intro pins s σ H x y v u Q I rx ry ⟨W, τ, ρ, g, a, b, rg, ra, rb, h⟩
  obtain ⟨k, hk, q⟩ := fin_cmp rg h
  obtain ⟨k', hk', e'⟩ := Option.map_eq_some_iff.mp (show (isO a b).map (!·) = some k from hk)
  subst e'
  rcases isO_cases ra rb hk' with ⟨e, e1⟩ | ⟨c, d, e1, e2, e⟩
  · exact op_notN pins s σ H x y v u Q I rx ry ⟨e, by rw [e1]; exact q⟩
  · exact op_isnot_bl pins s σ H x y v u Q I rx ry ⟨c, d, e1, e2, by rw [e]; exact q⟩
end
end KM

namespace KM
open PySem PySem.Spec PyProof.Rows L2

/-! #### dicts: what they hold -/
theorem kval_inj {a b : Key} (h : kval a = kval b) : a = b := by
  cases a with
  | inl i => cases b with
    | inl j => exact congrArg Sum.inl (Val.int.inj h)
    | inr y => exact absurd h (by intro z; cases z)
  | inr x => cases b with
    | inl j => exact absurd h (by intro z; cases z)
    | inr y =>
      have e := Val.str.inj h
      refine congrArg Sum.inr ?_
      cases x; cases y
      simp only [Str.mk.injEq]
      exact Array.toList_inj.mp e
theorem kvals_inj : ∀ {a b : List Key}, a.map kval = b.map kval → a = b
  | [], [], _ => rfl
  | [], _ :: _, h => by simp at h
  | _ :: _, [], h => by simp at h
  | x :: a, y :: b, h => by
    rw [List.map_cons, List.map_cons, List.cons.injEq] at h
    rw [kval_inj h.1, kvals_inj h.2]
theorem kval_of {v : Val} (h : isKey1 v = true) : ∃ k : Key, v = kval k := by
  cases v <;> first | cases h | skip
  · exact ⟨.inl _, rfl⟩
  · rename_i cs
    exact ⟨.inr (toS cs), by show _ = Val.str (toS cs).cps.toList; simp⟩
theorem key_f {v : Val} (h : isKey false v = true) : ∃ k : Key, v = kval k := by
  cases v <;> first | (cases h; done) | exact kval_of h
theorem kvals_of : ∀ {xs : List Val}, xs.all isKey1 = true → ∃ ks : List Key, xs = ks.map kval
  | [], _ => ⟨[], rfl⟩
  | x :: xs, h => by
    rw [List.all_cons, Bool.and_eq_true_iff] at h
    obtain ⟨k, e⟩ := kval_of h.1
    obtain ⟨ks, e2⟩ := kvals_of h.2
    exact ⟨k :: ks, by rw [e, e2]; rfl⟩
theorem key_t {v : Val} (h : isKey true v = true) : ∃ ks : List Key, v = .tup (ks.map kval) ∧ ks.map kval ∉ ctups := by
  cases v <;> first | cases h | skip
  rename_i xs
  have h : (true && (xs.all isKey1 && decide (xs ∉ ctups))) = true := h
  simp only [Bool.true_and, Bool.and_eq_true_iff] at h
  obtain ⟨ks, e⟩ := kvals_of h.1
  exact ⟨ks, by rw [e], by rw [← e]; exact of_decide_eq_true h.2⟩
section
variable {K : PySem.W.Frag} {H : Hp} {ρ : List Addr}
theorem kV_of {k : Key} {y : V} (h : RV K H ρ (kval k) y) : y = kV k := by
  cases k with
  | inl i => exact h
  | inr x =>
    have h : y = .str (toS x.cps.toList) ∧ _ := h
    rw [h.1]
    show V.str ⟨x.cps.toList.toArray⟩ = .str x
    simp
theorem kVs_of : ∀ {ks : List Key} {vs : List V}, RVs K H ρ (ks.map kval) vs → vs = ks.map kV
  | [], vs, h => h
  | k :: ks, vs, h => by
    obtain ⟨v, r, rfl, h1, h2⟩ := h
    rw [kV_of h1, kVs_of h2]; rfl
theorem keyT_of {ks : List Key} {y : V} (hc : ks.map kval ∉ ctups) (h : RV K H ρ (.tup (ks.map kval)) y) : ∃ b, y = .ref b ∧ H b = some (.tup (ks.map kV)) := by
  obtain ⟨a, vs, e, h1, h2⟩ := h
  rcases h1 with h1 | h1
  · exact ⟨a, e, by rw [h1, kVs_of h2]⟩
  · exact absurd h1.1 hc
/-- what is found, in both -/
def OptR (K : PySem.W.Frag) (H : Hp) (ρ : List Addr) : Option Val → Option V → Prop
  | none, none => True
  | some v, some z => RV K H ρ v z
  | _, _ => False
theorem OptR.some {v : Option Val} {z : Option V} (h : OptR K H ρ v z) : z.isSome = v.isSome := by
  cases v <;> cases z <;> first | rfl | cases h
theorem find_ok {κ : Type} [DecidableEq κ] {f : κ → Val} (hf : ∀ a b, f a = f b → a = b) (k : κ) : ∀ {kvs : List (Val × Val)} {ks : List (κ × V)}, Paired (fun (p : Val × Val) (q : κ × V) => p.1 = f q.1 ∧ RV K H ρ p.2 q.2) kvs ks → OptR K H ρ (findK (f k) kvs) (valV ks k)
  | _, _, .nil => trivial
  | p :: kvs, q :: ks, .cons r t => by
    by_cases e : q.1 = k
    · rw [valV_pos e, findK, if_pos (by rw [r.1, e])]; exact r.2
    · rw [valV_neg e, findK, if_neg (by rw [r.1]; exact fun z => e (hf _ _ z))]
      exact find_ok hf k t
theorem any_ok {κ : Type} [DecidableEq κ] {f : κ → Val} (hf : ∀ a b, f a = f b → a = b) (k : κ) : ∀ {kvs : List (Val × Val)} {ks : List (κ × V)}, Paired (fun (p : Val × Val) (q : κ × V) => p.1 = f q.1 ∧ RV K H ρ p.2 q.2) kvs ks → (kvs.any fun p => decide (p.1 = f k)) = ks.any fun kv => decide (kv.1 = k)
  | _, _, .nil => rfl
  | p :: kvs, q :: ks, .cons r t => by
    rw [List.any_cons, List.any_cons, any_ok hf k t]
    congr 1
    rw [r.1]
    by_cases e : q.1 = k
    · rw [decide_eq_true e, e, decide_eq_true rfl]
    · rw [decide_eq_false e, decide_eq_false fun z => e (hf _ _ z)]
theorem put_ok {κ : Type} [DecidableEq κ] {f : κ → Val} (hf : ∀ a b, f a = f b → a = b) (k : κ) {v : Val} {z : V} (rv : RV K H ρ v z) {kvs : List (Val × Val)} {ks : List (κ × V)} (h : Paired (fun (p : Val × Val) (q : κ × V) => p.1 = f q.1 ∧ RV K H ρ p.2 q.2) kvs ks) :
    Paired (fun (p : Val × Val) (q : κ × V) => p.1 = f q.1 ∧ RV K H ρ p.2 q.2) (putKV (f k) v kvs) (putK ks k z) := by
  unfold putKV putK
  rw [any_ok hf k h]
  split
  · have : ∀ {kvs : List (Val × Val)} {ks : List (κ × V)}, Paired (fun (p : Val × Val) (q : κ × V) => p.1 = f q.1 ∧ RV K H ρ p.2 q.2) kvs ks → Paired (fun (p : Val × Val) (q : κ × V) => p.1 = f q.1 ∧ RV K H ρ p.2 q.2) (kvs.map fun p => if p.1 = f k then (p.1, v) else p) (ks.map fun kv => if kv.1 = k then (kv.1, z) else kv) := by
      intro kvs ks h
      induction h with
      | nil => exact .nil
      | cons r t ih =>
        rename_i p q _ _
        refine .cons ?_ ih
        by_cases e : q.1 = k
        · simp only [if_pos e, if_pos (show p.1 = f k by rw [r.1, e])]; exact ⟨r.1, rv⟩
        · simp only [if_neg e, if_neg (show ¬ p.1 = f k by rw [r.1]; exact fun z => e (hf _ _ z))]; exact r
    exact this h
  · have : ∀ {kvs : List (Val × Val)} {ks : List (κ × V)}, Paired (fun (p : Val × Val) (q : κ × V) => p.1 = f q.1 ∧ RV K H ρ p.2 q.2) kvs ks → Paired (fun (p : Val × Val) (q : κ × V) => p.1 = f q.1 ∧ RV K H ρ p.2 q.2) (kvs ++ [(f k, v)]) (ks ++ [(k, z)]) := by
      intro kvs ks h
      induction h with
      | nil => exact .cons ⟨rfl, rv⟩ .nil
      | cons r t ih => exact .cons r ih
    exact this h
end
section
variable {Γ : Gam} {K : PySem.W.Frag} {H : Hp} {ρ : List Addr} {g : Gh}
theorem kvalT_inj : ∀ a b : List Key, Val.tup (a.map kval) = Val.tup (b.map kval) → a = b := fun a b h => kvals_inj (Val.tup.inj h)
theorem dget_of {n : Nat} {t : Bool} {kvs : List (Val × Val)} {w : Val} {x y : V} (rg : RG Γ K H ρ g) (hn : g[n]? = some (.dic t kvs)) (hk : isKey t w = true) (rx : RV K H ρ (.ref n) x) (ry : RV K H ρ w y) :
    ∃ a o, x = .ref a ∧ DGet H a y o ∧ OptR K H ρ (findK w kvs) o := by
  obtain ⟨a, rfl, ha⟩ := rx
  obtain ⟨a', ha', ro⟩ := rg.at_ n _ hn
  rw [ha] at ha'; cases ha'
  cases t
  · obtain ⟨ks, e, hp⟩ := ro
    obtain ⟨k, rfl⟩ := key_f hk
    rw [kV_of ry]
    exact ⟨a, _, rfl, .k e, find_ok (fun a b => kval_inj) k hp⟩
  · obtain ⟨ks, e, hp⟩ := ro
    obtain ⟨k, rfl, hc⟩ := key_t hk
    obtain ⟨b, rfl, eb⟩ := keyT_of hc ry
    exact ⟨a, _, rfl, .t e eb, find_ok (f := fun k => Val.tup (k.map kval)) kvalT_inj k hp⟩
theorem dput_of {n : Nat} {t : Bool} {kvs : List (Val × Val)} {w v : Val} {x y z : V} (rg : RG Γ K H ρ g) (hn : g[n]? = some (.dic t kvs)) (hk : isKey t w = true) (hl : kvs.length < SL) (rx : RV K H ρ (.ref n) x) (ry : RV K H ρ w y) (rz : RV K H ρ v z) :
    ∃ a H', x = .ref a ∧ DPut H a y z H' ∧ Ext ρ H ρ H' ∧ RG Γ K H' ρ (g.set n (.dic t (putKV w v kvs))) := by
  obtain ⟨a, rfl, ha⟩ := rx
  obtain ⟨a', ha', ro⟩ := rg.at_ n _ hn
  rw [ha] at ha'; cases ha'
  cases t
  · obtain ⟨ks, e, hp⟩ := ro
    obtain ⟨k, rfl⟩ := key_f hk
    rw [kV_of ry]
    have hlen := Paired.length hp
    refine ⟨a, _, rfl, .k e (by rw [← hlen]; exact Nat.lt_of_lt_of_le hl SL_le), ext_set rg ha, rg_set rg ha ⟨_, upd_same, ?_⟩⟩
    exact put_ok (fun a b => kval_inj) k (rz.go rg (ext_set rg ha)) (Paired.mp hp fun p q _ r => ⟨r.1, r.2.go rg (ext_set rg ha)⟩)
  · obtain ⟨ks, e, hp⟩ := ro
    obtain ⟨k, rfl, hc⟩ := key_t hk
    obtain ⟨b, rfl, eb⟩ := keyT_of hc ry
    have hlen := Paired.length hp
    refine ⟨a, _, rfl, .t e eb (by rw [← hlen]; exact Nat.lt_of_lt_of_le hl SL_le), ext_set rg ha, rg_set rg ha ⟨_, upd_same, ?_⟩⟩
    exact put_ok (f := fun k => Val.tup (k.map kval)) kvalT_inj k (rz.go rg (ext_set rg ha)) (Paired.mp hp fun p q _ r => ⟨r.1, r.2.go rg (ext_set rg ha)⟩)
end
end KM

namespace KM
open PySem PySem.Spec PyProof.Rows L2

/-! #### == -/
mutual
def dOf : Val → PyData
  | .non => .none
  | .bl b => .bool b
  | .int i => .int i
  | .str cs => .str (toS cs)
  | .tup xs => .tuple (dOfs xs)
  | .ref _ => .none
  | .rol _ => .none
def dOfs : List Val → List PyData
  | [] => []
  | x :: xs => dOf x :: dOfs xs
end
theorem toS_beq (a b : List Nat) : (toS a == toS b) = (a == b) := by
  by_cases e : a = b
  · subst e; simp
  · have h : toS a ≠ toS b := fun q => e (by
      have := congrArg (fun z : Str => z.cps.toList) q
      simpa using this)
    rw [beq_eq_false_iff_ne.mpr h, beq_eq_false_iff_ne.mpr e]
theorem eqv_dOf : ∀ {n m : Nat} {a b : Val}, flat n a = true → flat m b = true → PyData.eqv (dOf a) (dOf b) = eqV a b := by
  suffices hh : ∀ (a : Val) (n m : Nat) (b : Val), flat n a = true → flat m b = true → PyData.eqv (dOf a) (dOf b) = eqV a b from fun {n m a b} => hh a n m b
  intro a
  refine Val.rec (motive_1 := fun a => ∀ (n m : Nat) (b : Val), flat n a = true → flat m b = true → PyData.eqv (dOf a) (dOf b) = eqV a b)
    (motive_2 := fun xs => ∀ (n m : Nat) (ys : List Val), flats n xs = true → flats m ys = true → PyData.eqvAll (dOfs xs) (dOfs ys) = eqVs xs ys) ?_ ?_ ?_ ?_ ?_ ?_ ?_ ?_ ?_ a
  · intro n m b _ hb; cases b <;> first | rfl | cases hb | (cases m <;> cases hb)
  · intro x n m b _ hb; cases b <;> first | rfl | cases hb | (cases m <;> cases hb)
  · intro x n m b _ hb; cases b <;> first | rfl | cases hb | (cases m <;> cases hb)
  · intro x n m b _ hb
    cases b <;> first | rfl | exact toS_beq _ _ | cases hb | (cases m <;> cases hb)
  · intro xs ih n m b ha hb
    cases n with
    | zero => cases ha
    | succ n =>
      cases b <;> first | rfl | cases hb | (cases m <;> cases hb) | skip
      rename_i ys
      cases m with
      | zero => cases hb
      | succ m => exact ih n m ys ha hb
  · intro k n m b ha; cases n <;> cases ha
  · intro xs ih n m b ha; cases n <;> cases ha
  · intro n m ys _ _
    cases ys <;> rfl
  · intro x xs h1 h2 n m ys ha hb
    cases ys with
    | nil => rfl
    | cons y ys =>
      have ha : flat n x = true ∧ flats n xs = true := Bool.and_eq_true_iff.mp (by cases n <;> exact ha)
      have hb : flat m y = true ∧ flats m ys = true := Bool.and_eq_true_iff.mp (by cases m <;> exact hb)
      show (PyData.eqv (dOf x) (dOf y) && PyData.eqvAll (dOfs xs) (dOfs ys)) = _
      rw [h1 n m y ha.1 hb.1, h2 n m ys ha.2 hb.2]
      rfl
theorem flats_cons {n : Nat} {x : Val} {xs : List Val} : flats n (x :: xs) = (flat n x && flats n xs) := by cases n <;> rfl
theorem eqvAll_dOf : ∀ {n m : Nat} {xs ys : List Val}, flats n xs = true → flats m ys = true → PyData.eqvAll (dOfs xs) (dOfs ys) = eqVs xs ys
  | n, m, [], ys, _, _ => by cases ys <;> rfl
  | n, m, x :: xs, [], _, _ => rfl
  | n, m, x :: xs, y :: ys, ha, hb => by
    rw [flats_cons, Bool.and_eq_true_iff] at ha hb
    show (PyData.eqv (dOf x) (dOf y) && PyData.eqvAll (dOfs xs) (dOfs ys)) = _
    rw [eqv_dOf ha.1 hb.1, eqvAll_dOf ha.2 hb.2]
    rfl
theorem strOk_of {cs : List Nat} (h : ∀ c ∈ cs, c < 1114112) : PyData.strOk (toS cs) = true := by
  unfold PyData.strOk
  rw [Array.all_eq_true']
  intro x hx
  exact decide_eq_true (h x (by simpa using hx))
section
variable {K : PySem.W.Frag} {H : Hp} {ρ : List Addr}
theorem dp_of : ∀ {n : Nat} {a : Val} {x : V}, flat n a = true → RV K H ρ a x → Dp K H x (dOf a) ∧ (dOf a).canLay0 = true ∧ (dOf a).depth ≤ n := by
  suffices hh : ∀ (a : Val) (n : Nat) (x : V), flat n a = true → RV K H ρ a x → Dp K H x (dOf a) ∧ (dOf a).canLay0 = true ∧ (dOf a).depth ≤ n from fun {n a x} => hh a n x
  intro a
  refine Val.rec (motive_1 := fun a => ∀ (n : Nat) (x : V), flat n a = true → RV K H ρ a x → Dp K H x (dOf a) ∧ (dOf a).canLay0 = true ∧ (dOf a).depth ≤ n)
    (motive_2 := fun xs => ∀ (n : Nat) (vs : List V), flats n xs = true → RVs K H ρ xs vs → DpAll K H vs (dOfs xs) ∧ PyData.canLayAll0 (dOfs xs) = true ∧ PyData.depthAll (dOfs xs) ≤ n) ?_ ?_ ?_ ?_ ?_ ?_ ?_ ?_ ?_ a
  · intro n x _ h; rw [show x = .non from h]; exact ⟨.non, rfl, Nat.zero_le _⟩
  · intro b n x _ h; rw [show x = .bl b from h]; exact ⟨.bl b, rfl, Nat.zero_le _⟩
  · intro b n x _ h; rw [show x = .int b from h]; exact ⟨.int b, rfl, Nat.zero_le _⟩
  · intro b n x _ h; rw [h.1]; exact ⟨.str _, strOk_of h.2.2, Nat.zero_le _⟩
  · intro xs ih n x hf h
    cases n with
    | zero => cases hf
    | succ n =>
      obtain ⟨a, vs, rfl, hs, hv⟩ := h
      obtain ⟨h1, h2, h3⟩ := ih n vs hf hv
      exact ⟨.tup hs.t h1, h2, Nat.succ_le_succ h3⟩
  · intro k n x hf; cases n <;> cases hf
  · intro xs ih n x hf; cases n <;> cases hf
  · intro n vs _ h; rw [show vs = [] from h]; exact ⟨.nil, rfl, Nat.zero_le _⟩
  · intro x xs h1 h2 n vs hf h
    rw [flats_cons, Bool.and_eq_true_iff] at hf
    obtain ⟨v, r, rfl, hv, hr⟩ := h
    obtain ⟨a1, a2, a3⟩ := h1 n v hf.1 hv
    obtain ⟨b1, b2, b3⟩ := h2 n r hf.2 hr
    refine ⟨.cons a1 b1, Bool.and_eq_true_iff.mpr ⟨a2, b2⟩, Nat.max_le.mpr ⟨a3, b3⟩⟩
theorem dps_of : ∀ {n : Nat} {xs : List Val} {vs : List V}, flats n xs = true → RVs K H ρ xs vs → DpAll K H vs (dOfs xs) ∧ PyData.canLayAll0 (dOfs xs) = true ∧ PyData.depthAll (dOfs xs) ≤ n
  | n, [], vs, _, h => by rw [show vs = [] from h]; exact ⟨.nil, rfl, Nat.zero_le _⟩
  | n, x :: xs, vs, hf, h => by
    rw [flats_cons, Bool.and_eq_true_iff] at hf
    obtain ⟨v, r, rfl, hv, hr⟩ := h
    obtain ⟨a1, a2, a3⟩ := dp_of hf.1 hv
    obtain ⟨b1, b2, b3⟩ := dps_of hf.2 hr
    exact ⟨.cons a1 b1, Bool.and_eq_true_iff.mpr ⟨a2, b2⟩, Nat.max_le.mpr ⟨a3, b3⟩⟩
theorem shaped_of {d : PyData} (h1 : d.canLay0 = true) (h2 : d.depth ≤ 61) : SeqAt.shaped d = true := Bool.and_eq_true_iff.mpr ⟨h1, decide_eq_true (by omega)⟩
theorem eqO_ok {Γ : Gam} {g : Gh} {a b : Val} {x y : V} {k : Bool} (rg : RG Γ K H ρ g) (ra : RV K H ρ a x) (rb : RV K H ρ b y) (h : eqO a b g = some k) :
    ∃ d e, Dp K H x d ∧ Dp K H y e ∧ SeqAt.shaped d = true ∧ SeqAt.shaped e = true ∧ PyData.eqv d e = k := by
  unfold eqO at h
  split at h
  · rename_i hf
    rw [Bool.and_eq_true_iff] at hf
    cases h
    obtain ⟨a1, a2, a3⟩ := dp_of hf.1 ra
    obtain ⟨b1, b2, b3⟩ := dp_of hf.2 rb
    exact ⟨_, _, a1, b1, shaped_of a2 (by omega), shaped_of b2 (by omega), eqv_dOf hf.1 hf.2⟩
  · split at h
    · split at h
      · rename_i h1 h2
        split at h
        · rename_i hf
          rw [Bool.and_eq_true_iff] at hf
          cases h
          obtain ⟨p, rfl, hp⟩ := ra
          obtain ⟨q, rfl, hq⟩ := rb
          obtain ⟨p', vs, hp', ep, vp⟩ := rg.lstAt h1
          obtain ⟨q', ws, hq', eq, vq⟩ := rg.lstAt h2
          rw [hp] at hp'; cases hp'
          rw [hq] at hq'; cases hq'
          obtain ⟨a1, a2, a3⟩ := dps_of hf.1 vp
          obtain ⟨b1, b2, b3⟩ := dps_of hf.2 vq
          exact ⟨.list _, .list _, .lst (.of ep) a1, .lst (.of eq) b1, shaped_of a2 (Nat.succ_le_succ a3), shaped_of b2 (Nat.succ_le_succ b3), eqvAll_dOf hf.1 hf.2⟩
        · cases h
      · cases h
    · cases h
end
section
variable {Γ : Gam} {X : Cx}
theorem c_eq (hu : X.A.units + 64 < cLine) : OpR X (compareOp .Eq) (rO Γ X.K (cmpV .eq)) := by
  intro pins s σ H x y v u Q I rx ry ⟨W, τ, ρ, g, a, b, rg, ra, rb, h⟩
  obtain ⟨k, hk, q⟩ := fin_cmp rg h
  obtain ⟨d, e, hd, he, sd, se, ev⟩ := eqO_ok rg ra rb hk
  exact op_eqD hu pins s σ H x y v u Q I rx ry ⟨d, e, hd, he, sd, se, by rw [ev]; exact q⟩
theorem c_ne (hu : X.A.units + 64 < cLine) : OpR X (compareOp .NotEq) (rO Γ X.K (cmpV .ne)) := by
  intro pins s σ H x y v u Q I rx ry ⟨W, τ, ρ, g, a, b, rg, ra, rb, h⟩
  obtain ⟨k, hk, q⟩ := fin_cmp rg h
  have hk : (eqO a b g).map (!·) = some k := hk
  obtain ⟨k', hk', e⟩ := Option.map_eq_some_iff.mp hk
  subst e
  obtain ⟨d, e, hd, he, sd, se, ev⟩ := eqO_ok rg ra rb hk'
  exact op_neD hu pins s σ H x y v u Q I rx ry ⟨d, e, hd, he, sd, se, by rw [ev]; exact q⟩

/-! #### in -/
theorem eqV_V {K : PySem.W.Frag} {H : Hp} {ρ : List Addr} {a b : Val} {x y : V} (ha : sca a = true) (hb : sca b = true) (ra : RV K H ρ a x) (rb : RV K H ρ b y) : flatV x = true ∧ flatV y = true ∧ L2.eqV x y = eqV a b := by
  cases a <;> first | cases ha | skip
  all_goals cases b <;> first | cases hb | skip
  all_goals simp only [RV] at ra rb
  · subst ra rb; exact ⟨rfl, rfl, rfl⟩
  · subst ra rb; exact ⟨rfl, rfl, rfl⟩
  · subst ra rb; exact ⟨rfl, rfl, rfl⟩
  · obtain ⟨rb, _⟩ := rb; subst ra rb; exact ⟨rfl, rfl, rfl⟩
  · subst ra rb; exact ⟨rfl, rfl, rfl⟩
  · subst ra rb; exact ⟨rfl, rfl, rfl⟩
  · subst ra rb; exact ⟨rfl, rfl, rfl⟩
  · obtain ⟨rb, _⟩ := rb; subst ra rb; exact ⟨rfl, rfl, rfl⟩
  · subst ra rb; exact ⟨rfl, rfl, rfl⟩
  · subst ra rb; exact ⟨rfl, rfl, rfl⟩
  · subst ra rb; exact ⟨rfl, rfl, rfl⟩
  · obtain ⟨rb, _⟩ := rb; subst ra rb; exact ⟨rfl, rfl, rfl⟩
  · obtain ⟨ra, _⟩ := ra; subst ra rb; exact ⟨rfl, rfl, rfl⟩
  · obtain ⟨ra, _⟩ := ra; subst ra rb; exact ⟨rfl, rfl, rfl⟩
  · obtain ⟨ra, _⟩ := ra; subst ra rb; exact ⟨rfl, rfl, rfl⟩
  · obtain ⟨ra, _⟩ := ra; obtain ⟨rb, _⟩ := rb; subst ra rb; exact ⟨rfl, rfl, toS_beq _ _⟩
theorem in_sca {K : PySem.W.Frag} {H : Hp} {ρ : List Addr} {a : Val} {x : V} (ha : sca a = true) (ra : RV K H ρ a x) : ∀ {xs : List Val} {vs : List V}, xs.all sca = true → RVs K H ρ xs vs →
    flatV x = true ∧ vs.all flatV = true ∧ (vs.any fun y => L2.eqV y x) = xs.any fun y => eqV y a
  | [], vs, _, r => by
    rw [show vs = [] from r]
    exact ⟨(eqV_V ha ha ra ra).1, rfl, rfl⟩
  | z :: zs, vs, h, r => by
    obtain ⟨v, r', rfl, hv, hr⟩ := r
    rw [List.all_cons, Bool.and_eq_true_iff] at h
    obtain ⟨h1, h2, h3⟩ := in_sca ha ra h.2 hr
    obtain ⟨e1, e2, e3⟩ := eqV_V h.1 ha hv ra
    exact ⟨h1, by rw [List.all_cons, e1, h2]; rfl, by rw [List.any_cons, List.any_cons, e3, h3]⟩
theorem in_flat : ∀ {n m : Nat} {a : Val} {xs : List Val}, flat n a = true → flats m xs = true → ((dOfs xs).any fun z => PyData.eqv z (dOf a)) = xs.any fun z => eqV z a
  | _, _, _, [], _, _ => rfl
  | n, m, a, x :: xs, ha, h => by
    rw [flats_cons, Bool.and_eq_true_iff] at h
    show (PyData.eqv (dOf x) (dOf a) || (dOfs xs).any fun z => PyData.eqv z (dOf a)) = _
    rw [eqv_dOf h.1 ha, in_flat ha h.2, List.any_cons]
theorem inV_cases {K : PySem.W.Frag} {H : Hp} {ρ : List Addr} {g : Gh} {a b : Val} {x y : V} {k : Bool} (rg : RG Γ K H ρ g) (ra : RV K H ρ a x) (rb : RV K H ρ b y) (h : inV a b g = some k) :
    (∃ c z, x = .str ⟨#[c]⟩ ∧ y = .str z ∧ decide (c ∈ z.cps.toList) = k) ∨
    (∃ p vs, y = .ref p ∧ SqT K H p vs ∧ flatV x = true ∧ vs.all flatV = true ∧ L2.inV x vs = k) ∨
    (∃ d ds, Dp K H x d ∧ Dp K H y (.list ds) ∧ SeqAt.shaped d = true ∧ SeqAt.shaped (.list ds) = true ∧ (ds.any fun z => PyData.eqv z d) = k) ∨
    ∃ p o, y = .ref p ∧ DGet H p x o ∧ o.isSome = k := by
  unfold inV at h
  split at h
  · split at h
    · cases h
      exact .inl ⟨_, _, ra.1, rb.1, by simp⟩
    · cases h
  · split at h
    · rename_i hs
      rw [Bool.and_eq_true_iff] at hs
      cases h
      obtain ⟨p, vs, rfl, hp, hv⟩ := rb
      obtain ⟨h1, h2, h3⟩ := in_sca hs.1 ra hs.2 hv
      exact .inr (.inl ⟨p, vs, rfl, hp.t, h1, h2, h3⟩)
    · cases h
  · split at h
    · rename_i hn
      split at h
      · rename_i hf
        rw [Bool.and_eq_true_iff] at hf
        cases h
        obtain ⟨p, rfl, hp⟩ := rb
        obtain ⟨p', hp', vs, ep, vp⟩ := rg.cell hn
        rw [hp] at hp'; cases hp'
        obtain ⟨a1, a2, a3⟩ := dp_of hf.1 ra
        obtain ⟨b1, b2, b3⟩ := dps_of hf.2 vp
        exact .inr (.inr (.inl ⟨_, _, a1, .lst (.of ep) b1, shaped_of a2 (by omega), shaped_of (d := .list _) b2 (Nat.succ_le_succ b3), in_flat hf.1 hf.2⟩))
      · cases h
    · rename_i t kvs hn
      split at h
      · rename_i hk
        cases h
        obtain ⟨a', o, e, hd, ho⟩ := dget_of rg hn hk rb ra
        exact .inr (.inr (.inr ⟨a', o, e, hd, ho.some⟩))
      · cases h
    · cases h
  · cases h
theorem c_in (hu : X.A.units + 65 < cLine) : OpR X (compareOp .In) (rO Γ X.K (cmpV .in_)) := by
  intro pins s σ H x y v u Q I rx ry ⟨W, τ, ρ, g, a, b, rg, ra, rb, h⟩
  obtain ⟨k, hk, q⟩ := fin_cmp rg h
  rcases inV_cases rg ra rb hk with ⟨c, z, e1, e2, e⟩ | ⟨p, vs, e1, h1, h2, h3, e⟩ | ⟨d, ds, h1, h2, h3, h4, e⟩ | ⟨p, oo, e1, h1, e⟩
  · exact op_in_sign pins s σ H x y v u Q I rx ry ⟨c, z, e1, e2, by rw [e]; exact q⟩
  · exact op_in_seq pins s σ H x y v u Q I rx ry ⟨p, vs, e1, .inr h1, h2, h3, by rw [e]; exact q⟩
  · exact op_inD hu pins s σ H x y v u Q I rx ry ⟨d, ds, h1, h2, h3, h4, by rw [e]; exact q⟩
  · subst e1
    obtain rfl : u = Value.ref p := ry
    exact d_in (by omega) I h1 rx fun s' I' => ⟨.bl oo.isSome, H, I', rfl, by rw [e]; exact q⟩
theorem c_notin (hu : X.A.units + 65 < cLine) : OpR X (compareOp .NotIn) (rO Γ X.K (cmpV .notin)) := by
  intro pins s σ H x y v u Q I rx ry ⟨W, τ, ρ, g, a, b, rg, ra, rb, h⟩
  obtain ⟨k, hk, q⟩ := fin_cmp rg h
  have hk : (inV a b g).map (!·) = some k := hk
  obtain ⟨k', hk', e⟩ := Option.map_eq_some_iff.mp hk
  subst e
  rcases inV_cases rg ra rb hk' with ⟨c, z, e1, e2, e⟩ | ⟨p, vs, e1, h1, h2, h3, e⟩ | ⟨d, ds, h1, h2, h3, h4, e⟩ | ⟨p, oo, e1, h1, e⟩
  · exact op_notIn_sign pins s σ H x y v u Q I rx ry ⟨c, z, e1, e2, by rw [e]; exact q⟩
  · exact op_notIn_seq pins s σ H x y v u Q I rx ry ⟨p, vs, e1, .inr h1, h2, h3, by rw [e]; exact q⟩
  · exact op_notInD hu pins s σ H x y v u Q I rx ry ⟨d, ds, h1, h2, h3, h4, by rw [e]; exact q⟩
  · subst e1
    obtain rfl : u = Value.ref p := ry
    exact d_notIn (by omega) I h1 rx fun s' I' => ⟨.bl (!oo.isSome), H, I', rfl, by rw [e]; exact q⟩
theorem c_all (hu : X.A.units + 65 < cLine) : ∀ op : Cop, OpR X (compareOp (copOf op)) (rO Γ X.K (cmpV op))
  | .eq => c_eq (by omega)
  | .ne => c_ne (by omega)
  | .lt => c_lt
  | .le => c_le
  | .gt => c_gt
  | .ge => c_ge
  | .is => c_is
  | .isnot => c_isnot
  | .in_ => c_in hu
  | .notin => c_notin hu

/-! #### truth -/
theorem tru_of {K : PySem.W.Frag} {H : Hp} {ρ : List Addr} {g : Gh} {a : Val} {x : V} {k : Bool} (rg : RG Γ K H ρ g) (ra : RV K H ρ a x) (h : truO a g = some k) : TruV K x H k := by
  cases a with
  | non => rw [show x = .non from ra]; cases h; rfl
  | bl b => rw [show x = .bl b from ra]; cases h; rfl
  | int i => rw [show x = .int i from ra]; cases h; rfl
  | str cs =>
    rw [ra.1]
    cases h
    refine ⟨by rw [toS_len]; exact le_line ra.2.1, ?_⟩
    rw [toS_len]
    cases cs with
    | nil => rfl
    | cons c cs =>
      show true = _
      symm
      rw [List.length_cons]
      simp only [bne_iff_ne, ne_eq]
      omega
  | tup xs =>
    obtain ⟨p, vs, rfl, hp, hv⟩ := ra
    cases h
    refine .inr (.inl ⟨vs, hp.t, ?_⟩)
    have := hv.length
    cases xs <;> cases vs <;> first | rfl | simp at this
  | rol xs =>
    obtain ⟨p, vs, rfl, hp, hv⟩ := ra
    cases h
    refine .inl ⟨vs, hp.sql, ?_⟩
    have := hv.length
    cases xs <;> cases vs <;> first | rfl | simp at this
  | ref n =>
    have h : (match g[n]? with
      | some (.lst xs) => some (!xs.isEmpty)
      | some (.dic t kvs) => if t then none else some (!kvs.isEmpty)
      | _ => none) = some k := h
    split at h
    · rename_i xs hn
      cases h
      obtain ⟨p, rfl, hp⟩ := ra
      obtain ⟨p', hp', vs, ep, hv⟩ := rg.cell hn
      rw [hp] at hp'; cases hp'
      refine .inl ⟨vs, .of ep, ?_⟩
      have := hv.length
      cases xs <;> cases vs <;> first | rfl | simp at this
    · rename_i t kvs hn
      cases t
      · rw [if_neg (by simp)] at h
        cases h
        obtain ⟨p, rfl, hp⟩ := ra
        obtain ⟨p', hp', ks, ep, hv⟩ := rg.at_ n _ hn
        rw [hp] at hp'; cases hp'
        refine .inr (.inr ⟨ks, ep, ?_⟩)
        cases hv <;> rfl
      · rw [if_pos rfl] at h; cases h
    · cases h
end
end KM

namespace KM
open PySem PySem.Spec PyProof.Rows L2
section
variable {Γ : Gam} {X : Cx}
/-! #### items -/
def idxR (v w : Val) (g : Gh) : R Val := match idxO v w g with
  | some x => .ok x g
  | none => .bad
theorem atI_RVs {K : PySem.W.Frag} {H : Hp} {ρ : List Addr} {xs : List Val} {vs : List V} {i : Int} {x : Val} (r : RVs K H ρ xs vs) (h : KM.atI xs i = some x) : ∃ v, L2.atI vs i = some v ∧ RV K H ρ x v := by
  unfold KM.atI at h
  cases e : KM.ixN xs.length i with
  | none => rw [e] at h; cases h
  | some j =>
    rw [e] at h
    obtain ⟨v, h1, h2⟩ := r.get (i := j) h
    refine ⟨v, ?_, h2⟩
    unfold L2.atI
    have e' : L2.ixN vs.length i = some j := by rw [r.length]; exact e
    rw [e']
    exact h1
theorem ix_dict (hu : X.A.units + 1 < cLine) : IxR X (fun x y H Q => ∃ a v, x = .ref a ∧ DGet H a y (some v) ∧ Q v H) := by
  intro value slice pins s σ H x y v u Q I rx ry ⟨a, w, ex, g, q⟩ hs
  subst ex
  obtain rfl : v = Value.ref a := rx
  exact tail_any (dict_typeIs I g) PySem.F.slot_dict_getitem.lookup (d_getItem hu I g ry fun w' s3 I3 rw' => ⟨w, H, I3, rw', q⟩) hs
theorem i_all (hu : X.A.units + 1 < cLine) : IxR X (rO Γ X.K idxR) := by
  intro value slice pins s σ H x y v u Q I rx ry ⟨W, τ, ρ, g, a, b, rg, ra, rb, h⟩ hs
  unfold idxR at h
  split at h
  · rename_i z hz
    have q : ∀ w, RV X.K H ρ z w → Q w H := fun w rw => h _ ρ H .refl rg rw
    clear h
    unfold idxO at hz
    split at hz
    · split at hz
      · obtain ⟨p, vs, rfl, hp, hv⟩ := ra
        obtain ⟨w, h1, h2⟩ := atI_RVs hv hz
        exact ix_tup value slice pins s σ H _ y v u Q I rx ry ⟨p, vs, _, w, rfl, rb, hp.t, h1, q w h2⟩ hs
      · cases hz
    · rename_i cs
      split at hz
      · rename_i i
        obtain ⟨c, hc, e⟩ := Option.map_eq_some_iff.mp hz
        subst e
        refine ix_str value slice pins s σ H _ y v u Q I rx ry ⟨_, i, c, ra.1, rb, by rw [toS_len]; exact le_line ra.2.1, (show L2.atI cs i = some c from hc), q _ ⟨rfl, by show 1 ≤ SL; decide, fun d hd => ?_⟩⟩ hs
        rw [List.mem_singleton.mp hd]
        unfold KM.atI at hc
        cases e : KM.ixN cs.length i with
        | none => rw [e] at hc; cases hc
        | some j => rw [e] at hc; exact ra.2.2 c (List.mem_of_getElem? hc)
      · cases hz
    · split at hz
      · rename_i hn
        split at hz
        · obtain ⟨p, rfl, hp⟩ := ra
          obtain ⟨p', hp', vs, ep, hv⟩ := rg.cell hn
          rw [hp] at hp'; cases hp'
          obtain ⟨w, h1, h2⟩ := atI_RVs hv hz
          exact ix_list value slice pins s σ H _ y v u Q I rx ry ⟨p, vs, _, w, rfl, rb, .of ep, h1, q w h2⟩ hs
        · cases hz
      · rename_i t kvs hn
        split at hz
        · rename_i hk
          obtain ⟨a', o, e, hd, ho⟩ := dget_of rg hn hk ra rb
          rw [hz] at ho
          cases o with
          | none => exact ho.elim
          | some w => exact ix_dict hu value slice pins s σ H _ y v u Q I rx ry ⟨a', w, e, hd, q w ho⟩ hs
        · cases hz
      · cases hz
    · cases hz
  · exact h.elim

/-! #### parts -/
theorem sIx_eq (n d : Nat) (o : Option Int) : HT.sIx n d o = KM.sIx n d o := by
  cases o with
  | none => rfl
  | some i =>
    show (if i < 0 then (i + (n : Int)).toNat else min i.toNat n) = if 0 ≤ i then min i.toNat n else (i + n).toNat
    by_cases h : i < 0
    · rw [if_pos h, if_neg (by omega)]
    · rw [if_neg h, if_pos (by omega)]
theorem cutV_RVs {K : PySem.W.Frag} {H : Hp} {ρ : List Addr} {xs : List Val} {vs : List V} (r : RVs K H ρ xs vs) (lo hi : Option Int) : RVs K H ρ (cutL xs lo hi) (cutV vs lo hi) := by
  unfold cutL cutV
  rw [sIx_eq, sIx_eq, r.length]
  exact (r.drop _).take _
theorem cutL_mem {α : Type} {xs : List α} {lo hi : Option Int} {c : α} (h : c ∈ cutL xs lo hi) : c ∈ xs := List.mem_of_mem_drop (List.mem_of_mem_take h)
theorem cutL_le {α : Type} (xs : List α) (lo hi : Option Int) : (cutL xs lo hi).length ≤ xs.length := by
  unfold cutL
  rw [List.length_take, List.length_drop]
  omega
def rSlc (Γ : Gam) (K : PySem.W.Frag) : V → Option Int → Option Int → Hp → VK → Prop := fun x lo hi H Q => ∃ W σ ρ g v, RG Γ K H ρ g ∧ RV K H ρ v x ∧ FinG Γ K (relV K) W σ ρ H (slcO v lo hi g) Q
theorem s_all : SlR X (rSlc Γ X.K) := by
  intro pins s σ H x v vl vu lo hi sl Q I rx hs pl pu ⟨W, τ, ρ, g, a, rg, ra, h⟩
  unfold slcO at h
  split at h
  · rename_i xs
    obtain ⟨p, vs, rfl, hp, hv⟩ := ra
    refine sl_tupA pins s σ H _ v vl vu lo hi sl Q I rx hs pl pu ⟨p, vs, rfl, hp.t, fun ⟨e1, e2⟩ => ?_, fun _ => fin_tup rg (cutV_RVs hv lo hi) h⟩
    have ec : cutL xs lo hi = xs := by
      unfold cutL
      rw [← sIx_eq, ← sIx_eq, ← hv.length, e1, e2, List.drop_zero, Nat.sub_zero, hv.length, List.take_length]
    exact h _ ρ H .refl rg ⟨p, vs, rfl, by rw [ec]; exact hp, by rw [ec]; exact hv⟩
  · rename_i cs
    refine sl_str pins s σ H _ v vl vu lo hi sl Q I rx hs pl pu ⟨_, ra.1, by rw [toS_len]; exact le_line ra.2.1, ?_⟩
    have e : cutS (toS cs) lo hi = toS (cutL cs lo hi) := by
      unfold cutS cutL
      rw [toS_len, sIx_eq, sIx_eq]
    rw [e]
    exact h _ ρ H .refl rg ⟨rfl, Nat.le_trans (cutL_le _ _ _) ra.2.1, fun c hc => ra.2.2 c (cutL_mem hc)⟩
  · split at h
    · rename_i hn
      obtain ⟨p, rfl, hp⟩ := ra
      obtain ⟨p', vs, hp', ep, hv⟩ := rg.lstAt hn
      rw [hp] at hp'; cases hp'
      exact sl_list pins s σ H _ v vl vu lo hi sl Q I rx hs pl pu ⟨p, vs, rfl, .of ep, fin_lst rg (cutV_RVs hv lo hi) h⟩
    · exact h.elim
  · exact h.elim
/-! #### turned round -/
theorem pick_all (x : Str) : ((List.range x.length).reverse.filterMap (x.cps[·]?)) = x.cps.toList.reverse := by
  have e : (List.range x.cps.size).filterMap (x.cps[·]?) = x.cps.toList := PySem.W.krv_all x.cps
  rw [List.filterMap_reverse]
  exact congrArg List.reverse e
theorem sind (n : Nat) : Builtin.Str.strSliceIndices none none (-1) n = (List.range n).reverse := by
  have h := PySem.W.krv_sliceRange n
  rw [PySem.W.krv_range] at h
  rw [← h]
  rfl
end
/-! #### t[::-1] of a tuple -/
theorem fm_cong {α β : Type} {f g : α → Option β} : ∀ (l : List α), (∀ x, x ∈ l → f x = g x) → l.filterMap f = l.filterMap g
  | [], _ => rfl
  | a :: l, h => by rw [List.filterMap_cons, List.filterMap_cons, h a (.head _), fm_cong l fun x hx => h x (.tail _ hx)]
theorem rpick (xs : Array Value) : ((List.range xs.size).filterMap fun (k : Nat) => xs[(((xs.size : Int) - 1) + (k : Int) * (-1)).toNat]?).toArray = xs.toList.reverse.toArray := by
  have e : ((List.range xs.size).reverse.filterMap fun (k : Nat) => xs[(((xs.size : Int) - 1) + (k : Int) * (-1)).toNat]?) = xs.toList := by
    have e0 : (List.range xs.size).filterMap (xs[·]?) = xs.toList := PySem.W.krv_all xs
    rw [← e0, List.range_eq_range', List.reverse_range', List.filterMap_map, ← List.range_eq_range']
    refine fm_cong _ fun k hk => ?_
    have hk := List.mem_range.mp hk
    show xs[(((xs.size : Int) - 1) + ((0 + xs.size - 1 - k : Nat) : Int) * (-1)).toNat]? = xs[k]?
    have : (((xs.size : Int) - 1) + ((0 + xs.size - 1 - k : Nat) : Int) * (-1)).toNat = k := by omega
    rw [this]
  rw [← e, List.filterMap_reverse, List.reverse_reverse]
section
variable {prog : Program} {w : World} {A : Around} {E : Value → Shared → Prop} {s : Shared}
theorem applied_rev {sl : Addr} {t1 : Tok} {n : Nat} {Q : Int × Int × Nat → Shared → Prop} (hs : s.heap.IsSliceOf sl .none .none (.int (-1) t1))
    (h : Q ((n : Int) - 1, -1, n) s) : wpAny (model prog w) A (Builtin.Slice.sliceApplied (.ref sl) (pure (n : Int))) Q E s := by
  obtain ⟨os, hos, hcs, hds⟩ := id hs
  unfold Builtin.Slice.sliceApplied Builtin.Slice.sliceFields
  refine wpAny_bind (wpAny_bind (wpAny_field hos hds (x := .none) rfl (wpAny_bind (wpAny_field hos hds (x := .none) rfl (wpAny_bind (wpAny_field hos hds (x := .int (-1) t1) rfl (wpAny_pure ?_)))))))
  refine wpAny_bind (HT.slicePart_ (.int (-1) t1) ?_)
  show wpAny _ _ (if ((-1 : Int) == 0) = true then _ else _) _ _ s
  rw [if_neg (by decide)]
  refine wpAny_bind (HT.slicePart_ .none (wpAny_bind (HT.slicePart_ .none (wpAny_bind (wpAny_pure ?_)))))
  show wpAny _ _ (pure ((n : Int) - 1, (-1 : Int), Builtin.Slice.slicePlaces ((n : Int) - 1) (-1) (-1))) _ _ s
  have e : Builtin.Slice.slicePlaces ((n : Int) - 1) (-1) (-1) = n := by
    unfold Builtin.Slice.slicePlaces
    rw [if_neg (by omega)]
    by_cases h0 : n = 0
    · subst h0; decide
    · rw [if_pos (by omega)]
      have : ((n : Int) - 1 - (-1) - 1) / (-(-1)) + 1 = (n : Int) := by
        rw [show (-(-1) : Int) = 1 by decide, Int.ediv_one]; omega
      rw [this, Int.toNat_natCast]
  rw [e]
  exact wpAny_pure h
theorem getItem_tuple_rev {t sl : Addr} {items : Array Value} {t1 : Tok} {Q : Value → Shared → Prop} (ht : IsTup s.heap t items) (hs : s.heap.IsSliceOf sl .none .none (.int (-1) t1))
    (h : Q (.ref s.heap.objs.size) { s with heap := s.heap.push { cls := .type "tuple", data := .seq items.toList.reverse.toArray } })
    (hsz : items.size ≤ sizeLine) : wpAny (model prog w) A (getItem (.ref t) (.ref sl)) Q E s := by
  have htake : sizeOk (.seq items.toList.reverse.toArray) := by
    show items.toList.reverse.toArray.size ≤ sizeLine
    rw [List.size_toArray, List.length_reverse, Array.length_toList]
    exact hsz
  obtain ⟨os, hos, hcs, hds⟩ := id hs
  have hTs : s.TypeIs (.ref sl) "slice" := ⟨os, hos, hcs⟩
  unfold getItem
  try with_reducible refine wpAny_holding ?_
  first | refine wpAny_bind (wpAny_pure ?_) | skip
  refine wpAny_bind (wpAny_sequenceKey ht.typeIs (by decide) ?_)
  refine wpAny_bind (wpAny_callSpecial?_slot (name := Str.ofString "__getitem__") ht.typeIs PyProof.Rows.slot_tuple_getitem
    (wpAny_call_entry PyProof.Rows.slot_tuple_getitem ht.typeIs entry_tuple_getitem ?_ (args_tuple_getitem _ _)))
  show wpAny _ _ (Builtin.Tuple.tupleItemsOf (.ref t) >>= _) _ _ s
  refine wpAny_bind (tupleItemsOf_ ht ?_)
  refine wpAny_bind (wpAny_typeOf hTs ?_)
  rw [if_pos (by decide)]
  refine wpAny_bind (applied_rev hs ?_)
  have hno : ¬ ((((items.size : Int) - 1) == 0 && (-1 : Int) == 1 && items.size == items.size) = true) := by
    intro q
    rw [Bool.and_eq_true, Bool.and_eq_true] at q
    exact absurd (eq_of_beq q.1.2) (by decide)
  show wpAny _ _ (if (((items.size : Int) - 1) == 0 && (-1 : Int) == 1 && items.size == items.size) = true then _ else _) _ _ s
  rw [if_neg hno, rpick]
  first
    | exact wpAny_bind (m := Builtin.Tuple.tupleExact _) (wpAny_newObj_type (wpAny_pure ⟨_, rfl, wpAny_pure h⟩) htake)
    | exact wpAny_bind (m := Builtin.Tuple.tupleExact _) (wpAny_newObj_type (wpAny_bind (wpAny_pure (wpAny_pure ⟨_, rfl, wpAny_pure h⟩))) htake)
    | exact wpAny_bind (wpAny_bind (m := Builtin.Tuple.tupleExact _) (wpAny_newObj_type (wpAny_pure (wpAny_pure ⟨_, rfl, wpAny_pure h⟩)) htake))
    | exact wpAny_bind (wpAny_bind (m := Builtin.Tuple.tupleExact _) (wpAny_newObj_type (wpAny_pure ⟨_, rfl, wpAny_pure h⟩) htake))
end
section
variable {X : Cx}
theorem pe_rev2 {e : Expr} {te : TE} {k : Nat} {p1 p2 p3 pos : Pos} (he : PE X e te) : PE X (.Subscript e (.Slice none none (some (.UnaryOp .USub (.Constant (.int 1) k p1) p2)) p3) pos) (fun σ H Q => te σ H fun x H1 =>
      (∃ cs, x = .str (toS cs) ∧ cs.length ≤ SL ∧ Q (.str (toS cs.reverse)) H1) ∨ (∃ a xs, x = .ref a ∧ SqL X.K H1 a xs ∧ ∀ p, H1 p = none → Q (.ref p) (upd H1 p (.lst xs.reverse))) ∨ ∃ a xs, x = .ref a ∧ SqT X.K H1 a xs ∧ ∀ p, H1 p = none → Q (.ref p) (upd H1 p (.tup xs.reverse))) := by
  refine ⟨fun pins s σ H Q I h => ?_⟩
  refine Subscript_ (thn (he.run pins s σ H _ I h) fun v s1 ⟨x, H1, I1, r1, q1⟩ => ?_)
  have hst : PO X (some (.UnaryOp .USub (.Constant (.int 1) k p1) p2)) (tPart (tUn (rU fun i => .int (-i)) (tC (.int 1)))) := po_some (pe_un un_neg pe_int)
  refine wpAny_Slice (thn (po_none.run pins s1 σ H1 (fun o H2 => o = none ∧ H2 = H1) I1 ⟨rfl, rfl⟩) fun vl s2 ⟨l, H2, I2, pl, el, e2⟩ => ?_)
  subst el e2
  refine thn (po_none.run pins s2 σ H2 (fun o H3 => o = none ∧ H3 = H2) I2 ⟨rfl, rfl⟩) fun vu s3 ⟨u, H3, I3, pu, eu, e3⟩ => ?_
  subst eu e3
  refine thn (hst.run pins s3 σ H3 (fun o H4 => o = some (-1) ∧ H4 = H3) I3 ⟨1, rfl, -1, rfl, rfl, rfl⟩) fun vs s4 ⟨o, H4, I4, ps, eo, e4⟩ => ?_
  subst eo e4
  have I5 : Inv X pins σ H4 { s4 with heap := s4.heap.push { cls := .type "slice", data := .fields #[vl, vu, vs] } } := I4.kept (t' := s4.toks) fun b ob q => Heap.get?_push_of_some _ q
  show wpAny (model X.prog X.w) X.A (subscriptTail e (.Slice none none (some (.UnaryOp .USub (.Constant (.int 1) k p1) p2)) p3) v (.ref s4.heap.objs.size)) (EP X pins σ Q) X.xe { s4 with heap := s4.heap.push { cls := .type "slice", data := .fields #[vl, vu, vs] } }
  rcases q1 with ⟨cs, ex, hz, q⟩ | ⟨a, xs, ex, hx, q⟩ | ⟨a, xs, ex, hx, q⟩
  · subst ex
    obtain ⟨tk, rfl⟩ := r1
    refine tail_any (ops := [.str (toS cs) tk, .ref s4.heap.objs.size]) (typeIs_str _ _ _) (PySem.F.slot_str_getitem.lookup) ?_ (by with_unfolding_all rfl)
    have el : vl = .none := by cases pl; rfl
    have eu : vu = .none := by cases pu; rfl
    obtain ⟨t1, es⟩ : ∃ t1, vs = .int (-1) t1 := by cases ps; exact ⟨_, rfl⟩
    subst el eu es
    refine wpAny_getItem_str_slice (l := none) (u := none) (st := some (-1, t1)) ⟨_, Heap.get?_push_size _ rfl, rfl, rfl⟩ rfl ?_
    unfold sliceMade
    rw [if_neg (by simp)]
    have e : (⟨((slicePicked (toS cs) none none (some (-1, t1))).filterMap ((toS cs).cps[·]?)).toArray⟩ : Str) = toS cs.reverse := by
      have e1 : slicePicked (toS cs) none none (some (-1, t1)) = (List.range (toS cs).length).reverse := sind _
      rw [e1, pick_all]
    rw [e]
    refine ⟨by rw [toS_len, List.length_reverse]; exact le_line hz, .str (toS cs.reverse), H4, I5.tok _, ⟨_, rfl⟩, q⟩
  · subst ex
    cases r1
    obtain ⟨its, r, ht, hz⟩ := I5.list hx
    have hlen := r.length
    refine tail_any (ops := [.ref a, .ref s4.heap.objs.size]) ht.isList.typeIs (PySem.slot_list_getitem.lookup) ?_ (by with_unfolding_all rfl)
    refine wpAny_getItem_list_slice ht.isList (Heap.IsSliceOf.new _ vl vu vs) pl pu ps (by decide) ?_ (by rw [List.size_toArray]; omega)
    rw [PySem.W.krv_pick]
    refine ⟨.ref _, _, I5.laid (t' := s4.toks) (o := .lst xs.reverse) (fun b ob q => Heap.get?_push_of_some _ q) (Nat.le_refl _) ?_, rfl, q _ (I5.hok.fresh (Nat.le_refl _))⟩
    exact ⟨by rw [List.length_reverse]; exact hz, _, 0, r.reverse, Heap.get?_push_size _ rfl⟩
  · subst ex
    cases r1
    obtain ⟨its, r, ht, hz⟩ := I5.tuple hx
    have hlen := r.length
    have el : vl = .none := by cases pl; rfl
    have eu : vu = .none := by cases pu; rfl
    obtain ⟨t1, es⟩ : ∃ t1, vs = .int (-1) t1 := by cases ps; exact ⟨_, rfl⟩
    subst el eu es
    refine tail_any (ops := [.ref a, .ref s4.heap.objs.size]) ht.typeIs (PyProof.Rows.slot_tuple_getitem.lookup) ?_ (by with_unfolding_all rfl)
    refine getItem_tuple_rev ht (Heap.IsSliceOf.new _ .none .none (.int (-1) t1)) ?_ (by rw [List.size_toArray]; omega)
    refine ⟨.ref _, _, I5.laid (t' := s4.toks) (o := .tup xs.reverse) (fun b ob q => Heap.get?_push_of_some _ q) (Nat.le_refl _) ?_, rfl, q _ (I5.hok.fresh (Nat.le_refl _))⟩
    exact ⟨by rw [List.length_reverse]; exact hz, _, r.reverse, IsTup.new _ _⟩
end
end KM

namespace KM
open PySem PySem.Spec PyProof.Rows L2
/-! #### a list takes a tuple's items -/
theorem extend_tup (l b : Addr) (items : Array Value) (n : Nat) (items2 : Array Value) (hs0 : ¬(!items.isEmpty && Builtin.List.listTooLong (items.size + items2.size)) = true) (hz1 : items.size ≤ sizeLine) (hz2 : items.size + items2.size ≤ sizeLine) :
    Meets (Builtin.«list.extend» ⟨[.ref l, .ref b], []⟩) (fun _ R s => s.heap.get? l = some { cls := .type "list", dict := none, data := .seq items n, slots := #[] } ∧ IsTup s.heap b items2 ∧ R (.ok (.ret Value.none)) { s with heap := s.heap.update l (Obj.mapSeq fun x => x ++ items2) }) := by
  intro prog w A R s ⟨hl, ⟨o, ho, hc, n2, hd⟩, h⟩
  show wpAny _ A.in1 (Builtin.List.listExtendWith (.ref l) (.ref b) .none) _ _ s
  unfold Builtin.List.listExtendWith
  refine wpAny_bind (wpAny_typeOf ⟨o, ho, hc⟩ ?_)
  have h1 : (Builtin.List.listSameRef (.ref l) (.ref b) || Value.type "tuple" == Value.type "list" || Value.type "tuple" == Value.type "tuple") = true := by simp
  simp only [h1, if_true]
  refine wpAny_bind ?_
  unfold Builtin.List.listItems
  refine wpAny_bind (wpAny_seqItems ho hd (wpAny_pure ?_))
  refine wpAny_bind ?_
  refine wpAny_bind (wpAny_seqItems hl rfl (wpAny_pure ?_))
  rw [if_neg hs0]
  show wpAny _ A.in1 (updateSeq l (· ++ items2) >>= fun _ => ret _) _ _ s
  refine wpAny_bind (wpAny_updateSeq hl rfl ?_ (hz := hz1) (_hz' := by rw [Array.size_append]; omega))
  exact wpAny_pure h
section
variable {X : Cx}
theorem mt_extendT : MtM X "list.extend" (fun x vs H Q => ∃ l b xs zs, x = .ref l ∧ vs = [.ref b] ∧ H l = some (.lst xs) ∧ SqT X.K H b zs ∧ xs.length + zs.length ≤ sizeLine ∧ Q .non (upd H l (.lst (xs ++ zs)))) := by
  intro pins s σ H x vs v us Q I rx rv h
  obtain ⟨l, b, xs, zs, rfl, rfl, hH, hB, hz, q⟩ := h
  cases rx
  obtain ⟨u, rfl, ru⟩ := rv.one
  cases ru
  obtain ⟨z, its, n, r, hl, e⟩ := I.lstM hH
  obtain ⟨its2, r2, ht, hz2⟩ := I.tuple hB
  have l1 := r.length
  have l2 := r2.length
  have hsz : its.toArray.size + its2.toArray.size ≤ sizeLine := by rw [List.size_toArray, List.size_toArray]; omega
  have hlong : ¬ (!its.toArray.isEmpty && Builtin.List.listTooLong (its.toArray.size + its2.toArray.size)) = true := by
    rw [notLongL hsz, Bool.and_false]
    exact Bool.false_ne_true
  refine call_meets F.slot_list_extend ⟨_, e, rfl⟩ F.entry_list_extend (F.args_list_extend_2 _ _)
    (extend_tup l b its.toArray n its2.toArray hlong (by rw [List.size_toArray]; omega) hsz) ⟨e, ht, ?_⟩
  refine ⟨.non, _, I.lset (its' := its ++ its2) hH e (by simp) (r.append r2) ?_, rfl, q⟩
  rw [List.length_append]
  omega
end
end KM

namespace KM
open PySem PySem.Spec PyProof.Rows L2

/-! #### texts: join, split, count -/
theorem join_eq (s : List Nat) : ∀ ss : List (List Nat), Txt.join (toS s) (ss.map toS) = toS (joinL s ss) := by
  intro ss
  show Builtin.Str.glued (toS s) (ss.map toS) = _
  rw [StrLaws.glued_eq_join]
  induction ss with
  | nil => rfl
  | cons x r ih =>
    cases r with
    | nil => rfl
    | cons y r =>
      show toS x ++ toS s ++ Str.join (toS s) ((y :: r).map toS) = _
      rw [ih, toS_app, toS_app]
      rfl
theorem cnt_eq (c : Nat) : ∀ l : List Nat, cnt c l = (l.count c : Int)
  | [] => rfl
  | n :: r => by
    rw [cnt_cons, cnt_eq c r, List.count_cons]
    by_cases e : n = c
    · subst e; simp; omega
    · have : (n == c) = false := by simpa using e
      rw [if_neg e, this]; simp
theorem splitC_ne (c : Nat) : ∀ l : List Nat, ∃ p ps, splitC c l = p :: ps
  | [] => ⟨_, _, rfl⟩
  | x :: xs => by
    unfold splitC
    split
    · exact ⟨_, _, rfl⟩
    · obtain ⟨p, ps, e⟩ := splitC_ne c xs
      rw [e]
      exact ⟨_, _, rfl⟩
theorem splitC_free (c : Nat) : ∀ p : List Nat, c ∉ p → splitC c p = [p]
  | [], _ => rfl
  | x :: xs, h => by
    have h1 : x ≠ c := fun e => h (e ▸ List.mem_cons_self)
    unfold splitC
    rw [if_neg h1, splitC_free c xs fun m => h (List.mem_cons_of_mem _ m)]
theorem splitC_app (c : Nat) : ∀ (p r : List Nat), c ∉ p → splitC c (p ++ c :: r) = p :: splitC c r
  | [], r, _ => by
    show splitC c (c :: r) = _
    unfold splitC
    rw [if_pos rfl]
    cases r <;> rfl
  | x :: xs, r, h => by
    have h1 : x ≠ c := fun e => h (e ▸ List.mem_cons_self)
    show splitC c (x :: (xs ++ c :: r)) = _
    rw [splitC, if_neg h1, splitC_app c xs r fun m => h (List.mem_cons_of_mem _ m)]
theorem splitC_join (c : Nat) : ∀ ps : List (List Nat), ps ≠ [] → (∀ p ∈ ps, c ∉ p) → splitC c (joinL [c] ps) = ps
  | [], h, _ => absurd rfl h
  | [p], _, h => splitC_free c p (h p List.mem_cons_self)
  | p :: q :: r, _, h => by
    show splitC c (p ++ [c] ++ joinL [c] (q :: r)) = _
    rw [List.append_assoc, List.singleton_append, splitC_app c p _ (h p List.mem_cons_self), splitC_join c (q :: r) (by simp) fun x hx => h x (List.mem_cons_of_mem _ hx)]
theorem count_join (c : Nat) : ∀ ps : List (List Nat), ps ≠ [] → (joinL [c] ps).count c + 1 = (ps.map (List.count c)).sum + ps.length
  | [], h => absurd rfl h
  | [p], _ => by simp [joinL]
  | p :: q :: r, _ => by
    have ih := count_join c (q :: r) (by simp)
    show (p ++ [c] ++ joinL [c] (q :: r)).count c + 1 = _
    rw [List.count_append, List.count_append, List.map_cons, List.sum_cons, List.length_cons]
    have : [c].count c = 1 := by simp
    omega
theorem sum_zero : ∀ {l : List Nat}, l.sum = 0 → ∀ x ∈ l, x = 0
  | [], _, x, h => by cases h
  | a :: r, h, x, hx => by
    rw [List.sum_cons] at h
    rcases List.mem_cons.mp hx with e | hx
    · omega
    · exact sum_zero (by omega) x hx
theorem map_toS {ys : List Str} : ∃ ss : List (List Nat), ys = ss.map toS := ⟨ys.map fun y => y.cps.toList, by
  rw [List.map_map]
  refine (List.map_id _).symm.trans (List.map_congr_left fun y _ => ?_)
  show y = ⟨y.cps.toList.toArray⟩
  simp⟩
theorem toS_inj {a b : List Nat} (h : toS a = toS b) : a = b := by
  have := congrArg (fun z : Str => z.cps.toList) h
  simpa using this
theorem split_eq (s : List Nat) (c : Nat) : Txt.split (toS s) ⟨#[c]⟩ = (splitC c s).map toS := by
  obtain ⟨ss, e⟩ := map_toS (ys := Txt.split (toS s) ⟨#[c]⟩)
  have h1 : Str.join (toS [c]) (ss.map toS) = toS s := by rw [← e]; exact StrLaws.join_split (toS s) ⟨#[c]⟩
  have h2 : joinL [c] ss = s := by
    have := join_eq [c] ss
    have e2 : Txt.join (toS [c]) (ss.map toS) = Str.join (toS [c]) (ss.map toS) := StrLaws.glued_eq_join _ _
    rw [e2, h1] at this
    exact (toS_inj this).symm
  have h3 := split_len (toS s) c
  rw [e, List.length_map, cnt_eq] at h3
  have h4 : ((toS s).cps.toList.count c) = s.count c := by simp
  rw [h4] at h3
  have hne : ss ≠ [] := fun z => by rw [z] at h3; simp at h3; omega
  have h5 := count_join c ss hne
  rw [h2] at h5
  have h6 : (ss.map (List.count c)).sum = 0 := by omega
  have h7 : ∀ p ∈ ss, c ∉ p := fun p hp m => by
    have := sum_zero h6 _ (List.mem_map.mpr ⟨p, hp, rfl⟩)
    exact absurd (List.count_pos_iff.mpr m) (by omega)
  rw [e, ← h2, splitC_join c ss hne h7]
theorem splitC_mem {c : Nat} : ∀ {l : List Nat} {p : List Nat} {x : Nat}, p ∈ splitC c l → x ∈ p → x ∈ l
  | [], p, x, h, hx => by
    rw [show splitC c [] = [[]] from rfl, List.mem_singleton] at h
    rw [h] at hx; cases hx
  | y :: ys, p, x, h, hx => by
    unfold splitC at h
    split at h
    · rcases List.mem_cons.mp h with e | h
      · rw [e] at hx; cases hx
      · exact List.mem_cons_of_mem _ (splitC_mem h hx)
    · obtain ⟨q, qs, e⟩ := splitC_ne c ys
      rw [e] at h
      rcases List.mem_cons.mp h with e1 | h
      · rw [e1] at hx
        rcases List.mem_cons.mp hx with e2 | hx
        · rw [e2]; exact List.mem_cons_self
        · exact List.mem_cons_of_mem _ (splitC_mem (p := q) (by rw [e]; exact List.mem_cons_self) hx)
      · exact List.mem_cons_of_mem _ (splitC_mem (p := p) (by rw [e]; exact List.mem_cons_of_mem _ h) hx)
theorem splitC_len {c : Nat} : ∀ {l : List Nat} {p : List Nat}, p ∈ splitC c l → p.length ≤ l.length
  | [], p, h => by
    rw [show splitC c [] = [[]] from rfl, List.mem_singleton] at h
    rw [h]; exact Nat.zero_le _
  | y :: ys, p, h => by
    unfold splitC at h
    split at h
    · rcases List.mem_cons.mp h with e | h
      · rw [e]; exact Nat.zero_le _
      · exact Nat.le_succ_of_le (splitC_len h)
    · obtain ⟨q, qs, e⟩ := splitC_ne c ys
      rw [e] at h
      rcases List.mem_cons.mp h with e1 | h
      · rw [e1]; exact Nat.succ_le_succ (splitC_len (p := q) (by rw [e]; exact List.mem_cons_self))
      · exact Nat.le_succ_of_le (splitC_len (p := p) (by rw [e]; exact List.mem_cons_of_mem _ h))

section
variable {Γ : Gam} {K : PySem.W.Frag} {X : Cx} {H : Hp} {ρ : List Addr} {g : Gh}
theorem ints_of : ∀ {xs : List Val} {vs : List V} {ns : List Int}, RVs K H ρ xs vs → intsOf xs = some ns → vs = ns.map V.int
  | [], vs, ns, r, h => by cases h; exact r
  | x :: xs, vs, ns, r, h => by
    cases x <;> first | cases h | skip
    obtain ⟨v, r', rfl, hv, hr⟩ := r
    obtain ⟨ms, hm, e⟩ := Option.map_eq_some_iff.mp (show (intsOf xs).map _ = some ns from h)
    subst e
    rw [ints_of hr hm, show v = .int _ from hv]
    rfl
theorem bls_of : ∀ {xs : List Val} {vs : List V} {ns : List Bool}, RVs K H ρ xs vs → blsOf xs = some ns → vs = ns.map V.bl
  | [], vs, ns, r, h => by cases h; exact r
  | x :: xs, vs, ns, r, h => by
    cases x <;> first | cases h | skip
    obtain ⟨v, r', rfl, hv, hr⟩ := r
    obtain ⟨ms, hm, e⟩ := Option.map_eq_some_iff.mp (show (blsOf xs).map _ = some ns from h)
    subst e
    rw [bls_of hr hm, show v = .bl _ from hv]
    rfl
theorem strs_of : ∀ {xs : List Val} {vs : List V} {ns : List (List Nat)}, RVs K H ρ xs vs → strsOf xs = some ns → vs = (ns.map toS).map V.str ∧ ∀ s ∈ ns, ∀ c ∈ s, c < 1114112
  | [], vs, ns, r, h => by cases h; exact ⟨r, fun s h => by cases h⟩
  | x :: xs, vs, ns, r, h => by
    cases x <;> first | cases h | skip
    obtain ⟨v, r', rfl, hv, hr⟩ := r
    obtain ⟨ms, hm, e⟩ := Option.map_eq_some_iff.mp (show (strsOf xs).map _ = some ns from h)
    subst e
    obtain ⟨h1, h2⟩ := strs_of hr hm
    rw [h1, hv.1]
    refine ⟨rfl, fun s hs => ?_⟩
    rcases List.mem_cons.mp hs with e | hs
    · rw [e]; exact hv.2.2
    · exact h2 s hs
theorem rvs_strs : ∀ {ss : List (List Nat)}, (∀ s ∈ ss, s.length ≤ SL ∧ ∀ c ∈ s, c < 1114112) → RVs K H ρ (ss.map Val.str) ((ss.map toS).map V.str)
  | [], _ => rfl
  | s :: r, h => ⟨_, _, rfl, ⟨rfl, (h s List.mem_cons_self).1, (h s List.mem_cons_self).2⟩, rvs_strs fun s' hs => h s' (List.mem_cons_of_mem _ hs)⟩
theorem seq_of {v : Val} {x : V} {xs : List Val} (rg : RG Γ K H ρ g) (rv : RV K H ρ v x) (h : seqOf v g = some xs) : ∃ a vs, x = .ref a ∧ (SqL K H a vs ∨ SqT K H a vs) ∧ RVs K H ρ xs vs := by
  unfold seqOf at h
  split at h
  · cases h
    obtain ⟨a, vs, e, h1, h2⟩ := rv
    exact ⟨a, vs, e, .inr h1.t, h2⟩
  · obtain ⟨a, e, ha⟩ := rv
    obtain ⟨a', vs, ha', ep, hv⟩ := rg.lstAt h
    rw [ha] at ha'; cases ha'
    exact ⟨a, vs, e, .inl (.of ep), hv⟩
  · cases h

/-! #### built-in functions -/
def rB (Γ : Gam) (K : PySem.W.Frag) (b : Blt) : List V → Hp → VK → Prop := fun vs H Q => ∃ W σ ρ g xs, RG Γ K H ρ g ∧ RVs K H ρ xs vs ∧ FinG Γ K (relV K) W σ ρ H (bltV b xs g) Q
theorem RVs.one_of {x : Val} {vs : List V} (h : RVs K H ρ [x] vs) : ∃ v, vs = [v] ∧ RV K H ρ x v := h.eq1
theorem RVs.two_of {x y : Val} {vs : List V} (h : RVs K H ρ [x, y] vs) : ∃ v w, vs = [v, w] ∧ RV K H ρ x v ∧ RV K H ρ y w := by
  obtain ⟨v, r, rfl, h1, h2⟩ := h
  obtain ⟨w, rfl, h3⟩ := h2.eq1
  exact ⟨v, w, rfl, h1, h3⟩
theorem b_len : CallR X (.builtin "len") (rB Γ X.K .len) := by
  intro pins s σ H xs us Q I r ⟨W, τ, ρ, g, ys, rg, rv, h⟩
  unfold bltV at h
  split at h <;> first | exact h.elim | (rename_i heq; cases heq) | skip
  all_goals first | (obtain ⟨v, rfl, hv⟩ := rv.one_of) | skip
  · exact call_len pins s σ H _ us Q I r ⟨v, _, rfl, by rw [hv.1]; exact ⟨by rw [toS_len]; exact le_line hv.2.1, (toS_len _).symm⟩, h _ ρ H .refl rg rfl⟩
  · obtain ⟨a, vs, rfl, h1, h2⟩ := hv
    exact call_len pins s σ H _ us Q I r ⟨_, _, rfl, .inr ⟨vs, h1.t, h2.length.symm⟩, h _ ρ H .refl rg rfl⟩
  · obtain ⟨a, vs, rfl, h1, h2⟩ := hv
    exact call_len pins s σ H _ us Q I r ⟨_, _, rfl, .inl ⟨vs, h1.sql, h2.length.symm⟩, h _ ρ H .refl rg rfl⟩
  · split at h
    · rename_i zs hn
      obtain ⟨a, rfl, ha⟩ := hv
      obtain ⟨a', ha', vs, ep, h2⟩ := rg.cell hn
      rw [ha] at ha'; cases ha'
      exact call_len pins s σ H _ us Q I r ⟨_, zs.length, rfl, .inl ⟨vs, .of ep, h2.length.symm⟩, h _ ρ H .refl rg rfl⟩
    · rename_i t kvs hn
      cases t
      · rw [if_neg (by simp)] at h
        obtain ⟨a, rfl, ha⟩ := hv
        obtain ⟨a', ha', ks, ep, h2⟩ := rg.at_ _ _ hn
        rw [ha] at ha'; cases ha'
        exact call_lenD pins s σ H _ us Q I r ⟨a, ks, rfl, ep, by rw [← Paired.length h2]; exact h _ ρ H .refl rg rfl⟩
      · rw [if_pos rfl] at h; exact h.elim
    · exact h.elim
theorem b_tuple : CallR X (.type "tuple") (rB Γ X.K .tuple) := by
  intro pins s σ H xs us Q I r ⟨W, τ, ρ, g, ys, rg, rv, h⟩
  unfold bltV at h
  split at h <;> first | exact h.elim | (rename_i heq; cases heq) | skip
  all_goals first | (obtain ⟨v, rfl, hv⟩ := rv.one_of) | skip
  · obtain ⟨a, vs, rfl, h1, h2⟩ := hv
    exact call_tuple_of pins s σ H _ us Q I r ⟨a, vs, rfl, .inr ⟨h1.t, h _ ρ H .refl rg ⟨a, vs, rfl, h1, h2⟩⟩⟩
  · split at h
    · rename_i zs hn
      obtain ⟨a, rfl, ha⟩ := hv
      obtain ⟨a', vs, ha', ep, h2⟩ := rg.lstAt hn
      rw [ha] at ha'; cases ha'
      exact call_tuple_of pins s σ H _ us Q I r ⟨a, vs, rfl, .inl ⟨.of ep, fin_tup rg h2 h⟩⟩
    · exact h.elim
theorem b_list : CallR X (.type "list") (rB Γ X.K .list) := by
  intro pins s σ H xs us Q I r ⟨W, τ, ρ, g, ys, rg, rv, h⟩
  unfold bltV at h
  split at h <;> first | exact h.elim | (rename_i heq; cases heq) | skip
  all_goals first | (obtain ⟨v, rfl, hv⟩ := rv.one_of) | skip
  · obtain ⟨a, vs, rfl, h1, h2⟩ := hv
    exact call_list_of pins s σ H _ us Q I r ⟨a, vs, rfl, .inr h1.t, fin_lst rg h2 h⟩
  · obtain ⟨a, vs, rfl, h1, h2⟩ := hv
    exact call_list_of pins s σ H _ us Q I r ⟨a, vs, rfl, .inl h1.sql, fin_lst rg h2 h⟩
  · split at h
    · rename_i zs hn
      obtain ⟨a, rfl, ha⟩ := hv
      obtain ⟨a', vs, ha', ep, h2⟩ := rg.lstAt hn
      rw [ha] at ha'; cases ha'
      exact call_list_of pins s σ H _ us Q I r ⟨a, vs, rfl, .inl (.of ep), fin_lst rg h2 h⟩
    · exact h.elim
theorem b_abs : CallR X (.builtin "abs") (rB Γ X.K .abs) := by
  intro pins s σ H xs us Q I r ⟨W, τ, ρ, g, ys, rg, rv, h⟩
  unfold bltV at h
  split at h <;> first | exact h.elim | (rename_i heq; cases heq) | skip
  all_goals first | (obtain ⟨v, rfl, hv⟩ := rv.one_of) | skip
  exact call_abs pins s σ H _ us Q I r ⟨_, by rw [show v = .int _ from hv], h _ ρ H .refl rg rfl⟩
theorem b_int : CallR X (.type "int") (rB Γ X.K .int1) := by
  intro pins s σ H xs us Q I r ⟨W, τ, ρ, g, ys, rg, rv, h⟩
  unfold bltV at h
  split at h <;> first | exact h.elim | (rename_i heq; cases heq) | skip
  all_goals first | (obtain ⟨v, rfl, hv⟩ := rv.one_of) | skip
  · exact call_int1 pins s σ H _ us Q I r (.inl ⟨_, by rw [show v = .int _ from hv], h _ ρ H .refl rg rfl⟩)
  · exact call_int1 pins s σ H _ us Q I r (.inr ⟨_, by rw [show v = .bl _ from hv], h _ ρ H .refl rg rfl⟩)
theorem b_min2 (hc : X.calm = true) : CallR X (.builtin "min") (rB Γ X.K .min2) := by
  intro pins s σ H xs us Q I r ⟨W, τ, ρ, g, ys, rg, rv, h⟩
  unfold bltV at h
  split at h <;> first | exact h.elim | (rename_i heq; cases heq) | skip
  obtain ⟨v, w, rfl, hv, hw⟩ := rv.two_of
  exact call_min2 hc pins s σ H _ us Q I r ⟨_, _, by rw [show v = .int _ from hv, show w = .int _ from hw], h _ ρ H .refl rg rfl⟩
theorem b_max2 (hc : X.calm = true) : CallR X (.builtin "max") (rB Γ X.K .max2) := by
  intro pins s σ H xs us Q I r ⟨W, τ, ρ, g, ys, rg, rv, h⟩
  unfold bltV at h
  split at h <;> first | exact h.elim | (rename_i heq; cases heq) | skip
  obtain ⟨v, w, rfl, hv, hw⟩ := rv.two_of
  exact call_max2 hc pins s σ H _ us Q I r ⟨_, _, by rw [show v = .int _ from hv, show w = .int _ from hw], h _ ρ H .refl rg rfl⟩
theorem b_ord : CallR X (.builtin "ord") (rB Γ X.K .ord) := by
  intro pins s σ H xs us Q I r ⟨W, τ, ρ, g, ys, rg, rv, h⟩
  unfold bltV at h
  split at h <;> first | exact h.elim | (rename_i heq; cases heq) | skip
  obtain ⟨v, rfl, hv⟩ := rv.one_of
  rename_i c
  exact call_ord pins s σ H _ us Q I r ⟨toS [c], by rw [hv.1], rfl, h (.int c) ρ H .refl rg rfl⟩
theorem b_sum (hc : X.calm = true) : CallR X (.builtin "sum") (rB Γ X.K .sum) := by
  intro pins s σ H xs us Q I r ⟨W, τ, ρ, g, ys, rg, rv, h⟩
  unfold bltV at h
  split at h <;> first | exact h.elim | (rename_i heq; cases heq) | skip
  obtain ⟨v, rfl, hv⟩ := rv.one_of
  split at h
  · rename_i ns hn
    obtain ⟨zs, hz, hi⟩ := Option.bind_eq_some_iff.mp hn
    obtain ⟨a, rfl, ha⟩ := hv
    obtain ⟨a', vs, ha', ep, h2⟩ := rg.lstAt hz
    rw [ha] at ha'; cases ha'
    exact cr_sum hc pins s σ H _ us Q I r ⟨a, ns, rfl, by rw [← ints_of h2 hi]; exact .of ep, h _ ρ H .refl rg rfl⟩
  · exact h.elim
theorem b_all (hc : X.calm = true) : CallR X (.builtin "all") (rB Γ X.K .all) := by
  intro pins s σ H xs us Q I r ⟨W, τ, ρ, g, ys, rg, rv, h⟩
  unfold bltV at h
  split at h <;> first | exact h.elim | (rename_i heq; cases heq) | skip
  obtain ⟨v, rfl, hv⟩ := rv.one_of
  split at h
  · rename_i ns hn
    obtain ⟨zs, hz, hi⟩ := Option.bind_eq_some_iff.mp hn
    obtain ⟨a, rfl, ha⟩ := hv
    obtain ⟨a', vs, ha', ep, h2⟩ := rg.lstAt hz
    rw [ha] at ha'; cases ha'
    exact cr_all hc pins s σ H _ us Q I r ⟨a, ns, rfl, by rw [← bls_of h2 hi]; exact .of ep, h _ ρ H .refl rg rfl⟩
  · exact h.elim
theorem b_any (hc : X.calm = true) : CallR X (.builtin "any") (rB Γ X.K .any) := by
  intro pins s σ H xs us Q I r ⟨W, τ, ρ, g, ys, rg, rv, h⟩
  unfold bltV at h
  split at h <;> first | exact h.elim | (rename_i heq; cases heq) | skip
  obtain ⟨v, rfl, hv⟩ := rv.one_of
  split at h
  · rename_i ns hn
    obtain ⟨zs, hz, hi⟩ := Option.bind_eq_some_iff.mp hn
    obtain ⟨a, rfl, ha⟩ := hv
    obtain ⟨a', vs, ha', ep, h2⟩ := rg.lstAt hz
    rw [ha] at ha'; cases ha'
    exact cr_any hc pins s σ H _ us Q I r ⟨a, ns, rfl, by rw [← bls_of h2 hi]; exact .of ep, h _ ρ H .refl rg rfl⟩
  · exact h.elim

/-! #### methods -/
def rM (Γ : Gam) (K : PySem.W.Frag) (m : Bm) : V → List V → Hp → VK → Prop := fun x vs H Q => ∃ W σ ρ g v xs, RG Γ K H ρ g ∧ RV K H ρ v x ∧ RVs K H ρ xs vs ∧ FinG Γ K (relV K) W σ ρ H (bmV m v xs g) Q
theorem fin_set {W : WX} {σ : L2.St} {n : Nat} {a : Addr} {xs : List Val} {vs : List V} {v : Val} {x : V} {Q : VK} (rg : RG Γ K H ρ g) (ha : ρ[n]? = some a) (r : RVs K H ρ xs vs) (rv : RV K H ρ v x) (h : FinG Γ K (relV K) W σ ρ H (.ok v (g.set n (.lst xs))) Q) :
    Q x (upd H a (.lst vs)) := h _ ρ _ (ext_set rg ha) (rg_set rg ha ⟨vs, upd_same, r.go rg (ext_set rg ha)⟩) (rv.go rg (ext_set rg ha))
theorem m_append : MtM X "list.append" (rM Γ X.K .append) := by
  intro pins s σ H x xs v us Q I rx rs ⟨W, τ, ρ, g, o, ys, rg, ro, rv, h⟩
  unfold bmV at h
  split at h <;> first | exact h.elim | (rename_i heq; cases heq) | skip
  obtain ⟨y, rfl, hy⟩ := rv.one_of
  split at h
  · rename_i zs hn
    split at h
    · rename_i hz
      obtain ⟨a, rfl, ha⟩ := ro
      obtain ⟨a', ha', vs, ep, h2⟩ := rg.cell hn
      rw [ha] at ha'; cases ha'
      exact mt_append pins s σ H _ _ v us Q I rx rs ⟨a, vs, y, rfl, rfl, ep, by rw [h2.length]; exact Nat.lt_of_lt_of_le hz SL_le, fin_set rg ha (h2.append (.one hy)) (show RV X.K H ρ .non .non from rfl) h⟩
    · exact h.elim
  · exact h.elim
theorem m_extend : MtM X "list.extend" (rM Γ X.K .extend) := by
  intro pins s σ H x xs v us Q I rx rs ⟨W, τ, ρ, g, o, ys, rg, ro, rv, h⟩
  unfold bmV at h
  split at h <;> first | exact h.elim | (rename_i heq; cases heq) | skip
  · obtain ⟨y, rfl, hy⟩ := rv.one_of
    split at h
    · rename_i zs ws hn hm
      split at h
      · rename_i hz
        obtain ⟨a, rfl, ha⟩ := ro
        obtain ⟨a', ha', vs, ep, h2⟩ := rg.cell hn
        rw [ha] at ha'; cases ha'
        obtain ⟨b, rfl, hb⟩ := hy
        obtain ⟨b', hb', us', eq, h3⟩ := rg.cell hm
        rw [hb] at hb'; cases hb'
        exact mt_extend pins s σ H _ _ v us Q I rx rs ⟨a, b, vs, us', rfl, rfl, ep, eq, by rw [h2.length, h3.length]; exact le_line hz, fin_set rg ha (h2.append h3) (show RV X.K H ρ .non .non from rfl) h⟩
      · exact h.elim
    · exact h.elim
  · obtain ⟨y, rfl, hy⟩ := rv.one_of
    split at h
    · rename_i zs hn
      split at h
      · rename_i hz
        obtain ⟨a, rfl, ha⟩ := ro
        obtain ⟨a', ha', vs, ep, h2⟩ := rg.cell hn
        rw [ha] at ha'; cases ha'
        obtain ⟨b, ws, rfl, hb, hw⟩ := hy
        exact mt_extendT pins s σ H _ _ v us Q I rx rs ⟨a, b, vs, ws, rfl, rfl, ep, hb.t, by rw [h2.length, hw.length]; exact le_line hz, fin_set rg ha (h2.append hw) (show RV X.K H ρ .non .non from rfl) h⟩
      · exact h.elim
    · exact h.elim
theorem m_pop0 : MtM X "list.pop" (rM Γ X.K .pop0) := by
  intro pins s σ H x xs v us Q I rx rs ⟨W, τ, ρ, g, o, ys, rg, ro, rv, h⟩
  unfold bmV at h
  split at h <;> first | exact h.elim | (rename_i heq; cases heq) | skip
  have e0 : xs = [] := rv
  subst e0
  split at h
  · rename_i zs hn
    split at h
    · rename_i y hy
      obtain ⟨a, rfl, ha⟩ := ro
      obtain ⟨a', ha', vs, ep, h2⟩ := rg.cell hn
      rw [ha] at ha'; cases ha'
      obtain ⟨w, hw, rw_⟩ := h2.get hy
      refine mt_pop pins s σ H _ _ v us Q I rx rs ⟨a, vs, w, rfl, rfl, ep, by rw [h2.length]; exact hw, fin_set rg ha h2.dropLast rw_ h⟩
    · exact h.elim
  · exact h.elim
theorem m_join : MtR X "str.join" (rM Γ X.K .join) := by
  intro pins s σ H x xs v us Q I rx rs ⟨W, τ, ρ, g, o, ys, rg, ro, rv, h⟩
  unfold bmV at h
  split at h <;> first | exact h.elim | (rename_i heq; cases heq) | skip
  rename_i sp w
  obtain ⟨y, rfl, hy⟩ := rv.one_of
  split at h
  · rename_i ss hs
    split at h
    · rename_i hz
      obtain ⟨zs, h1, h2⟩ := Option.bind_eq_some_iff.mp hs
      obtain ⟨a, vs, rfl, h3, h4⟩ := seq_of rg hy h1
      obtain ⟨h5, h6⟩ := strs_of h4 h2
      rw [h5] at h3
      refine mt_join pins s σ H _ _ v us Q I rx rs ⟨toS sp, a, ss.map toS, ro.1, rfl, h3, ?_, ?_⟩
      · rw [List.map_map, List.length_map, toS_len]
        have e : (ss.map ((fun x : Str => x.length) ∘ toS)) = ss.map List.length := List.map_congr_left fun z _ => toS_len z
        rw [e]
        have := le_line hz
        rw [sizeLine_eq] at this
        exact this
      · rw [join_eq]
        refine h _ ρ H .refl rg ⟨rfl, ?_, ?_⟩
        · refine Nat.le_trans ?_ hz
          clear h5 h3 hz h h6 h2 hs
          induction ss with
          | nil => exact Nat.zero_le _
          | cons p r ih =>
            cases r with
            | nil => simp [joinL]
            | cons q r =>
              show (p ++ sp ++ joinL sp (q :: r)).length ≤ _
              rw [List.length_append, List.length_append, List.map_cons, List.sum_cons, List.length_cons, Nat.add_mul]
              omega
        · clear h5 h3 hz h h2 hs
          induction ss with
          | nil => intro c hc; cases hc
          | cons p r ih =>
            cases r with
            | nil => exact h6 p List.mem_cons_self
            | cons q r =>
              intro c hc
              have hc : c ∈ p ++ sp ++ joinL sp (q :: r) := hc
              rcases List.mem_append.mp hc with hc | hc
              · rcases List.mem_append.mp hc with hc | hc
                · exact h6 p List.mem_cons_self c hc
                · exact ro.2.2 c hc
              · exact ih (fun s hs => h6 s (List.mem_cons_of_mem _ hs)) c hc
    · exact h.elim
  · exact h.elim
theorem m_split : MtR X "str.split" (rM Γ X.K .split) := by
  intro pins s σ H x xs v us Q I rx rs ⟨W, τ, ρ, g, o, ys, rg, ro, rv, h⟩
  unfold bmV at h
  split at h <;> first | exact h.elim | (rename_i heq; cases heq) | skip
  rename_i sp c
  obtain ⟨y, rfl, hy⟩ := rv.one_of
  split at h
  · rename_i hz
    refine mt_split pins s σ H _ _ v us Q I rx rs ⟨toS sp, toS [c], ro.1, by rw [hy.1], rfl, by rw [toS_len]; exact le_line hz, ?_⟩
    have e : Txt.split (toS sp) (toS [c]) = (splitC c sp).map toS := split_eq sp c
    rw [e]
    exact fin_lst rg (rvs_strs fun p hp => ⟨Nat.le_trans (splitC_len hp) (Nat.le_trans (Nat.le_add_right _ 2) hz), fun d hd => ro.2.2 d (splitC_mem hp hd)⟩) h
  · exact h.elim
theorem m_count : MtR X "str.count" (rM Γ X.K .count) := by
  intro pins s σ H x xs v us Q I rx rs ⟨W, τ, ρ, g, o, ys, rg, ro, rv, h⟩
  unfold bmV at h
  split at h <;> first | exact h.elim | (rename_i heq; cases heq) | skip
  rename_i sp c
  obtain ⟨y, rfl, hy⟩ := rv.one_of
  refine mt_count pins s σ H _ _ v us Q I rx rs ⟨toS sp, toS [c], ro.1, by rw [hy.1], ?_⟩
  have e : Txt.count (toS sp) (toS [c]) = (sp.count c : Int) := by
    have := count_cnt (toS sp) c
    rw [cnt_eq] at this
    refine this.trans ?_
    simp
  rw [e]
  exact h _ ρ H .refl rg rfl
theorem find_sca {K : PySem.W.Frag} {H : Hp} {ρ : List Addr} {a : Val} {x : V} (ha : sca a = true) (ra : RV K H ρ a x) : ∀ {xs : List Val} {vs : List V} {i j : Nat}, xs.all sca = true → RVs K H ρ xs vs → findI a xs i = some j →
    ∃ z, i ≤ j ∧ vs[j - i]? = some z ∧ L2.eqV z x = true ∧ ∀ (m : Nat) (z' : V), m < j - i → vs[m]? = some z' → L2.eqV z' x = false
  | [], vs, i, j, h, r, e => nomatch e
  | y :: ys, vs, i, j, h, r, e => by
    obtain ⟨v, r', rfl, hv, hr⟩ := r
    rw [List.all_cons, Bool.and_eq_true_iff] at h
    obtain ⟨e1, e2, e3⟩ := eqV_V h.1 ha hv ra
    have e : (if eqV y a then some i else findI a ys (i + 1)) = some j := e
    by_cases hq : eqV y a = true
    · rw [if_pos hq] at e
      cases e
      exact ⟨v, Nat.le_refl _, by simp, by rw [e3]; exact hq, fun m z' hm => by omega⟩
    · rw [if_neg hq] at e
      obtain ⟨z, h1, h2, h3, h4⟩ := find_sca ha ra h.2 hr e
      refine ⟨z, by omega, ?_, h3, fun m z' hm hz => ?_⟩
      · rw [show j - i = (j - (i + 1)) + 1 from by omega]; exact h2
      · match m, hz with
        | 0, hz =>
          cases hz
          rw [e3]; simpa using hq
        | m + 1, hz => exact h4 m z' (by omega) hz
theorem m_get1 (hu : X.A.units + 1 < cLine) : MtR X "dict.get" (rM Γ X.K .get1) := by
  intro pins s σ H x xs v us Q I rx rs ⟨W, τ, ρ, g, o, ys, rg, ro, rv, h⟩
  unfold bmV at h
  split at h <;> first | exact h.elim | (rename_i heq; cases heq) | skip
  obtain ⟨y, rfl, hy⟩ := rv.one_of
  split at h
  · rename_i t kvs hn
    split at h
    · rename_i hk
      obtain ⟨a, oo, rfl, hd, ho⟩ := dget_of rg hn hk ro hy
      obtain rfl : v = Value.ref a := rx
      obtain ⟨u, rfl, ru⟩ := vals1 rs
      refine d_get1 hu I hd ru fun w' s' I' rw' => ⟨oo.getD .non, H, I', rw', h _ ρ H .refl rg ?_⟩
      cases hf : findK _ kvs <;> rw [hf] at ho <;> cases oo <;> first | exact ho | exact (rfl : RV X.K H ρ .non .non) | cases ho
    · exact h.elim
  · exact h.elim
theorem m_get2 (hu : X.A.units + 1 < cLine) : MtR X "dict.get" (rM Γ X.K .get2) := by
  intro pins s σ H x xs v us Q I rx rs ⟨W, τ, ρ, g, o, ys, rg, ro, rv, h⟩
  unfold bmV at h
  split at h <;> first | exact h.elim | (rename_i heq; cases heq) | skip
  obtain ⟨y, z, rfl, hy, hz⟩ := rv.two_of
  split at h
  · rename_i t kvs hn
    split at h
    · rename_i hk
      obtain ⟨a, oo, rfl, hd, ho⟩ := dget_of rg hn hk ro hy
      obtain rfl : v = Value.ref a := rx
      obtain ⟨u, u2, rfl, ru, ru2⟩ := vals2 rs
      refine d_get2 hu I hd ru ru2 fun w' s' I' rw' => ⟨oo.getD z, H, I', rw', h _ ρ H .refl rg ?_⟩
      cases hf : findK _ kvs <;> rw [hf] at ho <;> cases oo <;> first | exact ho | exact hz | cases ho
    · exact h.elim
  · exact h.elim
theorem m_index : MtR X "list.index" (rM Γ X.K .index) := by
  intro pins s σ H x xs v us Q I rx rs ⟨W, τ, ρ, g, o, ys, rg, ro, rv, h⟩
  unfold bmV at h
  split at h <;> first | exact h.elim | (rename_i heq; cases heq) | skip
  obtain ⟨y, rfl, hy⟩ := rv.one_of
  split at h
  · rename_i zs hn
    split at h
    · rename_i hs
      rw [Bool.and_eq_true_iff] at hs
      split at h
      · rename_i j hj
        obtain ⟨a, rfl, ha⟩ := ro
        obtain ⟨a', ha', vs, ep, h2⟩ := rg.cell hn
        rw [ha] at ha'; cases ha'
        obtain ⟨z, _, h3, h4, h5⟩ := find_sca hs.1 hy hs.2 h2 hj
        obtain ⟨f1, f2, _⟩ := in_sca hs.1 hy hs.2 h2
        exact mt_index pins s σ H _ _ v us Q I rx rs ⟨a, vs, y, j, z, rfl, rfl, .of ep, f1, f2, h3, h4, fun m z' hm hz => h5 m z' hm hz, h _ ρ H .refl rg rfl⟩
      · exact h.elim
    · exact h.elim
  · exact h.elim
theorem m_insert : MtR X "list.insert" (rM Γ X.K .insert) := by
  intro pins s σ H x xs v us Q I rx rs ⟨W, τ, ρ, g, o, ys, rg, ro, rv, h⟩
  unfold bmV at h
  split at h <;> first | exact h.elim | (rename_i heq; cases heq) | skip
  obtain ⟨y, w, rfl, hy, hw⟩ := RVs.two_of rv
  split at h
  · rename_i zs hn
    split at h
    · rename_i hs
      simp only [Bool.and_eq_true_iff, decide_eq_true_eq] at hs
      obtain ⟨hz, h0, h1⟩ := hs
      obtain ⟨a, rfl, ha⟩ := ro
      obtain ⟨a', ha', vs, ep, h2⟩ := rg.cell hn
      rw [ha] at ha'; cases ha'
      cases hy
      exact mt_insert pins s σ H _ _ v us Q I rx rs ⟨a, vs, _, w, rfl, rfl, ep, by rw [h2.length]; exact Nat.lt_of_lt_of_le hz SL_le, h0, by omega, fin_set rg ha (((h2.take _).append (.one hw)).append (h2.drop _)) (show RV X.K H ρ .non .non from rfl) h⟩
    · exact h.elim
  · exact h.elim
end
end KM

namespace KM
open PySem PySem.Spec PyProof.Rows L2
/-! ### more built-in functions and methods -/
theorem maxL_spec : ∀ (xs : List Int) (m : Int), maxL m xs ∈ m :: xs ∧ ∀ y ∈ m :: xs, y ≤ maxL m xs
  | [], m => ⟨by simp [maxL], fun y hy => by simp at hy; rw [hy]; simp [maxL]⟩
  | x :: xs, m => by
    obtain ⟨h1, h2⟩ := maxL_spec xs (if x > m then x else m)
    show maxL (if x > m then x else m) xs ∈ _ ∧ ∀ y ∈ m :: x :: xs, y ≤ maxL (if x > m then x else m) xs
    generalize hM : maxL (if x > m then x else m) xs = M at *
    have h3 := h2 _ List.mem_cons_self
    refine ⟨?_, fun y hy => ?_⟩
    · rcases List.mem_cons.mp h1 with e | e
      · rw [e]; split <;> simp
      · simp [e]
    · rcases List.mem_cons.mp hy with e | hy
      · rw [e]; split at h3 <;> omega
      · rcases List.mem_cons.mp hy with e | hy
        · rw [e]; split at h3 <;> omega
        · exact h2 y (List.mem_cons_of_mem _ hy)
theorem minL_spec : ∀ (xs : List Int) (m : Int), minL m xs ∈ m :: xs ∧ ∀ y ∈ m :: xs, minL m xs ≤ y
  | [], m => ⟨by simp [minL], fun y hy => by simp at hy; rw [hy]; simp [minL]⟩
  | x :: xs, m => by
    obtain ⟨h1, h2⟩ := minL_spec xs (if x < m then x else m)
    show minL (if x < m then x else m) xs ∈ _ ∧ ∀ y ∈ m :: x :: xs, minL (if x < m then x else m) xs ≤ y
    generalize hM : minL (if x < m then x else m) xs = M at *
    have h3 := h2 _ List.mem_cons_self
    refine ⟨?_, fun y hy => ?_⟩
    · rcases List.mem_cons.mp h1 with e | e
      · rw [e]; split <;> simp
      · simp [e]
    · rcases List.mem_cons.mp hy with e | hy
      · rw [e]; split at h3 <;> omega
      · rcases List.mem_cons.mp hy with e | hy
        · rw [e]; split at h3 <;> omega
        · exact h2 y (List.mem_cons_of_mem _ hy)
theorem insI_perm (x : Int) : ∀ l : List Int, (insI x l).Perm (x :: l)
  | [] => .refl _
  | y :: ys => by
    unfold insI
    split
    · exact .refl _
    · exact ((insI_perm x ys).cons y).trans (.swap x y ys)
theorem isrt_perm : ∀ l : List Int, (isrt l).Perm l
  | [] => .refl _
  | x :: xs => (insI_perm x (isrt xs)).trans ((isrt_perm xs).cons x)
theorem insI_sorted (x : Int) : ∀ l : List Int, l.Pairwise (· ≤ ·) → (insI x l).Pairwise (· ≤ ·)
  | [], _ => by simp [insI]
  | y :: ys, h => by
    unfold insI
    obtain ⟨h1, h2⟩ := List.pairwise_cons.mp h
    split
    · rename_i hx
      refine List.pairwise_cons.mpr ⟨fun z hz => ?_, h⟩
      rcases List.mem_cons.mp hz with e | hz
      · rw [e]; exact hx
      · exact Int.le_trans hx (h1 z hz)
    · rename_i hx
      refine List.pairwise_cons.mpr ⟨fun z hz => ?_, insI_sorted x ys h2⟩
      rcases List.mem_cons.mp ((insI_perm x ys).mem_iff.mp hz) with e | hz
      · rw [e]; omega
      · exact h1 z hz
theorem isrt_sorted : ∀ l : List Int, (isrt l).Pairwise (· ≤ ·)
  | [] => .nil
  | x :: xs => insI_sorted x _ (isrt_sorted xs)
theorem isrt_uniq {l l' : List Int} (p : l'.Perm l) (s : l'.Pairwise (· ≤ ·)) : l' = isrt l :=
  List.Perm.eq_of_pairwise (fun a b _ _ h1 h2 => Int.le_antisymm h1 h2) s (isrt_sorted l) (p.trans (isrt_perm l).symm)
/-- not behind -/
def leS (a b : List Nat) : Prop := ltL b a = false
theorem ltL_lt {a b : List Nat} : ltL a b = true ↔ a < b := by rw [ltL_iff, decide_eq_true_iff]
theorem leS_iff {a b : List Nat} : leS a b ↔ a ≤ b := by
  unfold leS
  rw [← Bool.not_eq_true, ltL_lt]
  exact List.not_lt
theorem insS_perm (x : List Nat) : ∀ l : List (List Nat), (insS x l).Perm (x :: l)
  | [] => .refl _
  | y :: ys => by
    unfold insS
    split
    · exact ((insS_perm x ys).cons y).trans (.swap x y ys)
    · exact .refl _
theorem ssrt_perm : ∀ l : List (List Nat), (ssrt l).Perm l
  | [] => .refl _
  | x :: xs => (insS_perm x (ssrt xs)).trans ((ssrt_perm xs).cons x)
theorem insS_sorted (x : List Nat) : ∀ l : List (List Nat), l.Pairwise leS → (insS x l).Pairwise leS
  | [], _ => by simp [insS]
  | y :: ys, h => by
    unfold insS
    obtain ⟨h1, h2⟩ := List.pairwise_cons.mp h
    split
    · rename_i hx
      refine List.pairwise_cons.mpr ⟨fun z hz => ?_, insS_sorted x ys h2⟩
      rcases List.mem_cons.mp ((insS_perm x ys).mem_iff.mp hz) with e | hz
      · rw [e]; exact leS_iff.mpr (List.le_of_lt (ltL_lt.mp hx))
      · exact h1 z hz
    · rename_i hx
      have hx : leS x y := by simpa [leS] using hx
      refine List.pairwise_cons.mpr ⟨fun z hz => ?_, h⟩
      rcases List.mem_cons.mp hz with e | hz
      · rw [e]; exact hx
      · exact leS_iff.mpr (List.le_trans (leS_iff.mp hx) (leS_iff.mp (h1 z hz)))
theorem ssrt_sorted : ∀ l : List (List Nat), (ssrt l).Pairwise leS
  | [] => .nil
  | x :: xs => insS_sorted x _ (ssrt_sorted xs)
theorem ssrt_uniq {l l' : List (List Nat)} (p : l'.Perm l) (s : l'.Pairwise leS) : l' = ssrt l :=
  List.Perm.eq_of_pairwise (fun a b _ _ h1 h2 => List.le_antisymm (leS_iff.mp h1) (leS_iff.mp h2)) s (ssrt_sorted l) (p.trans (ssrt_perm l).symm)
theorem ltCps_eq : ∀ a b : List Nat, ltCps a b = ltL a b
  | [], [] => rfl
  | [], _ :: _ => rfl
  | _ :: _, [] => rfl
  | a :: r, b :: t => by
    show (decide (a < b) || (a == b && ltCps r t)) = (decide (a < b) || (decide (a = b) && ltL r t))
    rw [ltCps_eq r t]
    by_cases e : a = b
    · subst e; simp
    · simp [e]
theorem rising_pw : ∀ (p : List Nat) (l : List (List Nat)), risingS (toS p) (l.map toS) = true → (p :: l).Pairwise leS
  | p, [], _ => by simp
  | p, x :: r, h => by
    have h : (!ltCps (toS x).cps.toList (toS p).cps.toList && risingS (toS x) (r.map toS)) = true := h
    rw [Bool.and_eq_true_iff] at h
    have h1 := rising_pw x r h.2
    have h0 : leS p x := by
      have := h.1
      rw [ltCps_eq] at this
      simpa [leS] using this
    refine List.pairwise_cons.mpr ⟨fun z hz => ?_, h1⟩
    rcases List.mem_cons.mp hz with e | hz
    · rw [e]; exact h0
    · exact leS_iff.mpr (List.le_trans (leS_iff.mp h0) (leS_iff.mp ((List.pairwise_cons.mp h1).1 z hz)))
theorem sorted_pw {l : List (List Nat)} (h : sortedS (l.map toS) = true) : l.Pairwise leS := by
  cases l with
  | nil => exact .nil
  | cons x r => exact rising_pw x r h
theorem max3_int (i j k : Int) : nuMax3 (.int i) (.int j) (.int k) = some (.int (let m := if j > i then j else i; if k > m then k else m)) := by
  show (Option.bind (some (if decide (i < j) = true then V.int j else V.int i)) fun m => nuMax2 m (.int k)) = _
  by_cases h : i < j
  · rw [decide_eq_true h, if_pos rfl, if_pos h]
    show some (if decide (j < k) = true then V.int k else V.int j) = _
    by_cases h2 : j < k
    · rw [decide_eq_true h2, if_pos rfl]; simp [h2]
    · rw [decide_eq_false h2, if_neg (by decide)]; simp [h2]
  · rw [decide_eq_false h, if_neg (by decide), if_neg h]
    show some (if decide (i < k) = true then V.int k else V.int i) = _
    by_cases h2 : i < k
    · rw [decide_eq_true h2, if_pos rfl]; simp [h2]
    · rw [decide_eq_false h2, if_neg (by decide)]; simp [h2]
theorem min3_int (i j k : Int) : nuMin3 (.int i) (.int j) (.int k) = some (.int (let m := if j < i then j else i; if k < m then k else m)) := by
  show (Option.bind (some (if decide (j < i) = true then V.int j else V.int i)) fun m => nuMin2 m (.int k)) = _
  by_cases h : j < i
  · rw [decide_eq_true h, if_pos rfl, if_pos h]
    show some (if decide (k < j) = true then V.int k else V.int j) = _
    by_cases h2 : k < j
    · rw [decide_eq_true h2, if_pos rfl]; simp [h2]
    · rw [decide_eq_false h2, if_neg (by decide)]; simp [h2]
  · rw [decide_eq_false h, if_neg (by decide), if_neg h]
    show some (if decide (k < i) = true then V.int k else V.int i) = _
    by_cases h2 : k < i
    · rw [decide_eq_true h2, if_pos rfl]; simp [h2]
    · rw [decide_eq_false h2, if_neg (by decide)]; simp [h2]
section
variable {Γ : Gam} {K : PySem.W.Frag} {X : Cx} {H : Hp} {ρ : List Addr} {g : Gh}
theorem strs_len : ∀ {xs : List Val} {vs : List V} {ns : List (List Nat)}, RVs K H ρ xs vs → strsOf xs = some ns → ∀ s ∈ ns, s.length ≤ SL
  | [], vs, ns, r, h => by cases h; exact fun s h => by cases h
  | x :: xs, vs, ns, r, h => by
    cases x <;> first | cases h | skip
    obtain ⟨v, r', rfl, hv, hr⟩ := r
    obtain ⟨ms, hm, e⟩ := Option.map_eq_some_iff.mp (show (strsOf xs).map _ = some ns from h)
    subst e
    intro s hs
    rcases List.mem_cons.mp hs with e | hs
    · rw [e]; exact hv.2.1
    · exact strs_len hr hm s hs
theorem b_max1 (hc : X.calm = true) : CallR X (.builtin "max") (rB Γ X.K .max1) := by
  intro pins s σ H xs us Q I r ⟨W, τ, ρ, g, ys, rg, rv, h⟩
  unfold bltV at h
  split at h <;> first | exact h.elim | (rename_i heq; cases heq) | skip
  obtain ⟨v, rfl, hv⟩ := rv.one_of
  split at h
  · rename_i x ns hn
    obtain ⟨zs, hz, hi⟩ := Option.bind_eq_some_iff.mp hn
    obtain ⟨a, rfl, ha⟩ := hv
    obtain ⟨a', vs, ha', ep, h2⟩ := rg.lstAt hz
    rw [ha] at ha'; cases ha'
    obtain ⟨m1, m2⟩ := maxL_spec ns x
    refine cr_max hc pins s σ H _ us Q I r ⟨a, x :: ns, rfl, by rw [← ints_of h2 hi]; exact .of ep, by simp, fun m hm hm2 => ?_⟩
    have e : m = maxL x ns := Int.le_antisymm (m2 m hm) (hm2 _ m1)
    rw [e]
    exact h _ ρ H .refl rg rfl
  · exact h.elim
theorem b_min1 (hc : X.calm = true) : CallR X (.builtin "min") (rB Γ X.K .min1) := by
  intro pins s σ H xs us Q I r ⟨W, τ, ρ, g, ys, rg, rv, h⟩
  unfold bltV at h
  split at h <;> first | exact h.elim | (rename_i heq; cases heq) | skip
  obtain ⟨v, rfl, hv⟩ := rv.one_of
  split at h
  · rename_i x ns hn
    obtain ⟨zs, hz, hi⟩ := Option.bind_eq_some_iff.mp hn
    obtain ⟨a, rfl, ha⟩ := hv
    obtain ⟨a', vs, ha', ep, h2⟩ := rg.lstAt hz
    rw [ha] at ha'; cases ha'
    obtain ⟨m1, m2⟩ := minL_spec ns x
    refine cr_min hc pins s σ H _ us Q I r ⟨a, x :: ns, rfl, by rw [← ints_of h2 hi]; exact .of ep, by simp, fun m hm hm2 => ?_⟩
    have e : m = minL x ns := Int.le_antisymm (hm2 _ m1) (m2 m hm)
    rw [e]
    exact h _ ρ H .refl rg rfl
  · exact h.elim
theorem b_max3 (hc : X.calm = true) : CallR X (.builtin "max") (rB Γ X.K .max3) := by
  intro pins s σ H xs us Q I r ⟨W, τ, ρ, g, ys, rg, rv, h⟩
  unfold bltV at h
  split at h <;> first | exact h.elim | (rename_i heq; cases heq) | skip
  rename_i i j k
  obtain ⟨v, r1, rfl, hv, rv⟩ := rv
  obtain ⟨w, z, rfl, hw, hz⟩ := RVs.two_of rv
  refine call_max3Nu hc pins s σ H _ us Q I r ⟨_, _, _, .int (let m := if j > i then j else i; if k > m then k else m), by rw [show v = .int _ from hv, show w = .int _ from hw, show z = .int _ from hz], ?_, h _ ρ H .refl rg rfl⟩
  exact max3_int i j k
theorem b_min3 (hc : X.calm = true) : CallR X (.builtin "min") (rB Γ X.K .min3) := by
  intro pins s σ H xs us Q I r ⟨W, τ, ρ, g, ys, rg, rv, h⟩
  unfold bltV at h
  split at h <;> first | exact h.elim | (rename_i heq; cases heq) | skip
  rename_i i j k
  obtain ⟨v, r1, rfl, hv, rv⟩ := rv
  obtain ⟨w, z, rfl, hw, hz⟩ := RVs.two_of rv
  refine call_min3Nu hc pins s σ H _ us Q I r ⟨_, _, _, .int (let m := if j < i then j else i; if k < m then k else m), by rw [show v = .int _ from hv, show w = .int _ from hw, show z = .int _ from hz], ?_, h _ ρ H .refl rg rfl⟩
  exact min3_int i j k
theorem rvs_ints' : ∀ ns : List Int, RVs K H ρ (ns.map Val.int) (ns.map V.int)
  | [] => rfl
  | n :: ns => ⟨.int n, ns.map V.int, rfl, rfl, rvs_ints' ns⟩
theorem b_sorted : CallR X (.builtin "sorted") (rB Γ X.K .sorted) := by
  intro pins s σ H xs us Q I r ⟨W, τ, ρ, g, ys, rg, rv, h⟩
  unfold bltV at h
  split at h <;> first | exact h.elim | (rename_i heq; cases heq) | skip
  obtain ⟨v, rfl, hv⟩ := rv.one_of
  split at h
  · rename_i zs hz
    obtain ⟨a, rfl, ha⟩ := hv
    obtain ⟨a', vs, ha', ep, h2⟩ := rg.lstAt hz
    rw [ha] at ha'; cases ha'
    split at h
    · rename_i ns hi
      refine cr_sortedI pins s σ H _ us Q I r ⟨a, ns, rfl, by rw [← ints_of h2 hi]; exact .of ep, fun ns' p hp hs hn => ?_⟩
      rw [isrt_uniq hp hs]
      exact fin_lst rg (rvs_ints' _) h p hn
    · split at h
      · rename_i ss hi
        split at h
        · rename_i hlt
          obtain ⟨e1, e2⟩ := strs_of h2 hi
          have e1' := h2
          rw [e1] at e1'
          refine cr_sortedS pins s σ H _ us Q I r ⟨a, ss.map toS, rfl, by rw [← e1]; exact .of ep, by rw [List.length_map]; exact hlt, fun zs' p hp hs hn => ?_⟩
          obtain ⟨ss', rfl⟩ := map_toS (ys := zs')
          have hp' : ss'.Perm ss := by
            have := hp.map (fun z : Str => z.cps.toList)
            simpa [List.map_map, Function.comp_def] using this
          rw [ssrt_uniq hp' (sorted_pw hs)]
          refine fin_lst rg (rvs_strs fun t ht => ?_) h p hn
          have ht' := (ssrt_perm ss).mem_iff.mp ht
          exact ⟨strs_len h2 hi t ht', e2 t ht'⟩
        · exact h.elim
      · exact h.elim
  · exact h.elim
/-! #### methods -/
theorem subAt_toS (s t : List Nat) (i : Nat) : Builtin.Str.subAt (toS s) (toS t) i = ((s.drop i).take t.length == t) := by
  rw [StrLaws.subAt_eq, toS_len]
theorem take_pre (s t : List Nat) : (decide (t.length ≤ s.length) && (s.take t.length == t)) = t.isPrefixOf s := by
  rw [Bool.eq_iff_iff, Bool.and_eq_true_iff, decide_eq_true_iff, beq_iff_eq, List.isPrefixOf_iff_prefix]
  constructor
  · rintro ⟨_, h⟩; rw [← h]; exact List.take_prefix _ _
  · intro h; exact ⟨h.length_le, (List.prefix_iff_eq_take.mp h).symm⟩
theorem m_startswith : MtR X "str.startswith" (rM Γ X.K .startswith) := by
  intro pins s σ H x xs v us Q I rx rs ⟨W, τ, ρ, g, o, ys, rg, ro, rv, h⟩
  unfold bmV at h
  split at h <;> first | exact h.elim | (rename_i heq; cases heq) | skip
  rename_i sp c
  obtain ⟨y, rfl, hy⟩ := rv.one_of
  refine mt_startswith pins s σ H _ _ v us Q I rx rs ⟨toS sp, toS c, ro.1, by rw [hy.1], ?_⟩
  have e : Txt.startswith (toS sp) (toS c) = c.isPrefixOf sp := by
    unfold Txt.startswith
    rw [subAt_toS, toS_len, toS_len, Nat.zero_add, List.drop_zero]
    exact take_pre sp c
  rw [e]
  exact h _ ρ H .refl rg rfl
theorem m_sw2 : MtR X "str.startswith" (rM Γ X.K .sw2) := by
  intro pins s σ H x xs v us Q I rx rs ⟨W, τ, ρ, g, o, ys, rg, ro, rv, h⟩
  unfold bmV at h
  split at h <;> first | exact h.elim | (rename_i heq; cases heq) | skip
  rename_i sp c i
  obtain ⟨y, w, rfl, hy, hw⟩ := RVs.two_of rv
  split at h
  · rename_i hi
    have hi := of_decide_eq_true hi
    refine mt_startswith3 pins s σ H _ _ v us Q I rx rs ⟨toS sp, toS c, i, ro.1, by rw [hy.1, show w = .int _ from hw], ?_⟩
    have e : Txt.startswith3 (toS sp) (toS c) i = (decide (i.toNat ≤ sp.length) && c.isPrefixOf (sp.drop i.toNat)) := by
      unfold Txt.startswith3
      have e1 : PySem.fromIndex (toS sp).length i = i.toNat := by
        unfold PySem.fromIndex
        rw [if_neg (by omega)]; omega
      rw [e1, subAt_toS, toS_len, toS_len, ← take_pre, List.length_drop]
      by_cases h1 : i.toNat ≤ sp.length
      · rw [decide_eq_true h1, Bool.true_and]
        congr 1
        apply decide_eq_decide.mpr
        omega
      · rw [decide_eq_false h1, Bool.false_and, decide_eq_false (by omega)]; rfl
    rw [e]
    exact h _ ρ H .refl rg rfl
  · exact h.elim
theorem m_endswith : MtR X "str.endswith" (rM Γ X.K .endswith) := by
  intro pins s σ H x xs v us Q I rx rs ⟨W, τ, ρ, g, o, ys, rg, ro, rv, h⟩
  unfold bmV at h
  split at h <;> first | exact h.elim | (rename_i heq; cases heq) | skip
  rename_i sp c
  obtain ⟨y, rfl, hy⟩ := rv.one_of
  refine mt_endswith pins s σ H _ _ v us Q I rx rs ⟨toS sp, toS c, ro.1, by rw [hy.1], ?_⟩
  have e : Txt.endswith (toS sp) (toS c) = c.isSuffixOf sp := by
    unfold Txt.endswith
    rw [subAt_toS, toS_len, toS_len, Nat.zero_add]
    rw [Bool.eq_iff_iff, Bool.and_eq_true_iff, decide_eq_true_iff, beq_iff_eq, List.isSuffixOf_iff_suffix]
    constructor
    · rintro ⟨h1, h2⟩
      rw [List.take_of_length_le (by simp; omega)] at h2
      rw [← h2]; exact List.drop_suffix _ _
    · intro h1
      refine ⟨h1.length_le, ?_⟩
      rw [← List.suffix_iff_eq_drop.mp h1, List.take_of_length_le (Nat.le_refl _)]
  rw [e]
  exact h _ ρ H .refl rg rfl
theorem takeWhile_drop {α : Type} (p : α → Bool) : ∀ l : List α, l.drop (l.takeWhile p).length = l.dropWhile p
  | [] => rfl
  | x :: l => by
    rw [List.takeWhile_cons, List.dropWhile_cons]
    by_cases h : p x = true
    · rw [if_pos h, if_pos h, List.length_cons, List.drop_succ_cons, takeWhile_drop p l]
    · rw [if_neg h, if_neg h]; rfl
theorem strSub_toS (s : List Nat) (a b : Nat) : Builtin.Str.strSub (toS s) a b = toS ((s.drop a).take (b - a)) := by
  show (⟨s.toArray.extract a b⟩ : Str) = _
  congr 1
  apply Array.toList_inj.mp
  simp [List.extract_eq_drop_take]
theorem stripped_eq (s t : List Nat) (r : Bool) : Txt.stripBy (toS t).cps.contains true r (toS s) = toS (if r then ((s.dropWhile fun c => decide (c ∈ t)).reverse.dropWhile fun c => decide (c ∈ t)).reverse else s.dropWhile fun c => decide (c ∈ t)) := by
  have hp : ((toS t).cps.contains : Nat → Bool) = fun c => decide (c ∈ t) := by
    funext c
    simp
  rw [stripBy_eq, hp, strSub_toS]
  have hlo : stripLo (fun c => decide (c ∈ t)) true (toS s) = (s.takeWhile fun c => decide (c ∈ t)).length := rfl
  rw [hlo, takeWhile_drop]
  congr 1
  cases r with
  | false =>
    show List.take ((toS s).length - _) _ = _
    rw [toS_len, List.take_of_length_le]
    · rfl
    · rw [← takeWhile_drop, List.length_drop]; exact Nat.le_refl _
  | true =>
    show List.take (((toS s).length - (((s.drop _).reverse.takeWhile _).length)) - _) _ = _
    rw [toS_len, takeWhile_drop]
    have hl : (s.dropWhile fun c => decide (c ∈ t)).length = s.length - (s.takeWhile fun c => decide (c ∈ t)).length := by rw [← takeWhile_drop, List.length_drop]
    generalize s.dropWhile (fun c => decide (c ∈ t)) = u at *
    show List.take _ u = (u.reverse.dropWhile _).reverse
    rw [← takeWhile_drop, List.reverse_drop, List.reverse_reverse, List.length_reverse]
    congr 1
    omega
theorem dw_len {t : List Nat} (s : List Nat) : (s.dropWhile fun c => decide (c ∈ t)).length ≤ s.length := (List.dropWhile_suffix _).length_le
theorem dw_mem {t s : List Nat} {c : Nat} (h : c ∈ s.dropWhile fun c => decide (c ∈ t)) : c ∈ s := (List.dropWhile_suffix _).subset h
theorem m_lstrip : MtR X "str.lstrip" (rM Γ X.K .lstrip) := by
  intro pins s σ H x xs v us Q I rx rs ⟨W, τ, ρ, g, o, ys, rg, ro, rv, h⟩
  unfold bmV at h
  split at h <;> first | exact h.elim | (rename_i heq; cases heq) | skip
  rename_i sp c
  obtain ⟨y, rfl, hy⟩ := rv.one_of
  refine mt_lstripChars pins s σ H _ _ v us Q I rx rs ⟨toS sp, toS c, ro.1, by rw [hy.1], by rw [toS_len]; exact le_line ro.2.1, ?_⟩
  have e : Txt.lstripChars (toS sp) (toS c) = _ := stripped_eq sp c false
  rw [e]
  exact h _ ρ H .refl rg ⟨rfl, Nat.le_trans (dw_len sp) ro.2.1, fun d hd => ro.2.2 d (dw_mem hd)⟩
theorem m_strip : MtR X "str.strip" (rM Γ X.K .strip) := by
  intro pins s σ H x xs v us Q I rx rs ⟨W, τ, ρ, g, o, ys, rg, ro, rv, h⟩
  unfold bmV at h
  split at h <;> first | exact h.elim | (rename_i heq; cases heq) | skip
  rename_i sp c
  obtain ⟨y, rfl, hy⟩ := rv.one_of
  refine mt_stripChars pins s σ H _ _ v us Q I rx rs ⟨toS sp, toS c, ro.1, by rw [hy.1], by rw [toS_len]; exact le_line ro.2.1, ?_⟩
  have e : Txt.stripChars (toS sp) (toS c) = _ := stripped_eq sp c true
  rw [e]
  refine h _ ρ H .refl rg ⟨rfl, ?_, fun d hd => ro.2.2 d (dw_mem (List.mem_reverse.mp (dw_mem (List.mem_reverse.mp hd))))⟩
  rw [List.length_reverse]
  refine Nat.le_trans (dw_len _) ?_
  rw [List.length_reverse]
  exact Nat.le_trans (dw_len sp) ro.2.1
/-- the first place of a sign in the library's own search -/
theorem occ_keep (s t : Str) (hi : Nat) : ∀ (l : List Nat) (st : Array Nat × Nat), 1 ≤ st.fst.size → (forIn l st (StrLaws.occBody s t hi 1)).run.fst = st.fst
  | [], st, h => rfl
  | a :: l, st, h => by
    rw [List.forIn_cons]
    unfold StrLaws.occBody
    rw [if_neg (by omega)]
    exact occ_keep s t hi l _ h
theorem occ_one (s : List Nat) (c : Nat) : ∀ (l : List Nat) (lo : Nat), l = s.drop lo → ∀ free, free ≤ lo → ∀ k, findC c l lo = some k → ∀ n, l.length ≤ n → (forIn (List.range' lo n) ((#[] : Array Nat), free) (StrLaws.occBody (toS s) (toS [c]) (toS s).length 1)).run.fst.toList.head? = some k
  | [], lo, hl, free, hf, k, hk, n, hn => by cases hk
  | x :: xs, lo, hl, free, hf, k, hk, 0, hn => by simp at hn
  | x :: xs, lo, hl, free, hf, k, hk, n + 1, hn => by
    have hx : s[lo]? = some x := by
      have := congrArg (fun z => z[0]?) hl
      simpa [List.getElem?_drop] using this.symm
    have hxs : xs = s.drop (lo + 1) := by
      rw [← List.drop_drop, ← hl]; rfl
    have hs := StrLaws.subAt_one (toS s) c lo
    rw [List.range'_succ, List.forIn_cons]
    have hk : (if x = c then some lo else findC c xs (lo + 1)) = some k := hk
    have e1 : (toS s).cps.toList = s := by simp
    rw [e1, hx] at hs
    by_cases hc : x = c
    · rw [if_pos hc] at hk
      cases hk
      have h2 := hs.mpr (by rw [hc])
      unfold StrLaws.occBody
      rw [if_pos ⟨⟨⟨by simp, hf⟩, h2.1⟩, h2.2⟩]
      show (forIn _ _ (StrLaws.occBody (toS s) (toS [c]) (toS s).length 1)).run.fst.toList.head? = some lo
      rw [occ_keep _ _ _ _ _ (by simp)]
      rfl
    · rw [if_neg hc] at hk
      have h2 : ¬ (lo + (toS [c]).length ≤ (toS s).length ∧ Builtin.Str.subAt (toS s) (toS [c]) lo = true) := fun z => hc (Option.some.inj (hs.mp z))
      have : StrLaws.occBody (toS s) (toS [c]) (toS s).length 1 lo ((#[] : Array Nat), free) = pure (ForInStep.yield ((#[] : Array Nat), free)) := by
        unfold StrLaws.occBody
        rw [if_neg (fun z => h2 ⟨z.1.2, z.2⟩)]
      rw [this]
      exact occ_one s c xs (lo + 1) hxs free (by omega) k hk n (by simp at hn; omega)
theorem occ_from (s : List Nat) (c i k : Nat) (hi : i ≤ s.length) (hk : findC c (s.drop i) i = some k) : (Builtin.Str.occurrences (toS s) (toS [c]) i (toS s).length 1).head? = some k := by
  rw [StrLaws.occ_eq]
  exact occ_one s c (s.drop i) i rfl i (Nat.le_refl _) k hk _ (by rw [toS_len, List.length_drop]; omega)
theorem head_cons {α : Type} {l : List α} {k : α} (h : l.head? = some k) : ∃ r, l = k :: r := by
  cases l with
  | nil => cases h
  | cons x r => cases h; exact ⟨r, rfl⟩
theorem m_sindex1 : MtR X "str.index" (rM Γ X.K .sindex1) := by
  intro pins s σ H x xs v us Q I rx rs ⟨W, τ, ρ, g, o, ys, rg, ro, rv, h⟩
  unfold bmV at h
  split at h <;> first | exact h.elim | (rename_i heq; cases heq) | skip
  rename_i sp c
  obtain ⟨y, rfl, hy⟩ := rv.one_of
  split at h
  · rename_i k hk
    obtain ⟨r, e⟩ := head_cons (occ_from sp c 0 k (Nat.zero_le _) hk)
    exact mt_sindex pins s σ H _ _ v us Q I rx rs ⟨toS sp, toS [c], k, r, ro.1, by rw [hy.1], e, h _ ρ H .refl rg rfl⟩
  · exact h.elim
theorem mt_sindex2 : MtR X "str.index" (fun x xs H Q => ∃ (a b : Str) (i : Int) (k : Nat) (rest : List Nat), x = .str a ∧ xs = [.str b, .int i] ∧ Builtin.Str.occurrences a b (PySem.fromIndex a.length i) a.length 1 = k :: rest ∧ Q (.int (k : Nat)) H) := by
  intro pins s σ H x xs v us Q I rx rs h
  obtain ⟨a, b, i, k, rest, rfl, rfl, q, w⟩ := h
  obtain ⟨t, rfl⟩ := rx
  cases rs with
  | cons r1 rs =>
    cases rs with
    | cons r2 rs =>
      cases rs
      obtain ⟨u, rfl⟩ := r1
      obtain ⟨z, rfl⟩ := r2
      exact call_gives PySem.F.slot_str_index (typeIs_str _ _ _) PySem.F.entry_str_index (PySem.F.args_str_index_3 _ _ _) (gives_str_index_from a b i t u z k rest q) ⟨.int (k : Nat), H, I.tok _, ⟨_, rfl⟩, w⟩
theorem m_sindex2 : MtR X "str.index" (rM Γ X.K .sindex2) := by
  intro pins s σ H x xs v us Q I rx rs ⟨W, τ, ρ, g, o, ys, rg, ro, rv, h⟩
  unfold bmV at h
  split at h <;> first | exact h.elim | (rename_i heq; cases heq) | skip
  rename_i sp c i
  obtain ⟨y, w, rfl, hy, hw⟩ := RVs.two_of rv
  split at h
  · rename_i hc
    rw [Bool.and_eq_true_iff] at hc
    have h1 := of_decide_eq_true hc.1
    have h2 := of_decide_eq_true hc.2
    split at h
    · rename_i k hk
      obtain ⟨r, e⟩ := head_cons (occ_from sp c i.toNat k (by omega) hk)
      have e1 : PySem.fromIndex (toS sp).length i = i.toNat := by
        unfold PySem.fromIndex
        rw [if_neg (by omega)]; omega
      exact mt_sindex2 pins s σ H _ _ v us Q I rx rs ⟨toS sp, toS [c], i, k, r, ro.1, by rw [hy.1, show w = .int _ from hw], by rw [e1]; exact e, h _ ρ H .refl rg rfl⟩
    · exact h.elim
  · exact h.elim
theorem RVs.erase : ∀ {xs : List Val} {vs : List V} (k : Nat), RVs K H ρ xs vs → RVs K H ρ (xs.eraseIdx k) (vs.eraseIdx k)
  | [], vs, k, h => by rw [show vs = [] from h]; rfl
  | x :: xs, vs, 0, h => by
    obtain ⟨v, r, rfl, _, h2⟩ := h
    exact h2
  | x :: xs, vs, k + 1, h => by
    obtain ⟨v, r, rfl, h1, h2⟩ := h
    exact ⟨v, r.eraseIdx k, rfl, h1, RVs.erase k h2⟩
theorem m_pop1 : MtM X "list.pop" (rM Γ X.K .pop1) := by
  intro pins s σ H x xs v us Q I rx rs ⟨W, τ, ρ, g, o, ys, rg, ro, rv, h⟩
  unfold bmV at h
  split at h <;> first | exact h.elim | (rename_i heq; cases heq) | skip
  rename_i n i
  obtain ⟨y, rfl, hy⟩ := rv.one_of
  split at h
  · rename_i zs hn
    split at h
    · rename_i hsz
      split at h
      · rename_i k hk
        split at h
        · rename_i z hz
          obtain ⟨a, rfl, ha⟩ := ro
          obtain ⟨a', ha', vs, ep, h2⟩ := rg.cell hn
          rw [ha] at ha'; cases ha'
          obtain ⟨w, hw, rw_⟩ := h2.get hz
          have hy : y = .int i := hy
          have hS : SL = 1000000 := rfl
          unfold KM.ixN at hk
          refine mt_popAt pins s σ H _ _ v us Q I rx rs ⟨a, vs, i, k, w, rfl, by rw [hy], ep, ?_, ?_, ?_, hw, fin_set rg ha (h2.erase k) rw_ h⟩
          · split at hk
            · omega
            · split at hk
              · omega
              · cases hk
          · split at hk
            · split at hk
              · omega
              · cases hk
            · omega
          · unfold seqIndex?
            rw [h2.length]
            split at hk
            · rename_i h0
              split at hk
              · rename_i h1
                cases hk
                have e : (decide (0 ≤ i) && decide (i < (zs.length : Int))) = true := by simp [h0]; exact h1
                simp only [if_neg (by omega : ¬ i < 0), e, if_true]
              · cases hk
            · rename_i h0
              split at hk
              · rename_i h1
                cases hk
                have e : (decide (0 ≤ i + (zs.length : Int)) && decide (i + (zs.length : Int) < (zs.length : Int))) = true := by
                  rw [decide_eq_true (by omega), decide_eq_true (by omega)]; rfl
                simp only [if_pos (by omega : i < 0), e, if_true]
              · cases hk
        · exact h.elim
      · exact h.elim
    · exact h.elim
  · exact h.elim
end
end KM

namespace KM
open PySem PySem.Spec PyProof.Rows L2

/-! #### new cells let go -/
section
variable {Γ : Gam} {K : PySem.W.Frag} {W : WX} {σ : L2.St} {ρ : List Addr} {H : Hp} {g : Gh} {Q : VK}
theorem RX.cut {H' : Hp} {ρ' : List Addr} {n : Nat} {x : Exn} {cls : Value} {d : Option Addr} (hp : ∀ m a, m < n → ρ'[m]? = some a → ρ[m]? = some a) (ok : okvs n x.fs = true) (h : RX Γ K H' ρ' x cls d) : RX Γ K H' ρ x cls d := by
  obtain ⟨h1, h2, h3⟩ := h
  refine ⟨h1, h2, ?_⟩
  rcases h3 with h3 | ⟨dd, fs, h4, h5, h6⟩
  · exact .inl h3
  · refine .inr ⟨dd, fs, h4, h5, fun i nm y e1 e2 => ?_⟩
    obtain ⟨v, h7, h8⟩ := h6 i nm y e1 e2
    refine ⟨v, h7, RV.cut hp ?_ h8⟩
    have : ∀ {l : List Val} {i : Nat}, okvs n l = true → l[i]? = some y → okv n y = true := by
      intro l
      induction l with
      | nil => intro i _ e; simp at e
      | cons z zs ih =>
        intro i ok e
        have ok : okv n z = true ∧ okvs n zs = true := Bool.and_eq_true_iff.mp ok
        cases i with
        | zero => simp at e; rw [← e]; exact ok.1
        | succ i => exact ih (i := i) ok.2 (by simpa using e)
    exact this ok e2
theorem FinG.untidy {r : R Val} (rg : RG Γ K H ρ g) (h : FinG Γ K (relV K) W σ ρ H (tidy g r) Q) : FinG Γ K (relV K) W σ ρ H r Q := by
  have hpc : ∀ {ρ' : List Addr} {H' : Hp}, Ext ρ H ρ' H' → ∀ m a, m < g.length → ρ'[m]? = some a → ρ[m]? = some a := fun {ρ' H'} e m a hm h => by
    obtain ⟨b, hb⟩ : ∃ b, ρ[m]? = some b := ⟨_, List.getElem?_eq_getElem (by rw [rg.len]; exact hm)⟩
    rw [e.pre m b hb] at h
    rw [hb, h]
  cases r with
  | bad => exact h
  | exn x g' =>
    simp only [tidy] at h
    split at h
    · rename_i hc
      rw [Bool.and_eq_true_iff] at hc
      intro cls d ρ' H' e r' rx
      obtain ⟨e2, r2⟩ := rg_cut rg e r' hc.1
      exact h cls d ρ H' e2 r2 (rx.cut (hpc e) hc.2)
    · exact h
  | ok v g' =>
    simp only [tidy] at h
    split at h
    · rename_i hc
      split at h
      · rename_i hv
        intro v' ρ' H' e r' rv
        obtain ⟨e2, r2⟩ := rg_cut rg e r' hc
        exact h v' ρ H' e2 r2 (RV.cut (hpc e) hv rv)
      · rename_i hv
        split at h
        · rename_i m
          split at h
          · rename_i c hm
            split at h
            · rename_i hk
              intro v' ρ' H' e r' rv
              obtain ⟨e2, r2⟩ := rg_cut rg e r' hc
              obtain ⟨a, rfl, ha⟩ := rv
              have hlm : g.length ≤ m := by
                have hv : ¬ decide (m < g.length) = true := hv
                rw [decide_eq_true_iff] at hv
                omega
              have hna : a ∉ ρ := fun hm2 => by
                obtain ⟨i, hi, ei⟩ := List.mem_iff_getElem.mp hm2
                have e3 : ρ'[i]? = some a := e.pre i a (by rw [List.getElem?_eq_getElem hi, ei])
                obtain ⟨l1, q1⟩ := List.getElem?_eq_some_iff.mp e3
                obtain ⟨l2, q2⟩ := List.getElem?_eq_some_iff.mp ha
                have : i = m := (List.getElem_inj r'.nd).mp (q1.trans q2.symm)
                rw [rg.len] at hi
                omega
              have pre2 : ∀ (n : Nat) (b : Addr), ρ[n]? = some b → (ρ ++ [a])[n]? = some b := fun n b q => by
                rw [List.getElem?_append_left (List.getElem?_eq_some_iff.mp q).1]; exact q
              have e4 : Ext ρ H (ρ ++ [a]) H' := ⟨pre2, e.keep, fun b hb nb => by
                rcases List.mem_append.mp hb with hb | hb
                · exact absurd hb nb
                · rw [List.mem_singleton.mp hb]; exact e.new a (List.mem_of_getElem? ha) hna⟩
              have hpc2 : ∀ k b, k < g.length → ρ'[k]? = some b → (ρ ++ [a])[k]? = some b := fun k b hk q => pre2 k b (hpc e k b hk q)
              have hlt : (g'.take g.length).length = g.length := by rw [← r2.len, rg.len]
              refine h (.ref a) (ρ ++ [a]) H' e4 ⟨?_, ?_, fun n d hn => ?_⟩ ⟨a, rfl, by rw [← rg.len]; simp⟩
              · rw [List.length_append, List.length_append, hlt, rg.len]; rfl
              · refine List.nodup_append.mpr ⟨rg.nd, by simp, fun x hx y hy => ?_⟩
                rw [List.mem_singleton.mp hy]
                intro z
                exact hna (z ▸ hx)
              · by_cases hl : n < g.length
                · rw [List.getElem?_append_left (by rw [hlt]; exact hl)] at hn
                  obtain ⟨b, hb, ro⟩ := r2.at_ n d hn
                  exact ⟨b, pre2 n b hb, ro.cut (fun k b _ q => pre2 k b q) (ro.okc (Nat.le_of_eq rg.len))⟩
                · rw [List.getElem?_append_right (by rw [hlt]; omega), hlt] at hn
                  have e5 : n - g.length = 0 := by
                    have := (List.getElem?_eq_some_iff.mp hn).1
                    simp at this
                    omega
                  rw [e5] at hn
                  simp at hn
                  subst hn
                  obtain ⟨b, hb, ro⟩ := r'.at_ m c hm
                  rw [ha] at hb; cases hb
                  refine ⟨a, ?_, ro.cut hpc2 hk⟩
                  rw [List.getElem?_append_right (by rw [rg.len]; omega), rg.len, e5]
                  rfl
            · exact h
          · exact h
        · exact h
    · exact h
theorem fin_tru {r : R Val} {Q : Bool → Hp → Prop} (rg : RG Γ K H ρ g) (h : FinG Γ K relB W σ ρ H (truR g r) Q) :
    FinG Γ K (relV K) W σ ρ H r (fun v H1 => ∃ k, TruV K v H1 k ∧ Q k H1) := by
  refine FinG.untidy rg ?_
  unfold truR at h
  split at h
  · rename_i v g' e
    rw [e]
    split at h
    · rename_i b hb
      intro v' ρ' H' ex r' rv
      exact ⟨b, tru_of r' rv hb, h b ρ' H' ex r' rfl⟩
    · exact h.elim
  · rename_i x g' e
    rw [e]
    exact h
  · exact h.elim
end

/-! ### what is known of the program -/
structure Tab where
  fns : List (Str × Nat × Nat)
  cs : List (Str × Val)
  fr : List Str
  exs : List (Str × Nat × Nat) := []
  exf : List (List Str) := []
  hds : List (Str × List Bool) := []
  iss : List (Str × List Bool) := []
/-- a def's promise: what the evaluator tells -/
def spOf (Γ : Gam) (K : PySem.W.Frag) (np : Nat) (f : List Val → Gh → R Val) : Sp := fun vs H Q E => vs.length = np ∧ ∃ ρ g xs, RG Γ K H ρ g ∧ RVs K H ρ xs vs ∧ FinG Γ K (relV K) (fun c d _ H' => E c d H') [] ρ H (f xs g) Q
structure Facts (T : Tab) (Γ : Gam) (call : Call) (P : Program) (w : World) (K : PySem.W.Frag) (mg : Str → Option Value) (base : Heap) (k : Nat) : Prop where
  fn : ∀ x f np, T.fns.lookup x = some (f, np) → ∃ fa fd ps, ps.length = np ∧ mg x = some (.ref fa) ∧ PySem.W.keepIn K (.ref fa) = true ∧ Binds K fd ps [] ∧ FnOk P w K mg base (L2.CX P w) k fa fd ps (spOf Γ K ps.length (call f))
  cs : ∀ x v, T.cs.lookup x = some v → ∃ y u, mg x = some u ∧ RelV y u ∧ ∀ H ρ, RV K H ρ v y
  fr : ∀ x ∈ T.fr, mg x = none
structure OkE (T : Tab) (Γ : Gam) (call : Call) (X : Cx) (sc : Scope) (N : List Str) (k : Nat) (W : WX) : Prop where
  hN : X.N = N
  nd : N.Nodup
  sc : X.env.scope = sc
  kind : X.env.scope.kind = .function
  calm : X.calm = true
  room : Room k X.A
  takes : Takes X W
  facts : Facts T Γ call X.prog X.w X.K X.mg X.base k

/-! ### expressions -/
section
variable {T : Tab} {Γ : Gam} {call : Call} {X : Cx} {sc : Scope} {N : List Str} {k : Nat} {W : WX}
theorem pt_of {x : Expr} {a : E} (h : PE X x (tE Γ X.K W (ev call a))) (he : ∀ whole, isTrue x X.env whole = (do let v ← whole; standAt x.pos; holding [v] (truthy v))) :
    PT X x (tT Γ X.K W (evT call (.e a))) := by
  refine pt_imp (pt_truth h he) fun σ H Q ⟨ρ, g, s, rs, rg, hq⟩ => ⟨ρ, g, s, rs, rg, fin_tru rg hq⟩
theorem e_var {i : Nat} {x : Str} {pos : Pos} (hN : X.N[i]? = some x) (hv : Vis X.env.scope x) (hd : (x == ("__debug__" : Str)) = false) (hcd : (x == ("__classdict__" : Str)) = false) : PE X (.Name x pos) (tE Γ X.K W (ev call (.var i))) := by
  refine pe_imp (pe_var hN hv hd hcd) fun σ H Q ⟨ρ, g, s, rs, rg, h⟩ => ?_
  have h : FinG Γ X.K (relV X.K) W σ ρ H (match s[i]? with
    | some (some v) => .ok v g
    | _ => .bad) Q := h
  split at h
  · rename_i v hv
    obtain ⟨u, h1, h2⟩ := rs.at_ i v hv
    exact ⟨u, h1, h _ ρ H .refl rg h2⟩
  · exact h.elim
theorem e_cst {x : Expr} {v : Val} {y : V} (h : PE X x (tC y)) (hr : ∀ H ρ, RV X.K H ρ v y) : PE X x (tE Γ X.K W (ev call (.cst v))) :=
  pe_imp h fun σ H Q ⟨ρ, g, s, rs, rg, h⟩ => h y ρ H .refl rg (hr H ρ)
theorem two {α β : Type} {f : R Val} {k : Val → Gh → R α} {rel : Hp → List Addr → α → β → Prop} {σ : L2.St} {ρ : List Addr} {H : Hp} {s : Env} {g : Gh} {Q : β → Hp → Prop} (rs : RS X.K H ρ s σ) (rg : RG Γ X.K H ρ g)
    (h : FinG Γ X.K rel W σ ρ H (f.bind k) Q) : FinG Γ X.K (relV X.K) W σ ρ H f (fun v' H1 => ∃ ρ1 g1 v, RS X.K H1 ρ1 s σ ∧ RG Γ X.K H1 ρ1 g1 ∧ RV X.K H1 ρ1 v v' ∧ Ext ρ H ρ1 H1 ∧ FinG Γ X.K rel W σ ρ1 H1 (k v g1) Q) :=
  h.bind.mono fun v' H1 ⟨ρ1, g1, v, e, rg1, rv, h1⟩ => ⟨ρ1, g1, v, rs.go rg e, rg1, rv, e, h1⟩
theorem e_bin {op : Bop} {a b : E} {x y : Expr} {pos : Pos} (ha : PE X x (tE Γ X.K W (ev call a))) (hb : PE X y (tE Γ X.K W (ev call b))) : PE X (.BinOp x (bopOf op) y pos) (tE Γ X.K W (ev call (.bin op a b))) := by
  refine pe_imp (pe_op (o_all (Γ := Γ) op) ha hb) fun σ H Q ⟨ρ, g, s, rs, rg, h⟩ => ⟨ρ, g, s, rs, rg, (two rs rg h).mono ?_⟩
  rintro v' H1 ⟨ρ1, g1, v, rs1, rg1, rv, e1, h1⟩
  refine ⟨ρ1, g1, s, rs1, rg1, (two rs1 rg1 h1).mono ?_⟩
  rintro w' H2 ⟨ρ2, g2, w, rs2, rg2, rw_, e2, h2⟩
  exact ⟨W, σ, ρ2, g2, v, w, rg2, rv.go rg1 e2, rw_, h2⟩
theorem e_neg {a : E} {x : Expr} {pos : Pos} (ha : PE X x (tE Γ X.K W (ev call a))) : PE X (.UnaryOp .USub x pos) (tE Γ X.K W (ev call (.neg a))) := by
  refine pe_imp (pe_un un_neg ha) fun σ H Q ⟨ρ, g, s, rs, rg, h⟩ => ⟨ρ, g, s, rs, rg, (two rs rg h).mono ?_⟩
  rintro v' H1 ⟨ρ1, g1, v, rs1, rg1, rv, e1, h1⟩
  cases v <;> first | exact h1.elim | skip
  exact ⟨_, rv, h1 _ ρ1 H1 .refl rg1 rfl⟩
theorem e_cmp {op : Cop} {a b : E} {x y : Expr} {pos : Pos} (hu : X.A.units + 65 < cLine) (ha : PE X x (tE Γ X.K W (ev call a))) (hb : PE X y (tE Γ X.K W (ev call b))) (hm : behindInMarks (copOf op) y = false) :
    PE X (.Compare x [copOf op] [y] pos) (tE Γ X.K W (ev call (.cmp op a b))) := by
  refine pe_imp (pe_cmpR (c_all (Γ := Γ) hu op) ha hb hm) fun σ H Q ⟨ρ, g, s, rs, rg, h⟩ => ⟨ρ, g, s, rs, rg, (two rs rg h).mono ?_⟩
  rintro v' H1 ⟨ρ1, g1, v, rs1, rg1, rv, e1, h1⟩
  refine ⟨ρ1, g1, s, rs1, rg1, (two rs1 rg1 h1).mono ?_⟩
  rintro w' H2 ⟨ρ2, g2, w, rs2, rg2, rw_, e2, h2⟩
  exact ⟨W, σ, ρ2, g2, v, w, rg2, rv.go rg1 e2, rw_, h2⟩
theorem t_cmp {op : Cop} {a b : E} {x y : Expr} {pos : Pos} (hu : X.A.units + 65 < cLine) (ha : PE X x (tE Γ X.K W (ev call a))) (hb : PE X y (tE Γ X.K W (ev call b))) (hm : behindInMarks (copOf op) y = false) :
    PT X (.Compare x [copOf op] [y] pos) (tT Γ X.K W (evT call (.e (.cmp op a b)))) := by
  refine pt_imp (pt_cmpR (c_all (Γ := Γ) hu op) ha hb hm) fun σ H Q ⟨ρ, g, s, rs, rg, h⟩ => ⟨ρ, g, s, rs, rg, ?_⟩
  have h : FinG Γ X.K relB W σ ρ H (truR g (ev call (.cmp op a b) s g)) Q := h
  have h := fin_tru rg h
  have h : FinG Γ X.K (relV X.K) W σ ρ H ((ev call a s g).bind fun v g1 => (ev call b s g1).bind fun w g2 => cmpV op v w g2) _ := h
  refine (two rs rg h).mono ?_
  rintro v' H1 ⟨ρ1, g1, v, rs1, rg1, rv, e1, h1⟩
  refine ⟨ρ1, g1, s, rs1, rg1, (two rs1 rg1 h1).mono ?_⟩
  rintro w' H2 ⟨ρ2, g2, w, rs2, rg2, rw_, e2, h2⟩
  refine ⟨W, σ, ρ2, g2, v, w, rg2, rv.go rg1 e2, rw_, ?_⟩
  unfold cmpV at h2 ⊢
  split at h2
  · rename_i b hb
    intro v'' ρ' H' ex r' rv'
    have e : v'' = .bl b := rv'
    obtain ⟨kk, tk, qk⟩ := h2 v'' ρ' H' ex r' rv'
    subst e
    have tk : kk = b := tk
    subst tk
    exact ⟨kk, rfl, qk⟩
  · exact h2.elim
theorem e_chn {op op' : Cop} {a b c : E} {x y z : Expr} {pos : Pos} (hu : X.A.units + 65 < cLine) (ha : PE X x (tE Γ X.K W (ev call a))) (hb : PE X y (tE Γ X.K W (ev call b))) (hc : PE X z (tE Γ X.K W (ev call c)))
    (hch : ∀ {r r' : R2}, OpR X (compareOp (copOf op)) r → OpR X (compareOp (copOf op')) r' → PE X (.Compare x [copOf op, copOf op'] [y, z] pos) (tChain r r' (tE Γ X.K W (ev call a)) (tE Γ X.K W (ev call b)) (tE Γ X.K W (ev call c)))) :
    PE X (.Compare x [copOf op, copOf op'] [y, z] pos) (tE Γ X.K W (ev call (.chn op op' a b c))) := by
  refine pe_imp (hch (c_all (Γ := Γ) hu op) (c_all (Γ := Γ) hu op')) fun σ H Q ⟨ρ, g, s, rs, rg, h⟩ => ⟨ρ, g, s, rs, rg, (two rs rg h).mono ?_⟩
  rintro v' H1 ⟨ρ1, g1, v, rs1, rg1, rv, e1, h1⟩
  refine ⟨ρ1, g1, s, rs1, rg1, (two rs1 rg1 h1).mono ?_⟩
  rintro w' H2 ⟨ρ2, g2, w, rs2, rg2, rw_, e2, h2⟩
  refine ⟨W, σ, ρ2, g2, v, w, rg2, rv.go rg1 e2, rw_, ?_⟩
  unfold cmpV
  split at h2
  · rename_i hb
    rw [hb]
    intro v'' ρ3 H3 ex r3 rv3
    have e : v'' = .bl true := rv3
    refine ⟨true, e, ?_⟩
    rw [if_pos rfl]
    refine ⟨ρ3, g2, s, rs2.go rg2 ex, r3, (two (rs2.go rg2 ex) r3 (h2.go ex)).mono ?_⟩
    rintro u' H4 ⟨ρ4, g4, u, rs4, rg4, ru, e4, h4⟩
    exact ⟨W, σ, ρ4, g4, w, u, rg4, (rw_.go rg2 ex).go r3 e4, ru, h4⟩
  · rename_i hb
    rw [hb]
    intro v'' ρ3 H3 ex r3 rv3
    have e : v'' = .bl false := rv3
    refine ⟨false, e, ?_⟩
    rw [if_neg Bool.false_ne_true]
    exact h2 _ ρ3 H3 ex r3 rfl
  · exact h2.elim
end
end KM

namespace KM
open PySem PySem.Spec PyProof.Rows L2
section
variable {T : Tab} {Γ : Gam} {call : Call} {X : Cx} {sc : Scope} {N : List Str} {k : Nat} {W : WX}
theorem e_not {a : E} {x : Expr} {pos : Pos} (ha : PE X x (tE Γ X.K W (ev call a))) : PE X (.UnaryOp .Not x pos) (tE Γ X.K W (ev call (.not a))) := by
  refine pe_imp (pe_notT ha) fun σ H Q ⟨ρ, g, s, rs, rg, h⟩ => ⟨ρ, g, s, rs, rg, (two rs rg h).mono ?_⟩
  rintro v' H1 ⟨ρ1, g1, v, rs1, rg1, rv, e1, h1⟩
  split at h1
  · rename_i b hb
    exact ⟨b, tru_of rg1 rv hb, h1 _ ρ1 H1 .refl rg1 rfl⟩
  · exact h1.elim
theorem e_and1 {a : E} {x : Expr} {pos : Pos} (ha : PE X x (tE Γ X.K W (ev call a))) : PE X (.BoolOp .And [x] pos) (tE Γ X.K W (evAnd call (.cons a .nil))) := pe_one ha
theorem e_or1 {a : E} {x : Expr} {pos : Pos} (ha : PE X x (tE Γ X.K W (ev call a))) : PE X (.BoolOp .Or [x] pos) (tE Γ X.K W (evOr call (.cons a .nil))) := pe_one ha
theorem e_andc {a b : E} {r : Es} {x y : Expr} {ys : List Expr} {pos : Pos} (ha : PE X x (tE Γ X.K W (ev call a))) (hb : PE X (.BoolOp .And (y :: ys) pos) (tE Γ X.K W (evAnd call (.cons b r)))) :
    PE X (.BoolOp .And (x :: y :: ys) pos) (tE Γ X.K W (evAnd call (.cons a (.cons b r)))) := by
  refine pe_imp (pe_andT ha hb) fun σ H Q ⟨ρ, g, s, rs, rg, h⟩ => ⟨ρ, g, s, rs, rg, (two rs rg h).mono ?_⟩
  rintro v' H1 ⟨ρ1, g1, v, rs1, rg1, rv, e1, h1⟩
  split at h1
  · rename_i hb
    exact ⟨true, tru_of rg1 rv hb, by rw [if_pos rfl]; exact ⟨ρ1, g1, s, rs1, rg1, h1⟩⟩
  · rename_i hb
    exact ⟨false, tru_of rg1 rv hb, by rw [if_neg Bool.false_ne_true]; exact h1 _ ρ1 H1 .refl rg1 rv⟩
  · exact h1.elim
theorem e_orc {a b : E} {r : Es} {x y : Expr} {ys : List Expr} {pos : Pos} (ha : PE X x (tE Γ X.K W (ev call a))) (hb : PE X (.BoolOp .Or (y :: ys) pos) (tE Γ X.K W (evOr call (.cons b r)))) :
    PE X (.BoolOp .Or (x :: y :: ys) pos) (tE Γ X.K W (evOr call (.cons a (.cons b r)))) := by
  refine pe_imp (pe_orT ha hb) fun σ H Q ⟨ρ, g, s, rs, rg, h⟩ => ⟨ρ, g, s, rs, rg, (two rs rg h).mono ?_⟩
  rintro v' H1 ⟨ρ1, g1, v, rs1, rg1, rv, e1, h1⟩
  split at h1
  · rename_i hb
    exact ⟨false, tru_of rg1 rv hb, by rw [if_neg Bool.false_ne_true]; exact ⟨ρ1, g1, s, rs1, rg1, h1⟩⟩
  · rename_i hb
    exact ⟨true, tru_of rg1 rv hb, by rw [if_pos rfl]; exact h1 _ ρ1 H1 .refl rg1 rv⟩
  · exact h1.elim
/-- a test, then -/
theorem twoT {α β : Type} {f : R Bool} {k : Bool → Gh → R α} {rel : Hp → List Addr → α → β → Prop} {σ : L2.St} {ρ : List Addr} {H : Hp} {s : Env} {g : Gh} {Q : β → Hp → Prop} (rs : RS X.K H ρ s σ) (rg : RG Γ X.K H ρ g)
    (h : FinG Γ X.K rel W σ ρ H (f.bind k) Q) : FinG Γ X.K relB W σ ρ H f (fun v' H1 => ∃ ρ1 g1, RS X.K H1 ρ1 s σ ∧ RG Γ X.K H1 ρ1 g1 ∧ Ext ρ H ρ1 H1 ∧ FinG Γ X.K rel W σ ρ1 H1 (k v' g1) Q) :=
  h.bind.mono fun v' H1 ⟨ρ1, g1, v, e, rg1, rv, h1⟩ => by
    have rv : v = v' := rv
    subst rv
    exact ⟨ρ1, g1, rs.go rg e, rg1, e, h1⟩
theorem e_ite {c : C} {a b : E} {x y z : Expr} {pos : Pos} (hc : PT X x (tT Γ X.K W (evT call c))) (ha : PE X y (tE Γ X.K W (ev call a))) (hb : PE X z (tE Γ X.K W (ev call b))) : PE X (.IfExp x y z pos) (tE Γ X.K W (ev call (.ite c a b))) := by
  refine pe_imp (pe_ifExp hc ha hb) fun σ H Q ⟨ρ, g, s, rs, rg, h⟩ => ⟨ρ, g, s, rs, rg, (twoT rs rg h).mono ?_⟩
  rintro t H1 ⟨ρ1, g1, rs1, rg1, e1, h1⟩
  cases t with
  | true => exact iteT ⟨ρ1, g1, s, rs1, rg1, h1⟩
  | false => exact iteF ⟨ρ1, g1, s, rs1, rg1, h1⟩
/-! #### tests -/
theorem t_not {c : C} {x : Expr} {pos : Pos} (hc : PT X x (tT Γ X.K W (evT call c))) : PT X (.UnaryOp .Not x pos) (tT Γ X.K W (evT call (.not c))) := by
  refine pt_imp (pt_not hc) fun σ H Q ⟨ρ, g, s, rs, rg, h⟩ => ⟨ρ, g, s, rs, rg, (twoT rs rg h).mono ?_⟩
  rintro t H1 ⟨ρ1, g1, rs1, rg1, e1, h1⟩
  exact h1 _ ρ1 H1 .refl rg1 rfl
theorem fin_btrue {σ : L2.St} {ρ : List Addr} {H : Hp} {r : R Bool} {Q : Bool → Hp → Prop} (h : FinG Γ X.K relB W σ ρ H (r.bind fun t g1 => if t then .ok true g1 else .ok false g1) Q) : FinG Γ X.K relB W σ ρ H r Q := by
  cases r with
  | ok t g => cases t <;> exact h
  | exn x g => exact h
  | bad => exact h
theorem t_and1 {a : C} {x : Expr} {pos : Pos} (ha : PT X x (tT Γ X.K W (evT call a))) : PW X (.BoolOp .And [x] pos) (tT Γ X.K W (evAndT call (.cons a .nil))) :=
  pw_imp (pw_and1 ha) fun σ H Q ⟨ρ, g, s, rs, rg, h⟩ => ⟨ρ, g, s, rs, rg, fin_btrue h⟩
theorem t_or1 {a : C} {x : Expr} {pos : Pos} (ha : PT X x (tT Γ X.K W (evT call a))) : PW X (.BoolOp .Or [x] pos) (tT Γ X.K W (evOrT call (.cons a .nil))) :=
  pw_imp (pw_or1 ha) fun σ H Q ⟨ρ, g, s, rs, rg, h⟩ => ⟨ρ, g, s, rs, rg, fin_btrue h⟩
theorem t_andc {a : C} {r : Cs} {x y : Expr} {ys : List Expr} {pos : Pos} (ha : PT X x (tT Γ X.K W (evT call a))) (hb : PW X (.BoolOp .And (y :: ys) pos) (tT Γ X.K W (evAndT call r))) :
    PW X (.BoolOp .And (x :: y :: ys) pos) (tT Γ X.K W (evAndT call (.cons a r))) := by
  refine pw_imp (pw_and ha hb) fun σ H Q ⟨ρ, g, s, rs, rg, h⟩ => ⟨ρ, g, s, rs, rg, (twoT rs rg h).mono ?_⟩
  rintro t H1 ⟨ρ1, g1, rs1, rg1, e1, h1⟩
  cases t with
  | true => exact iteT ⟨ρ1, g1, s, rs1, rg1, h1⟩
  | false => exact iteF (h1 _ ρ1 H1 .refl rg1 rfl)
theorem t_orc {a : C} {r : Cs} {x y : Expr} {ys : List Expr} {pos : Pos} (ha : PT X x (tT Γ X.K W (evT call a))) (hb : PW X (.BoolOp .Or (y :: ys) pos) (tT Γ X.K W (evOrT call r))) :
    PW X (.BoolOp .Or (x :: y :: ys) pos) (tT Γ X.K W (evOrT call (.cons a r))) := by
  refine pw_imp (pw_or ha hb) fun σ H Q ⟨ρ, g, s, rs, rg, h⟩ => ⟨ρ, g, s, rs, rg, (twoT rs rg h).mono ?_⟩
  rintro t H1 ⟨ρ1, g1, rs1, rg1, e1, h1⟩
  cases t with
  | true => exact iteT (h1 _ ρ1 H1 .refl rg1 rfl)
  | false => exact iteF ⟨ρ1, g1, s, rs1, rg1, h1⟩
theorem t_ite {c a b : C} {x y z : Expr} {pos : Pos} (hc : PT X x (tT Γ X.K W (evT call c))) (ha : PT X y (tT Γ X.K W (evT call a))) (hb : PT X z (tT Γ X.K W (evT call b))) : PT X (.IfExp x y z pos) (tT Γ X.K W (evT call (.ite c a b))) := by
  refine ⟨fun pins s0 σ H Q I ⟨ρ, g, s, rs, rg, h⟩ => ?_⟩
  show wpAny _ _ (do if ← isTrue x X.env (eval x X.env) then isTrue y X.env (eval y X.env) else isTrue z X.env (eval z X.env)) _ _ _
  refine wpAny_bind (thn (hc.run pins s0 σ H _ I ⟨ρ, g, s, rs, rg, twoT rs rg h⟩) fun t s1 ⟨H1, I1, ρ1, g1, rs1, rg1, e1, h1⟩ => ?_)
  cases t with
  | true => exact ha.run pins s1 σ H1 Q I1 ⟨ρ1, g1, s, rs1, rg1, h1⟩
  | false => exact hb.run pins s1 σ H1 Q I1 ⟨ρ1, g1, s, rs1, rg1, h1⟩
/-! #### argument lists, displays -/
theorem a_nil : PA X [] (tA Γ X.K W (evs call .nil)) := pa_imp pa_nil fun σ H Q ⟨ρ, g, s, rs, rg, h⟩ => h [] ρ H .refl rg rfl
theorem a_cons {a : E} {r : Es} {x : Expr} {ys : List Expr} (ha : PE X x (tE Γ X.K W (ev call a))) (hr : PA X ys (tA Γ X.K W (evs call r))) (hs : starEach (x :: ys) X.env = (false, eval x X.env) :: starEach ys X.env) :
    PA X (x :: ys) (tA Γ X.K W (evs call (.cons a r))) := by
  refine pa_imp (pa_cons ha hr hs) fun σ H Q ⟨ρ, g, s, rs, rg, h⟩ => ⟨ρ, g, s, rs, rg, (two rs rg h).mono ?_⟩
  rintro v' H1 ⟨ρ1, g1, v, rs1, rg1, rv, e1, h1⟩
  refine ⟨ρ1, g1, s, rs1, rg1, h1.bind.mono ?_⟩
  rintro vs' H2 ⟨ρ2, g2, vs, e2, rg2, rvs, h2⟩
  exact h2 (v' :: vs') ρ2 H2 .refl rg2 ⟨v', vs', rfl, rv.go rg1 e2, rvs⟩
theorem twoA {α β : Type} {f : R (List Val)} {k : List Val → Gh → R α} {rel : Hp → List Addr → α → β → Prop} {σ : L2.St} {ρ : List Addr} {H : Hp} {s : Env} {g : Gh} {Q : β → Hp → Prop} (rs : RS X.K H ρ s σ) (rg : RG Γ X.K H ρ g)
    (h : FinG Γ X.K rel W σ ρ H (f.bind k) Q) : FinG Γ X.K (relVs X.K) W σ ρ H f (fun v' H1 => ∃ ρ1 g1 v, RS X.K H1 ρ1 s σ ∧ RG Γ X.K H1 ρ1 g1 ∧ RVs X.K H1 ρ1 v v' ∧ Ext ρ H ρ1 H1 ∧ FinG Γ X.K rel W σ ρ1 H1 (k v g1) Q) :=
  h.bind.mono fun v' H1 ⟨ρ1, g1, v, e, rg1, rv, h1⟩ => ⟨ρ1, g1, v, rs.go rg e, rg1, rv, e, h1⟩
theorem e_tup {es : Es} {xs : List Expr} {n : Nat} {pos : Pos} (ha : PA X xs (tA Γ X.K W (evs call es))) : PE X (.Tuple xs n pos) (tE Γ X.K W (ev call (.tup es))) := by
  refine pe_imp (pe_tup ha) fun σ H Q ⟨ρ, g, s, rs, rg, h⟩ => ⟨ρ, g, s, rs, rg, (twoA rs rg h).mono ?_⟩
  rintro vs H1 ⟨ρ1, g1, v, rs1, rg1, rv, e1, h1⟩
  unfold mkT at h1
  split at h1
  · rename_i hz
    exact ⟨by rw [rv.length]; exact le_line hz, fin_tup rg1 rv h1⟩
  · exact h1.elim
theorem e_lst {es : Es} {xs : List Expr} {pos : Pos} (ha : PA X xs (tA Γ X.K W (evs call es))) : PE X (.List xs pos) (tE Γ X.K W (ev call (.lst es))) := by
  refine pe_imp (pe_lst ha) fun σ H Q ⟨ρ, g, s, rs, rg, h⟩ => ⟨ρ, g, s, rs, rg, (twoA rs rg h).mono ?_⟩
  rintro vs H1 ⟨ρ1, g1, v, rs1, rg1, rv, e1, h1⟩
  unfold mkL at h1
  split at h1
  · rename_i hz
    exact ⟨by rw [rv.length]; exact le_line hz, fin_lst rg1 rv h1⟩
  · exact h1.elim
theorem e_idx {a b : E} {x y : Expr} {pos : Pos} (hu : X.A.units + 1 < cLine) (ha : PE X x (tE Γ X.K W (ev call a))) (hb : PE X y (tE Γ X.K W (ev call b))) (hp : PlainIx y) : PE X (.Subscript x y pos) (tE Γ X.K W (ev call (.idx a b))) := by
  refine pe_imp (pe_ix (i_all (Γ := Γ) hu) ha hb hp) fun σ H Q ⟨ρ, g, s, rs, rg, h⟩ => ⟨ρ, g, s, rs, rg, (two rs rg h).mono ?_⟩
  rintro v' H1 ⟨ρ1, g1, v, rs1, rg1, rv, e1, h1⟩
  refine ⟨ρ1, g1, s, rs1, rg1, (two rs1 rg1 h1).mono ?_⟩
  rintro w' H2 ⟨ρ2, g2, w, rs2, rg2, rw_, e2, h2⟩
  exact ⟨W, σ, ρ2, g2, v, w, rg2, rv.go rg1 e2, rw_, h2⟩
/-! #### a new dict -/
theorem fin_dic {K : PySem.W.Frag} {W : WX} {σ : L2.St} {ρ : List Addr} {H : Hp} {g : Gh} {t : Bool} {Q : VK} (rg : RG Γ K H ρ g) (h : FinG Γ K (relV K) W σ ρ H (new (.dic t []) g) Q) :
    ∀ p, H p = none → Q (.ref p) (upd H p (if t then .dT [] else .dK [])) := fun p hp =>
  h _ _ _ (ext_new rg hp) (rg_new rg hp (by cases t <;> exact ⟨[], upd_same, .nil⟩)) (ref_new rg)
theorem e_dnew {t : Bool} {pos : Pos} : PE X (.Dict [] [] pos) (tE Γ X.K W (ev call (.dnew t))) := by
  cases t
  · exact pe_imp pe_dnewK fun σ H Q ⟨ρ, g, s, rs, rg, h⟩ => fin_dic (t := false) rg h
  · exact pe_imp pe_dnewT fun σ H Q ⟨ρ, g, s, rs, rg, h⟩ => fin_dic (t := true) rg h
/-! #### parts -/
abbrev relO : Hp → List Addr → Option Int → Option Int → Prop := fun _ _ b b' => b = b'
def tPO (Γ : Gam) (K : PySem.W.Frag) (W : WX) (f : Env → Gh → R (Option Int)) : L2.St → Hp → (Option Int → Hp → Prop) → Prop := fun σ H Q =>
  ∃ ρ g s, RS K H ρ s σ ∧ RG Γ K H ρ g ∧ FinG Γ K relO W σ ρ H (f s g) Q
theorem po_imp {e : Option Expr} {t t' : L2.St → Hp → (Option Int → Hp → Prop) → Prop} (h : PO X e t) (f : ∀ σ H Q, t' σ H Q → t σ H Q) : PO X e t' := ⟨fun pins s σ H Q I q => h.run pins s σ H Q I (f σ H Q q)⟩
theorem o_no : PO X none (tPO Γ X.K W (evB call .no)) := po_imp po_none fun σ H Q ⟨ρ, g, s, rs, rg, h⟩ => h none ρ H .refl rg rfl
theorem o_e {a : E} {x : Expr} (ha : PE X x (tE Γ X.K W (ev call a))) : PO X (some x) (tPO Γ X.K W (evB call (.e a))) := by
  refine po_imp (po_some ha) fun σ H Q ⟨ρ, g, s, rs, rg, h⟩ => ⟨ρ, g, s, rs, rg, (two rs rg h).mono ?_⟩
  rintro v' H1 ⟨ρ1, g1, v, rs1, rg1, rv, e1, h1⟩
  cases v <;> first | exact h1.elim | skip
  exact ⟨_, rv, h1 _ ρ1 H1 .refl rg1 rfl⟩
theorem e_slc {a : E} {lo hi : B} {x : Expr} {l h : Option Expr} {p2 pos : Pos} (ha : PE X x (tE Γ X.K W (ev call a))) (hl : PO X l (tPO Γ X.K W (evB call lo))) (hh : PO X h (tPO Γ X.K W (evB call hi))) :
    PE X (.Subscript x (.Slice l h none p2) pos) (tE Γ X.K W (ev call (.slc a lo hi))) := by
  refine pe_imp (pe_slice (s_all (Γ := Γ)) ha hl hh) fun σ H Q ⟨ρ, g, s, rs, rg, h⟩ => ⟨ρ, g, s, rs, rg, (two rs rg h).mono ?_⟩
  rintro v' H1 ⟨ρ1, g1, v, rs1, rg1, rv, e1, h1⟩
  refine ⟨ρ1, g1, s, rs1, rg1, h1.bind.mono ?_⟩
  rintro l' H2 ⟨ρ2, g2, l, e2, rg2, rl, h2⟩
  have rl : l = l' := rl
  subst rl
  refine ⟨ρ2, g2, s, rs1.go rg1 e2, rg2, h2.bind.mono ?_⟩
  rintro u' H3 ⟨ρ3, g3, u, e3, rg3, ru, h3⟩
  have ru : u = u' := ru
  subst ru
  exact ⟨W, σ, ρ3, g3, v, rg3, rv.go rg1 (e2.trans e3), h3⟩
theorem e_rev {a : E} {x : Expr} {n : Nat} {p1 p2 p3 pos : Pos} (ha : PE X x (tE Γ X.K W (ev call a))) : PE X (.Subscript x (.Slice none none (some (.UnaryOp .USub (.Constant (.int 1) n p1) p2)) p3) pos) (tE Γ X.K W (ev call (.rev a))) := by
  have h1 : PE X (.Subscript x (.Slice none none (some (.UnaryOp .USub (.Constant (.int 1) n p1) p2)) p3) pos) (fun σ H Q => tE Γ X.K W (ev call a) σ H fun x H1 =>
      (∃ cs, x = .str (toS cs) ∧ cs.length ≤ SL ∧ Q (.str (toS cs.reverse)) H1) ∨ (∃ a xs, x = .ref a ∧ SqL X.K H1 a xs ∧ ∀ p, H1 p = none → Q (.ref p) (upd H1 p (.lst xs.reverse))) ∨ ∃ a xs, x = .ref a ∧ SqT X.K H1 a xs ∧ ∀ p, H1 p = none → Q (.ref p) (upd H1 p (.tup xs.reverse))) := pe_rev2 ha
  refine pe_imp h1 fun σ H Q ⟨ρ, g, s, rs, rg, h⟩ => ⟨ρ, g, s, rs, rg, (two rs rg h).mono ?_⟩
  rintro v' H1 ⟨ρ1, g1, v, rs1, rg1, rv, e1, h1⟩
  unfold revV at h1
  split at h1
  · rename_i cs
    exact .inl ⟨cs, rv.1, rv.2.1, h1 _ ρ1 H1 .refl rg1 ⟨rfl, by rw [List.length_reverse]; exact rv.2.1, fun c hc => rv.2.2 c (List.mem_reverse.mp hc)⟩⟩
  · obtain ⟨a, vs, rfl, hc, hv⟩ := rv
    exact .inr (.inr ⟨a, vs, rfl, hc.t, fin_tup rg1 hv.reverse h1⟩)
  · split at h1
    · rename_i hn
      obtain ⟨p, rfl, hp⟩ := rv
      obtain ⟨p', vs, hp', ep, hv⟩ := rg1.lstAt hn
      rw [hp] at hp'; cases hp'
      exact .inr (.inl ⟨p, vs, rfl, .of ep, fin_lst rg1 hv.reverse h1⟩)
    · exact h1.elim
  · exact h1.elim
/-! #### calls -/
theorem e_blt {b : Blt} {es : Es} {y : Expr} {x : Expr} {xs : List Expr} (h : ∀ {t : TA}, PA X (x :: xs) t → PE X y (tCB (rB Γ X.K b) t)) (ha : PA X (x :: xs) (tA Γ X.K W (evs call es))) :
    PE X y (tE Γ X.K W (ev call (.blt b es))) := by
  refine pe_imp (h ha) fun σ H Q ⟨ρ, g, s, rs, rg, h⟩ => ⟨ρ, g, s, rs, rg, (twoA rs rg h).mono ?_⟩
  rintro vs H1 ⟨ρ1, g1, v, rs1, rg1, rv, e1, h1⟩
  exact ⟨W, σ, ρ1, g1, v, rg1, rv, h1⟩
theorem lst_ty {K : PySem.W.Frag} {H : Hp} {ρ : List Addr} {g : Gh} {n : Nat} {x : V} (rg : RG Γ K H ρ g) (rv : RV K H ρ (.ref n) x) (h : (lstAt g n).isSome = true) : tyV K "list" x H := by
  obtain ⟨xs, hx⟩ := Option.isSome_iff_exists.mp h
  obtain ⟨a, rfl, ha⟩ := rv
  obtain ⟨a', vs, ha', ep, _⟩ := rg.lstAt hx
  rw [ha] at ha'; cases ha'
  exact .inl ⟨rfl, vs, .of ep⟩
theorem dic_ty {K : PySem.W.Frag} {H : Hp} {ρ : List Addr} {g : Gh} {n : Nat} {x : V} (rg : RG Γ K H ρ g) (rv : RV K H ρ (.ref n) x) (h : (match g[n]? with
    | some (.dic _ _) => true
    | _ => false) = true) : tyV K "dict" x H := by
  split at h
  · rename_i t kvs hn
    obtain ⟨a, rfl, ha⟩ := rv
    obtain ⟨a', ha', ro⟩ := rg.at_ n _ hn
    rw [ha] at ha'; cases ha'
    cases t
    · obtain ⟨ks, e, _⟩ := ro; exact .inr (.inr (.inl ⟨rfl, .inl ⟨ks, e⟩⟩))
    · obtain ⟨ks, e, _⟩ := ro; exact .inr (.inr (.inl ⟨rfl, .inr ⟨ks, e⟩⟩))
  · cases h
def bmTy : Bm → String
  | .append => "list" | .extend => "list" | .pop0 => "list" | .pop1 => "list" | .insert => "list" | .index => "list"
  | .join => "str" | .split => "str" | .count => "str" | .startswith => "str" | .lstrip => "str" | .strip => "str"
  | .get1 => "dict" | .get2 => "dict" | .sindex1 => "str" | .sindex2 => "str" | .sw2 => "str" | .endswith => "str"
theorem bm_ty {K : PySem.W.Frag} {H : Hp} {ρ : List Addr} {g : Gh} {m : Bm} {v : Val} {x : V} (rg : RG Γ K H ρ g) (rv : RV K H ρ v x) (h : bmT m v g = true) : tyV K (bmTy m) x H := by
  unfold bmT at h
  split at h <;> first | exact lst_ty rg rv h | (rw [rv.1]; rfl) | exact dic_ty rg rv h | cases h
theorem e_bm {m : Bm} {o : E} {es : Es} {x y : Expr} {z : Expr} {zs : List Expr} (h : ∀ {to : TE} {t : TA}, PE X x to → PA X (z :: zs) t → PE X y (tBM X.K (bmTy m) (rM Γ X.K m) to t)) (ho : PE X x (tE Γ X.K W (ev call o))) (ha : PA X (z :: zs) (tA Γ X.K W (evs call es))) :
    PE X y (tE Γ X.K W (ev call (.bm m o es))) := by
  refine pe_imp (h ho ha) fun σ H Q ⟨ρ, g, s, rs, rg, h⟩ => ⟨ρ, g, s, rs, rg, (two rs rg h).mono ?_⟩
  rintro v' H1 ⟨ρ1, g1, v, rs1, rg1, rv, e1, h1⟩
  split at h1
  · rename_i ht
    refine ⟨bm_ty rg1 rv ht, ρ1, g1, s, rs1, rg1, (twoA rs1 rg1 h1).mono ?_⟩
    rintro vs H2 ⟨ρ2, g2, w, rs2, rg2, rw_, e2, h2⟩
    exact ⟨W, σ, ρ2, g2, v, w, rg2, rv.go rg1 e2, rw_, h2⟩
  · exact h1.elim
theorem e_bm0 {m : Bm} {o : E} {x y : Expr} (h : ∀ {to : TE}, PE X x to → PE X y (tBM0 X.K (bmTy m) (rM Γ X.K m) to)) (ho : PE X x (tE Γ X.K W (ev call o))) :
    PE X y (tE Γ X.K W (ev call (.bm m o .nil))) := by
  refine pe_imp (h ho) fun σ H Q ⟨ρ, g, s, rs, rg, h⟩ => ⟨ρ, g, s, rs, rg, (two rs rg h).mono ?_⟩
  rintro v' H1 ⟨ρ1, g1, v, rs1, rg1, rv, e1, h1⟩
  split at h1
  · rename_i ht
    exact ⟨bm_ty rg1 rv ht, W, σ, ρ1, g1, v, [], rg1, rv, rfl, h1⟩
  · exact h1.elim
theorem e_call {f : Nat} {es : Es} {y x : Expr} {xs : List Expr} {np : Nat} (h : ∀ {t : TA}, PA X (x :: xs) t → PE X y (tCallS (spOf Γ X.K np (call f)) (WE W) t)) (ha : PA X (x :: xs) (tA Γ X.K W (evs call es)))
    (hl : ∀ s g vs g1, evs call es s g = .ok vs g1 → vs.length = np) :
    PE X y (tE Γ X.K W (ev call (.call f es))) := by
  refine pe_imp (h ha) fun σ H Q ⟨ρ, g, s, rs, rg, h⟩ => ⟨ρ, g, s, rs, rg, ?_⟩
  have h : FinG Γ X.K (relV X.K) W σ ρ H ((evs call es s g).bind fun vs g1 => call f vs g1) Q := h
  have hl := hl s g
  generalize evs call es s g = r at h hl
  cases r with
  | bad => exact h
  | exn x g => exact h
  | ok vs g1 =>
    intro ws ρ1 H1 e1 rg1 rv
    have h2 : FinG Γ X.K (relV X.K) W σ ρ1 H1 (call f vs g1) Q := FinG.go (r := call f vs g1) h e1
    refine ⟨by rw [rv.length]; exact hl vs g1 rfl, ρ1, g1, vs, rg1, rv, ?_⟩
    generalize call f vs g1 = r at h2
    cases r with
    | ok v g => exact h2
    | exn x g => exact h2
    | bad => exact h2
end
end KM

/-! enumerate of a tuple, of a text -/
namespace KM
open PySem PySem.Spec PyProof.Rows L2
set_option maxHeartbeats 4000000 in
theorem meets_enum1 {v : Value} {o : Obj} {H : Heap → Prop} (B : Begins v o H) :
    Meets (Builtin.«enumerate.__new__» ⟨[.type "enumerate", v], []⟩) (fun _ R s => H s.heap ∧
      R (.ok (.ret (.ref (s.heap.push o).objs.size))) { s with heap := (s.heap.push o).push { cls := .type "enumerate", data := .fields #[.none, .bool false, .ref s.heap.objs.size, rawInt 0, .none, .none] } }) :=
  .of_wp fun prog w A R s h => by
    obtain ⟨hp, g, d, tk, os⟩ := s; obtain ⟨h1, h⟩ := h
    have hsub := sub_enumerate
    have q1 : ∀ {A' : Around} {E : Value → Shared → Prop} {Q : Value → Shared → Prop}, Q (.ref hp.objs.size) ⟨hp.push o, g, d, tk, os⟩ → wpAny (model prog w) A' (pyIter v) Q E ⟨hp, g, d, tk, os⟩ :=
      fun q => B.iter prog w _ _ ⟨hp, g, d, tk, os⟩ _ h1 q
    wp_walk using q1
    refine wpAny_stack_any fun st => wpAny_pure ?_
    split
    · rename_i c _ _ _ _ _
      cases (c == Value.type "enumerate")
      · wp_walk using q1
        exact ⟨_, rfl, h⟩
      · wp_walk using q1
        exact ⟨_, rfl, h⟩
    · wp_walk using q1
      exact ⟨_, rfl, h⟩
section
variable {prog : Program} {w : World} {A : Around} {E : Value → Shared → Prop} {s : Shared}
theorem enum1_begins {v : Value} {o : Obj} {H : Heap → Prop} {Q : Value → Shared → Prop} (B : Begins v o H) (h1 : H s.heap)
    (h : ∀ h', IsEnum h' (s.heap.objs.size + 1) s.heap.objs.size 0 .none → h'.get? s.heap.objs.size = some o → h'.objs.size = s.heap.objs.size + 2 →
      (∀ b o, s.heap.get? b = some o → h'.get? b = some o) → Q (.ref (s.heap.objs.size + 1)) { s with heap := h' }) :
    wpAny (model prog w) A (call (.type "enumerate") [v]) Q E s := by
  refine callType_new F.called_enumerate (by decide) (F.typeCall_enumerate_1 _) (F.newCall_enumerate_1 _) (fun obj => F.args_object_init_2 obj _) F.entry_enumerate_new
    (meets_enum1 B) ⟨h1, ?_⟩
  have hz : (s.heap.push o).objs.size = s.heap.objs.size + 1 := Heap.size_push ..
  show _ ∧ _
  rw [hz]
  have he : IsEnum ((s.heap.push o).push { cls := .type "enumerate", data := .fields #[.none, .bool false, .ref s.heap.objs.size, rawInt 0, .none, .none] }) (s.heap.objs.size + 1) s.heap.objs.size 0 .none := by
    have := Heap.get?_push_size (s.heap.push o) (o := { cls := .type "enumerate", data := .fields #[.none, .bool false, .ref s.heap.objs.size, rawInt 0, .none, .none] }) rfl
    rw [hz] at this; exact this
  refine ⟨⟨_, he, rfl⟩, h _ he (Heap.get?_push_of_some _ (Heap.get?_push_size _ B.free)) (by rw [Heap.size_push, hz]) fun b o x => Heap.get?_push_of_some _ (Heap.get?_push_of_some _ x)⟩
end
section
variable {prog : Program} {w : World} {A : Around} {E : Value → Shared → Prop} {s : Shared}
theorem enum_endT {e it l : Addr} {i : Nat} {items : Array Value} {old : Value} {Q : Option Value → Shared → Prop} (hh : A.handled = none)
    (he : IsEnum s.heap e it i old) (hit : s.heap.IsTupleIter it l i) (hl : s.heap.IsTuple l items) (hx : items[i]? = none)
    (hQ : ∀ h', Heap.ExtBut it s.heap h' → Q none { s with heap := h' }) : wpAny (model prog w) A (pyNext (.ref e)) Q E s := by
  have hT : s.TypeIs (.ref e) "enumerate" := ⟨_, he, rfl⟩
  unfold pyNext
  refine wpAny_bind (wpAny_attempt (wpAny_callSpecial?_slot (name := Str.ofString "__next__") hT F.slot_enumerate_next
    (wpAny_call_entry F.slot_enumerate_next hT F.entry_enumerate_next ?_ (F.args_enumerate_next_1 _))))
  show wpAny _ _ (field (.ref e) 2 >>= _) _ _ _
  refine wpAny_bind (wpAny_field he rfl (x := .ref it) rfl ?_)
  refine wpAny_bind (wpAny_nextOf_tuple_end hh hit hl hx fun h' x he' hx' => ?_)
  obtain ⟨o, ho, hc⟩ := hx'
  refine wpAny_bind (wpAny_isInstance (T := "StopIteration") (b := true) ⟨o, ho, hc⟩ isSubtype_stop ?_)
  exact wpAny_pure (hQ _ he')
end
/-- the tuple at a, each item in a new pair -/
def IteT (K : PySem.W.Frag) (a : Addr) : It :=
  ⟨fun i H => ∃ (xs : List V) (x : V), SqT K H a xs ∧ xs[i]? = some x, fun i H v H' => ∃ T x, v = .ref T ∧ H T = none ∧ H' = upd H T (.tup [.int (i : Nat), x]) ∧ ∀ xs, SqT K H a xs → xs[i]? = some x, fun i H => ∃ xs : List V, SqT K H a xs ∧ xs.length ≤ i⟩
theorem turn_enumT {P : Program} {w : World} {K : PySem.W.Frag} {elts : List Expr} {kk : Nat} {tpos : Pos} (a e it : Addr) (hai : a ≠ it) (hea : e ≠ a) :
    Turn P w K (.Tuple elts kk tpos) (IteT K a) [e, it] e (fun i h => (∃ old, IsEnum h e it ((i : Nat) : Int) old) ∧ h.IsTupleIter it a i ∧ e ≠ it) where
  mem := by simp
  obj := fun i h st b hb => by
    obtain ⟨⟨old, he⟩, ⟨o, ho, hc, hd⟩, _⟩ := st
    have e' : b = e ∨ b = it := by simpa using hb
    rcases e' with z | z
    · rw [z]; exact ⟨_, he, fun v q => nomatch q⟩
    · rw [z]; exact ⟨o, ho, fun v q => by rw [hd] at q; cases q⟩
  keep := fun i h h' st k => let ⟨⟨old, he⟩, hi, hne⟩ := st; ⟨⟨old, k e (by simp) _ he⟩, hi.at fun o q => k it (by simp) o q, hne⟩
  item := by
    intro X hP hw hK hc i pins s σ H E I hf st hg
    subst hP hw hK
    obtain ⟨⟨old, he⟩, hit, hne⟩ := st
    obtain ⟨xs, x, hq, hx⟩ := hg
    obtain ⟨its, rv, p, hz⟩ := I.tuple hq
    obtain ⟨u, hu, ru⟩ := rv.get hx
    have hel : e < s.heap.objs.size := Heap.lt_size he
    have hil : it < s.heap.objs.size := by obtain ⟨_, q, _⟩ := hit; exact Heap.lt_size q
    have D := Draws.tuple (prog := X.prog) (w := X.w) (A := X.A.in1) (I.ok.hd hc) it a hai its.toArray
    have p' : s.heap.IsTuple a its.toArray := p
    refine wpAny_pyNext_enum_itemD D he ⟨hit, p'⟩ (by have := (List.getElem?_eq_some_iff.mp hu).1; simpa using this) hne (by simp [hne, hea]) fun y h' tk hy ho hst hT hsz hk => ?_
    have ey : y = u := by
      rw [show its.toArray[i]? = its[i]? by simp, hu] at hy
      exact (Option.some.inj hy).symm
    subst ey
    have hit' := hst.1
    refine ⟨_, rfl, wpAny_letOwnedTupleGo_enum (s := { s with heap := h', toks := tk + 1 }) ho fun h'' he' sb => ?_⟩
    have hT2 : h''.get? s.heap.objs.size = some { cls := .type "tuple", data := .seq #[.int i tk, y] } := (sb.2 _ (Nat.ne_of_gt hel)).trans hT
    have new : ObjOk X.prog X.w (upd H s.heap.objs.size (.tup [.int (i : Nat), x])) h'' s.heap.objs.size (.tup [.int (i : Nat), x]) :=
      ⟨by show 2 ≤ sizeLine; decide, [.int i tk, y], .cons ⟨_, rfl⟩ (.cons ru .nil), ⟨_, hT2, rfl, _, rfl⟩⟩
    have I1 : Inv X pins σ (upd H s.heap.objs.size (.tup [.int (i : Nat), x])) { s with heap := h'', toks := tk + 1 } :=
      I.turnedNew (ch := [e, it]) (fun b ob hb q => (sb.2 b (fun z => hb (by simp [z]))).trans (hk b ob (fun z => hb (by simp [z])) (fun z => hb (by simp [z])) q)) hf (Nat.le_refl _) new
    refine ⟨.ref s.heap.objs.size, _, I1, rfl, ⟨_, x, rfl, I.hok.fresh (Nat.le_refl _), rfl, fun ys hy => by rw [I.tuple_inj hy hq]; exact hx⟩, ⟨⟨y, ?_⟩, hit'.at fun o q => (sb.2 it (Ne.symm hne)).trans q, hne⟩, fun b hb => ?_⟩
    · have e1 : ((i + 1 : Nat) : Int) = (i : Int) + 1 := by omega
      rw [e1]; exact he'
    · have hb' : b < s.heap.objs.size := by
        have e' : b = e ∨ b = it := by simpa using hb
        rcases e' with z | z
        · rw [z]; exact hel
        · rw [z]; exact hil
      rw [upd_ne (Nat.ne_of_lt hb')]
      exact (hf b hb).1
  done := by
    intro X hP hw hK hc i pins s σ H E I hf st hg
    subst hP hw hK
    obtain ⟨⟨old, he⟩, hit, hne⟩ := st
    obtain ⟨xs, hq, hx⟩ := hg
    obtain ⟨its, rv, p, hz⟩ := I.tuple hq
    obtain ⟨f0, f1, f2, f3, f4, f5⟩ := hf it (by simp)
    have hl := rv.length
    have p' : s.heap.IsTuple a its.toArray := p
    exact enum_endT (I.ok.hd hc) he hit p' (by simp; omega) fun h' eb => ⟨rfl, I.turned (t' := s.toks) (fun b o hb q => eb b o hb q) f0 f1 f3 f4 f5⟩
  self := fun A i s Q E st h => let ⟨⟨_, he⟩, _⟩ := st; wpAny_pyIter_enum he h
/-- the signs of a text, each in a new pair -/
def IteS (x : Str) : It := ⟨fun i _ => i < x.cps.size, fun i H v H' => ∃ T c, v = .ref T ∧ H T = none ∧ x.cps[i]? = some c ∧ H' = upd H T (.tup [.int (i : Nat), .str ⟨#[c]⟩]), fun i _ => x.cps.size ≤ i⟩
theorem turn_enumS {P : Program} {w : World} {K : PySem.W.Frag} {elts : List Expr} {kk : Nat} {tpos : Pos} (e it : Addr) (x : Str) (t : Tok) :
    Turn P w K (.Tuple elts kk tpos) (IteS x) [e, it] e (fun i h => (∃ old, IsEnum h e it ((i : Nat) : Int) old) ∧ (h.IsStrIter it (strIterType x) x t i ∧ i ≤ x.cps.size) ∧ e ≠ it) where
  mem := by simp
  obj := fun i h st b hb => by
    obtain ⟨⟨old, he⟩, ⟨⟨o, ho, hc, hd⟩, _⟩, _⟩ := st
    have e' : b = e ∨ b = it := by simpa using hb
    rcases e' with z | z
    · rw [z]; exact ⟨_, he, fun v q => nomatch q⟩
    · rw [z]; exact ⟨o, ho, fun v q => by rw [hd] at q; cases q⟩
  keep := fun i h h' st k => let ⟨⟨old, he⟩, ⟨⟨o, ho, r⟩, hi⟩, hne⟩ := st; ⟨⟨old, k e (by simp) _ he⟩, ⟨⟨o, k it (by simp) o ho, r⟩, hi⟩, hne⟩
  item := by
    intro X hP hw hK hc i pins s σ H E I hf st hg
    subst hP hw hK
    obtain ⟨⟨old, he⟩, ⟨hit, hi⟩, hne⟩ := st
    have hg : i < x.cps.size := hg
    have hel : e < s.heap.objs.size := Heap.lt_size he
    have hil : it < s.heap.objs.size := by obtain ⟨_, q, _⟩ := hit; exact Heap.lt_size q
    have D := Draws.text (prog := X.prog) (w := X.w) (A := X.A.in1) (I.ok.hd hc) it x t
    refine wpAny_pyNext_enum_itemD D he hit hg hne (by simp [hne]) fun y h' tk hy ho hst hT hsz hk => ?_
    obtain ⟨c, u, hcx, ey⟩ := hy
    subst ey
    refine ⟨_, rfl, wpAny_letOwnedTupleGo_enum (s := { s with heap := h', toks := tk + 1 }) ho fun h'' he' sb => ?_⟩
    have hT2 : h''.get? s.heap.objs.size = some { cls := .type "tuple", data := .seq #[.int i tk, .str ⟨#[c]⟩ u] } := (sb.2 _ (Nat.ne_of_gt hel)).trans hT
    have new : ObjOk X.prog X.w (upd H s.heap.objs.size (.tup [.int (i : Nat), .str ⟨#[c]⟩])) h'' s.heap.objs.size (.tup [.int (i : Nat), .str ⟨#[c]⟩]) :=
      ⟨by show 2 ≤ sizeLine; decide, [.int i tk, .str ⟨#[c]⟩ u], .cons ⟨_, rfl⟩ (.cons ⟨u, rfl⟩ .nil), ⟨_, hT2, rfl, _, rfl⟩⟩
    have I1 : Inv X pins σ (upd H s.heap.objs.size (.tup [.int (i : Nat), .str ⟨#[c]⟩])) { s with heap := h'', toks := tk + 1 } :=
      I.turnedNew (ch := [e, it]) (fun b ob hb q => (sb.2 b (fun z => hb (by simp [z]))).trans (hk b ob (fun z => hb (by simp [z])) (fun z => hb (by simp [z])) q)) hf (Nat.le_refl _) new
    obtain ⟨oi, hoi, r1⟩ := hst
    refine ⟨.ref s.heap.objs.size, _, I1, rfl, ⟨_, c, rfl, I.hok.fresh (Nat.le_refl _), hcx, rfl⟩, ⟨⟨.str ⟨#[c]⟩ u, ?_⟩, ⟨⟨oi, (sb.2 it (Ne.symm hne)).trans hoi, r1⟩, by omega⟩, hne⟩, fun b hb => ?_⟩
    · have e1 : ((i + 1 : Nat) : Int) = (i : Int) + 1 := by omega
      rw [e1]; exact he'
    · have hb' : b < s.heap.objs.size := by
        have e' : b = e ∨ b = it := by simpa using hb
        rcases e' with z | z
        · rw [z]; exact hel
        · rw [z]; exact hil
      rw [upd_ne (Nat.ne_of_lt hb')]
      exact (hf b hb).1
  done := by
    intro X hP hw hK hc i pins s σ H E I hf st hg
    subst hP hw hK
    obtain ⟨⟨old, he⟩, ⟨hit, hi⟩, hne⟩ := st
    have hg : x.cps.size ≤ i := hg
    have ei : i = x.cps.size := by omega
    subst ei
    obtain ⟨f0, f1, f2, f3, f4, f5⟩ := hf it (by simp)
    have D := Draws.text (prog := X.prog) (w := X.w) (A := X.A.in1) (I.ok.hd hc) it x t
    exact wpAny_pyNext_enum_endD D he hit fun h' eb => ⟨rfl, I.turned (t' := s.toks) (fun b o hb q => eb b o hb q) f0 f1 f3 f4 f5⟩
  self := fun A i s Q E st h => let ⟨⟨_, he⟩, _⟩ := st; wpAny_pyIter_enum he h
/-- enumerate of a list, a tuple, a text -/
theorem pi_enumA {X : Cx} {e : Expr} {ta : TA} {p pos tpos : Pos} {elts : List Expr} {kk : Nat} (hg : Gl X "enumerate") (hm : X.mg "enumerate" = none) (ha : PA X [e] ta) (hs : starEach [e] X.env = [(false, eval e X.env)] := by rfl) :
    PI X (.Tuple elts kk tpos) (.Call (.Name "enumerate" p) [e] [] pos) (fun σ H R => ta σ H fun vs H1 => (∃ a xs, vs = [.ref a] ∧ SqL X.K H1 a xs ∧ R (Ite X.K a) H1) ∨ (∃ a xs, vs = [.ref a] ∧ SqT X.K H1 a xs ∧ R (IteT X.K a) H1) ∨ ∃ x, vs = [.str x] ∧ R (IteS x) H1) := by
  refine ⟨fun pins s σ H R I h => ?_⟩
  refine Call_ (ld_blt I hg hm boot_enumerate (PyProof.Rows.callWith_type1 (thn (ha.run pos pins s σ H _ I h) fun us s1 ⟨vs, H1, I1, r1, q1⟩ => ?_) hs rfl))
  have fpo : ∀ {h' : Heap} {tk : Nat}, (∀ b o, s1.heap.get? b = some o → h'.get? b = some o) → ∀ b ∈ [s1.heap.objs.size + 1, s1.heap.objs.size], FpOk X pins H1 b := fun {h' tk} hk b hb => by
    have e' : b = s1.heap.objs.size + 1 ∨ b = s1.heap.objs.size := by simpa using hb
    have hle : s1.heap.objs.size ≤ b := by
      rcases e' with z | z
      · rw [z]; exact Nat.le_add_right _ _
      · rw [z]; exact Nat.le_refl _
    exact I1.fpOk hle (I1.hok.fresh hle)
  rcases q1 with ⟨a, xs, ex, hq, q⟩ | ⟨a, xs, ex, hq, q⟩ | ⟨x, ex, q⟩
  · subst ex
    cases r1 with
    | cons r rr =>
      cases rr
      cases r
      obtain ⟨its, rv, p', hz⟩ := I1.list hq
      refine call_enumerate_list p'.isList fun h' he hit hsz hk => wpAny_pyIter_enum he ?_
      have I2 : Inv X pins σ H1 { s1 with heap := h' } := I1.kept (t' := s1.toks) hk
      exact ⟨s1.heap.objs.size + 1, [s1.heap.objs.size + 1, s1.heap.objs.size], _, _, H1, rfl, I2, turn_enum a (s1.heap.objs.size + 1) s1.heap.objs.size, ⟨⟨.none, he⟩, hit, Nat.succ_ne_self _⟩, fpo (tk := s1.toks) hk, q⟩
  · subst ex
    cases r1 with
    | cons r rr =>
      cases rr
      cases r
      obtain ⟨its, rv, p', hz⟩ := I1.tuple hq
      have p2 : s1.heap.IsTuple a its.toArray := p'
      refine enum1_begins (begins_tuple a its.toArray) p2 fun h' he hit hsz hk => wpAny_pyIter_enum he ?_
      have I2 : Inv X pins σ H1 { s1 with heap := h' } := I1.kept (t' := s1.toks) hk
      have hal : a < s1.heap.objs.size := by obtain ⟨_, q, _⟩ := p2; exact Heap.lt_size q
      exact ⟨s1.heap.objs.size + 1, [s1.heap.objs.size + 1, s1.heap.objs.size], _, _, H1, rfl, I2, turn_enumT a (s1.heap.objs.size + 1) s1.heap.objs.size (Nat.ne_of_lt hal) (Nat.ne_of_gt (Nat.lt_succ_of_lt hal)), ⟨⟨.none, he⟩, ⟨_, hit, rfl, rfl⟩, Nat.succ_ne_self _⟩, fpo (tk := s1.toks) hk, q⟩
  · subst ex
    cases r1 with
    | cons r rr =>
      cases rr
      obtain ⟨t, rfl⟩ := r
      refine call_enumerate_str fun h' he hit hsz hk => wpAny_pyIter_enum he ?_
      have I2 : Inv X pins σ H1 { s1 with heap := h' } := I1.kept (t' := s1.toks) hk
      exact ⟨s1.heap.objs.size + 1, [s1.heap.objs.size + 1, s1.heap.objs.size], _, _, H1, rfl, I2, turn_enumS (s1.heap.objs.size + 1) s1.heap.objs.size x t, ⟨⟨.none, he⟩, ⟨hit, Nat.zero_le _⟩, Nat.succ_ne_self _⟩, fpo (tk := s1.toks) hk, q⟩
end KM

namespace KM
open PySem PySem.Spec PyProof.Rows L2

/-! ### what is walked -/
/-- the model's iterator goes as the evaluator's, from this state on -/
def IR (Γ : Gam) (K : PySem.W.Frag) (H : Hp) (ρ : List Addr) (it : IterV) (J : It) : Prop :=
  ∀ ρ' H' g', Ext ρ H ρ' H' → RG Γ K H' ρ' g' →
    (∀ i v, nxt g' i it = some (some v) → J.go i H' ∧ ∀ x H'', J.yld i H' x H'' → Ext ρ' H' ρ' H'' ∧ RG Γ K H'' ρ' g' ∧ RV K H'' ρ' v x) ∧ (∀ i, nxt g' i it = some none → J.stop i H')
section
variable {Γ : Gam} {K : PySem.W.Frag} {H : Hp} {ρ : List Addr} {g : Gh}
theorem IR.go {H1 : Hp} {ρ1 : List Addr} {it : IterV} {J : It} (h : IR Γ K H ρ it J) (e : Ext ρ H ρ1 H1) : IR Γ K H1 ρ1 it J := fun ρ' H' g' e' r => h ρ' H' g' (e.trans e') r
theorem SqT.go' {a : Addr} {vs : List V} {H' : Hp} {ρ' : List Addr} (h : SqT K H a vs) (rg : RG Γ K H ρ g) (e : Ext ρ H ρ' H') : SqT K H' a vs := by
  have : RV K H ρ (.tup []) (.ref a) → True := fun _ => trivial
  rcases h with (h1 | ⟨o, h1⟩) | h1
  · refine .inl (.inl (e.keep _ _ h1 fun m => ?_))
    obtain ⟨o, ho, mo⟩ := rg.typ a m
    rw [h1] at ho; cases ho; exact mo
  · refine .inl (.inr ⟨o, e.keep _ _ h1 fun m => ?_⟩)
    obtain ⟨o', ho, mo⟩ := rg.typ a m
    rw [h1] at ho; cases ho; exact mo
  · exact .inr h1
theorem SqF.go' {a : Addr} {vs : List V} {H' : Hp} {ρ' : List Addr} (h : SqF K H a vs) (rg : RG Γ K H ρ g) (e : Ext ρ H ρ' H') : SqF K H' a vs := by
  rcases h with ⟨o, h1⟩ | h1
  · refine .inl ⟨o, e.keep _ _ h1 fun m => ?_⟩
    obtain ⟨o', ho, mo⟩ := rg.typ a m
    rw [h1] at ho; cases ho; exact mo
  · exact .inr h1
theorem ir_tup {a : Addr} {vs : List V} {xs : List Val} (rg : RG Γ K H ρ g) (hs : SqT K H a vs) (hv : RVs K H ρ xs vs) : IR Γ K H ρ (.items xs) (Itt K a) := fun ρ' H' g' e r => by
  have hs' := SqT.go' hs rg e
  have hv' := hv.go rg e
  refine ⟨fun i v h => ?_, fun i h => ?_⟩
  · have h : xs[i]? = some v := Option.some.inj h
    obtain ⟨y, h1, h2⟩ := hv'.get h
    refine ⟨⟨vs, y, hs', h1⟩, ?_⟩
    rintro x H'' ⟨e1, e2⟩
    subst e1
    have := (e2 vs hs').symm.trans h1
    cases this
    exact ⟨.refl, r, h2⟩
  · have h : xs[i]? = none := Option.some.inj h
    exact ⟨vs, hs', by rw [hv'.length]; exact List.getElem?_eq_none_iff.mp h⟩
theorem ir_rol {a : Addr} {vs : List V} {xs : List Val} (rg : RG Γ K H ρ g) (hs : SqF K H a vs) (hv : RVs K H ρ xs vs) : IR Γ K H ρ (.items xs) (Itl K a) := fun ρ' H' g' e r => by
  have hs' := (SqF.go' hs rg e).sql
  have hv' := hv.go rg e
  refine ⟨fun i v h => ?_, fun i h => ?_⟩
  · have h : xs[i]? = some v := Option.some.inj h
    obtain ⟨y, h1, h2⟩ := hv'.get h
    refine ⟨⟨vs, y, hs', h1⟩, ?_⟩
    rintro x H'' ⟨e1, e2⟩
    subst e1
    have := (e2 vs hs').symm.trans h1
    cases this
    exact ⟨.refl, r, h2⟩
  · have h : xs[i]? = none := Option.some.inj h
    exact ⟨vs, hs', by rw [hv'.length]; exact List.getElem?_eq_none_iff.mp h⟩
theorem ir_cell {a : Addr} {n : Nat} (ha : ρ[n]? = some a) : IR Γ K H ρ (.cell n) (Itl K a) := fun ρ' H' g' e r => by
  have ha' := e.pre n a ha
  refine ⟨fun i v h => ?_, fun i h => ?_⟩
  · obtain ⟨xs, h1, h2⟩ := Option.map_eq_some_iff.mp (show (lstAt g' n).map (fun xs => xs[i]?) = some (some v) from h)
    obtain ⟨b, vs, hb, ep, hv⟩ := r.lstAt h1
    rw [ha'] at hb; cases hb
    obtain ⟨y, h3, h4⟩ := hv.get h2
    refine ⟨⟨vs, y, .of ep, h3⟩, ?_⟩
    rintro x H'' ⟨e1, e2⟩
    subst e1
    have := (e2 vs (.of ep)).symm.trans h3
    cases this
    exact ⟨.refl, r, h4⟩
  · obtain ⟨xs, h1, h2⟩ := Option.map_eq_some_iff.mp (show (lstAt g' n).map (fun xs => xs[i]?) = some none from h)
    obtain ⟨b, vs, hb, ep, hv⟩ := r.lstAt h1
    rw [ha'] at hb; cases hb
    exact ⟨vs, .of ep, by rw [hv.length]; exact List.getElem?_eq_none_iff.mp h2⟩
theorem ir_enm {a : Addr} {n : Nat} (ha : ρ[n]? = some a) : IR Γ K H ρ (.enm n) (Ite K a) := fun ρ' H' g' e r => by
  have ha' := e.pre n a ha
  refine ⟨fun i v h => ?_, fun i h => ?_⟩
  · obtain ⟨xs, h1, h2⟩ := Option.map_eq_some_iff.mp (show (lstAt g' n).map (fun xs => (xs[i]?).map fun v => Val.tup [.int i, v]) = some (some v) from h)
    obtain ⟨z, hz, e3⟩ := Option.map_eq_some_iff.mp h2
    subst e3
    obtain ⟨b, vs, hb, ep, hv⟩ := r.lstAt h1
    rw [ha'] at hb; cases hb
    obtain ⟨y, h3, h4⟩ := hv.get hz
    refine ⟨⟨vs, y, .of ep, h3⟩, ?_⟩
    rintro x H'' ⟨T, y', e1, nT, e2, e4⟩
    subst e1 e2
    have := (e4 vs (.of ep)).symm.trans h3
    cases this
    have ex := ext_tup (o := .tup [.int (i : Nat), y]) r nT
    exact ⟨ex, rg_tup r nT, T, _, rfl, .inl upd_same, _, _, rfl, rfl, _, _, rfl, h4.go r ex, rfl⟩
  · obtain ⟨xs, h1, h2⟩ := Option.map_eq_some_iff.mp (show (lstAt g' n).map (fun xs => (xs[i]?).map fun v => Val.tup [.int i, v]) = some none from h)
    obtain ⟨b, vs, hb, ep, hv⟩ := r.lstAt h1
    rw [ha'] at hb; cases hb
    rw [Option.map_eq_none_iff] at h2
    exact ⟨vs, .of ep, by rw [hv.length]; exact List.getElem?_eq_none_iff.mp h2⟩
theorem enL_get : ∀ (xs : List Val) (n k : Nat), (enL n xs)[k]? = (xs[k]?).map fun v => Val.tup [.int ((n + k : Nat) : Int), v]
  | [], n, k => by simp [enL]
  | x :: xs, n, 0 => by simp [enL]
  | x :: xs, n, k + 1 => by
    show (enL (n + 1) xs)[k]? = _
    rw [enL_get xs (n + 1) k, List.getElem?_cons_succ, show n + 1 + k = n + (k + 1) by omega]
theorem ir_enmT {a : Addr} {vs : List V} {xs : List Val} (rg : RG Γ K H ρ g) (hs : SqT K H a vs) (hv : RVs K H ρ xs vs) : IR Γ K H ρ (.items (enL 0 xs)) (IteT K a) := fun ρ' H' g' e r => by
  have hs' := SqT.go' hs rg e
  have hv' := hv.go rg e
  refine ⟨fun i v h => ?_, fun i h => ?_⟩
  · have h : (enL 0 xs)[i]? = some v := Option.some.inj h
    rw [enL_get, Nat.zero_add] at h
    obtain ⟨z, hz, e3⟩ := Option.map_eq_some_iff.mp h
    subst e3
    obtain ⟨y, h3, h4⟩ := hv'.get hz
    refine ⟨⟨vs, y, hs', h3⟩, ?_⟩
    rintro x H'' ⟨T, y', e1, nT, e2, e4⟩
    subst e1 e2
    have := (e4 vs hs').symm.trans h3
    cases this
    have ex := ext_tup (o := .tup [.int (i : Nat), y]) r nT
    exact ⟨ex, rg_tup r nT, T, _, rfl, .inl upd_same, _, _, rfl, rfl, _, _, rfl, h4.go r ex, rfl⟩
  · have h : (enL 0 xs)[i]? = none := Option.some.inj h
    rw [enL_get, Option.map_eq_none_iff] at h
    exact ⟨vs, hs', by rw [hv'.length]; exact List.getElem?_eq_none_iff.mp h⟩
theorem ir_enmS {cs : List Nat} (hcs : ∀ c ∈ cs, c < 1114112) : IR Γ K H ρ (.items (enL 0 (cs.map fun c => .str [c]))) (IteS (toS cs)) := fun ρ' H' g' e r => by
  have hsz : (toS cs).cps.size = cs.length := by simp
  refine ⟨fun i v h => ?_, fun i h => ?_⟩
  · have h : (enL 0 (cs.map fun c => Val.str [c]))[i]? = some v := Option.some.inj h
    rw [enL_get, Nat.zero_add, List.getElem?_map, Option.map_map] at h
    obtain ⟨z, hz, e3⟩ := Option.map_eq_some_iff.mp h
    subst e3
    refine ⟨by show i < _; rw [hsz]; exact (List.getElem?_eq_some_iff.mp hz).1, ?_⟩
    rintro x H'' ⟨T, c, e1, nT, hc, e2⟩
    subst e1 e2
    have hc : (toS cs).cps.toList[i]? = some c := by simpa using hc
    have hc2 : cs[i]? = some c := by simpa using hc
    rw [hz] at hc2
    cases hc2
    have ex := ext_tup (o := .tup [.int (i : Nat), .str ⟨#[z]⟩]) r nT
    exact ⟨ex, rg_tup r nT, T, _, rfl, .inl upd_same, _, _, rfl, rfl, _, _, rfl, ⟨rfl, by show 1 ≤ 1000000; omega, fun d hd => by rw [List.mem_singleton.mp hd]; exact hcs z (List.mem_of_getElem? hz)⟩, rfl⟩
  · have h : (enL 0 (cs.map fun c => Val.str [c]))[i]? = none := Option.some.inj h
    rw [enL_get, Option.map_eq_none_iff, List.getElem?_map, Option.map_eq_none_iff] at h
    show (toS cs).cps.size ≤ i
    rw [hsz]
    exact List.getElem?_eq_none_iff.mp h
theorem ir_zp {a b : Addr} {m n : Nat} (ha : ρ[m]? = some a) (hb : ρ[n]? = some b) : IR Γ K H ρ (.zp m n) (Itz K a b) := fun ρ' H' g' e r => by
  have ha' := e.pre m a ha
  have hb' := e.pre n b hb
  refine ⟨fun i v h => ?_, fun i h => ?_⟩
  · simp only [nxt] at h
    split at h
    · rename_i xs ys h1 h2
      split at h
      · rename_i v1 w1 h3 h4
        cases h
        obtain ⟨a1, vs, q1, ep, hv⟩ := r.lstAt h1
        obtain ⟨b1, ws, q2, eq, hw⟩ := r.lstAt h2
        rw [ha'] at q1; cases q1
        rw [hb'] at q2; cases q2
        obtain ⟨y, h5, h6⟩ := hv.get h3
        obtain ⟨z, h7, h8⟩ := hw.get h4
        refine ⟨⟨vs, ws, y, z, .of ep, .of eq, h5, h7⟩, ?_⟩
        rintro x H'' ⟨T, y', z', e1, nT, e2, e4, e5⟩
        subst e1 e2
        have := (e4 vs (.of ep)).symm.trans h5
        cases this
        have := (e5 ws (.of eq)).symm.trans h7
        cases this
        have ex := ext_tup (o := .tup [y, z]) r nT
        exact ⟨ex, rg_tup r nT, T, _, rfl, .inl upd_same, _, _, rfl, h6.go r ex, _, _, rfl, h8.go r ex, rfl⟩
      · cases h
    · cases h
  · simp only [nxt] at h
    split at h
    · rename_i xs ys h1 h2
      obtain ⟨a1, vs, q1, ep, hv⟩ := r.lstAt h1
      obtain ⟨b1, ws, q2, eq, hw⟩ := r.lstAt h2
      rw [ha'] at q1; cases q1
      rw [hb'] at q2; cases q2
      split at h
      · cases h
      · rename_i hn
        refine ⟨vs, ws, .of ep, .of eq, ?_⟩
        rw [hv.length, hw.length]
        by_cases l1 : xs.length ≤ i
        · exact .inl l1
        · by_cases l2 : ys.length ≤ i
          · exact .inr l2
          · exact absurd (List.getElem?_eq_getElem (by omega : i < ys.length)) (hn _ _ (List.getElem?_eq_getElem (by omega)))
    · cases h
theorem ir_str {cs : List Nat} (hz : ∀ c ∈ cs, c < 1114112) : IR Γ K H ρ (.items (cs.map fun c => .str [c])) (Its (toS cs)) := fun ρ' H' g' e r => by
  refine ⟨fun i v h => ?_, fun i h => ?_⟩
  · have h : (cs.map fun c => Val.str [c])[i]? = some v := Option.some.inj h
    rw [List.getElem?_map] at h
    obtain ⟨c, hc, e1⟩ := Option.map_eq_some_iff.mp h
    subst e1
    have hl := (List.getElem?_eq_some_iff.mp hc).1
    refine ⟨by show i < cs.toArray.size; simpa using hl, ?_⟩
    rintro x H'' ⟨e1, d, hd, e2⟩
    subst e1 e2
    have : d = c := by
      have hd : cs[i]? = some d := by simpa using hd
      rw [hc] at hd; cases hd; rfl
    subst this
    exact ⟨.refl, r, rfl, by show 1 ≤ SL; decide, fun q hq => by rw [List.mem_singleton.mp hq]; exact hz d (List.mem_of_getElem? hc)⟩
  · have h : (cs.map fun c => Val.str [c])[i]? = none := Option.some.inj h
    have := List.getElem?_eq_none_iff.mp h
    show cs.toArray.size ≤ i
    simpa using this
theorem range_get (f : Nat → Val) {n i : Nat} {v : Val} (h : ((List.range n).map f)[i]? = some v) : i < n ∧ v = f i := by
  rw [List.getElem?_map] at h
  obtain ⟨k, hk, e⟩ := Option.map_eq_some_iff.mp h
  obtain ⟨h1, h2⟩ := List.getElem?_eq_some_iff.mp hk
  rw [List.getElem_range] at h2
  subst h2
  exact ⟨by simpa using h1, e.symm⟩
theorem ir_range {lo : Int} {n : Nat} : IR Γ K H ρ (.items ((List.range n).map fun (k : Nat) => .int (lo + (k : Int)))) (Itr lo n) := fun ρ' H' g' e r => by
  refine ⟨fun i v h => ?_, fun i h => ?_⟩
  · obtain ⟨h1, h2⟩ := range_get _ (Option.some.inj h)
    subst h2
    refine ⟨h1, ?_⟩
    rintro x H'' ⟨e1, e2⟩
    subst e1 e2
    exact ⟨.refl, r, rfl⟩
  · have := List.getElem?_eq_none_iff.mp (Option.some.inj h)
    show n ≤ i
    simpa using this
theorem ir_rangeC {lo c : Int} {n : Nat} : IR Γ K H ρ (.items ((List.range n).map fun (k : Nat) => .int (lo + (k : Int) * c))) (Itc lo c n) := fun ρ' H' g' e r => by
  refine ⟨fun i v h => ?_, fun i h => ?_⟩
  · obtain ⟨h1, h2⟩ := range_get _ (Option.some.inj h)
    subst h2
    refine ⟨h1, ?_⟩
    rintro x H'' ⟨e1, e2⟩
    subst e1 e2
    exact ⟨.refl, r, rfl⟩
  · have := List.getElem?_eq_none_iff.mp (Option.some.inj h)
    show n ≤ i
    simpa using this
end
section
variable {T : Tab} {Γ : Gam} {call : Call} {X : Cx} {sc : Scope} {N : List Str} {k : Nat} {W : WX}
/-- the walked thing's reading -/
def tI (Γ : Gam) (K : PySem.W.Frag) (W : WX) (k : IK) (f : Env → Gh → R (List Val)) : TI := fun σ H R => ∃ ρ g s, RS K H ρ s σ ∧ RG Γ K H ρ g ∧
  FinG Γ K (fun H ρ it J => IR Γ K H ρ it J) W σ ρ H ((f s g).bind fun vs g1 => match mkIter k vs g1 with
    | some it => .ok it g1
    | none => .bad) R
/-- a list, a tuple, a text, by its value -/
theorem pi_any {tg l : Expr} {tl : TE} (hl : PE X l tl) : PI X tg l (fun σ H R => tl σ H fun x H1 => (∃ a, x = .ref a ∧ (∃ xs, SqL X.K H1 a xs) ∧ R (Itl X.K a) H1) ∨ (∃ a, x = .ref a ∧ (∃ xs, SqT X.K H1 a xs) ∧ R (Itt X.K a) H1) ∨ ∃ z, x = .str z ∧ R (Its z) H1) := by
  refine ⟨fun pins s σ H R I h => ?_⟩
  refine thn (hl.run pins s σ H _ I h) fun v s1 ⟨x, H1, I1, r1, q1⟩ => ?_
  rcases q1 with ⟨a, e, ⟨xs, hq⟩, q⟩ | ⟨a, e, ⟨xs, hq⟩, q⟩ | ⟨z, e, q⟩
  · subst e
    cases r1
    obtain ⟨its, rv, p, hz⟩ := I1.list hq
    refine wpAny_pyIter_list p.isList ?_
    refine ⟨s1.heap.objs.size, [s1.heap.objs.size], _, _, H1, rfl, I1.kept (t' := s1.toks) fun b o e => Heap.get?_push_of_some _ e, turn_list a _, ⟨_, Heap.get?_push_size _ rfl, rfl, rfl⟩, fun b hb => ?_, q⟩
    have e : b = s1.heap.objs.size := by simpa using hb
    subst e
    exact I1.fpOk (Nat.le_refl _) (I1.hok.fresh (Nat.le_refl _))
  · subst e
    cases r1
    obtain ⟨its, rv, p, hz⟩ := I1.tuple hq
    refine wpAny_pyIter_tuple (show s1.heap.IsTuple a its.toArray from p) ?_
    refine ⟨s1.heap.objs.size, [s1.heap.objs.size], _, _, H1, rfl, I1.kept (t' := s1.toks) fun b o e => Heap.get?_push_of_some _ e, turn_tuple a _, ⟨_, Heap.get?_push_size _ rfl, rfl, rfl⟩, fun b hb => ?_, q⟩
    have e : b = s1.heap.objs.size := by simpa using hb
    subst e
    exact I1.fpOk (Nat.le_refl _) (I1.hok.fresh (Nat.le_refl _))
  · subst e
    obtain ⟨t, rfl⟩ := r1
    cases ha : z.cps.all (· < 128)
    · exact wpAny_pyIter_wide ha (pi_one (tk := s1.toks) I1 _ (turn_str _ z t "str_iterator" (.inr rfl)) ⟨_, Heap.get?_push_size _ rfl, rfl, rfl⟩ q)
    · exact wpAny_pyIter_ascii ha (pi_one (tk := s1.toks) I1 _ (turn_str _ z t "str_ascii_iterator" (.inl rfl)) ⟨_, Heap.get?_push_size _ rfl, rfl, rfl⟩ q)
theorem i_plain {a : E} {tg x : Expr} (ha : PE X x (tE Γ X.K W (ev call a))) : PI X tg x (tI Γ X.K W .plain (evs call (.cons a .nil))) := by
  refine pi_imp (pi_any ha) fun σ H R ⟨ρ, g, s, rs, rg, h⟩ => ⟨ρ, g, s, rs, rg, ?_⟩
  have h : FinG Γ X.K _ W σ ρ H ((((ev call a s g).bind fun v g1 => KM.R.ok [v] g1)).bind _) R := h
  have e : ∀ (r : KM.R Val) (k2 : List Val → Gh → KM.R IterV), ((r.bind fun v g1 => KM.R.ok [v] g1)).bind k2 = r.bind fun v g1 => k2 [v] g1 := fun r k2 => by cases r <;> rfl
  rw [e] at h
  refine (two rs rg h).mono ?_
  rintro v' H1 ⟨ρ1, g1, v, rs1, rg1, rv, e1, h1⟩
  have h1 : FinG Γ X.K (fun H ρ it J => IR Γ X.K H ρ it J) W σ ρ1 H1 (match iterOf v g1 with
    | some it => .ok it g1
    | none => .bad) R := h1
  split at h1
  · rename_i it hit
    have q : ∀ J, IR Γ X.K H1 ρ1 it J → R J H1 := fun J hJ => h1 J ρ1 H1 .refl rg1 hJ
    unfold iterOf at hit
    split at hit
    · cases hit
      obtain ⟨p, vs, rfl, hp, hv⟩ := rv
      exact .inr (.inl ⟨p, rfl, ⟨vs, hp.t⟩, q _ (ir_tup rg1 hp.t hv)⟩)
    · cases hit
      exact .inr (.inr ⟨_, rv.1, q _ (ir_str rv.2.2)⟩)
    · cases hit
      obtain ⟨p, vs, rfl, hp, hv⟩ := rv
      exact .inl ⟨p, rfl, ⟨vs, hp.sql⟩, q _ (ir_rol rg1 hp hv)⟩
    · split at hit
      · rename_i hs
        cases hit
        obtain ⟨xs, hx⟩ := Option.isSome_iff_exists.mp hs
        obtain ⟨p, rfl, hp⟩ := rv
        obtain ⟨p', vs, hp', ep, hv⟩ := rg1.lstAt hx
        rw [hp] at hp'; cases hp'
        exact .inl ⟨p, rfl, ⟨vs, .of ep⟩, q _ (ir_cell hp)⟩
      · cases hit
    · cases hit
  · exact h1.elim
theorem rgC_up {i j c : Int} (ha : -(2 ^ 62) ≤ i) (ha' : i < 2 ^ 62) (hb : -(2 ^ 62) ≤ j) (hb' : j < 2 ^ 62) (c1 : 0 < c) (c2 : c < 1000000) : RgC i j c (stepN i j c) := by
  have hsz : Builtin.Range.rangeSize i j c = (stepN i j c : Int) := by
    unfold Builtin.Range.rangeSize stepN
    rw [if_pos c1]
    split
    · have : 0 ≤ (j - i - 1) / c := Int.ediv_nonneg (by omega) (by omega)
      omega
    · rfl
  have hle : (stepN i j c : Int) ≤ 2 ^ 63 - 1 := by
    unfold stepN
    split
    · have h1 : (j - i - 1) / c ≤ j - i - 1 := Int.ediv_le_self _ (by omega)
      have h2 : 0 ≤ (j - i - 1) / c := Int.ediv_nonneg (by omega) (by omega)
      omega
    · omega
  refine ⟨by omega, by omega, ?_, hsz⟩
  unfold Builtin.Range.small
  rw [hsz]
  simp only [Builtin.Range.rangeFitsLong, Bool.and_eq_true, Bool.or_eq_true, decide_eq_true_eq, beq_iff_eq, show c > 0 from c1, if_true]
  omega
theorem i_range1 {es : Es} {tg x : Expr} {p pos : Pos} (hg : Gl X "range") (hm : X.mg "range" = none) (ha : PA X [x] (tA Γ X.K W (evs call es))) (hs : starEach [x] X.env = [(false, eval x X.env)])
    (hl : ∀ s g vs g1, evs call es s g = .ok vs g1 → vs.length = 1) : PI X tg (.Call (.Name "range" p) [x] [] pos) (tI Γ X.K W .range (evs call es)) := by
  refine pi_imp (pi_range1 hg hm ha hs) fun σ H R ⟨ρ, g, s, rs, rg, h⟩ => ⟨ρ, g, s, rs, rg, ?_⟩
  have hl := hl s g
  generalize evs call es s g = r at h hl
  cases r with
  | bad => exact h
  | exn x g => exact h
  | ok vs g1 =>
    intro ws ρ1 H1 e1 rg1 rv
    have h2 := FinG.go h e1
    have h3 := hl vs g1 rfl
    simp only [KM.R.bind] at h2
    split at h2
    · rename_i it hit
      have hit : mkRange vs = some it := hit
      unfold mkRange at hit
      split at hit <;> first | cases hit | cases h3 | skip
      · split at hit
        · rename_i hj
          cases hit
          obtain ⟨y, rfl, hy⟩ := RVs.one_of rv
          obtain ⟨b1, b2⟩ := intsIn_iff hj
          refine ⟨_, by rw [show y = .int _ from hy], by omega, b2, ?_⟩
          exact h2 _ ρ1 H1 .refl rg1 ir_range
        · cases hit
    · exact h2.elim
theorem i_range2 {es : Es} {tg x y : Expr} {p pos : Pos} (hg : Gl X "range") (hm : X.mg "range" = none) (ha : PA X [x, y] (tA Γ X.K W (evs call es))) (hs : starEach [x, y] X.env = [(false, eval x X.env), (false, eval y X.env)]) (hs2 : starEach [y] X.env = [(false, eval y X.env)])
    (hl : ∀ s g vs g1, evs call es s g = .ok vs g1 → vs.length = 2) : PI X tg (.Call (.Name "range" p) [x, y] [] pos) (tI Γ X.K W .range (evs call es)) := by
  refine pi_imp (pi_range2 hg hm ha hs hs2) fun σ H R ⟨ρ, g, s, rs, rg, h⟩ => ⟨ρ, g, s, rs, rg, ?_⟩
  have hl := hl s g
  generalize evs call es s g = r at h hl
  cases r with
  | bad => exact h
  | exn x g => exact h
  | ok vs g1 =>
    intro ws ρ1 H1 e1 rg1 rv
    have h2 := FinG.go h e1
    have h3 := hl vs g1 rfl
    simp only [KM.R.bind] at h2
    split at h2
    · rename_i it hit
      have hit : mkRange vs = some it := hit
      unfold mkRange at hit
      split at hit <;> first | cases hit | cases h3 | skip
      · split at hit
        · rename_i hj
          cases hit
          rw [Bool.and_eq_true_iff] at hj
          obtain ⟨y, z, rfl, hy, hz⟩ := RVs.two_of rv
          obtain ⟨b1, b2⟩ := intsIn_iff hj.1
          obtain ⟨b3, b4⟩ := intsIn_iff hj.2
          refine ⟨_, _, by rw [show y = .int _ from hy, show z = .int _ from hz], ⟨by omega, b2, by omega, b4⟩, ?_⟩
          exact h2 _ ρ1 H1 .refl rg1 ir_range
        · cases hit
    · exact h2.elim
theorem i_range3 {es : Es} {tg x y z : Expr} {p pos : Pos} (hg : Gl X "range") (hm : X.mg "range" = none) (ha : PA X [x, y, z] (tA Γ X.K W (evs call es))) (hs : starEach [x, y, z] X.env = (false, eval x X.env) :: starEach [y, z] X.env) (hpl : (backTo pos (starEach [y, z] X.env)).any (·.1) = false)
    (hl : ∀ s g vs g1, evs call es s g = .ok vs g1 → vs.length = 3) : PI X tg (.Call (.Name "range" p) [x, y, z] [] pos) (tI Γ X.K W .range (evs call es)) := by
  refine pi_imp (pi_range3 hg hm ha hs hpl) fun σ H R ⟨ρ, g, s, rs, rg, h⟩ => ⟨ρ, g, s, rs, rg, ?_⟩
  have hl := hl s g
  generalize evs call es s g = r at h hl
  cases r with
  | bad => exact h
  | exn x g => exact h
  | ok vs g1 =>
    intro ws ρ1 H1 e1 rg1 rv
    have h2 := FinG.go h e1
    have h3 := hl vs g1 rfl
    simp only [KM.R.bind] at h2
    split at h2
    · rename_i it hit
      have hit : mkRange vs = some it := hit
      unfold mkRange at hit
      split at hit <;> first | cases hit | cases h3 | skip
      · rename_i i j c _
        split at hit
        · rename_i hj
          split at hit
          · rename_i hc
            cases hit
            subst hc
            rw [Bool.and_eq_true_iff] at hj
            obtain ⟨y, r, rfl, hy, hr⟩ := rv
            obtain ⟨z, u, rfl, hz, hu⟩ := RVs.two_of hr
            obtain ⟨b1, b2⟩ := intsIn_iff hj.1
            obtain ⟨b3, b4⟩ := intsIn_iff hj.2
            refine ⟨i, j, -1, (i - j).toNat, by rw [show y = .int _ from hy, show z = .int _ from hz, show u = .int _ from hu], RgC.neg (by omega) b2 (by omega) b4, ?_⟩
            exact h2 _ ρ1 H1 .refl rg1 ir_rangeC
          · split at hit
            · rename_i hc
              cases hit
              rw [Bool.and_eq_true_iff] at hj hc
              have c1 := of_decide_eq_true hc.1
              have c2 := of_decide_eq_true hc.2
              obtain ⟨y, r, rfl, hy, hr⟩ := rv
              obtain ⟨z, u, rfl, hz, hu⟩ := RVs.two_of hr
              obtain ⟨b1, b2⟩ := intsIn_iff hj.1
              obtain ⟨b3, b4⟩ := intsIn_iff hj.2
              refine ⟨i, j, c, stepN i j c, by rw [show y = .int _ from hy, show z = .int _ from hz, show u = .int _ from hu], rgC_up (by omega) b2 (by omega) b4 c1 c2, ?_⟩
              exact h2 _ ρ1 H1 .refl rg1 ir_rangeC
            · cases hit
        · cases hit
    · exact h2.elim
theorem i_enm {es : Es} {x : Expr} {elts : List Expr} {kk : Nat} {p pos tpos : Pos} (hg : Gl X "enumerate") (hm : X.mg "enumerate" = none) (ha : PA X [x] (tA Γ X.K W (evs call es))) (hs : starEach [x] X.env = [(false, eval x X.env)]) :
    PI X (.Tuple elts kk tpos) (.Call (.Name "enumerate" p) [x] [] pos) (tI Γ X.K W .enm (evs call es)) := by
  refine pi_imp (pi_enumA hg hm ha hs) fun σ H R ⟨ρ, g, s, rs, rg, h⟩ => ⟨ρ, g, s, rs, rg, (twoA rs rg h).mono ?_⟩
  rintro ws H1 ⟨ρ1, g1, v, rs1, rg1, rv, e1, h1⟩
  split at h1
  · rename_i it hit
    have hit : mkEnm v g1 = some it := hit
    unfold mkEnm at hit
    split at hit <;> first | cases hit | skip
    · obtain ⟨y, rfl, p, vs, rfl, hp, hv⟩ := RVs.one_of rv
      exact .inr (.inl ⟨p, vs, rfl, hp.t, h1 _ ρ1 H1 .refl rg1 (ir_enmT rg1 hp.t hv)⟩)
    · obtain ⟨y, rfl, hy, h2, h3⟩ := RVs.one_of rv
      subst hy
      exact .inr (.inr ⟨_, rfl, h1 _ ρ1 H1 .refl rg1 (ir_enmS h3)⟩)
    · split at hit
      · rename_i hj
        cases hit
        obtain ⟨xs, hx⟩ := Option.isSome_iff_exists.mp hj
        obtain ⟨y, rfl, p, rfl, hp⟩ := RVs.one_of rv
        obtain ⟨p', vs, hp', ep, hv⟩ := rg1.lstAt hx
        rw [hp] at hp'; cases hp'
        exact .inl ⟨p, vs, rfl, .of ep, h1 _ ρ1 H1 .refl rg1 (ir_enm hp)⟩
      · cases hit
  · exact h1.elim
theorem i_zp {es : Es} {x y : Expr} {elts : List Expr} {kk : Nat} {p pos tpos : Pos} (hg : Gl X "zip") (hm : X.mg "zip" = none) (ha : PA X [x, y] (tA Γ X.K W (evs call es))) (hs : starEach [x, y] X.env = (false, eval x X.env) :: starEach [y] X.env) (hpl : (backTo pos (starEach [y] X.env)).any (·.1) = false) :
    PI X (.Tuple elts kk tpos) (.Call (.Name "zip" p) [x, y] [] pos) (tI Γ X.K W .zp (evs call es)) := by
  refine pi_imp (pi_zip hg hm ha hs hpl) fun σ H R ⟨ρ, g, s, rs, rg, h⟩ => ⟨ρ, g, s, rs, rg, (twoA rs rg h).mono ?_⟩
  rintro ws H1 ⟨ρ1, g1, v, rs1, rg1, rv, e1, h1⟩
  split at h1
  · rename_i it hit
    have hit : mkZp v g1 = some it := hit
    unfold mkZp at hit
    split at hit <;> first | cases hit | skip
    · split at hit
      · rename_i hj
        cases hit
        rw [Bool.and_eq_true_iff] at hj
        obtain ⟨xs, hx⟩ := Option.isSome_iff_exists.mp hj.1
        obtain ⟨ys, hy⟩ := Option.isSome_iff_exists.mp hj.2
        obtain ⟨u, w, rfl, ⟨p, rfl, hp⟩, ⟨q, rfl, hq⟩⟩ := RVs.two_of rv
        obtain ⟨p', vs, hp', ep, hv⟩ := rg1.lstAt hx
        rw [hp] at hp'; cases hp'
        obtain ⟨q', us, hq', eq, hu⟩ := rg1.lstAt hy
        rw [hq] at hq'; cases hq'
        exact ⟨p, q, vs, us, rfl, .of ep, .of eq, h1 _ ρ1 H1 .refl rg1 (ir_zp hp hq)⟩
      · cases hit
  · exact h1.elim
end
end KM

namespace KM
open PySem PySem.Spec PyProof.Rows L2

/-! ### targets -/
mutual
def tslots : Tg → List Nat
  | .nm i => [i]
  | .tp ts => tsslots ts
def tsslots : Tgs → List Nat
  | .nil => []
  | .cons t r => tslots t ++ tsslots r
end
section
variable (Γ : Gam) (K : PySem.W.Frag)
def gT (t : Tg) : TG := fun v σ H Q => ∃ ρ g s x s', RS K H ρ s σ ∧ RG Γ K H ρ g ∧ RV K H ρ x v ∧ asgT t x s = some s' ∧ ∀ σ', RS K H ρ s' σ' → σ'.length = σ.length → (∀ i, i ∉ tslots t → σ'[i]? = σ[i]?) → Q σ' H
def gTs (ts : Tgs) : TGs := fun vs σ H Q => ∃ ρ g s xs s', RS K H ρ s σ ∧ RG Γ K H ρ g ∧ RVs K H ρ xs vs ∧ asgTs ts xs s = some s' ∧ ∀ σ', RS K H ρ s' σ' → σ'.length = σ.length → (∀ i, i ∉ tsslots ts → σ'[i]? = σ[i]?) → Q σ' H
end
theorem pg_imp {X : Cx} {tg : Expr} {t t' : TG} (h : PG X tg t) (f : ∀ v σ H Q, t' v σ H Q → t v σ H Q) : PG X tg t' := ⟨fun pins s σ H v u Q I r q => h.run pins s σ H v u Q I r (f v σ H Q q)⟩
theorem pgs_imp {X : Cx} {tg : List Expr} {t t' : TGs} (h : PGs X tg t) (f : ∀ v σ H Q, t' v σ H Q → t v σ H Q) : PGs X tg t' := ⟨fun pins s σ H v u Q I r q => h.run pins s σ H v u Q I r (f v σ H Q q)⟩
section
variable {Γ : Gam} {X : Cx} {K : PySem.W.Frag}
theorem g_nm {i : Nat} {x : Str} {pos : Pos} (hN : X.N.Nodup) (hi : X.N[i]? = some x) (hx : Loc X.env.scope x) (hf : X.fn x = true ∨ X.env.scope.names.lookup x = some .local) : PG X (.Name x pos) (gT Γ X.K (.nm i)) := by
  refine pg_imp (pg_name hN hi hx hf) fun v σ H Q ⟨ρ, g, s, y, s', rs, rg, rv, ha, q⟩ => ?_
  have ha : (if i < s.length then some (s.set i (some y)) else none) = some s' := ha
  split at ha
  · cases ha
    exact q _ (rs.set rv) (by simp) fun j hj => by
      have : i ≠ j := fun e => hj (by rw [e]; exact List.mem_cons_self)
      rw [List.getElem?_set_ne this]
  · cases ha
theorem g_nil : PGs X [] (gTs Γ X.K .nil) := by
  refine pgs_imp pgs_nil fun v σ H Q ⟨ρ, g, s, ys, s', rs, rg, rv, ha, q⟩ => ?_
  cases ys with
  | nil =>
    have ha : some s = some s' := ha
    cases ha
    exact ⟨rv, q σ rs rfl fun _ _ => rfl⟩
  | cons y ys => cases (show (none : Option Env) = some s' from ha)
theorem g_cons {t : Tg} {r : Tgs} {e : Expr} {es : List Expr} (h1 : PG X e (gT Γ X.K t)) (h2 : PGs X es (gTs Γ X.K r)) (hs : (assignEach (e :: es) X.env).map (·.2) = assign e X.env :: (assignEach es X.env).map (·.2)) :
    PGs X (e :: es) (gTs Γ X.K (.cons t r)) := by
  refine pgs_imp (pgs_cons h1 h2 hs) fun v σ H Q ⟨ρ, g, s, ys, s', rs, rg, rv, ha, q⟩ => ?_
  cases ys with
  | nil => cases (show (none : Option Env) = some s' from ha)
  | cons y ys =>
    obtain ⟨u, us, rfl, hu, hus⟩ := rv
    obtain ⟨s1, h3, h4⟩ := Option.bind_eq_some_iff.mp (show (asgT t y s).bind (asgTs r ys) = some s' from ha)
    refine ⟨u, us, rfl, ρ, g, s, y, s1, rs, rg, hu, h3, fun σ1 rs1 l1 k1 => ⟨ρ, g, s1, ys, s', rs1, rg, hus, h4, fun σ2 rs2 l2 k2 => q σ2 rs2 (l2.trans l1) fun i hi => ?_⟩⟩
    have hi : i ∉ tslots t ++ tsslots r := hi
    rw [List.mem_append, not_or] at hi
    exact (k2 i hi.2).trans (k1 i hi.1)
def tgsLen : Tgs → Nat
  | .nil => 0
  | .cons _ r => tgsLen r + 1
theorem asgTs_length : ∀ {ts : Tgs} {xs : List Val} {s s' : Env}, asgTs ts xs s = some s' → xs.length = tgsLen ts
  | .nil, [], _, _, _ => rfl
  | .nil, _ :: _, s, s', h => by cases (show (none : Option Env) = some s' from h)
  | .cons t r, [], s, s', h => by cases (show (none : Option Env) = some s' from h)
  | .cons t r, x :: xs, s, s', h => by
    obtain ⟨s1, h3, h4⟩ := Option.bind_eq_some_iff.mp (show (asgT t x s).bind (asgTs r xs) = some s' from h)
    show xs.length + 1 = tgsLen r + 1
    rw [asgTs_length h4]
theorem g_tp {ts : Tgs} {es : List Expr} {n : Nat} {pos : Pos} (hc : X.calm = true) (h : PGs X es (gTs Γ X.K ts)) (hn : (assignEach es X.env).length = tgsLen ts) (hst : (assignEach es X.env).findIdx? (·.1) = none) :
    PG X (.Tuple es n pos) (gT Γ X.K (.tp ts)) := by
  refine pg_imp (pg_tup hc h hn hst) fun v σ H Q ⟨ρ, g, s, y, s', rs, rg, rv, ha, q⟩ => ?_
  cases y <;> first | cases (show (none : Option Env) = some s' from ha) | skip
  rename_i ys
  obtain ⟨a, vs, rfl, h1, h2⟩ := rv
  exact ⟨a, vs, rfl, h1.t, by rw [h2.length]; exact asgTs_length (show asgTs ts ys s = some s' from ha), ρ, g, s, ys, s', rs, rg, h2, ha, q⟩

/-! ### comprehensions -/
theorem RV.updL {H : Hp} {ρ : List Addr} {D : Addr} {us us' : List V} (hD : H D = some (.lst us)) : ∀ {x : Val} {v : V}, RV K H ρ x v → RV K (upd H D (.lst us')) ρ x v := by
  suffices hh : ∀ (x : Val) (v : V), RV K H ρ x v → RV K (upd H D (.lst us')) ρ x v from fun {x v} => hh x v
  have hne : ∀ {a : Addr} {o : HO}, H a = some o → o ≠ .lst us → a ≠ D := fun {a o} h n e => by
    rw [e, hD] at h
    exact n (Option.some.inj h).symm
  intro x
  refine Val.rec (motive_1 := fun x => ∀ v, RV K H ρ x v → RV K (upd H D (.lst us')) ρ x v) (motive_2 := fun xs => ∀ vs, RVs K H ρ xs vs → RVs K (upd H D (.lst us')) ρ xs vs) ?_ ?_ ?_ ?_ ?_ ?_ ?_ ?_ ?_ x
  · exact fun v h => h
  · exact fun _ v h => h
  · exact fun _ v h => h
  · exact fun _ v h => h
  · intro xs ih v h
    obtain ⟨a, vs, e1, h1, h2⟩ := h
    refine ⟨a, vs, e1, ?_, ih vs h2⟩
    rcases h1 with h1 | ⟨hc, h1⟩
    · exact .inl (by rw [upd_ne (hne h1 (fun z => by cases z))]; exact h1)
    refine .inr ⟨hc, ?_⟩
    rcases h1 with (h1 | ⟨o, h1⟩) | h1
    · exact .inl (.inl (by rw [upd_ne (hne h1 (fun z => by cases z))]; exact h1))
    · exact .inl (.inr ⟨o, by rw [upd_ne (hne h1 (fun z => by cases z))]; exact h1⟩)
    · exact .inr h1
  · exact fun _ v h => h
  · intro xs ih v h
    obtain ⟨a, vs, e1, h1, h2⟩ := h
    refine ⟨a, vs, e1, ?_, ih vs h2⟩
    rcases h1 with ⟨o, h1⟩ | h1
    · exact .inl ⟨o, by rw [upd_ne (hne h1 (fun z => by cases z))]; exact h1⟩
    · exact .inr h1
  · exact fun vs h => h
  · intro x xs h1 h2 vs h
    obtain ⟨v, r, e1, h3, h4⟩ := h
    exact ⟨v, r, e1, h1 v h3, h2 r h4⟩
theorem RVs.updL {H : Hp} {ρ : List Addr} {D : Addr} {us us' : List V} (hD : H D = some (.lst us)) : ∀ {xs : List Val} {vs : List V}, RVs K H ρ xs vs → RVs K (upd H D (.lst us')) ρ xs vs
  | [], vs, h => h
  | x :: xs, vs, h => by
    obtain ⟨v, r, e1, h3, h4⟩ := h
    exact ⟨v, r, e1, RV.updL hD h3, RVs.updL hD h4⟩
theorem rg_updL {H : Hp} {ρ : List Addr} {g : Gh} {D : Addr} {us us' : List V} (r : RG Γ K H ρ g) (hD : H D = some (.lst us)) (hn : D ∉ ρ) : RG Γ K (upd H D (.lst us')) ρ g := by
  refine ⟨r.len, r.nd, fun n c h => ?_⟩
  obtain ⟨a, ha, ro⟩ := r.at_ n c h
  have hne : a ≠ D := fun e => hn (e ▸ List.mem_of_getElem? ha)
  refine ⟨a, ha, ?_⟩
  cases c with
  | lst xs => obtain ⟨vs, e1, h1⟩ := ro; exact ⟨vs, by rw [upd_ne hne]; exact e1, h1.updL hD⟩
  | dic t kvs =>
    cases t
    · obtain ⟨ks, e1, h1⟩ := ro; exact ⟨ks, by rw [upd_ne hne]; exact e1, Paired.mp h1 fun p q _ z => ⟨z.1, z.2.updL hD⟩⟩
    · obtain ⟨ks, e1, h1⟩ := ro; exact ⟨ks, by rw [upd_ne hne]; exact e1, Paired.mp h1 fun p q _ z => ⟨z.1, z.2.updL hD⟩⟩
  | ins c fs => obtain ⟨dx, gs, e1, h1⟩ := ro; exact ⟨dx, gs, by rw [upd_ne hne]; exact e1, Paired.mp h1 fun p q _ z => ⟨z.1, z.2.updL hD⟩⟩
/-- a list of ours becomes a cell -/
theorem rg_adopt {H : Hp} {ρ : List Addr} {g : Gh} {D : Addr} {vs : List V} {xs : List Val} (r : RG Γ K H ρ g) (hD : H D = some (.lst vs)) (hn : D ∉ ρ) (hv : RVs K H ρ xs vs) : RG Γ K H (ρ ++ [D]) (g ++ [.lst xs]) := by
  have pre : ∀ (n : Nat) (b : Addr), ρ[n]? = some b → (ρ ++ [D])[n]? = some b := fun n b q => by
    rw [List.getElem?_append_left (List.getElem?_eq_some_iff.mp q).1]; exact q
  refine ⟨by rw [List.length_append, List.length_append, r.len]; rfl, ?_, fun n d h => ?_⟩
  · refine List.nodup_append.mpr ⟨r.nd, by simp, fun x hx y hy => ?_⟩
    rw [List.mem_singleton.mp hy]
    intro e
    exact hn (e ▸ hx)
  · by_cases hl : n < g.length
    · rw [List.getElem?_append_left hl] at h
      obtain ⟨a, ha, ro⟩ := r.at_ n d h
      exact ⟨a, pre n a ha, ro.cut (fun k b _ q => pre k b q) (ro.okc (Nat.le_of_eq r.len))⟩
    · rw [List.getElem?_append_right (by omega)] at h
      have e : n - g.length = 0 := by
        have := (List.getElem?_eq_some_iff.mp h).1
        simp at this
        omega
      rw [e] at h
      simp at h
      subst h
      refine ⟨D, ?_, vs, hD, RVs.cut (fun k b _ q => pre k b q) (hv.okvs (Nat.le_of_eq r.len)) hv⟩
      rw [List.getElem?_append_right (by rw [r.len]; omega), r.len, e]
      rfl
theorem wipe_get (s : Env) {i : Nat} {x : Val} : ∀ {vs : List Nat}, (KM.wipe s vs)[i]? = some (some x) → s[i]? = some (some x) ∧ i ∉ vs
  | [], h => ⟨h, by simp⟩
  | v :: vs, h => by
    unfold KM.wipe at h
    by_cases hi : v = i
    · subst hi
      by_cases hv : v < (KM.wipe s vs).length
      · rw [List.getElem?_set_self hv] at h; cases h
      · rw [List.getElem?_eq_none (by simpa using hv)] at h; cases h
    · rw [List.getElem?_set_ne hi] at h
      obtain ⟨h1, h2⟩ := wipe_get s h
      exact ⟨h1, by simp only [List.mem_cons, not_or]; exact ⟨fun e => hi e.symm, h2⟩⟩
theorem wipe_len (s : Env) : ∀ vs : List Nat, (KM.wipe s vs).length = s.length
  | [] => rfl
  | v :: vs => by unfold KM.wipe; rw [List.length_set, wipe_len s vs]
theorem wipe_out2 {σ : L2.St} {i : Nat} : ∀ {vs : List Nat}, i ∉ vs → (L2.wipe σ vs)[i]? = σ[i]?
  | [], _ => rfl
  | v :: vs, h => by
    unfold L2.wipe
    rw [List.getElem?_set_ne (fun (e : v = i) => h (by rw [e]; exact List.mem_cons_self)), wipe_out2 fun m => h (List.mem_cons_of_mem _ m)]
theorem wipe_in2 {σ : L2.St} {i : Nat} : ∀ {vs : List Nat}, i ∈ vs → i < σ.length → (L2.wipe σ vs)[i]? = some none
  | v :: vs, h, hl => by
    unfold L2.wipe
    by_cases e : v = i
    · subst e; rw [List.getElem?_set_self (by rw [wipe_length]; exact hl)]
    · rw [List.getElem?_set_ne e]
      exact wipe_in2 (by
        rcases List.mem_cons.mp h with z | z
        · exact absurd z.symm e
        · exact z) hl
theorem wipe_same {σ σ' : L2.St} {vs : List Nat} (hl : σ'.length = σ.length) (h : ∀ i, i ∉ vs → σ'[i]? = (L2.wipe σ vs)[i]?) : L2.wipe σ' vs = L2.wipe σ vs := by
  refine List.ext_getElem? fun i => ?_
  by_cases hi : i ∈ vs
  · by_cases hl2 : i < σ.length
    · rw [wipe_in2 hi hl2, wipe_in2 hi (by rw [hl]; exact hl2)]
    · rw [List.getElem?_eq_none (by rw [wipe_length]; omega), List.getElem?_eq_none (by rw [wipe_length]; omega)]
  · rw [wipe_out2 hi, h i hi]
theorem RS.wipe {H : Hp} {ρ : List Addr} {s : Env} {σ : L2.St} (h : RS K H ρ s σ) (vs : List Nat) : RS K H ρ (KM.wipe s vs) (L2.wipe σ vs) := by
  refine ⟨by rw [wipe_len, wipe_length, h.len], fun i x q => ?_⟩
  obtain ⟨h1, h2⟩ := wipe_get s q
  obtain ⟨v, h3, h4⟩ := h.at_ i x h1
  exact ⟨v, by rw [wipe_out2 h2]; exact h3, h4⟩
abbrev W0 : WX := fun _ _ _ _ => False
theorem lc_imp {call : Call} {W : WX} {own : List Nat} {tg : Tg} {k : IK} {its : Es} {cond : C} {elt : E} (hts : ∀ i ∈ tslots tg, i ∈ own) {σ : L2.St} {H : Hp} {Q : VK} (h : tE Γ K W (ev call (.comp own tg k its cond elt)) σ H Q) :
    tLc (tI Γ K W k (evs call its)) (gT Γ K tg) (tT Γ K W0 (evT call cond)) (tE Γ K W0 (ev call elt)) own σ H Q := by
  obtain ⟨ρ, g, s, rs, rg, h⟩ := h
  refine ⟨ρ, g, s, rs, rg, ?_⟩
  have h : FinG Γ K (relV K) W σ ρ H ((evs call its s g).bind fun vs g1 => match mkIter k vs g1 with
    | none => .bad
    | some it => (compG (fun v g2 => match asgT tg v (KM.wipe s own) with
        | none => .bad
        | some s2 => (evT call cond s2 g2).bind fun b g3 =>
          if b then (tidy g3 (ev call elt s2 g3)).bind fun w g4 => .ok (some w) g4 else .ok none g3) it WF 0 [] g1).bind fun ws g2 => new (.lst ws) g2) Q := h
  generalize hbody : (fun (v : Val) (g2 : Gh) => match asgT tg v (KM.wipe s own) with
        | none => (.bad : R (Option Val))
        | some s2 => (evT call cond s2 g2).bind fun b g3 =>
          if b then (tidy g3 (ev call elt s2 g3)).bind fun w g4 => .ok (some w) g4 else .ok none g3) = body at h
  generalize evs call its s g = r at h
  cases r with
  | bad => exact h
  | exn x g1 => exact h
  | ok vs g1 =>
    have h : FinG Γ K (relV K) W σ ρ H (match mkIter k vs g1 with
      | none => .bad
      | some it => (compG body it WF 0 [] g1).bind fun ws g2 => new (.lst ws) g2) Q := h
    show FinG Γ K _ W σ ρ H (match mkIter k vs g1 with
      | some it => .ok it g1
      | none => .bad) _
    cases hit : mkIter k vs g1 with
    | none => rw [hit] at h; exact h
    | some it =>
      rw [hit] at h
      have h : FinG Γ K (relV K) W σ ρ H ((compG body it WF 0 [] g1).bind fun ws g2 => new (.lst ws) g2) Q := h
      intro J ρ1 H1 e1 rg1 hJ D hD
      have h := FinG.go h e1
      have rs1 := rs.go rg e1
      refine ⟨fun i m Hc => ∃ ρ' g' acc us, Ext ρ1 H1 ρ' Hc ∧ RG Γ K Hc ρ' g' ∧ D ∉ ρ' ∧ Hc D = some (.lst us) ∧ RVs K Hc ρ' acc us ∧ FinG Γ K (relV K) W σ ρ1 H1 ((compG body it m i acc g').bind fun ws g2 => new (.lst ws) g2) Q,
        ⟨WF, ρ1, g1, [], [], ext_tup rg1 hD, rg_tup rg1 hD, rg1.free hD, upd_same, rfl, h⟩, ?_⟩
      rintro i m Hc ⟨ρ', g', acc, us, ec, rgc, nD, hDc, hacc, hf⟩
      cases m with
      | zero => exact hf.elim
      | succ m =>
        obtain ⟨hgo, hstop⟩ := hJ ρ' Hc g' ec rgc
        have hf : FinG Γ K (relV K) W σ ρ1 H1 ((match nxt g' i it with
          | none => .bad
          | some none => .ok acc g'
          | some (some v) => match body v g' with
            | .ok none g' => compG body it m (i + 1) acc g'
            | .ok (some w) g' => if acc.length < SL then compG body it m (i + 1) (acc ++ [w]) g' else .bad
            | .exn _ _ => .bad
            | .bad => .bad : R (List Val)).bind fun ws g2 => new (.lst ws) g2) Q := hf
        cases hn : nxt g' i it with
        | none => rw [hn] at hf; exact hf.elim
        | some o =>
          rw [hn] at hf
          cases o with
          | none =>
            refine .inl ⟨hstop i hn, ?_⟩
            have hf : FinG Γ K (relV K) W σ ρ1 H1 (.ok (.ref g'.length) (g' ++ [.lst acc])) Q := hf
            refine hf (.ref D) (ρ' ++ [D]) Hc ⟨fun n b q => ?_, ec.keep, fun b hb nb => ?_⟩ (rg_adopt rgc hDc nD hacc) ⟨D, rfl, by rw [← rgc.len]; simp⟩
            · have := ec.pre n b q
              rw [List.getElem?_append_left (List.getElem?_eq_some_iff.mp this).1]; exact this
            · rcases List.mem_append.mp hb with hb | hb
              · exact ec.new b hb nb
              · rw [List.mem_singleton.mp hb]; exact hD
          | some v =>
            obtain ⟨go, yl⟩ := hgo i v hn
            have hf : FinG Γ K (relV K) W σ ρ1 H1 ((match body v g' with
              | .ok none g' => compG body it m (i + 1) acc g'
              | .ok (some w) g' => if acc.length < SL then compG body it m (i + 1) (acc ++ [w]) g' else .bad
              | .exn _ _ => .bad
              | .bad => .bad : R (List Val)).bind fun ws g2 => new (.lst ws) g2) Q := hf
            have hbv : body v g' = (match asgT tg v (KM.wipe s own) with
              | none => (.bad : R (Option Val))
              | some s2 => (evT call cond s2 g').bind fun b g3 =>
                if b then (tidy g3 (ev call elt s2 g3)).bind fun w g4 => .ok (some w) g4 else .ok none g3) := by rw [← hbody]
            refine .inr ⟨go, fun Hd => ∃ ρ' g' acc us, Ext ρ1 H1 ρ' Hd ∧ RG Γ K Hd ρ' g' ∧ D ∉ ρ' ∧ Hd D = some (.lst us) ∧ RVs K Hd ρ' acc us ∧ FinG Γ K (relV K) W σ ρ1 H1 ((compG body it m (i + 1) acc g').bind fun ws g2 => new (.lst ws) g2) Q,
              fun Hd hd => ⟨m, Nat.lt_succ_self m, hd⟩, fun x H2 hy => ?_⟩
            obtain ⟨e2, rg2, rv2⟩ := yl x H2 hy
            have nD2 : ∀ {ρ3 : List Addr} {H3 : Hp}, Ext ρ' Hc ρ3 H3 → D ∉ ρ3 := fun {ρ3 H3} e m => by
              have := e.new D m nD
              rw [hDc] at this; cases this
            cases hs2 : asgT tg v (KM.wipe s own) with
            | none => rw [hs2] at hbv; rw [hbv] at hf; exact hf.elim
            | some s2 =>
              rw [hs2] at hbv
              have rsw : RS K H2 ρ' (KM.wipe s own) (L2.wipe σ own) := ((rs1.go rg1 (ec.trans e2))).wipe own
              refine ⟨ρ', g', _, v, s2, rsw, rg2, rv2, hs2, fun σ2 rs2 l2 k2 => ⟨wipe_same (by rw [l2, wipe_length]) fun j hj => k2 j fun hm => hj (hts j hm), ρ', g', s2, rs2, rg2, ?_⟩⟩
              have hbv : body v g' = (evT call cond s2 g').bind fun b g3 =>
                if b then (tidy g3 (ev call elt s2 g3)).bind fun w g4 => .ok (some w) g4 else .ok none g3 := hbv
              cases hb : evT call cond s2 g' with
              | bad => rw [hb] at hbv; rw [hbv] at hf; exact hf.elim
              | exn z g3 => rw [hb] at hbv; rw [hbv] at hf; exact hf.elim
              | ok b g3 =>
                rw [hb] at hbv
                intro b' ρ3 H3 e3 rg3 eb
                have eb : b = b' := eb
                subst eb
                cases b with
                | false =>
                  rw [if_neg Bool.false_ne_true]
                  have hbv : body v g' = .ok none g3 := hbv
                  rw [hbv] at hf
                  have e13 := (ec.trans e2).trans e3
                  exact ⟨ρ3, g3, acc, us, e13, rg3, nD2 (e2.trans e3), (e2.trans e3).keep D _ hDc nD, (hacc.go rgc (e2.trans e3)), hf⟩
                | true =>
                  rw [if_pos rfl]
                  have hbv : body v g' = (tidy g3 (ev call elt s2 g3)).bind fun w g4 => .ok (some w) g4 := hbv
                  refine ⟨ρ3, g3, s2, rs2.go rg2 e3, rg3, FinG.untidy rg3 ?_⟩
                  cases hw : tidy g3 (ev call elt s2 g3) with
                  | bad => rw [hw] at hbv; rw [hbv] at hf; exact hf.elim
                  | exn z g4 => rw [hw] at hbv; rw [hbv] at hf; exact hf.elim
                  | ok w g4 =>
                    rw [hw] at hbv
                    have hbv : body v g' = .ok (some w) g4 := hbv
                    rw [hbv] at hf
                    have hf : FinG Γ K (relV K) W σ ρ1 H1 ((if acc.length < SL then compG body it m (i + 1) (acc ++ [w]) g4 else .bad).bind fun ws g2 => new (.lst ws) g2) Q := hf
                    split at hf
                    · rename_i hz
                      intro y ρ4 H4 e4 rg4 ry
                      have e24 := (e2.trans e3).trans e4
                      have hD4 := e24.keep D _ hDc nD
                      refine ⟨us, hD4, by rw [hacc.length]; exact Nat.lt_of_lt_of_le hz SL_le, ρ4, g4, acc ++ [w], us ++ [y], ⟨fun n b q => (ec.trans e24).pre n b q, fun b o q nb => ?_, fun b hb nb => (ec.trans e24).new b hb nb⟩, rg_updL rg4 hD4 (nD2 e24), nD2 e24, upd_same, ((hacc.go rgc e24).append (.one ry)).updL hD4, hf⟩
                      rw [upd_ne (fun (z : b = D) => by rw [z, hD] at q; cases q)]
                      exact (ec.trans e24).keep b o q nb
                    · exact hf.elim
end
end KM

namespace KM
open PySem PySem.Spec PyProof.Rows L2

/-! ### the look at the text -/
def visB (sc : Scope) (x : Str) : Bool := match sc.names.lookup x with
  | some .local => true
  | some .cell => true
  | some .free => true
  | _ => false
def glB (sc : Scope) (x : Str) : Bool := match sc.names.lookup x with
  | some .globalImplicit => true
  | _ => false
def nmOk (x : Str) : Bool := !(x == ("__debug__" : Str)) && !(x == ("__classdict__" : Str)) && !(x == ("__name__" : Str))
/-- no star, no slice, no set -/
def plainX : Expr → Bool
  | .Starred .. => false
  | .Slice .. => false
  | .Set .. => false
  | _ => true
def notSuper : Expr → Bool
  | .Call (.Name n _) [] [] _ => !(n == ("super" : Str))
  | _ => true
/-- an expression whose test is its value's truth -/
def plainT : Expr → Bool
  | .UnaryOp .Not _ _ => false
  | .BoolOp .. => false
  | .IfExp .. => false
  | .Compare .. => false
  | _ => true
def isCmp : E → Bool
  | .cmp .. => true
  | .chn .. => true
  | _ => false
def strB (s : Str) : Bool := decide (s.cps.toList.length ≤ SL) && s.cps.toList.all fun c => decide (c < 1114112)
def bltNm : Blt → Str
  | .len => "len" | .tuple => "tuple" | .list => "list" | .abs => "abs" | .min2 => "min" | .max2 => "max" | .min1 => "min" | .max1 => "max" | .int1 => "int" | .str1 => "str" | .ord => "ord" | .chr => "chr" | .sum => "sum" | .all => "all" | .any => "any" | .sorted => "sorted" | .bool1 => "bool" | .isStr => "isinstance" | .min3 => "min" | .max3 => "max"
def bltOk : Blt → Bool
  | .len => true | .tuple => true | .list => true | .abs => true | .min2 => true | .max2 => true | .int1 => true | .ord => true | .sum => true | .all => true | .any => true
  | .min1 => true | .max1 => true | .min3 => true | .max3 => true | .sorted => true
  | _ => false
def bmNm : Bm → Str
  | .append => "append" | .extend => "extend" | .pop0 => "pop" | .pop1 => "pop" | .insert => "insert" | .join => "join" | .split => "split" | .count => "count" | .index => "index" | .startswith => "startswith" | .lstrip => "lstrip" | .strip => "strip" | .get1 => "get" | .get2 => "get" | .sindex1 => "index" | .sindex2 => "index" | .sw2 => "startswith" | .endswith => "endswith"
def bmOk : Bm → Bool
  | .append => true | .extend => true | .join => true | .split => true | .count => true | .index => true | .insert => true
  | .get1 => true | .get2 => true
  | .pop1 => true | .startswith => true | .sw2 => true | .endswith => true | .strip => true | .lstrip => true | .sindex1 => true | .sindex2 => true
  | _ => false
def bmOk0 : Bm → Bool
  | .pop0 => true
  | _ => false
def esLen : Es → Nat
  | .nil => 0
  | .cons _ r => esLen r + 1
def asB (names : List (Str × NameKind)) (x : Str) : Bool := match names.lookup x with
  | some .local => true
  | some .cell => true
  | _ => false
mutual
def chkTg (N : List Str) (names : List (Str × NameKind)) : Tg → Expr → Bool
  | .nm i, x => match x with
    | .Name n _ => decide (N[i]? = some n) && asB names n
    | _ => false
  | .tp ts, x => match x with
    | .Tuple es _ _ => chkTgs N names ts es
    | _ => false
def chkTgs (N : List Str) (names : List (Str × NameKind)) : Tgs → List Expr → Bool
  | .nil, [] => true
  | .cons t r, x :: xs => plainX x && chkTg N names t x && chkTgs N names r xs
  | _, _ => false
end
def ownOf (N : List Str) (own : List Nat) : List (Str × Nat) := own.filterMap fun i => N[i]?.map fun x => (x, i)
section
variable (T : Tab) (N : List Str)
def iterNm : IK → Str
  | .range => "range" | .enm => "enumerate" | .zp => "zip" | .plain => ""
mutual
def chkE : E → Scope → Expr → Bool
  | .var i, sc, x => match x with
    | .Name n _ => decide (N[i]? = some n) && visB sc n && nmOk n
    | _ => false
  | .cst v, sc, x => match x with
    | .Constant (.int i) _ _ => decide (v = .int i)
    | .Constant (.bool b) _ _ => decide (v = .bl b)
    | .Constant .none _ _ => decide (v = .non)
    | .Constant (.str s) _ _ => decide (v = .str s.cps.toList) && strB s
    | .Name n _ => glB sc n && nmOk n && decide (T.cs.lookup n = some v)
    | _ => false
  | .bin op a b, sc, x => match x with
    | .BinOp l o r _ => decide (o = bopOf op) && chkE a sc l && chkE b sc r
    | _ => false
  | .neg a, sc, x => match x with
    | .UnaryOp .USub y _ => chkE a sc y
    | _ => false
  | .cmp op a b, sc, x => match x with
    | .Compare l [o] [r] _ => decide (o = copOf op) && plainX r && chkE a sc l && chkE b sc r
    | _ => false
  | .chn op op' a b c, sc, x => match x with
    | .Compare l [o, o'] [r, r'] _ => decide (o = copOf op) && decide (o' = copOf op') && plainX r && plainX r' && chkE a sc l && chkE b sc r && chkE c sc r'
    | _ => false
  | .not a, sc, x => match x with
    | .UnaryOp .Not y _ => chkE a sc y
    | _ => false
  | .and es, sc, x => match x with
    | .BoolOp .And xs _ => !xs.isEmpty && chkEs es sc xs
    | _ => false
  | .or es, sc, x => match x with
    | .BoolOp .Or xs _ => !xs.isEmpty && chkEs es sc xs
    | _ => false
  | .ite c a b, sc, x => match x with
    | .IfExp t y z _ => chkC c sc t && chkE a sc y && chkE b sc z
    | _ => false
  | .tup es, sc, x => match x with
    | .Tuple xs _ _ => chkEs es sc xs
    | _ => false
  | .lst es, sc, x => match x with
    | .List xs _ => chkEs es sc xs
    | _ => false
  | .idx a b, sc, x => match x with
    | .Subscript l r _ => plainX r && chkE a sc l && chkE b sc r
    | _ => false
  | .slc a lo hi, sc, x => match x with
    | .Subscript l (.Slice u v none _) _ => chkE a sc l && chkB lo sc u && chkB hi sc v
    | _ => false
  | .rev a, sc, x => match x with
    | .Subscript l (.Slice none none (some (.UnaryOp .USub (.Constant (.int i) _ _) _)) _) _ => decide (i = 1) && chkE a sc l
    | _ => false
  | .call f es, sc, x => match x with
    | .Call (.Name n _) (y :: ys) [] _ => glB sc n && nmOk n && decide (T.fns.lookup n = some (f, esLen es)) && chkEs es sc (y :: ys)
    | _ => false
  | .blt b es, sc, x => match x with
    | .Call (.Name n _) (y :: ys) [] _ => glB sc n && nmOk n && decide (n = bltNm b) && bltOk b && decide (n ∈ T.fr) && chkEs es sc (y :: ys)
    | _ => false
  | .bm m o es, sc, x => match x with
    | .Call (.Attribute ox name apos) xs [] cpos => decide (name = bmNm m) && notSuper ox && (apos.endLine == cpos.line) && decide (xs.length < 20) && (if xs.isEmpty then bmOk0 m else bmOk m) && chkE o sc ox && chkEs es sc xs
    | _ => false
  | .lset a, sc, x => match x with
    | .Call (.Name l _) [.Call (.Name r _) [y] [] _] [] _ => glB sc l && decide (l = "len") && decide (l ∈ T.fr) && glB sc r && decide (r = "set") && decide (r ∈ T.fr) && plainX y && chkE a sc y
    | _ => false
  | .dnew _, _, x => match x with
    | .Dict [] [] _ => true
    | _ => false
  | .isS a, sc, x => match x with
    | .Call (.Name n _) [y, .Name t _] [] _ => glB sc n && decide (n = "isinstance") && decide (n ∈ T.fr) && glB sc t && decide (t = "str") && decide (t ∈ T.fr) && plainX y && chkE a sc y
    | _ => false
  | .comp own tg k its cond elt, sc, x => match x with
    | .ListComp eltx [⟨tgx, iterx, ifs, a⟩] scope _ =>
      decide (a = 0) && plainX iterx && blkC N sc scope (ownOf N own) && decide ((ownOf N own).map (·.2) = own) && chkTg N scope.names tg tgx && (tslots tg).all (fun i => decide (i ∈ own)) &&
        (match ifs with
        | [] => (match cond with
          | .and .nil => true
          | _ => false)
        | [y] => chkC cond (relS scope sc) y
        | _ => false) && chkE elt (relS scope sc) eltx &&
        (match k with
        | .plain => chkEs its sc [iterx]
        | k => match iterx with
          | .Call (.Name n _) xs [] _ => glB sc n && nmOk n && decide (n = iterNm k) && decide (n ∈ T.fr) && chkEs its sc xs && (match k with
            | .range => decide (xs.length = 1) || decide (xs.length = 2) || decide (xs.length = 3)
            | .enm => decide (xs.length = 1) && (match tgx with | .Tuple .. => true | _ => false)
            | _ => decide (xs.length = 2) && (match tgx with | .Tuple .. => true | _ => false))
          | _ => false)
    | _ => false
  | .lrng1 a, sc, x => match x with
    | .Call (.Name l _) [.Call (.Name r _) [y] [] _] [] _ => glB sc l && decide (l = "list") && decide (l ∈ T.fr) && glB sc r && decide (r = "range") && decide (r ∈ T.fr) && plainX y && chkE a sc y
    | _ => false
  | .lrng2 a b, sc, x => match x with
    | .Call (.Name l _) [.Call (.Name r _) [y, z] [] _] [] _ => glB sc l && decide (l = "list") && decide (l ∈ T.fr) && glB sc r && decide (r = "range") && decide (r ∈ T.fr) && plainX y && plainX z && chkE a sc y && chkE b sc z
    | _ => false
def chkEs : Es → Scope → List Expr → Bool
  | .nil, _, [] => true
  | .cons e r, sc, x :: xs => plainX x && chkE e sc x && chkEs r sc xs
  | _, _, _ => false
def chkB : B → Scope → Option Expr → Bool
  | .no, _, none => true
  | .e a, sc, some x => chkE a sc x
  | _, _, _ => false
def chkC : C → Scope → Expr → Bool
  | .e a, sc, x => (plainT x || isCmp a) && chkE a sc x
  | .not c, sc, x => match x with
    | .UnaryOp .Not y _ => chkC c sc y
    | _ => false
  | .and cs, sc, x => match x with
    | .BoolOp .And xs _ => !xs.isEmpty && chkCs cs sc xs
    | _ => false
  | .or cs, sc, x => match x with
    | .BoolOp .Or xs _ => !xs.isEmpty && chkCs cs sc xs
    | _ => false
  | .ite c a b, sc, x => match x with
    | .IfExp t y z _ => chkC c sc t && chkC a sc y && chkC b sc z
    | _ => false
def chkCs : Cs → Scope → List Expr → Bool
  | .nil, _, [] => true
  | .cons e r, sc, x :: xs => chkC e sc x && chkCs r sc xs
  | _, _, _ => false
end
end
end KM

namespace KM
open PySem PySem.Spec PyProof.Rows L2

theorem star_of {x : Expr} {xs : List Expr} {env : PySem.Env} (h : plainX x = true) : starEach (x :: xs) env = (false, eval x env) :: starEach xs env := by
  cases x <;> first | rfl | cases h
theorem asg_of {x : Expr} {xs : List Expr} {env : PySem.Env} (h : plainX x = true) : assignEach (x :: xs) env = (false, assign x env) :: assignEach xs env := by
  cases x <;> first | rfl | cases h
theorem mark_of {x : Expr} {op : CmpOp} (h : plainX x = true) : behindInMarks op x = false := by
  cases x <;> first | rfl | cases h
theorem ix_of {x : Expr} (h : plainX x = true) : PlainIx x := by
  intro o i
  cases x <;> first | rfl | cases h
theorem fold_of {x : Expr} {env : PySem.Env} (h : plainX x = true) : ∀ v, foldedSetIterable x env v = pure v := by
  intro v
  cases x <;> first | rfl | cases h
theorem super_of {x : Expr} {name : Str} {env : PySem.Env} (h : notSuper x = true) : attributeBase x name env (eval x env) = eval x env := by
  cases x <;> first | rfl | skip
  rename_i f args kws pos
  cases f <;> first | rfl | skip
  cases args <;> first | rfl | skip
  cases kws <;> first | rfl | skip
  rename_i n p
  have h : (!(n == ("super" : Str))) = true := h
  have h2 : (n != ("super" : Str)) = true := h
  show (if n != "super" || name == "__class__" || env.kindOf "super" != some .globalImplicit || env.kindOf "__class__" != some .free then _ else _ : Sem Value) = _
  rw [h2]
  rfl
theorem truth_of {x : Expr} {env : PySem.Env} (h : plainT x = true) : ∀ whole, isTrue x env whole = (do let v ← whole; standAt x.pos; holding [v] (truthy v)) := by
  intro whole
  cases x <;> first | rfl | cases h | skip
  rename_i op y p
  cases op <;> first | rfl | cases h
theorem back_any {pos : Pos} {env : PySem.Env} : ∀ {xs : List Expr}, (∀ x ∈ xs, plainX x = true) → (backTo pos (starEach xs env)).any (·.1) = false
  | [], _ => rfl
  | x :: xs, h => by
    rw [star_of (h x List.mem_cons_self)]
    show (false || (backTo pos (starEach xs env)).any (·.1)) = false
    rw [back_any fun y hy => h y (List.mem_cons_of_mem _ hy)]
    rfl
theorem back_all {pos : Pos} {env : PySem.Env} : ∀ {xs : List Expr}, (∀ x ∈ xs, plainX x = true) → ((backTo pos (starEach xs env)).all fun x => !x.1) = true
  | [], _ => rfl
  | x :: xs, h => by
    rw [star_of (h x List.mem_cons_self)]
    show (true && (backTo pos (starEach xs env)).all fun x => !x.1) = true
    rw [back_all fun y hy => h y (List.mem_cons_of_mem _ hy)]
    rfl
theorem rvs_map {K : PySem.W.Frag} {H : Hp} {ρ : List Addr} {α : Type} {f : α → Val} {h : α → V} (r : ∀ a, RV K H ρ (f a) (h a)) : ∀ l : List α, RVs K H ρ (l.map f) (l.map h)
  | [] => rfl
  | x :: l => ⟨h x, l.map h, rfl, r x, rvs_map r l⟩
theorem rvs_rng {K : PySem.W.Frag} {H : Hp} {ρ : List Addr} (i : Int) (n : Nat) : RVs K H ρ ((List.range n).map fun (k : Nat) => Val.int (i + (k : Int))) ((List.range n).map fun (k : Nat) => V.int (i + (k : Int))) := rvs_map (f := fun (k : Nat) => Val.int (i + (k : Int))) (h := fun (k : Nat) => V.int (i + (k : Int))) (fun _ => rfl) _
section
variable {T : Tab} {N : List Str}
theorem chkEs_plain : ∀ {es : Es} {sc : Scope} {xs : List Expr}, chkEs T N es sc xs = true → (∀ x ∈ xs, plainX x = true) ∧ xs.length = esLen es
  | .nil, sc, [], _ => ⟨fun x h => (nomatch h), rfl⟩
  | .nil, sc, _ :: _, h => by cases h
  | .cons e r, sc, [], h => by cases h
  | .cons e r, sc, x :: xs, h => by
    have h : (plainX x && chkE T N e sc x && chkEs T N r sc xs) = true := h
    rw [Bool.and_eq_true_iff, Bool.and_eq_true_iff] at h
    obtain ⟨h1, h2⟩ := chkEs_plain h.2
    refine ⟨fun y hy => ?_, by rw [List.length_cons, h2]; rfl⟩
    rcases List.mem_cons.mp hy with e | hy
    · rw [e]; exact h.1.1
    · exact h1 y hy
theorem evs_len (call : Call) : ∀ {es : Es} {s : KM.Env} {g : Gh} {vs : List Val} {g1 : Gh}, evs call es s g = .ok vs g1 → vs.length = esLen es
  | .nil, s, g, vs, g1, h => by
    have h : (.ok [] g : R (List Val)) = .ok vs g1 := h
    cases h; rfl
  | .cons e r, s, g, vs, g1, h => by
    have h : ((ev call e s g).bind fun v g1 => (evs call r s g1).bind fun vs g2 => .ok (v :: vs) g2) = .ok vs g1 := h
    cases h1 : ev call e s g with
    | bad => rw [h1] at h; cases h
    | exn x g => rw [h1] at h; cases h
    | ok v g2 =>
      rw [h1] at h
      have h : ((evs call r s g2).bind fun vs g2 => .ok (v :: vs) g2) = .ok vs g1 := h
      cases h2 : evs call r s g2 with
      | bad => rw [h2] at h; cases h
      | exn x g => rw [h2] at h; cases h
      | ok ws g3 =>
        rw [h2] at h
        cases h
        rw [List.length_cons, evs_len call h2]
        rfl
end
section
variable {T : Tab} {Γ : Gam} {call : Call} {X : Cx} {sc : Scope} {N : List Str} {k : Nat} {W : WX}
theorem vis_of {x : Str} (h : visB sc x = true) : Vis sc x := by
  unfold visB at h
  unfold Vis
  split at h
  · rename_i e; exact .inl e
  · rename_i e; exact .inr (.inl e)
  · rename_i e; exact .inr (.inr e)
  · cases h
theorem gl_of {x : Str} (hs : X.env.scope = sc) (h : glB sc x = true) : Gl X x := by
  unfold glB at h
  show X.env.scope.names.lookup x = some .globalImplicit
  rw [hs]
  split at h
  · assumption
  · cases h
theorem nm_of {x : Str} (h : nmOk x = true) : (x == ("__debug__" : Str)) = false ∧ (x == ("__classdict__" : Str)) = false ∧ x ≠ "__name__" := by
  unfold nmOk at h
  rw [Bool.and_eq_true_iff, Bool.and_eq_true_iff] at h
  refine ⟨by simpa using h.1.1, by simpa using h.1.2, fun e => ?_⟩
  subst e
  have := h.2
  simp at this
/-- the block of a comprehension -/
theorem OkE.blk {scope : Scope} {ow : List (Str × Nat)} (o : OkE T Γ call X sc N k W) (ok : BlkOk X.N X.env.scope scope ow) (s : Shared) (H : Hp) (C : Addr) (cl : List (Str × Addr)) (fp : List Addr) :
    OkE T Γ call (X.blk s H scope (compEnvC scope cl C X.env) fp) (relS scope sc) N k W0 where
  hN := o.hN
  nd := o.nd
  sc := by
    show relS scope X.env.scope = _
    rw [o.sc]
  kind := ok.kind
  calm := o.calm
  room := o.room
  takes := takes_none5
  facts := o.facts
theorem loc_of {names : List (Str × NameKind)} {x : Str} (h : asB names x = true) : names.lookup x = some .local ∨ names.lookup x = some .cell := by
  unfold asB at h
  split at h
  · rename_i e; exact .inl e
  · rename_i e; exact .inr e
  · cases h
mutual
theorem snd_T (hN : X.N = N) (nd : N.Nodup) (hc : X.calm = true) {names : List (Str × NameKind)} (has : ∀ x, asB names x = true → Loc X.env.scope x ∧ (X.fn x = true ∨ X.env.scope.names.lookup x = some .local)) :
    ∀ (t : Tg) (x : Expr), chkTg N names t x = true → PG X x (gT Γ X.K t)
  | .nm i, x, h => by
    cases x <;> first | cases h | skip
    rename_i n p
    have h : (decide (N[i]? = some n) && asB names n) = true := h
    rw [Bool.and_eq_true_iff] at h
    obtain ⟨h1, h2⟩ := has n h.2
    exact g_nm (by rw [hN]; exact nd) (by rw [hN]; exact of_decide_eq_true h.1) h1 h2
  | .tp ts, x, h => by
    cases x <;> first | cases h | skip
    rename_i es n p
    obtain ⟨h1, h2, h3⟩ := snd_Ts hN nd hc has ts es h
    exact g_tp hc h1 h2 h3
theorem snd_Ts (hN : X.N = N) (nd : N.Nodup) (hc : X.calm = true) {names : List (Str × NameKind)} (has : ∀ x, asB names x = true → Loc X.env.scope x ∧ (X.fn x = true ∨ X.env.scope.names.lookup x = some .local)) :
    ∀ (t : Tgs) (xs : List Expr), chkTgs N names t xs = true → PGs X xs (gTs Γ X.K t) ∧ (assignEach xs X.env).length = tgsLen t ∧ (assignEach xs X.env).findIdx? (·.1) = none
  | .nil, [], _ => ⟨g_nil, rfl, rfl⟩
  | .nil, _ :: _, h => by cases h
  | .cons t r, [], h => by cases h
  | .cons t r, x :: xs, h => by
    have h : (plainX x && chkTg N names t x && chkTgs N names r xs) = true := h
    rw [Bool.and_eq_true_iff, Bool.and_eq_true_iff] at h
    obtain ⟨h1, h2, h3⟩ := snd_Ts hN nd hc has r xs h.2
    have e := asg_of (xs := xs) (env := X.env) h.1.1
    refine ⟨g_cons (snd_T hN nd hc has t x h.1.2) h1 (by rw [e]; rfl), by rw [e, List.length_cons, h2]; rfl, ?_⟩
    rw [e, List.findIdx?_cons, h3]
    rfl
end
theorem e_blt_all {b : Blt} {es : Es} {n : Str} {y : Expr} {ys : List Expr} {p pos : Pos} (o : OkE T Γ call X sc N k W) (hb : bltOk b = true) (hn : n = bltNm b) (hg : Gl X n) (hm : X.mg n = none) (hpl : ∀ x ∈ y :: ys, plainX x = true)
    (ha : PA X (y :: ys) (tA Γ X.K W (evs call es))) : PE X (.Call (.Name n p) (y :: ys) [] pos) (tE Γ X.K W (ev call (.blt b es))) := by
  have hs := star_of (xs := ys) (env := X.env) (hpl y List.mem_cons_self)
  have hp : (backTo pos (starEach ys X.env)).any (·.1) = false := back_any fun x hx => hpl x (List.mem_cons_of_mem _ hx)
  subst hn
  cases b <;> first | cases hb | skip
  · exact e_blt (fun a => pe_callB b_len hg hm (by decide +kernel) a (by decide +kernel) (by decide +kernel) hs hp) ha
  · exact e_blt (fun a => pe_callTy b_tuple hg hm (by decide +kernel) a (by decide +kernel) (by decide +kernel) hs hp) ha
  · exact e_blt (fun a => pe_callTy b_list hg hm (by decide +kernel) a (by decide +kernel) (by decide +kernel) hs hp) ha
  · exact e_blt (fun a => pe_callB b_abs hg hm (by decide +kernel) a (by decide +kernel) (by decide +kernel) hs hp) ha
  · exact e_blt (fun a => pe_callB (b_min2 o.calm) hg hm (by decide +kernel) a (by decide +kernel) (by decide +kernel) hs hp) ha
  · exact e_blt (fun a => pe_callB (b_max2 o.calm) hg hm (by decide +kernel) a (by decide +kernel) (by decide +kernel) hs hp) ha
  · exact e_blt (fun a => pe_callB (b_min1 o.calm) hg hm (by decide +kernel) a (by decide +kernel) (by decide +kernel) hs hp) ha
  · exact e_blt (fun a => pe_callB (b_max1 o.calm) hg hm (by decide +kernel) a (by decide +kernel) (by decide +kernel) hs hp) ha
  · exact e_blt (fun a => pe_callTy b_int hg hm (by decide +kernel) a (by decide +kernel) (by decide +kernel) hs hp) ha
  · exact e_blt (fun a => pe_callB b_ord hg hm (by decide +kernel) a (by decide +kernel) (by decide +kernel) hs hp) ha
  · exact e_blt (fun a => pe_callB (b_sum o.calm) hg hm (by decide +kernel) a (by decide +kernel) (by decide +kernel) hs hp) ha
  · exact e_blt (fun a => pe_callB (b_all o.calm) hg hm (by decide +kernel) a (by decide +kernel) (by decide +kernel) hs hp) ha
  · exact e_blt (fun a => pe_callB (b_any o.calm) hg hm (by decide +kernel) a (by decide +kernel) (by decide +kernel) hs hp) ha
  · exact e_blt (fun a => pe_callB b_sorted hg hm (by decide +kernel) a (by decide +kernel) (by decide +kernel) hs hp) ha
  · exact e_blt (fun a => pe_callB (b_min3 o.calm) hg hm (by decide +kernel) a (by decide +kernel) (by decide +kernel) hs hp) ha
  · exact e_blt (fun a => pe_callB (b_max3 o.calm) hg hm (by decide +kernel) a (by decide +kernel) (by decide +kernel) hs hp) ha
theorem e_bm_all {m : Bm} {o : E} {es : Es} {ox y : Expr} {ys : List Expr} {apos cpos : Pos} (hu : X.A.units + 1 < cLine) (hb : bmOk m = true) (hs0 : notSuper ox = true) (hline : (apos.endLine == cpos.line) = true) (hlen : (y :: ys).length < 20) (hpl : ∀ x ∈ y :: ys, plainX x = true)
    (ho : PE X ox (tE Γ X.K W (ev call o))) (ha : PA X (y :: ys) (tA Γ X.K W (evs call es))) : PE X (.Call (.Attribute ox (bmNm m) apos) (y :: ys) [] cpos) (tE Γ X.K W (ev call (.bm m o es))) := by
  have hs := star_of (xs := ys) (env := X.env) (hpl y List.mem_cons_self)
  have hp : (backTo cpos (starEach ys X.env)).any (·.1) = false := back_any fun x hx => hpl x (List.mem_cons_of_mem _ hx)
  have hfew : ((backTo cpos (starEach (y :: ys) X.env)).all (fun x => !x.1) && (backToKw cpos (keywordEach [] X.env)).all (fun x => x.1.isSome)
      && decide ((y :: ys).length + ([] : List Keyword).length + (if ([] : List Keyword).isEmpty then 0 else 1) < 30)) = true := by
    rw [back_all hpl]
    show (true && true && decide ((y :: ys).length + 0 + 0 < 30)) = true
    rw [decide_eq_true (by omega)]
    rfl
  cases m <;> first | cases hb | skip
  · exact e_bm (fun a b => pe_bm PySem.F.plainAttrs_list PySem.F.slot_list_append PySem.F.type_list_append m_append a b (super_of hs0) hfew hline hs hp) ho ha
  · exact e_bm (fun a b => pe_bm PySem.F.plainAttrs_list PySem.F.slot_list_extend PySem.F.type_list_extend m_extend a b (super_of hs0) hfew hline hs hp) ho ha
  · exact e_bm (fun a b => pe_bm PySem.F.plainAttrs_list PySem.F.slot_list_pop PySem.F.type_list_pop m_pop1 a b (super_of hs0) hfew hline hs hp) ho ha
  · exact e_bm (fun a b => pe_bm PySem.F.plainAttrs_list PySem.F.slot_list_insert PySem.F.type_list_insert m_insert a b (super_of hs0) hfew hline hs hp) ho ha
  · exact e_bm (fun a b => pe_bm PySem.F.plainAttrs_str PySem.F.slot_str_join PySem.F.type_str_join m_join a b (super_of hs0) hfew hline hs hp) ho ha
  · exact e_bm (fun a b => pe_bm PySem.F.plainAttrs_str PySem.F.slot_str_split PySem.F.type_str_split m_split a b (super_of hs0) hfew hline hs hp) ho ha
  · exact e_bm (fun a b => pe_bm PySem.F.plainAttrs_str PySem.F.slot_str_count PySem.F.type_str_count m_count a b (super_of hs0) hfew hline hs hp) ho ha
  · exact e_bm (fun a b => pe_bm PySem.F.plainAttrs_list PySem.F.slot_list_index PySem.F.type_list_index m_index a b (super_of hs0) hfew hline hs hp) ho ha
  · exact e_bm (fun a b => pe_bm PySem.F.plainAttrs_str PySem.F.slot_str_startswith PySem.F.type_str_startswith m_startswith a b (super_of hs0) hfew hline hs hp) ho ha
  · exact e_bm (fun a b => pe_bm PySem.F.plainAttrs_str PySem.F.slot_str_lstrip PySem.F.type_str_lstrip m_lstrip a b (super_of hs0) hfew hline hs hp) ho ha
  · exact e_bm (fun a b => pe_bm PySem.F.plainAttrs_str PySem.F.slot_str_strip PySem.F.type_str_strip m_strip a b (super_of hs0) hfew hline hs hp) ho ha
  · exact e_bm (fun a b => pe_bm PySem.F.plainAttrs_dict PySem.F.slot_dict_get PySem.F.type_dict_get (m_get1 hu) a b (super_of hs0) hfew hline hs hp) ho ha
  · exact e_bm (fun a b => pe_bm PySem.F.plainAttrs_dict PySem.F.slot_dict_get PySem.F.type_dict_get (m_get2 hu) a b (super_of hs0) hfew hline hs hp) ho ha
  · exact e_bm (fun a b => pe_bm PySem.F.plainAttrs_str PySem.F.slot_str_index PySem.F.type_str_index m_sindex1 a b (super_of hs0) hfew hline hs hp) ho ha
  · exact e_bm (fun a b => pe_bm PySem.F.plainAttrs_str PySem.F.slot_str_index PySem.F.type_str_index m_sindex2 a b (super_of hs0) hfew hline hs hp) ho ha
  · exact e_bm (fun a b => pe_bm PySem.F.plainAttrs_str PySem.F.slot_str_startswith PySem.F.type_str_startswith m_sw2 a b (super_of hs0) hfew hline hs hp) ho ha
  · exact e_bm (fun a b => pe_bm PySem.F.plainAttrs_str PySem.F.slot_str_endswith PySem.F.type_str_endswith m_endswith a b (super_of hs0) hfew hline hs hp) ho ha
theorem tyx_of {K : PySem.W.Frag} {H : Hp} {ρ : List Addr} {v : Val} {x : V} {g : Gh} (rv : RV K H ρ v x) : (∃ b, isSV v g = .ok (.bl b) g ∧ ∃ t : String, TyX K H x (.type t) ∧ PySem.W.kitOne K (.type t) (.type "str") = some b) ∨ isSV v g = .bad := by
  cases v with
  | non => rw [show x = .non from rv]; exact .inl ⟨false, rfl, "NoneType", .base .non, kit_ty (by decide +kernel)⟩
  | bl b => rw [show x = .bl b from rv]; exact .inl ⟨false, rfl, "bool", .base (.bl b), kit_ty (by decide +kernel)⟩
  | int i => rw [show x = .int i from rv]; exact .inl ⟨false, rfl, "int", .base (.int i), kit_ty (by decide +kernel)⟩
  | str s => rw [rv.1]; exact .inl ⟨true, rfl, "str", .base (.str _), kit_ty (by decide +kernel)⟩
  | tup xs =>
    obtain ⟨a, vs, rfl, h, _⟩ := rv
    refine .inl ⟨false, rfl, "tuple", ?_, kit_ty (by decide +kernel)⟩
    rcases h.t with (h | ⟨o, h⟩) | h
    · exact .base (.tup h)
    · exact .fTuple h
    · obtain ⟨o, its, n, h1, h2, _⟩ := h
      exact .kTuple h1 h2
  | ref n => exact .inr rfl
  | rol xs => exact .inr rfl
theorem e_isS {a : E} {y : Expr} {n t : Str} {p1 p2 p3 : Pos} (hn : n = "isinstance") (ht : t = "str") (hgl : Gl X n) (hml : X.mg n = none) (hgr : Gl X t) (hmr : X.mg t = none) (hp : plainX y = true) (ha : PE X y (tE Γ X.K W (ev call a))) :
    PE X (.Call (.Name n p1) [y, .Name t p2] [] p3) (tE Γ X.K W (ev call (.isS a))) := by
  subst hn ht
  have hs := star_of (xs := [.Name "str" p2]) (env := X.env) hp
  have hb : (backTo p3 (starEach [.Name "str" p2] X.env)).any (·.1) = false := back_any fun x hx => by
    rw [List.mem_singleton.mp hx]; rfl
  refine pe_imp (pe_callB call_isi hgl hml (by decide +kernel) (pa_cons (hs := hs) ha (pa_cons (pe_bltn (v := .ty "str") (u := .type "str") hgr hmr (by decide +kernel) rfl) pa_nil)) (by decide +kernel) (by decide +kernel) hs hb) fun σ H Q ⟨ρ, g, s, rs, rg, h⟩ => ⟨ρ, g, s, rs, rg, (two rs rg h).mono ?_⟩
  rintro v' H1 ⟨ρ1, g1, v, rs1, rg1, rv, e1, h1⟩
  rcases tyx_of (g := g1) rv with ⟨b, e, t, ht, hk⟩ | e
  · rw [e] at h1
    exact ⟨_, _, _, _, b, rfl, .ty "str", ht, hk, h1 _ ρ1 H1 .refl rg1 rfl⟩
  · rw [e] at h1
    exact h1.elim
theorem e_lset {a : E} {y : Expr} {l r : Str} {p1 p2 p3 p4 : Pos} (o : OkE T Γ call X sc N k W) (hl : l = "len") (hr : r = "set") (hgl : Gl X l) (hml : X.mg l = none) (hgr : Gl X r) (hmr : X.mg r = none) (hp : plainX y = true) (ha : PE X y (tE Γ X.K W (ev call a))) :
    PE X (.Call (.Name l p1) [.Call (.Name r p2) [y] [] p3] [] p4) (tE Γ X.K W (ev call (.lset a))) := by
  subst hl hr
  refine pe_imp (RZ.pe_lenSetI hgl hml hgr hmr ha o.calm (star_of hp)) fun σ H Q ⟨ρ, g, s, rs, rg, h⟩ => ⟨ρ, g, s, rs, rg, (two rs rg h).mono ?_⟩
  rintro v' H1 ⟨ρ1, g1, v, rs1, rg1, rv, e1, h1⟩
  cases v <;> first | exact h1.elim | skip
  rename_i n
  have h1 : FinG Γ X.K (relV X.K) W σ ρ1 H1 (match (lstAt g1 n).bind intsOf with
    | some ns => if decide ns.Nodup && decide (ns.length ≤ 4000) then .ok (.int (ns.length : Nat)) g1 else .bad
    | none => .bad) Q := h1
  split at h1
  · rename_i ns hn
    split at h1
    · rename_i hz
      rw [Bool.and_eq_true_iff] at hz
      obtain ⟨zs, hzs, hi⟩ := Option.bind_eq_some_iff.mp hn
      obtain ⟨a, rfl, ha⟩ := rv
      obtain ⟨a', vs, ha', ep, h2⟩ := rg1.lstAt hzs
      rw [ha] at ha'; cases ha'
      exact ⟨a, ns, rfl, by rw [← ints_of h2 hi]; exact .of ep, of_decide_eq_true hz.1, of_decide_eq_true hz.2, h1 _ ρ1 H1 .refl rg1 rfl⟩
    · exact h1.elim
  · exact h1.elim
theorem e_lrng1 {a : E} {y : Expr} {l r : Str} {p1 p2 p3 p4 : Pos} (o : OkE T Γ call X sc N k W) (hl : l = "list") (hr : r = "range") (hgl : Gl X l) (hml : X.mg l = none) (hgr : Gl X r) (hmr : X.mg r = none) (hp : plainX y = true) (ha : PE X y (tE Γ X.K W (ev call a))) :
    PE X (.Call (.Name l p1) [.Call (.Name r p2) [y] [] p3] [] p4) (tE Γ X.K W (ev call (.lrng1 a))) := by
  subst hl hr
  refine pe_imp (pe_listRg o.calm hgl hml (prg_1 hgr hmr ha (star_of hp))) fun σ H Q ⟨ρ, g, s, rs, rg, h⟩ => ⟨ρ, g, s, rs, rg, (two rs rg h).mono ?_⟩
  rintro v' H1 ⟨ρ1, g1, v, rs1, rg1, rv, e1, h1⟩
  cases v <;> first | exact h1.elim | skip
  rename_i j
  have h1 : FinG Γ X.K (relV X.K) W σ ρ1 H1 (lrng 0 j g1) Q := h1
  unfold lrng at h1
  split at h1
  · rename_i hz
    simp only [Bool.and_eq_true_iff, decide_eq_true_eq] at hz
    obtain ⟨⟨b1, b2⟩, a5⟩ := hz
    obtain ⟨a1, a2⟩ := intsIn_iff b1
    obtain ⟨a3, a4⟩ := intsIn_iff b2
    have hS : SL = 1000000 := rfl
    refine ⟨j, rv, ⟨by omega, by omega, by omega, by omega, by omega⟩, ?_⟩
    exact fin_lst rg1 (rvs_rng 0 _) h1
  · exact h1.elim
theorem e_lrng2 {a b : E} {y z : Expr} {l r : Str} {p1 p2 p3 p4 : Pos} (o : OkE T Γ call X sc N k W) (hl : l = "list") (hr : r = "range") (hgl : Gl X l) (hml : X.mg l = none) (hgr : Gl X r) (hmr : X.mg r = none) (hp : plainX y = true) (hp2 : plainX z = true) (ha : PE X y (tE Γ X.K W (ev call a))) (hb : PE X z (tE Γ X.K W (ev call b))) :
    PE X (.Call (.Name l p1) [.Call (.Name r p2) [y, z] [] p3] [] p4) (tE Γ X.K W (ev call (.lrng2 a b))) := by
  subst hl hr
  refine pe_imp (pe_listRg o.calm hgl hml (prg_2 hgr hmr ha hb (star_of hp) (star_of hp2) (by rw [star_of hp2]; rfl))) fun σ H Q ⟨ρ, g, s, rs, rg, h⟩ => ⟨ρ, g, s, rs, rg, (two rs rg h).mono ?_⟩
  rintro v' H1 ⟨ρ1, g1, v, rs1, rg1, rv, e1, h1⟩
  refine ⟨ρ1, g1, s, rs1, rg1, (two rs1 rg1 h1).mono ?_⟩
  rintro w' H2 ⟨ρ2, g2, w, rs2, rg2, rw_, e2, h2⟩
  cases v <;> first | exact h2.elim | skip
  cases w <;> first | exact h2.elim | skip
  rename_i i j
  have h2 : FinG Γ X.K (relV X.K) W σ ρ2 H2 (lrng i j g2) Q := h2
  unfold lrng at h2
  split at h2
  · rename_i hz
    simp only [Bool.and_eq_true_iff, decide_eq_true_eq] at hz
    obtain ⟨⟨b1, b2⟩, a5⟩ := hz
    obtain ⟨a1, a2⟩ := intsIn_iff b1
    obtain ⟨a3, a4⟩ := intsIn_iff b2
    have hS : SL = 1000000 := rfl
    refine ⟨i, j, rv, rw_, ⟨by omega, by omega, by omega, by omega, by omega⟩, ?_⟩
    exact fin_lst rg2 (rvs_rng i _) h2
  · exact h2.elim
theorem e_bm0_all {m : Bm} {o : E} {ox : Expr} {apos cpos : Pos} (hb : bmOk0 m = true) (hs0 : notSuper ox = true) (hline : (apos.endLine == cpos.line) = true)
    (ho : PE X ox (tE Γ X.K W (ev call o))) : PE X (.Call (.Attribute ox (bmNm m) apos) [] [] cpos) (tE Γ X.K W (ev call (.bm m o .nil))) := by
  cases m <;> first | cases hb | skip
  exact e_bm0 (fun a => pe_bm0 PySem.F.plainAttrs_list PySem.F.slot_list_pop PySem.F.type_list_pop m_pop0 a (super_of hs0) hline) ho
end
end KM

namespace KM
open PySem PySem.Spec PyProof.Rows L2
section
variable {T : Tab} {Γ : Gam} {call : Call} {N : List Str} {k : Nat}
theorem OkE.hu {X : Cx} {sc : Scope} {W : WX} (o : OkE T Γ call X sc N k W) : X.A.units + 65 < cLine := by have := o.room.un; omega
theorem OkE.hu1 {X : Cx} {sc : Scope} {W : WX} (o : OkE T Γ call X sc N k W) : X.A.units + 1 < cLine := by have := o.room.un; omega
theorem strB_of {s : Str} {v : Val} (h : (decide (v = .str s.cps.toList) && strB s) = true) : ∀ (K : PySem.W.Frag) (H : Hp) (ρ : List Addr), RV K H ρ v (.str s) := by
  intro K H ρ
  rw [Bool.and_eq_true_iff] at h
  rw [of_decide_eq_true h.1]
  have h2 := h.2
  unfold strB at h2
  rw [Bool.and_eq_true_iff, List.all_eq_true] at h2
  exact ⟨by show V.str s = .str ⟨s.cps.toList.toArray⟩; simp, of_decide_eq_true h2.1, fun c hc => of_decide_eq_true (h2.2 c hc)⟩
theorem has_blk {X : Cx} {sc : Scope} {W : WX} {scope : Scope} {ow : List (Str × Nat)} (ok : BlkOk X.N X.env.scope scope ow) (s : Shared) (H : Hp) (C : Addr) (cl : List (Str × Addr)) (fp : List Addr) (x : Str) (h : asB scope.names x = true) :
    Loc (X.blk s H scope (compEnvC scope cl C X.env) fp).env.scope x ∧ ((X.blk s H scope (compEnvC scope cl C X.env) fp).fn x = true ∨ (X.blk s H scope (compEnvC scope cl C X.env) fp).env.scope.names.lookup x = some .local) := by
  have e : (X.blk s H scope (compEnvC scope cl C X.env) fp).env.scope.names = (relS scope X.env.scope).names := rfl
  rcases loc_of h with h | h
  · have := lookup_relS_keep (sc := X.env.scope) (names := scope.names) (x := x) (k := .local) (fun z => by cases z) h
    exact ⟨.inl this, .inr this⟩
  · have := lookup_relS_keep (sc := X.env.scope) (names := scope.names) (x := x) (k := .cell) (fun z => by cases z) h
    refine ⟨.inr this, .inl ?_⟩
    show (scope.names.lookup x == some .cell) = true
    rw [h]
    rfl
theorem chain_of {X : Cx} {op op' : CmpOp} {x y z : Expr} {pos : Pos} {ta tb tc : TE} (ha : PE X x ta) (hb : PE X y tb) (hc : PE X z tc) (h1 : plainX y = true) (h2 : plainX z = true) {r r' : R2} (ho : OpR X (compareOp op) r) (ho' : OpR X (compareOp op') r') :
    PE X (.Compare x [op, op'] [y, z] pos) (tChain r r' ta tb tc) := pe_chain ho ho' ha hb hc (mark_of h2)
/-- a chain as a test -/
theorem t_chn {X : Cx} {W : WX} {op op' : Cop} {a b c : E} {x y z : Expr} {pos : Pos} (hu : X.A.units + 65 < cLine) (ha : PE X x (tE Γ X.K W (ev call a))) (hb : PE X y (tE Γ X.K W (ev call b))) (hc : PE X z (tE Γ X.K W (ev call c))) (h1 : plainX y = true) (h2 : plainX z = true) :
    PT X (.Compare x [copOf op, copOf op'] [y, z] pos) (tT Γ X.K W (evT call (.e (.chn op op' a b c)))) := by
  refine pt_imp (pt_chain (c_all (Γ := Γ) hu op) (c_all (Γ := Γ) hu op') ha hb hc (mark_of h2)) fun σ H Q ⟨ρ, g, s, rs, rg, h⟩ => ⟨ρ, g, s, rs, rg, ?_⟩
  have h := fin_tru rg h
  have h : FinG Γ X.K (relV X.K) W σ ρ H ((ev call a s g).bind fun v g1 => (ev call b s g1).bind fun w g2 => match cmpO op v w g2 with
    | some true => (ev call c s g2).bind fun u g3 => cmpV op' w u g3
    | some false => .ok (.bl false) g2
    | none => .bad) _ := h
  refine (two rs rg h).mono ?_
  rintro v' H1 ⟨ρ1, g1, v, rs1, rg1, rv, e1, h1⟩
  refine ⟨ρ1, g1, s, rs1, rg1, (two rs1 rg1 h1).mono ?_⟩
  rintro w' H2 ⟨ρ2, g2, w, rs2, rg2, rw_, e2, h2⟩
  refine ⟨W, σ, ρ2, g2, v, w, rg2, rv.go rg1 e2, rw_, ?_⟩
  unfold cmpV
  split at h2
  · rename_i hb
    rw [hb]
    intro v'' ρ3 H3 ex r3 rv3
    have e : v'' = .bl true := rv3
    refine ⟨true, e, ?_⟩
    rw [if_pos rfl]
    refine ⟨ρ3, g2, s, rs2.go rg2 ex, r3, (two (rs2.go rg2 ex) r3 (h2.go ex)).mono ?_⟩
    rintro u' H4 ⟨ρ4, g4, u, rs4, rg4, ru, e4, h4⟩
    refine ⟨W, σ, ρ4, g4, w, u, rg4, (rw_.go rg2 ex).go r3 e4, ru, ?_⟩
    show FinG Γ X.K (relV X.K) W σ ρ4 H4 (match cmpO op' w u g4 with
      | some b => .ok (.bl b) g4
      | none => .bad) _
    unfold cmpV at h4
    split at h4
    · rename_i bb hbb
      try rw [hbb]
      intro v5 ρ5 H5 e5 r5 rv5
      have e : v5 = .bl bb := rv5
      obtain ⟨kk, tk, qk⟩ := h4 v5 ρ5 H5 e5 r5 rv5
      subst e
      have tk : kk = bb := tk
      subst tk
      exact ⟨kk, rfl, qk⟩
    · exact h4.elim
  · rename_i hb
    rw [hb]
    intro v'' ρ3 H3 ex r3 rv3
    have e : v'' = .bl false := rv3
    refine ⟨false, e, ?_⟩
    rw [if_neg Bool.false_ne_true]
    obtain ⟨kk, tk, qk⟩ := h2 (.bl false) ρ3 H3 ex r3 rfl
    have tk : kk = false := tk
    subst tk
    exact ⟨false, rfl, qk⟩
  · exact h2.elim
set_option maxHeartbeats 16000000 in
mutual
theorem snd_E : ∀ (e : E) (x : Expr) (X : Cx) (sc : Scope) (W : WX), OkE T Γ call X sc N k W → chkE T N e sc x = true → PE X x (tE Γ X.K W (ev call e))
  | .var i, x, X, sc, W, o, h => by
    cases x <;> first | cases h | skip
    rename_i n p
    have h : (decide (N[i]? = some n) && visB sc n && nmOk n) = true := h
    rw [Bool.and_eq_true_iff, Bool.and_eq_true_iff] at h
    obtain ⟨h1, h2, _⟩ := nm_of h.2
    exact e_var (by rw [o.hN]; exact of_decide_eq_true h.1.1) (by rw [o.sc]; exact vis_of h.1.2) h1 h2
  | .cst v, x, X, sc, W, o, h => by
    cases x <;> first | cases h | skip
    · rename_i c j p
      cases c <;> first | cases h | skip
      · have h : decide (v = .non) = true := h
        rw [of_decide_eq_true h]
        exact e_cst pe_non fun _ _ => rfl
      · rename_i b
        have h : decide (v = .bl b) = true := h
        rw [of_decide_eq_true h]
        exact e_cst pe_bl fun _ _ => rfl
      · rename_i b
        have h : decide (v = .int b) = true := h
        rw [of_decide_eq_true h]
        exact e_cst pe_int fun _ _ => rfl
      · rename_i b
        exact e_cst pe_str fun H ρ => strB_of h X.K H ρ
    · rename_i n p
      have h : (glB sc n && nmOk n && decide (T.cs.lookup n = some v)) = true := h
      rw [Bool.and_eq_true_iff, Bool.and_eq_true_iff] at h
      obtain ⟨h1, h2, _⟩ := nm_of h.1.2
      obtain ⟨y, u, hm, hr, hv⟩ := o.facts.cs n v (of_decide_eq_true h.2)
      exact e_cst (pe_glob (gl_of o.sc h.1.1) hm hr h1) hv
  | .bin op a b, x, X, sc, W, o, h => by
    cases x <;> first | cases h | skip
    rename_i l oo r p
    have h : (decide (oo = bopOf op) && chkE T N a sc l && chkE T N b sc r) = true := h
    rw [Bool.and_eq_true_iff, Bool.and_eq_true_iff] at h
    rw [of_decide_eq_true h.1.1]
    exact e_bin (snd_E a l X sc W o h.1.2) (snd_E b r X sc W o h.2)
  | .neg a, x, X, sc, W, o, h => by
    cases x <;> first | cases h | skip
    rename_i op y p
    cases op <;> first | cases h | skip
    exact e_neg (snd_E a y X sc W o h)
  | .cmp op a b, x, X, sc, W, o, h => by
    cases x <;> first | cases h | skip
    rename_i l ops rs p
    match ops, rs, h with
    | [oo], [r], h =>
      have h : (decide (oo = copOf op) && plainX r && chkE T N a sc l && chkE T N b sc r) = true := h
      simp only [Bool.and_eq_true_iff] at h
      rw [of_decide_eq_true h.1.1.1]
      exact e_cmp o.hu (snd_E a l X sc W o h.1.2) (snd_E b r X sc W o h.2) (mark_of h.1.1.2)
  | .chn op op' a b c, x, X, sc, W, o, h => by
    cases x <;> first | cases h | skip
    rename_i l ops rs p
    match ops, rs, h with
    | [oo, oo'], [r, r'], h =>
      have h : (decide (oo = copOf op) && decide (oo' = copOf op') && plainX r && plainX r' && chkE T N a sc l && chkE T N b sc r && chkE T N c sc r') = true := h
      simp only [Bool.and_eq_true_iff] at h
      rw [of_decide_eq_true h.1.1.1.1.1.1, of_decide_eq_true h.1.1.1.1.1.2]
      have ha := snd_E a l X sc W o h.1.1.2
      have hb := snd_E b r X sc W o h.1.2
      have hc := snd_E c r' X sc W o h.2
      exact e_chn o.hu ha hb hc (chain_of ha hb hc h.1.1.1.1.2 h.1.1.1.2)
  | .not a, x, X, sc, W, o, h => by
    cases x <;> first | cases h | skip
    rename_i op y p
    cases op <;> first | cases h | skip
    exact e_not (snd_E a y X sc W o h)
  | .and es, x, X, sc, W, o, h => by
    cases x <;> first | cases h | skip
    rename_i op xs p
    cases op <;> first | cases h | skip
    have h : (!xs.isEmpty && chkEs T N es sc xs) = true := h
    rw [Bool.and_eq_true_iff] at h
    exact snd_And es xs p X sc W o h.1 h.2
  | .or es, x, X, sc, W, o, h => by
    cases x <;> first | cases h | skip
    rename_i op xs p
    cases op <;> first | cases h | skip
    have h : (!xs.isEmpty && chkEs T N es sc xs) = true := h
    rw [Bool.and_eq_true_iff] at h
    exact snd_Or es xs p X sc W o h.1 h.2
  | .ite c a b, x, X, sc, W, o, h => by
    cases x <;> first | cases h | skip
    rename_i t y z p
    have h : (chkC T N c sc t && chkE T N a sc y && chkE T N b sc z) = true := h
    simp only [Bool.and_eq_true_iff] at h
    exact e_ite (snd_C c t X sc W o h.1.1) (snd_E a y X sc W o h.1.2) (snd_E b z X sc W o h.2)
  | .tup es, x, X, sc, W, o, h => by
    cases x <;> first | cases h | skip
    rename_i xs j p
    exact e_tup (snd_Es es xs X sc W o h)
  | .lst es, x, X, sc, W, o, h => by
    cases x <;> first | cases h | skip
    rename_i xs p
    exact e_lst (snd_Es es xs X sc W o h)
  | .idx a b, x, X, sc, W, o, h => by
    cases x <;> first | cases h | skip
    rename_i l r p
    have h : (plainX r && chkE T N a sc l && chkE T N b sc r) = true := h
    simp only [Bool.and_eq_true_iff] at h
    exact e_idx o.hu1 (snd_E a l X sc W o h.1.2) (snd_E b r X sc W o h.2) (ix_of h.1.1)
  | .dnew t, x, X, sc, W, o, h => by
    cases x <;> first | cases h | skip
    rename_i ks vs p
    match ks, vs, h with
    | [], [], _ => exact e_dnew
  | .slc a lo hi, x, X, sc, W, o, h => by
    cases x <;> first | cases h | skip
    rename_i l r p
    cases r <;> first | cases h | skip
    rename_i u v st p2
    cases st <;> first | cases h | skip
    have h : (chkE T N a sc l && chkB T N lo sc u && chkB T N hi sc v) = true := h
    simp only [Bool.and_eq_true_iff] at h
    exact e_slc (snd_E a l X sc W o h.1.1) (snd_B lo u X sc W o h.1.2) (snd_B hi v X sc W o h.2)
  | .rev a, x, X, sc, W, o, h => by
    unfold chkE at h
    split at h
    · simp only [Bool.and_eq_true_iff] at h
      rw [of_decide_eq_true h.1]
      exact e_rev (snd_E a _ X sc W o h.2)
    · cases h
  | .call f es, x, X, sc, W, o, h => by
    unfold chkE at h
    split at h
    · rename_i n p y ys pos
      simp only [Bool.and_eq_true_iff] at h
      obtain ⟨h1, h2, _⟩ := nm_of h.1.1.2
      obtain ⟨fa, fd, ps, hl, hm, hk, hb, hF⟩ := o.facts.fn n f (esLen es) (of_decide_eq_true h.1.2)
      obtain ⟨hpl, _⟩ := chkEs_plain h.2
      have hF : FnOk X.prog X.w X.K X.mg X.base (L2.CX X.prog X.w) k fa fd ps (spOf Γ X.K (esLen es) (call f)) := by rw [← hl]; exact hF
      exact e_call (fun a => pe_callS hF o.room (gl_of o.sc h.1.1.1) hm hk hb (passAt o.takes) a h1 (star_of (hpl y List.mem_cons_self)) (back_any fun x hx => hpl x (List.mem_cons_of_mem _ hx))) (snd_Es es (y :: ys) X sc W o h.2) (fun s g vs g1 q => evs_len call q)
    · cases h
  | .blt b es, x, X, sc, W, o, h => by
    unfold chkE at h
    split at h
    · rename_i n p y ys pos
      simp only [Bool.and_eq_true_iff] at h
      obtain ⟨hpl, _⟩ := chkEs_plain h.2
      exact e_blt_all o h.1.1.2 (of_decide_eq_true h.1.1.1.2) (gl_of o.sc h.1.1.1.1.1) (o.facts.fr n (of_decide_eq_true h.1.2)) hpl (snd_Es es (y :: ys) X sc W o h.2)
    · cases h
  | .bm m oo es, x, X, sc, W, o, h => by
    unfold chkE at h
    split at h
    · rename_i ox name apos xs cpos
      simp only [Bool.and_eq_true_iff] at h
      obtain ⟨⟨⟨⟨⟨⟨h1, h2⟩, h3⟩, h4⟩, h5⟩, h6⟩, h7⟩ := h
      rw [of_decide_eq_true h1]
      obtain ⟨hpl, hlen⟩ := chkEs_plain h7
      cases xs with
      | nil =>
        have h5 : bmOk0 m = true := h5
        cases es with
        | nil => exact e_bm0_all h5 h2 h3 (snd_E oo ox X sc W o h6)
        | cons e r => cases h7
      | cons y ys =>
        have h5 : bmOk m = true := h5
        exact e_bm_all o.hu1 h5 h2 h3 (of_decide_eq_true h4) hpl (snd_E oo ox X sc W o h6) (snd_Es es (y :: ys) X sc W o h7)
    · cases h
  | .comp own tg kk its cond elt, x, X, sc, W, o, h => by
    unfold chkE at h
    split at h
    · rename_i eltx tgx iterx ifs a scope pos
      simp only [Bool.and_eq_true_iff] at h
      obtain ⟨⟨⟨⟨⟨⟨⟨⟨h1, h2⟩, h3⟩, h4⟩, h5⟩, h6⟩, h7⟩, h8⟩, h9⟩ := h
      have ha : a = 0 := of_decide_eq_true h1
      subst ha
      have h4 : (ownOf N own).map (·.2) = own := of_decide_eq_true h4
      have ok : BlkOk X.N X.env.scope scope (ownOf N own) := by rw [o.hN, o.sc]; exact blkOk_by h3
      have hts : ∀ i ∈ tslots tg, i ∈ own := fun i hi => of_decide_eq_true (List.all_eq_true.mp h6 i hi)
      have hnd : X.N.Nodup := by rw [o.hN]; exact o.nd
      have hi : PI X tgx iterx (tI Γ X.K W kk (evs call its)) := by
        cases kk with
        | plain =>
          have h9 : chkEs T N its sc [iterx] = true := h9
          match its, h9 with
          | .cons e .nil, h9 =>
            have h9 : (plainX iterx && chkE T N e sc iterx && true) = true := h9
            simp only [Bool.and_eq_true_iff] at h9
            exact i_plain (snd_E e iterx X sc W o h9.1.2)
          | .cons e (.cons e2 r), h9 =>
            have h9 : (plainX iterx && chkE T N e sc iterx && false) = true := h9
            simp at h9
        | range =>
          simp only at h9
          split at h9
          · rename_i n p xs pos2
            simp only [Bool.and_eq_true_iff] at h9
            obtain ⟨⟨⟨⟨⟨b1, b2⟩, b3⟩, b4⟩, b5⟩, b6⟩ := h9
            have hg := gl_of o.sc b1
            have hm := o.facts.fr n (of_decide_eq_true b4)
            obtain ⟨hpl, hlen⟩ := chkEs_plain b5
            have b3 : n = "range" := of_decide_eq_true b3
            subst b3
            have hA := snd_Es its xs X sc W o b5
            have hL : ∀ s g vs g1, evs call its s g = .ok vs g1 → vs.length = xs.length := fun s g vs g1 q => by rw [hlen]; exact evs_len call q
            match xs, hpl, hA, hL, b6 with
            | [y], hpl, hA, hL, _ => exact i_range1 hg hm hA (star_of (hpl y (by simp))) hL
            | [y, z], hpl, hA, hL, _ => exact i_range2 hg hm hA (by rw [star_of (hpl y (by simp)), star_of (hpl z (by simp))]; rfl) (star_of (hpl z (by simp))) hL
            | [y, z, u], hpl, hA, hL, _ => exact i_range3 hg hm hA (star_of (hpl y (by simp))) (back_any fun x hx => hpl x (List.mem_cons_of_mem _ hx)) hL
            | [], _, _, _, b6 => simp at b6
            | _ :: _ :: _ :: _ :: _, _, _, _, b6 => simp at b6
          · cases h9
        | enm =>
          simp only at h9
          split at h9
          · rename_i n p xs pos2
            simp only [Bool.and_eq_true_iff] at h9
            obtain ⟨⟨⟨⟨⟨b1, b2⟩, b3⟩, b4⟩, b5⟩, b6, b7⟩ := h9
            have hg := gl_of o.sc b1
            have hm := o.facts.fr n (of_decide_eq_true b4)
            obtain ⟨hpl, hlen⟩ := chkEs_plain b5
            have b3 : n = "enumerate" := of_decide_eq_true b3
            subst b3
            have hA := snd_Es its xs X sc W o b5
            cases tgx <;> first | cases b7 | skip
            match xs, hpl, hA, b6 with
            | [y], hpl, hA, _ => exact i_enm hg hm hA (star_of (hpl y (by simp)))
            | [], _, _, b6 => simp at b6
            | _ :: _ :: _, _, _, b6 => simp at b6
          · cases h9
        | zp =>
          simp only at h9
          split at h9
          · rename_i n p xs pos2
            simp only [Bool.and_eq_true_iff] at h9
            obtain ⟨⟨⟨⟨⟨b1, b2⟩, b3⟩, b4⟩, b5⟩, b6, b7⟩ := h9
            have hg := gl_of o.sc b1
            have hm := o.facts.fr n (of_decide_eq_true b4)
            obtain ⟨hpl, hlen⟩ := chkEs_plain b5
            have b3 : n = "zip" := of_decide_eq_true b3
            subst b3
            have hA := snd_Es its xs X sc W o b5
            cases tgx <;> first | cases b7 | skip
            match xs, hpl, hA, b6 with
            | [y, z], hpl, hA, _ => exact i_zp hg hm hA (star_of (hpl y (by simp))) (back_any fun x hx => hpl x (List.mem_cons_of_mem _ hx))
            | [], _, _, b6 => simp at b6
            | [_], _, _, b6 => simp at b6
            | _ :: _ :: _ :: _, _, _, b6 => simp at b6
          · cases h9
      have hg : ∀ (s : Shared) (H : Hp) (C : Addr) (cl : List (Str × Addr)) (fp : List Addr), PG (X.blk s H scope (compEnvC scope cl C X.env) fp) tgx (gT Γ X.K tg) := fun s H C cl fp =>
        snd_T (X := X.blk s H scope (compEnvC scope cl C X.env) fp) o.hN o.nd o.calm (has_blk (sc := sc) (W := W) ok s H C cl fp) tg tgx h5
      have ht : ∀ (s : Shared) (H : Hp) (C : Addr) (cl : List (Str × Addr)) (fp : List Addr), PTs (X.blk s H scope (compEnvC scope cl C X.env) fp) ifs (tT Γ X.K W0 (evT call cond)) := fun s H C cl fp => by
        cases ifs with
        | nil =>
          match cond, h7 with
          | .and .nil, _ => exact ⟨fun pins s σ H Q I ⟨ρ, g, s', rs, rg, q⟩ => pts_nil.run pins s σ H Q I (q true ρ H .refl rg rfl)⟩
        | cons y ys =>
          cases ys with
          | nil => exact pts_one (snd_C cond y (X.blk s H scope (compEnvC scope cl C X.env) fp) (relS scope sc) W0 (o.blk ok s H C cl fp) h7)
          | cons _ _ => cases h7
      have he : ∀ (s : Shared) (H : Hp) (C : Addr) (cl : List (Str × Addr)) (fp : List Addr), PE (X.blk s H scope (compEnvC scope cl C X.env) fp) eltx (tE Γ X.K W0 (ev call elt)) := fun s H C cl fp =>
        snd_E elt eltx (X.blk s H scope (compEnvC scope cl C X.env) fp) (relS scope sc) W0 (o.blk ok s H C cl fp) h8
      refine pe_imp (pe_lc o.calm hnd hi ok hg ht he (fold_of h2)) fun σ H Q q => ?_
      rw [h4]
      exact lc_imp hts q
    · cases h
  | .lset a, x, X, sc, W, o, h => by
    unfold chkE at h
    split at h
    · simp only [Bool.and_eq_true_iff] at h
      obtain ⟨⟨⟨⟨⟨⟨⟨h1, h2⟩, h3⟩, h4⟩, h5⟩, h6⟩, h7⟩, h8⟩ := h
      exact e_lset o (of_decide_eq_true h2) (of_decide_eq_true h5) (gl_of o.sc h1) (o.facts.fr _ (of_decide_eq_true h3)) (gl_of o.sc h4) (o.facts.fr _ (of_decide_eq_true h6)) h7 (snd_E a _ X sc W o h8)
    · cases h
  | .isS a, x, X, sc, W, o, h => by
    unfold chkE at h
    split at h
    · simp only [Bool.and_eq_true_iff] at h
      obtain ⟨⟨⟨⟨⟨⟨⟨h1, h2⟩, h3⟩, h4⟩, h5⟩, h6⟩, h7⟩, h8⟩ := h
      exact e_isS (of_decide_eq_true h2) (of_decide_eq_true h5) (gl_of o.sc h1) (o.facts.fr _ (of_decide_eq_true h3)) (gl_of o.sc h4) (o.facts.fr _ (of_decide_eq_true h6)) h7 (snd_E a _ X sc W o h8)
    · cases h
  | .lrng1 a, x, X, sc, W, o, h => by
    unfold chkE at h
    split at h
    · simp only [Bool.and_eq_true_iff] at h
      obtain ⟨⟨⟨⟨⟨⟨⟨h1, h2⟩, h3⟩, h4⟩, h5⟩, h6⟩, h7⟩, h8⟩ := h
      exact e_lrng1 o (of_decide_eq_true h2) (of_decide_eq_true h5) (gl_of o.sc h1) (o.facts.fr _ (of_decide_eq_true h3)) (gl_of o.sc h4) (o.facts.fr _ (of_decide_eq_true h6)) h7 (snd_E a _ X sc W o h8)
    · cases h
  | .lrng2 a b, x, X, sc, W, o, h => by
    unfold chkE at h
    split at h
    · simp only [Bool.and_eq_true_iff] at h
      obtain ⟨⟨⟨⟨⟨⟨⟨⟨⟨h1, h2⟩, h3⟩, h4⟩, h5⟩, h6⟩, h7⟩, h7'⟩, h8⟩, h9⟩ := h
      exact e_lrng2 o (of_decide_eq_true h2) (of_decide_eq_true h5) (gl_of o.sc h1) (o.facts.fr _ (of_decide_eq_true h3)) (gl_of o.sc h4) (o.facts.fr _ (of_decide_eq_true h6)) h7 h7' (snd_E a _ X sc W o h8) (snd_E b _ X sc W o h9)
    · cases h
theorem snd_Es : ∀ (es : Es) (xs : List Expr) (X : Cx) (sc : Scope) (W : WX), OkE T Γ call X sc N k W → chkEs T N es sc xs = true → PA X xs (tA Γ X.K W (evs call es))
  | .nil, [], X, sc, W, o, _ => a_nil
  | .nil, _ :: _, X, sc, W, o, h => by cases h
  | .cons e r, [], X, sc, W, o, h => by cases h
  | .cons e r, x :: xs, X, sc, W, o, h => by
    have h : (plainX x && chkE T N e sc x && chkEs T N r sc xs) = true := h
    rw [Bool.and_eq_true_iff, Bool.and_eq_true_iff] at h
    exact a_cons (snd_E e x X sc W o h.1.2) (snd_Es r xs X sc W o h.2) (star_of h.1.1)
theorem snd_And : ∀ (es : Es) (xs : List Expr) (p : Pos) (X : Cx) (sc : Scope) (W : WX), OkE T Γ call X sc N k W → (!xs.isEmpty) = true → chkEs T N es sc xs = true → PE X (.BoolOp .And xs p) (tE Γ X.K W (evAnd call es))
  | .nil, [], p, X, sc, W, o, hn, h => by cases hn
  | .nil, _ :: _, p, X, sc, W, o, hn, h => by cases h
  | .cons e r, [], p, X, sc, W, o, hn, h => by cases hn
  | .cons e .nil, [x], p, X, sc, W, o, hn, h => by
    have h : (plainX x && chkE T N e sc x && true) = true := h
    simp only [Bool.and_eq_true_iff] at h
    exact e_and1 (snd_E e x X sc W o h.1.2)
  | .cons e .nil, x :: y :: ys, p, X, sc, W, o, hn, h => by
    have h : (plainX x && chkE T N e sc x && false) = true := h
    simp at h
  | .cons e (.cons e2 r), [x], p, X, sc, W, o, hn, h => by
    have h : (plainX x && chkE T N e sc x && false) = true := h
    simp at h
  | .cons e (.cons e2 r), x :: y :: ys, p, X, sc, W, o, hn, h => by
    have h : (plainX x && chkE T N e sc x && chkEs T N (.cons e2 r) sc (y :: ys)) = true := h
    rw [Bool.and_eq_true_iff, Bool.and_eq_true_iff] at h
    exact e_andc (snd_E e x X sc W o h.1.2) (snd_And (.cons e2 r) (y :: ys) p X sc W o rfl h.2)
theorem snd_Or : ∀ (es : Es) (xs : List Expr) (p : Pos) (X : Cx) (sc : Scope) (W : WX), OkE T Γ call X sc N k W → (!xs.isEmpty) = true → chkEs T N es sc xs = true → PE X (.BoolOp .Or xs p) (tE Γ X.K W (evOr call es))
  | .nil, [], p, X, sc, W, o, hn, h => by cases hn
  | .nil, _ :: _, p, X, sc, W, o, hn, h => by cases h
  | .cons e r, [], p, X, sc, W, o, hn, h => by cases hn
  | .cons e .nil, [x], p, X, sc, W, o, hn, h => by
    have h : (plainX x && chkE T N e sc x && true) = true := h
    simp only [Bool.and_eq_true_iff] at h
    exact e_or1 (snd_E e x X sc W o h.1.2)
  | .cons e .nil, x :: y :: ys, p, X, sc, W, o, hn, h => by
    have h : (plainX x && chkE T N e sc x && false) = true := h
    simp at h
  | .cons e (.cons e2 r), [x], p, X, sc, W, o, hn, h => by
    have h : (plainX x && chkE T N e sc x && false) = true := h
    simp at h
  | .cons e (.cons e2 r), x :: y :: ys, p, X, sc, W, o, hn, h => by
    have h : (plainX x && chkE T N e sc x && chkEs T N (.cons e2 r) sc (y :: ys)) = true := h
    rw [Bool.and_eq_true_iff, Bool.and_eq_true_iff] at h
    exact e_orc (snd_E e x X sc W o h.1.2) (snd_Or (.cons e2 r) (y :: ys) p X sc W o rfl h.2)
theorem snd_B : ∀ (b : B) (x : Option Expr) (X : Cx) (sc : Scope) (W : WX), OkE T Γ call X sc N k W → chkB T N b sc x = true → PO X x (tPO Γ X.K W (evB call b))
  | .no, none, X, sc, W, o, _ => o_no
  | .no, some _, X, sc, W, o, h => by cases h
  | .e a, none, X, sc, W, o, h => by cases h
  | .e a, some x, X, sc, W, o, h => o_e (snd_E a x X sc W o h)
theorem snd_C : ∀ (c : C) (x : Expr) (X : Cx) (sc : Scope) (W : WX), OkE T Γ call X sc N k W → chkC T N c sc x = true → PT X x (tT Γ X.K W (evT call c))
  | .e a, x, X, sc, W, o, h => by
    have h : ((plainT x || isCmp a) && chkE T N a sc x) = true := h
    rw [Bool.and_eq_true_iff, Bool.or_eq_true_iff] at h
    rcases h.1 with hp | hp
    · exact pt_of (snd_E a x X sc W o h.2) (truth_of hp)
    · exact snd_Cmp a x X sc W o hp h.2
  | .not c, x, X, sc, W, o, h => by
    cases x <;> first | cases h | skip
    rename_i op y p
    cases op <;> first | cases h | skip
    exact t_not (snd_C c y X sc W o h)
  | .and cs, x, X, sc, W, o, h => by
    cases x <;> first | cases h | skip
    rename_i op xs p
    cases op <;> first | cases h | skip
    have h : (!xs.isEmpty && chkCs T N cs sc xs) = true := h
    rw [Bool.and_eq_true_iff] at h
    exact (snd_AndT cs xs p X sc W o h.1 h.2).pt
  | .or cs, x, X, sc, W, o, h => by
    cases x <;> first | cases h | skip
    rename_i op xs p
    cases op <;> first | cases h | skip
    have h : (!xs.isEmpty && chkCs T N cs sc xs) = true := h
    rw [Bool.and_eq_true_iff] at h
    exact (snd_OrT cs xs p X sc W o h.1 h.2).pt
  | .ite c a b, x, X, sc, W, o, h => by
    cases x <;> first | cases h | skip
    rename_i t y z p
    have h : (chkC T N c sc t && chkC T N a sc y && chkC T N b sc z) = true := h
    simp only [Bool.and_eq_true_iff] at h
    exact t_ite (snd_C c t X sc W o h.1.1) (snd_C a y X sc W o h.1.2) (snd_C b z X sc W o h.2)
theorem snd_Cmp : ∀ (e : E) (x : Expr) (X : Cx) (sc : Scope) (W : WX), OkE T Γ call X sc N k W → isCmp e = true → chkE T N e sc x = true → PT X x (tT Γ X.K W (evT call (.e e)))
  | .cmp op a b, x, X, sc, W, o, hi, h => by
    cases x <;> first | cases h | skip
    rename_i l ops rs p
    match ops, rs, h with
    | [oo], [r], h =>
      have h : (decide (oo = copOf op) && plainX r && chkE T N a sc l && chkE T N b sc r) = true := h
      simp only [Bool.and_eq_true_iff] at h
      rw [of_decide_eq_true h.1.1.1]
      exact t_cmp o.hu (snd_E a l X sc W o h.1.2) (snd_E b r X sc W o h.2) (mark_of h.1.1.2)
  | .chn op op' a b c, x, X, sc, W, o, hi, h => by
    cases x <;> first | cases h | skip
    rename_i l ops rs p
    match ops, rs, h with
    | [oo, oo'], [r, r'], h =>
      have h : (decide (oo = copOf op) && decide (oo' = copOf op') && plainX r && plainX r' && chkE T N a sc l && chkE T N b sc r && chkE T N c sc r') = true := h
      simp only [Bool.and_eq_true_iff] at h
      rw [of_decide_eq_true h.1.1.1.1.1.1, of_decide_eq_true h.1.1.1.1.1.2]
      exact t_chn o.hu (snd_E a l X sc W o h.1.1.2) (snd_E b r X sc W o h.1.2) (snd_E c r' X sc W o h.2) h.1.1.1.1.2 h.1.1.1.2
  | .var _, _, _, _, _, _, hi, _ => by cases hi
  | .cst _, _, _, _, _, _, hi, _ => by cases hi
  | .bin .., _, _, _, _, _, hi, _ => by cases hi
  | .neg _, _, _, _, _, _, hi, _ => by cases hi
  | .not _, _, _, _, _, _, hi, _ => by cases hi
  | .and _, _, _, _, _, _, hi, _ => by cases hi
  | .or _, _, _, _, _, _, hi, _ => by cases hi
  | .ite .., _, _, _, _, _, hi, _ => by cases hi
  | .tup _, _, _, _, _, _, hi, _ => by cases hi
  | .lst _, _, _, _, _, _, hi, _ => by cases hi
  | .idx .., _, _, _, _, _, hi, _ => by cases hi
  | .slc .., _, _, _, _, _, hi, _ => by cases hi
  | .rev _, _, _, _, _, _, hi, _ => by cases hi
  | .call .., _, _, _, _, _, hi, _ => by cases hi
  | .blt .., _, _, _, _, _, hi, _ => by cases hi
  | .bm .., _, _, _, _, _, hi, _ => by cases hi
  | .comp .., _, _, _, _, _, hi, _ => by cases hi
  | .isS .., _, _, _, _, _, hi, _ => by cases hi
  | .dnew .., _, _, _, _, _, hi, _ => by cases hi
  | .lset .., _, _, _, _, _, hi, _ => by cases hi
  | .lrng1 .., _, _, _, _, _, hi, _ => by cases hi
  | .lrng2 .., _, _, _, _, _, hi, _ => by cases hi
theorem snd_AndT : ∀ (es : Cs) (xs : List Expr) (p : Pos) (X : Cx) (sc : Scope) (W : WX), OkE T Γ call X sc N k W → (!xs.isEmpty) = true → chkCs T N es sc xs = true → PW X (.BoolOp .And xs p) (tT Γ X.K W (evAndT call es))
  | .nil, [], p, X, sc, W, o, hn, h => by cases hn
  | .nil, _ :: _, p, X, sc, W, o, hn, h => by cases h
  | .cons e r, [], p, X, sc, W, o, hn, h => by cases hn
  | .cons e .nil, [x], p, X, sc, W, o, hn, h => by
    have h : (chkC T N e sc x && true) = true := h
    simp only [Bool.and_eq_true_iff] at h
    exact t_and1 (snd_C e x X sc W o h.1)
  | .cons e .nil, x :: y :: ys, p, X, sc, W, o, hn, h => by
    have h : (chkC T N e sc x && false) = true := h
    simp at h
  | .cons e (.cons e2 r), [x], p, X, sc, W, o, hn, h => by
    have h : (chkC T N e sc x && false) = true := h
    simp at h
  | .cons e (.cons e2 r), x :: y :: ys, p, X, sc, W, o, hn, h => by
    have h : (chkC T N e sc x && chkCs T N (.cons e2 r) sc (y :: ys)) = true := h
    rw [Bool.and_eq_true_iff] at h
    exact t_andc (snd_C e x X sc W o h.1) (snd_AndT (.cons e2 r) (y :: ys) p X sc W o rfl h.2)
theorem snd_OrT : ∀ (es : Cs) (xs : List Expr) (p : Pos) (X : Cx) (sc : Scope) (W : WX), OkE T Γ call X sc N k W → (!xs.isEmpty) = true → chkCs T N es sc xs = true → PW X (.BoolOp .Or xs p) (tT Γ X.K W (evOrT call es))
  | .nil, [], p, X, sc, W, o, hn, h => by cases hn
  | .nil, _ :: _, p, X, sc, W, o, hn, h => by cases h
  | .cons e r, [], p, X, sc, W, o, hn, h => by cases hn
  | .cons e .nil, [x], p, X, sc, W, o, hn, h => by
    have h : (chkC T N e sc x && true) = true := h
    simp only [Bool.and_eq_true_iff] at h
    exact t_or1 (snd_C e x X sc W o h.1)
  | .cons e .nil, x :: y :: ys, p, X, sc, W, o, hn, h => by
    have h : (chkC T N e sc x && false) = true := h
    simp at h
  | .cons e (.cons e2 r), [x], p, X, sc, W, o, hn, h => by
    have h : (chkC T N e sc x && false) = true := h
    simp at h
  | .cons e (.cons e2 r), x :: y :: ys, p, X, sc, W, o, hn, h => by
    have h : (chkC T N e sc x && chkCs T N (.cons e2 r) sc (y :: ys)) = true := h
    rw [Bool.and_eq_true_iff] at h
    exact t_orc (snd_C e x X sc W o h.1) (snd_OrT (.cons e2 r) (y :: ys) p X sc W o rfl h.2)
end
end
end KM

namespace KM
open PySem PySem.Spec PyProof.Rows L2

/-! ### statements -/
/-- what is wanted of a statement's end -/
def FinS (Γ : Gam) (K : PySem.W.Frag) (W : WX) (D : Ends) (ρ : List Addr) (H : Hp) : SR → Prop
  | .nx s g => ∀ σ' ρ' H', Ext ρ H ρ' H' → RG Γ K H' ρ' g → RS K H' ρ' s σ' → D.nx σ' H'
  | .rt v g => ∀ v' ρ' H', Ext ρ H ρ' H' → RG Γ K H' ρ' g → RV K H' ρ' v v' → D.rt v' H'
  | .bk s g => ∀ σ' ρ' H', Ext ρ H ρ' H' → RG Γ K H' ρ' g → RS K H' ρ' s σ' → D.bk σ' H'
  | .ct s g => ∀ σ' ρ' H', Ext ρ H ρ' H' → RG Γ K H' ρ' g → RS K H' ρ' s σ' → D.ct σ' H'
  | .exn x s g => ∀ cls d σ' ρ' H', Ext ρ H ρ' H' → RG Γ K H' ρ' g → RS K H' ρ' s σ' → RX Γ K H' ρ' x cls d → W cls d σ' H'
  | .bad => False
def tS (Γ : Gam) (K : PySem.W.Frag) (W : WX) (f : KM.Env → Gh → SR) : TS := fun D σ H => ∃ ρ g s, RS K H ρ s σ ∧ RG Γ K H ρ g ∧ FinS Γ K W D ρ H (f s g)
section
variable {Γ : Gam} {K : PySem.W.Frag} {W : WX} {D D' : Ends} {ρ ρ1 : List Addr} {H H1 : Hp} {g : Gh} {s : KM.Env} {σ : L2.St}
theorem FinS.go {r : SR} (h : FinS Γ K W D ρ H r) (e : Ext ρ H ρ1 H1) : FinS Γ K W D ρ1 H1 r := by
  cases r with
  | nx s g => exact fun σ' ρ' H' e' => h σ' ρ' H' (e.trans e')
  | rt v g => exact fun v' ρ' H' e' => h v' ρ' H' (e.trans e')
  | bk s g => exact fun σ' ρ' H' e' => h σ' ρ' H' (e.trans e')
  | ct s g => exact fun σ' ρ' H' e' => h σ' ρ' H' (e.trans e')
  | exn x s g => exact fun c d σ' ρ' H' e' => h c d σ' ρ' H' (e.trans e')
  | bad => exact h
theorem FinS.mono {r : SR} (h : FinS Γ K W D ρ H r) (h1 : ∀ σ H, D.nx σ H → D'.nx σ H) (h2 : ∀ v H, D.rt v H → D'.rt v H) (h3 : ∀ σ H, D.bk σ H → D'.bk σ H) (h4 : ∀ σ H, D.ct σ H → D'.ct σ H) : FinS Γ K W D' ρ H r := by
  cases r with
  | nx s g => exact fun σ' ρ' H' e' a b => h1 _ _ (h σ' ρ' H' e' a b)
  | rt v g => exact fun v' ρ' H' e' a b => h2 _ _ (h v' ρ' H' e' a b)
  | bk s g => exact fun σ' ρ' H' e' a b => h3 _ _ (h σ' ρ' H' e' a b)
  | ct s g => exact fun σ' ρ' H' e' a b => h4 _ _ (h σ' ρ' H' e' a b)
  | exn x s g => exact h
  | bad => exact h
/-- an expression, then -/
theorem FinS.st {α β : Type} {rel : Hp → List Addr → α → β → Prop} {r : R α} {k : α → Gh → SR} (rs : RS K H ρ s σ) (rg : RG Γ K H ρ g) (h : FinS Γ K W D ρ H (r.st s k)) :
    FinG Γ K rel W σ ρ H r (fun v' H1 => ∃ ρ1 g1 v, RS K H1 ρ1 s σ ∧ RG Γ K H1 ρ1 g1 ∧ rel H1 ρ1 v v' ∧ Ext ρ H ρ1 H1 ∧ FinS Γ K W D ρ1 H1 (k v g1)) := by
  cases r with
  | ok v g1 => exact fun v' ρ' H' e a b => ⟨ρ', g1, v, rs.go rg e, a, b, e, FinS.go (r := k v g1) h e⟩
  | exn x g1 => exact fun c d ρ' H' e a b => h c d σ ρ' H' e a (rs.go rg e) b
  | bad => exact h
theorem FinS.seq {r : SR} {k : KM.Env → Gh → SR} (h : FinS Γ K W D ρ H (r.seq k)) : FinS Γ K W { D with nx := fun σ' H' => ∃ ρ' g' s', RS K H' ρ' s' σ' ∧ RG Γ K H' ρ' g' ∧ FinS Γ K W D ρ' H' (k s' g') } ρ H r := by
  cases r with
  | nx s g1 => exact fun σ' ρ' H' e a b => ⟨ρ', g1, s, b, a, FinS.go (r := k s g1) h e⟩
  | rt v g1 => exact h
  | bk s g1 => exact h
  | ct s g1 => exact h
  | exn x s g1 => exact h
  | bad => exact h
end
section
variable {T : Tab} {Γ : Gam} {call : Call} {X : Cx} {W : WX}
theorem s_nil : PSs X [] (tS Γ X.K W (exs call .nil)) := pss_imp pss_nil fun D σ H ⟨ρ, g, s, rs, rg, h⟩ => h σ ρ H .refl rg rs
theorem s_cons {a : S} {r : Ss} {x : Stmt} {xs : List Stmt} (h1 : PS X x (tS Γ X.K W (ex call a))) (h2 : PSs X xs (tS Γ X.K W (exs call r))) : PSs X (x :: xs) (tS Γ X.K W (exs call (.cons a r))) :=
  pss_imp (pss_cons h1 h2) fun D σ H ⟨ρ, g, s, rs, rg, h⟩ => ⟨ρ, g, s, rs, rg, FinS.seq h⟩
theorem s_exp {e : E} {x : Expr} {pos : Pos} (he : PE X x (tE Γ X.K W (ev call e))) (hs : swapsWith x none pos.line X.env = pure false) : PS X (.Expr x pos) (tS Γ X.K W (ex call (.exp e))) := by
  refine ps_imp (ps_expr he hs) fun D σ H ⟨ρ, g, s, rs, rg, h⟩ => ⟨ρ, g, s, rs, rg, FinG.untidy rg ((FinS.st rs rg h).mono ?_)⟩
  rintro v' H1 ⟨ρ1, g1, v, rs1, rg1, rv, e1, h1⟩
  exact h1 σ ρ1 H1 .refl rg1 rs1
theorem asg_st {e : E} {t : Tg} {D : Ends} {σ : L2.St} {H : Hp} (h : tS Γ X.K W (ex call (.asg t e)) D σ H) : tE Γ X.K W (ev call e) σ H fun v H1 => gT Γ X.K t v σ H1 D.nx := by
  obtain ⟨ρ, g, s, rs, rg, h⟩ := h
  refine ⟨ρ, g, s, rs, rg, FinG.untidy rg ((FinS.st rs rg h).mono ?_)⟩
  rintro v' H1 ⟨ρ1, g1, v, rs1, rg1, rv, e1, h1⟩
  split at h1
  · rename_i s' hs'
    exact ⟨ρ1, g1, s, v, s', rs1, rg1, rv, hs', fun σ' rs' _ _ => h1 σ' ρ1 H1 .refl rg1 rs'⟩
  · exact h1.elim
theorem s_asg {e : E} {t : Tg} {tx x : Expr} {pos : Pos} (he : PE X x (tE Γ X.K W (ev call e))) (hg : PG X tx (gT Γ X.K t)) (hs : swapsWithSole [tx] x pos.line X.env = pure false) (hw : swappedStores [tx] x X.env = pure none) (hp : plainX tx = true) :
    PS X (.Assign [tx] x pos) (tS Γ X.K W (ex call (.asg t e))) :=
  ps_imp (ps_asg he hg hs hw (by rw [asg_of hp]; rfl)) fun D σ H h => asg_st h
theorem gnm_set {i : Nat} {v : V} {σ : L2.St} {H : Hp} {Q : L2.St → Hp → Prop} (h : gT Γ X.K (.nm i) v σ H Q) : gName i v σ H Q := by
  obtain ⟨ρ, g, s, y, s', rs, rg, rv, ha, q⟩ := h
  have ha : (if i < s.length then some (s.set i (some y)) else none) = some s' := ha
  split at ha
  · cases ha
    exact q _ (rs.set rv) (by simp) fun j hj => by
      have : i ≠ j := fun e => hj (by rw [e]; exact List.mem_cons_self)
      rw [List.getElem?_set_ne this]
  · cases ha
/-- y = [.. for ..] on one line -/
theorem s_asgC {i : Nat} {y : Str} {own : List Nat} {ow : List (Str × Nat)} {tg : Tg} {k : IK} {its : Es} {cond : C} {elt : E} {eltx tgx iterx : Expr} {ifs : List Expr} {scope : Scope} {py pos spos : Pos} (hc : X.calm = true) (hN : X.N.Nodup) (hy : X.N[i]? = some y) (hyl : X.env.scope.names.lookup y = some .local)
    (hsw : swapsWith (.ListComp eltx [⟨tgx, iterx, ifs, 0⟩] scope pos) (some (.Name y py)) spos.line X.env = pure true) (hi : PI X tgx iterx (tI Γ X.K W k (evs call its))) (ok : BlkOk X.N X.env.scope scope ow) (ho : ow.map (·.2) = own) (hts : ∀ i ∈ tslots tg, i ∈ own)
    (hg : ∀ (s : Shared) (H : Hp) (C : Addr) (cl : List (Str × Addr)) (fp : List Addr), PG (X.blk s H scope (compEnvC scope cl C X.env) fp) tgx (gT Γ X.K tg)) (ht : ∀ (s : Shared) (H : Hp) (C : Addr) (cl : List (Str × Addr)) (fp : List Addr), PTs (X.blk s H scope (compEnvC scope cl C X.env) fp) ifs (tT Γ X.K W0 (evT call cond)))
    (he : ∀ (s : Shared) (H : Hp) (C : Addr) (cl : List (Str × Addr)) (fp : List Addr), PE (X.blk s H scope (compEnvC scope cl C X.env) fp) eltx (tE Γ X.K W0 (ev call elt))) (hs : ∀ x, foldedSetIterable iterx X.env x = pure x) :
    PS X (.Assign [.Name y py] (.ListComp eltx [⟨tgx, iterx, ifs, 0⟩] scope pos) spos) (tS Γ X.K W (ex call (.asg (.nm i) (.comp own tg k its cond elt)))) := by
  refine ps_imp (ps_setLc hc hN hy hyl hsw hi ok hg ht he hs) fun D σ H h => ?_
  have h := asg_st h
  have h2 : tE Γ X.K W (ev call (.comp own tg k its cond elt)) σ H fun v H1 => gName i v σ H1 D.nx := by
    obtain ⟨ρ, g, s, rs, rg, h⟩ := h
    exact ⟨ρ, g, s, rs, rg, h.mono fun v H1 q => gnm_set (X := X) q⟩
  show tLc _ _ _ _ (ow.map (·.2)) σ H fun v H1 => gName i v σ H1 D.nx
  rw [ho]
  exact lc_imp hts h2
theorem two_par {is : List Nat} {es : Es} {D : Ends} {σ : L2.St} {H : Hp} (h : tS Γ X.K W (ex call (.par is es)) D σ H) :
    tA Γ X.K W (evs call es) σ H fun vs H1 => ∃ ρ g s xs s', RS X.K H1 ρ s σ ∧ RG Γ X.K H1 ρ g ∧ RVs X.K H1 ρ xs vs ∧ setAll is xs s = some s' ∧ ∀ σ', RS X.K H1 ρ s' σ' → D.nx σ' H1 := by
  obtain ⟨ρ, g, s, rs, rg, h⟩ := h
  refine ⟨ρ, g, s, rs, rg, (FinS.st rs rg h).mono ?_⟩
  rintro v' H1 ⟨ρ1, g1, v, rs1, rg1, rv, e1, h1⟩
  split at h1
  · rename_i s' hs'
    exact ⟨ρ1, g1, s, v, s', rs1, rg1, rv, hs', fun σ' rs' => h1 σ' ρ1 H1 .refl rg1 rs'⟩
  · exact h1.elim
theorem s_par2 {i j : Nat} {es : Es} {x y : Str} {a b : Expr} {px py pt pos : Pos} {kt k2 pt2} (hc : X.calm = true) (hN : X.N.Nodup) (hi : X.N[i]? = some x) (hj : X.N[j]? = some y) (hij : i ≠ j)
    (hx : X.env.scope.names.lookup x = some .local) (hy : X.env.scope.names.lookup y = some .local) (ha : PA X [a, b] (tA Γ X.K W (evs call es)))
    (hw : swappedStores [.Tuple [.Name x px, .Name y py] kt pt] (.Tuple [a, b] k2 pt2) X.env = pure (some [x, y])) :
    PS X (.Assign [.Tuple [.Name x px, .Name y py] kt pt] (.Tuple [a, b] k2 pt2) pos) (tS Γ X.K W (ex call (.par [i, j] es))) := by
  refine ps_imp (ps_par hc hN hi hj hij hx hy ha hw) fun D σ H h => ?_
  obtain ⟨ρ, g, s, rs, rg, h⟩ := two_par h
  refine ⟨ρ, g, s, rs, rg, h.mono ?_⟩
  rintro vs H1 ⟨ρ1, g1, s1, xs, s', rs1, rg1, rv, hs', q⟩
  match xs, rv, hs' with
  | [v, v'], rv, hs' =>
    have hs' : (if i < s1.length then (if j < (s1.set i (some v)).length then some ((s1.set i (some v)).set j (some v')) else none) else none) = some s' := hs'
    split at hs'
    · split at hs'
      · cases hs'
        obtain ⟨u, w, rfl, hu, hw'⟩ := rv.two_of
        exact ⟨u, w, rfl, q _ ((rs1.set hu).set hw')⟩
      · cases hs'
    · cases hs'
  | [], rv, hs' => exact nomatch hs'
  | [_], rv, hs' => exact absurd hs' (by show ¬ ((if i < s1.length then none else none) = some s'); split <;> exact fun h => nomatch h)
  | _ :: _ :: _ :: _, rv, hs' => exact absurd hs' (by show ¬ ((if i < s1.length then (if j < _ then none else none) else none) = some s'); split <;> first | (split <;> exact fun h => nomatch h) | exact fun h => nomatch h)
theorem s_par3 {i j l : Nat} {es : Es} {x y z : Str} {a b c : Expr} {px py pz pt pos : Pos} {kt k2 pt2} (hc : X.calm = true) (hN : X.N.Nodup) (hi : X.N[i]? = some x) (hj : X.N[j]? = some y) (hl : X.N[l]? = some z) (hij : i ≠ j) (hil : i ≠ l) (hjl : j ≠ l)
    (hx : X.env.scope.names.lookup x = some .local) (hy : X.env.scope.names.lookup y = some .local) (hz : X.env.scope.names.lookup z = some .local) (ha : PA X [a, b, c] (tA Γ X.K W (evs call es)))
    (hw : swappedStores [.Tuple [.Name x px, .Name y py, .Name z pz] kt pt] (.Tuple [a, b, c] k2 pt2) X.env = pure (some [x, y, z])) :
    PS X (.Assign [.Tuple [.Name x px, .Name y py, .Name z pz] kt pt] (.Tuple [a, b, c] k2 pt2) pos) (tS Γ X.K W (ex call (.par [i, j, l] es))) := by
  refine ps_imp (ps_par3 hc hN hi hj hl hij hil hjl hx hy hz ha hw) fun D σ H h => ?_
  obtain ⟨ρ, g, s, rs, rg, h⟩ := two_par h
  refine ⟨ρ, g, s, rs, rg, h.mono ?_⟩
  rintro vs H1 ⟨ρ1, g1, s1, xs, s', rs1, rg1, rv, hs', q⟩
  match xs, rv, hs' with
  | [v, v', v''], rv, hs' =>
    have hs' : (if i < s1.length then (if j < (s1.set i (some v)).length then (if l < ((s1.set i (some v)).set j (some v')).length then some (((s1.set i (some v)).set j (some v')).set l (some v'')) else none) else none) else none) = some s' := hs'
    split at hs'
    · split at hs'
      · split at hs'
        · cases hs'
          obtain ⟨u, r, rfl, hu, hr⟩ := rv
          obtain ⟨w, y, rfl, hw', hy'⟩ := RVs.two_of hr
          exact ⟨u, w, y, rfl, q _ (((rs1.set hu).set hw').set hy')⟩
        · cases hs'
      · cases hs'
    · cases hs'
  | [], rv, hs' => exact nomatch hs'
  | [_], rv, hs' => exact absurd hs' (by show ¬ ((if i < s1.length then none else none) = some s'); split <;> exact fun h => nomatch h)
  | [_, _], rv, hs' => exact absurd hs' (by show ¬ ((if i < s1.length then (if j < _ then none else none) else none) = some s'); split <;> first | (split <;> exact fun h => nomatch h) | exact fun h => nomatch h)
  | _ :: _ :: _ :: _ :: _, rv, hs' => exact absurd hs' (by show ¬ ((if i < s1.length then (if j < _ then (if l < _ then none else none) else none) else none) = some s'); split <;> first | (split <;> first | (split <;> exact fun h => nomatch h) | exact fun h => nomatch h) | exact fun h => nomatch h)
theorem s_ret {e : E} {x : Expr} {pos : Pos} (he : PE X x (tE Γ X.K W (ev call e))) : PS X (.Return (some x) pos) (tS Γ X.K W (ex call (.ret e))) := by
  refine ps_imp (ps_ret he) fun D σ H ⟨ρ, g, s, rs, rg, h⟩ => ⟨ρ, g, s, rs, rg, (FinS.st rs rg h).mono ?_⟩
  rintro v' H1 ⟨ρ1, g1, v, rs1, rg1, rv, e1, h1⟩
  exact h1 v' ρ1 H1 .refl rg1 rv
theorem s_retN {pos : Pos} : PS X (.Return none pos) (tS Γ X.K W (ex call .retN)) := ps_imp ps_retN fun D σ H ⟨ρ, g, s, rs, rg, h⟩ => h .non ρ H .refl rg rfl
theorem s_pass {pos : Pos} : PS X (.Pass pos) (tS Γ X.K W (ex call .pass)) := ps_imp ps_pass fun D σ H ⟨ρ, g, s, rs, rg, h⟩ => h σ ρ H .refl rg rs
theorem s_brk {pos : Pos} : PS X (.Break pos) (tS Γ X.K W (ex call .brk)) := ps_imp ps_break fun D σ H ⟨ρ, g, s, rs, rg, h⟩ => h σ ρ H .refl rg rs
theorem s_cnt {pos : Pos} : PS X (.Continue pos) (tS Γ X.K W (ex call .cnt)) := ps_imp ps_continue fun D σ H ⟨ρ, g, s, rs, rg, h⟩ => h σ ρ H .refl rg rs
theorem s_ife {c : C} {a b : Ss} {x : Expr} {xs ys : List Stmt} {pos : Pos} (hc : PT X x (tT Γ X.K W (evT call c))) (ha : PSs X xs (tS Γ X.K W (exs call a))) (hb : PSs X ys (tS Γ X.K W (exs call b))) :
    PS X (.If x xs ys pos) (tS Γ X.K W (ex call (.ife c a b))) := by
  refine ps_imp (ps_if hc ha hb) fun D σ H ⟨ρ, g, s, rs, rg, h⟩ => ⟨ρ, g, s, rs, rg, (FinS.st (rel := relB) rs rg h).mono ?_⟩
  rintro t H1 ⟨ρ1, g1, t', rs1, rg1, et, e1, h1⟩
  have et : t' = t := et
  subst et
  cases t' with
  | true => exact iteT ⟨ρ1, g1, s, rs1, rg1, h1⟩
  | false => exact iteF ⟨ρ1, g1, s, rs1, rg1, h1⟩
/-- behind a loop's turn -/
theorem fin_turn {D : Ends} {ρ : List Addr} {H : Hp} {r : SR} {k : KM.Env → Gh → SR} (h : FinS Γ X.K W D ρ H (match r with
      | .nx s' g' => k s' g'
      | .ct s' g' => k s' g'
      | .bk s' g' => .nx s' g'
      | r => r)) :
    FinS Γ X.K W { D with nx := fun σ' H' => ∃ ρ' g' s', RS X.K H' ρ' s' σ' ∧ RG Γ X.K H' ρ' g' ∧ Ext ρ H ρ' H' ∧ FinS Γ X.K W D ρ' H' (k s' g'), ct := fun σ' H' => ∃ ρ' g' s', RS X.K H' ρ' s' σ' ∧ RG Γ X.K H' ρ' g' ∧ Ext ρ H ρ' H' ∧ FinS Γ X.K W D ρ' H' (k s' g'), bk := D.nx } ρ H r := by
  cases r with
  | nx s g1 => exact fun σ' ρ' H' e a b => ⟨ρ', g1, s, b, a, e, FinS.go (r := k s g1) h e⟩
  | ct s g1 => exact fun σ' ρ' H' e a b => ⟨ρ', g1, s, b, a, e, FinS.go (r := k s g1) h e⟩
  | bk s g1 => exact h
  | rt v g1 => exact h
  | exn x s g1 => exact h
  | bad => exact h
theorem s_whl {c : C} {b : Ss} {x : Expr} {xs : List Stmt} {pos : Pos} (hp : PassesOwn (model X.prog X.w) X.A X.env X.xe) (hc : PT X x (tT Γ X.K W (evT call c))) (hb : PSs X xs (tS Γ X.K W (exs call b))) :
    PS X (.While x xs [] pos) (tS Γ X.K W (ex call (.whl c b))) := by
  refine ps_imp (ps_while hp hc hb) fun D σ H ⟨ρ, g, s, rs, rg, h⟩ => ?_
  have h : FinS Γ X.K W D ρ H (whlG (fun s g => evT call c s g) (fun s g => exs call b s g) WF s g) := h
  refine ⟨fun m σ H => ∃ ρ g s, RS X.K H ρ s σ ∧ RG Γ X.K H ρ g ∧ FinS Γ X.K W D ρ H (whlG (fun s g => evT call c s g) (fun s g => exs call b s g) m s g), ⟨WF, ρ, g, s, rs, rg, h⟩, ?_⟩
  rintro m σ H ⟨ρ, g, s, rs, rg, h⟩
  cases m with
  | zero => exact h.elim
  | succ m =>
    have h : FinS Γ X.K W D ρ H ((evT call c s g).st s fun bb g1 =>
      if bb then match exs call b s g1 with
        | .nx s' g' => whlG (fun s g => evT call c s g) (fun s g => exs call b s g) m s' g'
        | .ct s' g' => whlG (fun s g => evT call c s g) (fun s g => exs call b s g) m s' g'
        | .bk s' g' => .nx s' g'
        | r => r
      else .nx s g1) := h
    refine ⟨ρ, g, s, rs, rg, (FinS.st (rel := relB) rs rg h).mono ?_⟩
    rintro t H1 ⟨ρ1, g1, t', rs1, rg1, et, e1, h1⟩
    have et : t' = t := et
    subst et
    cases t' with
    | true =>
      refine iteT ⟨fun σ' H' => ∃ ρ' g' s', RS X.K H' ρ' s' σ' ∧ RG Γ X.K H' ρ' g' ∧ Ext ρ1 H1 ρ' H' ∧ FinS Γ X.K W D ρ' H' (whlG (fun s g => evT call c s g) (fun s g => exs call b s g) m s' g'), fun σ' H' ⟨ρ', g', s', a, b', _, c'⟩ => ⟨m, Nat.lt_succ_self m, ρ', g', s', a, b', c'⟩, ρ1, g1, s, rs1, rg1, ?_⟩
      exact fin_turn (X := X) h1
    | false => exact iteF (h1 σ ρ1 H1 .refl rg1 rs1)
theorem s_fr {t : Tg} {k : IK} {its : Es} {b : Ss} {tx x : Expr} {xs : List Stmt} {pos : Pos} (hp : PassesOwn (model X.prog X.w) X.A X.env X.xe) (hc : X.calm = true) (hi : PI X tx x (tI Γ X.K W k (evs call its))) (hg : PG X tx (gT Γ X.K t)) (hb : PSs X xs (tS Γ X.K W (exs call b)))
    (hs : ∀ v, foldedSetIterable x X.env v = pure v) : PS X (.For tx x xs [] pos) (tS Γ X.K W (ex call (.fr t k its b))) := by
  refine ps_imp (ps_for hp hc hi hg hb hs) fun D σ H ⟨ρ, g, s, rs, rg, h⟩ => ?_
  refine ⟨ρ, g, s, rs, rg, ?_⟩
  have h : FinS Γ X.K W D ρ H ((evs call its s g).st s fun vs g1 => match mkIter k vs g1 with
    | none => .bad
    | some it => forG (fun v s2 g2 => match asgT t v s2 with
        | some s3 => exs call b s3 g2
        | none => .bad) it WF 0 s g1) := h
  generalize hbody : (fun (v : Val) (s2 : KM.Env) (g2 : Gh) => match asgT t v s2 with
        | some s3 => exs call b s3 g2
        | none => .bad) = body at h
  generalize evs call its s g = r at h
  cases r with
  | bad => exact h
  | exn z g1 => exact fun c d ρ' H' e a b => h c d σ ρ' H' e a (rs.go rg e) b
  | ok vs g1 =>
    have h : FinS Γ X.K W D ρ H (match mkIter k vs g1 with
      | none => .bad
      | some it => forG body it WF 0 s g1) := h
    show FinG Γ X.K _ W σ ρ H (match mkIter k vs g1 with
      | some it => .ok it g1
      | none => .bad) _
    cases hit : mkIter k vs g1 with
    | none => rw [hit] at h; exact h.elim
    | some it =>
      rw [hit] at h
      have h : FinS Γ X.K W D ρ H (forG body it WF 0 s g1) := h
      intro J ρ1 H1 e1 rg1 hJ
      refine ⟨fun i m σ H => ∃ ρ g s, RS X.K H ρ s σ ∧ RG Γ X.K H ρ g ∧ Ext ρ1 H1 ρ H ∧ FinS Γ X.K W D ρ H (forG body it m i s g), ⟨WF, ρ1, g1, s, rs.go rg e1, rg1, .refl, FinS.go h e1⟩, ?_⟩
      rintro i m σ2 H2 ⟨ρ2, g2, s2, rs2, rg2, e2, h2⟩
      cases m with
      | zero => exact h2.elim
      | succ m =>
        obtain ⟨hgo, hstop⟩ := hJ ρ2 H2 g2 e2 rg2
        have h2 : FinS Γ X.K W D ρ2 H2 (match nxt g2 i it with
          | none => .bad
          | some none => .nx s2 g2
          | some (some v) => match body v s2 g2 with
            | .nx s' g' => forG body it m (i + 1) s' g'
            | .ct s' g' => forG body it m (i + 1) s' g'
            | .bk s' g' => .nx s' g'
            | r => r) := h2
        cases hn : nxt g2 i it with
        | none => rw [hn] at h2; exact h2.elim
        | some o =>
          rw [hn] at h2
          cases o with
          | none => exact .inl ⟨hstop i hn, h2 σ2 ρ2 H2 .refl rg2 rs2⟩
          | some v =>
            obtain ⟨go, yl⟩ := hgo i v hn
            refine .inr ⟨go, fun σ' H' => ∃ ρ' g' s', RS X.K H' ρ' s' σ' ∧ RG Γ X.K H' ρ' g' ∧ Ext ρ2 H2 ρ' H' ∧ FinS Γ X.K W D ρ' H' (forG body it m (i + 1) s' g'), fun σ' H' ⟨ρ', g', s', a, b, c, d⟩ => ⟨m, Nat.lt_succ_self m, ρ', g', s', a, b, e2.trans c, d⟩, fun x H3 hy => ?_⟩
            obtain ⟨e3, rg3, rv3⟩ := yl x H3 hy
            have h2 : FinS Γ X.K W D ρ2 H2 (match body v s2 g2 with
              | .nx s' g' => forG body it m (i + 1) s' g'
              | .ct s' g' => forG body it m (i + 1) s' g'
              | .bk s' g' => .nx s' g'
              | r => r) := h2
            have hbv : body v s2 g2 = (match asgT t v s2 with
              | some s3 => exs call b s3 g2
              | none => .bad) := by rw [← hbody]
            cases hs3 : asgT t v s2 with
            | none => rw [hs3] at hbv; rw [hbv] at h2; exact h2.elim
            | some s3 =>
              rw [hs3] at hbv
              have hbv : body v s2 g2 = exs call b s3 g2 := hbv
              rw [hbv] at h2
              refine ⟨ρ2, g2, s2, v, s3, rs2.go rg2 e3, rg3, rv3, hs3, fun σ4 rs4 _ _ => ⟨ρ2, g2, s3, rs4, rg3, ?_⟩⟩
              have h3 := FinS.go h2 e3
              refine (fin_turn (X := X) h3).mono ?_ (fun v H q => q) (fun σ H q => q) ?_
              · rintro σ' H' ⟨ρ', g', s', a, b, c, d⟩
                exact ⟨ρ', g', s', a, b, e3.trans c, d⟩
              · rintro σ' H' ⟨ρ', g', s', a, b, c, d⟩
                exact ⟨ρ', g', s', a, b, e3.trans c, d⟩
/-! #### x op= e, o[i] = e -/
theorem a_add : OpR X (inplaceOp .Add) (rO Γ X.K (augV .add)) := by
  intro pins s σ H x y v u Q I rx ry ⟨W, τ, ρ, g, a, b, rg, ra, rb, h⟩
  cases a <;> cases b <;> try exact (show False from h).elim
  · exact iop_add pins s σ H x y v u Q I rx ry ⟨_, _, ra, rb, h _ ρ H .refl rg rfl⟩
  · rename_i cs ds
    have h : FinG Γ X.K (relV X.K) W τ ρ H (mkS (cs ++ ds) g) Q := h
    unfold mkS at h
    split at h
    · rename_i hz
      refine iop_add_str pins s σ H x y v u Q I rx ry ⟨_, _, ra.1, rb.1, ?_, ?_⟩
      · rw [toS_len, toS_len, ← List.length_append]; exact le_line hz
      · rw [toS_app]; exact h _ ρ H .refl rg ⟨rfl, hz, fun c hc => (List.mem_append.mp hc).elim (ra.2.2 c) (rb.2.2 c)⟩
    · exact h.elim
theorem a_sub : OpR X (inplaceOp .Sub) (rO Γ X.K (augV .sub)) := by
  intro pins s σ H x y v u Q I rx ry ⟨W, τ, ρ, g, a, b, rg, ra, rb, h⟩
  cases a <;> cases b <;> try exact (show False from h).elim
  exact iop_sub pins s σ H x y v u Q I rx ry ⟨_, _, ra, rb, h _ ρ H .refl rg rfl⟩
theorem a_all : ∀ op : Bop, OpR X (inplaceOp (bopOf op)) (rO Γ X.K (augV op))
  | .add => a_add
  | .sub => a_sub
  | .mul => fun _ _ _ _ _ _ _ _ _ _ _ _ ⟨_, _, _, _, _, _, _, _, _, h⟩ => h.elim
  | .fdiv => fun _ _ _ _ _ _ _ _ _ _ _ _ ⟨_, _, _, _, _, _, _, _, _, h⟩ => h.elim
  | .mod => fun _ _ _ _ _ _ _ _ _ _ _ _ ⟨_, _, _, _, _, _, _, _, _, h⟩ => h.elim
  | .pow => fun _ _ _ _ _ _ _ _ _ _ _ _ ⟨_, _, _, _, _, _, _, _, _, h⟩ => h.elim
  | .shl => fun _ _ _ _ _ _ _ _ _ _ _ _ ⟨_, _, _, _, _, _, _, _, _, h⟩ => h.elim
  | .shr => fun _ _ _ _ _ _ _ _ _ _ _ _ ⟨_, _, _, _, _, _, _, _, _, h⟩ => h.elim
  | .band => fun _ _ _ _ _ _ _ _ _ _ _ _ ⟨_, _, _, _, _, _, _, _, _, h⟩ => h.elim
  | .bor => fun _ _ _ _ _ _ _ _ _ _ _ _ ⟨_, _, _, _, _, _, _, _, _, h⟩ => h.elim
  | .bxor => fun _ _ _ _ _ _ _ _ _ _ _ _ ⟨_, _, _, _, _, _, _, _, _, h⟩ => h.elim
theorem s_aug {i : Nat} {op : Bop} {e : E} {n : Str} {x : Expr} {pos p : Pos} (hN : X.N.Nodup) (hi : X.N[i]? = some n) (hx : Loc X.env.scope n) (hf : X.fn n = true ∨ X.env.scope.names.lookup n = some .local) (he : PE X x (tE Γ X.K W (ev call e))) :
    PS X (.AugAssign (.Name n p) (bopOf op) x pos) (tS Γ X.K W (ex call (.aug i op e))) := by
  refine ps_imp (ps_aug hN hi hx he (a_all (Γ := Γ) op) hf) fun D σ H ⟨ρ, g, s, rs, rg, h⟩ => ?_
  have h : FinS Γ X.K W D ρ H (match s[i]? with
    | some (some v) => (tidy g (ev call e s g)).st s fun w g1 => (augV op v w g1).st s fun z g2 => .nx (s.set i (some z)) g2
    | _ => .bad) := h
  split at h
  · rename_i v hv
    obtain ⟨u, h1, h2⟩ := rs.at_ i v hv
    refine ⟨u, h1, ρ, g, s, rs, rg, FinG.untidy rg ((FinS.st rs rg h).mono ?_)⟩
    rintro w' H1 ⟨ρ1, g1, w, rs1, rg1, rw_, e1, h3⟩
    refine ⟨W, σ, ρ1, g1, v, w, rg1, h2.go rg e1, rw_, (FinS.st rs1 rg1 h3).mono ?_⟩
    rintro z' H2 ⟨ρ2, g2, z, rs2, rg2, rz, e2, h4⟩
    exact h4 _ ρ2 H2 .refl rg2 (rs2.set rz)
  · exact h.elim
def setGo (Γ : Gam) (K : PySem.W.Frag) : TSet := fun o i v H Q => ∃ ρ g ov iv vv g4, RG Γ K H ρ g ∧ RV K H ρ ov o ∧ RV K H ρ iv i ∧ RV K H ρ vv v ∧ setIG ov iv vv g = some g4 ∧ ∀ H', Ext ρ H ρ H' → RG Γ K H' ρ g4 → Q H'
theorem set_all (hu : X.A.units + 1 < cLine) : PSet X (setGo Γ X.K) := by
  intro pins s σ H o i v ov iv u Q I ro ri rv ⟨ρ, g, ov', iv', vv, g4, rg, r1, r2, r3, hs, q⟩
  unfold setIG at hs
  split at hs
  · split at hs
    · rename_i xs hn
      split at hs
      · rename_i kk
        obtain ⟨j, hj, e⟩ := Option.map_eq_some_iff.mp hs
        subst e
        obtain ⟨a, rfl, ha⟩ := r1
        obtain ⟨a', ha', vs, ep, hv⟩ := rg.cell hn
        rw [ha] at ha'; cases ha'
        refine set_list pins s σ H _ i v ov iv u Q I ro ri rv ⟨a, vs, kk, j, rfl, r2, ep, by rw [hv.length]; exact hj, q _ (ext_set rg ha) (rg_set rg ha ⟨_, upd_same, ?_⟩)⟩
        exact RVs.set (r3.go rg (ext_set rg ha)) j (hv.go rg (ext_set rg ha))
      · cases hs
    · rename_i t kvs hn
      split at hs
      · rename_i hk
        rw [Bool.and_eq_true_iff] at hk
        cases hs
        obtain ⟨a, H', e, hd, ex, rg'⟩ := dput_of rg hn hk.1 (of_decide_eq_true hk.2) r1 r2 r3
        exact set_dict hu pins s σ H _ i v ov iv u Q I ro ri rv ⟨a, H', e, hd, q H' ex rg'⟩
      · cases hs
    · cases hs
  · cases hs
theorem s_setI {o i e : E} {ox ix x : Expr} {pos p : Pos} (hu : X.A.units + 1 < cLine) (he : PE X x (tE Γ X.K W (ev call e))) (ho : PE X ox (tE Γ X.K W (ev call o))) (hi : PE X ix (tE Γ X.K W (ev call i))) (hp : plainX ix = true)
    (hs : swapsWithSole [.Subscript ox ix p] x pos.line X.env = pure false) (hw : swappedStores [.Subscript ox ix p] x X.env = pure none) :
    PS X (.Assign [.Subscript ox ix p] x pos) (tS Γ X.K W (ex call (.setI o i e))) := by
  refine ps_imp (ps_asg he (pg_sub ho hi (set_all (Γ := Γ) hu) fun v => by cases ix <;> first | rfl | cases hp) hs hw) fun D σ H ⟨ρ, g, s, rs, rg, h⟩ => ⟨ρ, g, s, rs, rg, FinG.untidy rg ((FinS.st rs rg h).mono ?_)⟩
  rintro v' H1 ⟨ρ1, g1, v, rs1, rg1, rv, e1, h1⟩
  refine ⟨ρ1, g1, s, rs1, rg1, (FinS.st rs1 rg1 h1).mono ?_⟩
  rintro o' H2 ⟨ρ2, g2, ov, rs2, rg2, ro, e2, h2⟩
  refine ⟨ρ2, g2, s, rs2, rg2, (FinS.st rs2 rg2 h2).mono ?_⟩
  rintro i' H3 ⟨ρ3, g3, iv, rs3, rg3, ri, e3, h3⟩
  split at h3
  · rename_i g4 hg4
    exact ⟨ρ3, g3, ov, iv, v, g4, rg3, ro.go rg2 e3, ri, rv.go rg1 (e2.trans e3), hg4, fun H' e' rg' => h3 σ ρ3 H' e' rg' (rs3.go rg3 e')⟩
  · exact h3.elim
theorem s_set2 {o i o' i' e : E} {ox ix ox' ix' x : Expr} {pos p p' pt : Pos} {kt : Nat} (hu : X.A.units + 1 < cLine) (hc : X.calm = true) (he : PE X x (tE Γ X.K W (ev call e))) (ho : PE X ox (tE Γ X.K W (ev call o))) (hi : PE X ix (tE Γ X.K W (ev call i))) (hp : plainX ix = true)
    (ho' : PE X ox' (tE Γ X.K W (ev call o'))) (hi' : PE X ix' (tE Γ X.K W (ev call i'))) (hp' : plainX ix' = true)
    (hs : swapsWithSole [.Tuple [.Subscript ox ix p, .Subscript ox' ix' p'] kt pt] x pos.line X.env = pure false) (hw : swappedStores [.Tuple [.Subscript ox ix p, .Subscript ox' ix' p'] kt pt] x X.env = pure none) :
    PS X (.Assign [.Tuple [.Subscript ox ix p, .Subscript ox' ix' p'] kt pt] x pos) (tS Γ X.K W (ex call (.set2 o i o' i' e))) := by
  have g1 := pg_sub (pos := p) ho hi (set_all (Γ := Γ) hu) fun v => by cases ix <;> first | rfl | cases hp
  have g2 := pg_sub (pos := p') ho' hi' (set_all (Γ := Γ) hu) fun v => by cases ix' <;> first | rfl | cases hp'
  refine ps_imp (ps_asg he (pg_tup (n := 2) hc (pgs_cons g1 (pgs_cons g2 pgs_nil rfl) rfl) rfl rfl) hs hw rfl) fun D σ H ⟨ρ, g, s, rs, rg, h⟩ => ⟨ρ, g, s, rs, rg, FinG.untidy rg ((FinS.st rs rg h).mono ?_)⟩
  rintro v' H1 ⟨ρ1, g1, v, rs1, rg1, rv, e1, h1⟩
  split at h1
  · rename_i x1 y1
    obtain ⟨a, vs, rfl, hs, hv⟩ := rv
    obtain ⟨u, w, rfl, hx, hy⟩ := hv.two_of
    refine ⟨a, _, rfl, hs.t, rfl, u, [w], rfl, ρ1, g1, s, rs1, rg1, (FinS.st rs1 rg1 h1).mono ?_⟩
    rintro o2 H2 ⟨ρ2, g2, ov, rs2, rg2, ro, e2, h2⟩
    refine ⟨ρ2, g2, s, rs2, rg2, (FinS.st rs2 rg2 h2).mono ?_⟩
    rintro i2 H3 ⟨ρ3, g3, iv, rs3, rg3, ri, e3, h3⟩
    split at h3
    · rename_i g4 hg4
      refine ⟨ρ3, g3, ov, iv, x1, g4, rg3, ro.go rg2 e3, ri, hx.go rg1 (e2.trans e3), hg4, fun H' e' rg' => ?_⟩
      refine ⟨w, [], rfl, ρ3, g4, s, rs3.go rg3 e', rg', (FinS.st (rs3.go rg3 e') rg' (h3.go e')).mono ?_⟩
      rintro o5 H5 ⟨ρ5, g5, ov', rs5, rg5, ro', e5, h5⟩
      refine ⟨ρ5, g5, s, rs5, rg5, (FinS.st rs5 rg5 h5).mono ?_⟩
      rintro i6 H6 ⟨ρ6, g6, iv', rs6, rg6, ri', e6, h6⟩
      split at h6
      · rename_i g7 hg7
        exact ⟨ρ6, g6, ov', iv', y1, g7, rg6, ro'.go rg5 e6, ri', hy.go rg1 (((e2.trans e3).trans e').trans (e5.trans e6)), hg7, fun H' e' rg' => ⟨rfl, h6 σ ρ6 H' e' rg' (rs6.go rg6 e')⟩⟩
      · exact h6.elim
    · exact h3.elim
  · exact h1.elim
end
end KM

namespace KM
open PySem PySem.Spec PyProof.Rows L2

/-! ### exchanged stores -/
def notComp : Expr → Bool
  | .ListComp .. => false
  | .SetComp .. => false
  | .DictComp .. => false
  | _ => true
theorem sw_val {x : Expr} {t : Option Expr} {l : Nat} {env : PySem.Env} (h : notComp x = true) : swapsWith x t l env = pure false := by
  cases x <;> first | rfl | cases h
theorem sw_sole {x t : Expr} {l : Nat} {env : PySem.Env} (h : notComp x = true) : swapsWithSole [t] x l env = pure false := sw_val h
def isName : Expr → Bool
  | .Name .. => true
  | _ => false
theorem sw_tgt {x t : Expr} {l : Nat} {env : PySem.Env} (h : isName t = false) : swapsWithSole [t] x l env = pure false := by
  show swapsWith x (some t) l env = pure false
  cases x <;> first | rfl | (cases t <;> first | rfl | cases h)
def isSeqE : Expr → Bool
  | .Tuple .. => true
  | .List .. => true
  | _ => false
def isTupE : Expr → Bool
  | .Tuple .. => true
  | _ => false
theorem st_none1 {x t : Expr} {env : PySem.Env} (h : isSeqE t = false) : swappedStores [t] x env = pure none := by
  cases t <;> first | rfl | cases h
theorem st_none2 {x t : Expr} {env : PySem.Env} (h : isTupE x = false) : swappedStores [t] x env = pure none := by
  cases t <;> first | rfl | (cases x <;> first | rfl | cases h)
def starE : Expr → Bool
  | .Starred .. => true
  | _ => false
def swF (sc : Scope) (l : Nat) (x : Expr) : Option Str := match x with
  | .Name id pos => if sc.names.lookup id == some .local && pos.line == l then some id else none
  | _ => none
def swNames (sc : Scope) (ts : List Expr) : List Str := ts.filterMap (swF sc ((ts.head?.map (·.pos.line)).getD 0))
def parB (sc : Scope) (ts vs : List Expr) : Bool :=
  !(!(ts.length == 2 || ts.length == 3) || vs.length != ts.length || false) && !(vs.any starE) && !((swNames sc ts).length != ts.length || (swNames sc ts).eraseDups.length != (swNames sc ts).length) && !(vs.all (foldedForSure 8)) && !(vs.all (constantsAlone 8))
def noParB (sc : Scope) (ts vs : List Expr) : Bool :=
  (!(ts.length == 2 || ts.length == 3) || vs.length != ts.length || false) || (vs.any starE) || ((swNames sc ts).length != ts.length || (swNames sc ts).eraseDups.length != (swNames sc ts).length) || (vs.all (foldedForSure 8))
theorem bk_fun {env : PySem.Env} (hk : env.scope.kind = .function) : env.blockKind = .function := by
  unfold PySem.Env.blockKind
  rw [hk]; rfl
theorem st_eq {ts vs : List Expr} {k1 p1 k2 p2} {env : PySem.Env} (hk : env.scope.kind = .function) : swappedStores [.Tuple ts k1 p1] (.Tuple vs k2 p2) env =
    (if (!(ts.length == 2 || ts.length == 3) || vs.length != ts.length || false) = true then pure none else
      if (vs.any starE) = true then pure none else
      if ((swNames env.scope ts).length != ts.length || (swNames env.scope ts).eraseDups.length != (swNames env.scope ts).length) = true then pure none else
      if (vs.all (foldedForSure 8)) = true then pure none else
      if (vs.all (constantsAlone 8)) = true then ((unsupported "assign.tuple-of-constant-expressions:order-of-the-stores" : Sem PUnit) >>= fun _ => pure (some (swNames env.scope ts))) else pure (some (swNames env.scope ts))) := by
  show (if (!(ts.length == 2 || ts.length == 3) || vs.length != ts.length || env.blockKind != .function) = true then _ else _) = _
  rw [bk_fun hk]
  rfl
theorem bnot_f {b : Bool} (h : (!b) = true) : ¬ b = true := by cases b <;> simp_all
theorem st_par {ts vs : List Expr} {k1 p1 k2 p2} {env : PySem.Env} (hk : env.scope.kind = .function) (h : parB env.scope ts vs = true) : swappedStores [.Tuple ts k1 p1] (.Tuple vs k2 p2) env = pure (some (swNames env.scope ts)) := by
  unfold parB at h
  rw [Bool.and_eq_true_iff, Bool.and_eq_true_iff, Bool.and_eq_true_iff, Bool.and_eq_true_iff] at h
  rw [st_eq hk, if_neg (bnot_f h.1.1.1.1), if_neg (bnot_f h.1.1.1.2), if_neg (bnot_f h.1.1.2), if_neg (bnot_f h.1.2), if_neg (bnot_f h.2)]
theorem st_none3 {ts vs : List Expr} {k1 p1 k2 p2} {env : PySem.Env} (hk : env.scope.kind = .function) (h : noParB env.scope ts vs = true) : swappedStores [.Tuple ts k1 p1] (.Tuple vs k2 p2) env = pure none := by
  unfold noParB at h
  rw [Bool.or_eq_true_iff, Bool.or_eq_true_iff, Bool.or_eq_true_iff] at h
  rw [st_eq hk]
  rcases h with ((h | h) | h) | h
  · rw [if_pos h]
  · by_cases h1 : (!(ts.length == 2 || ts.length == 3) || vs.length != ts.length || false) = true
    · rw [if_pos h1]
    · rw [if_neg h1, if_pos h]
  · by_cases h1 : (!(ts.length == 2 || ts.length == 3) || vs.length != ts.length || false) = true
    · rw [if_pos h1]
    · rw [if_neg h1]
      by_cases h2 : (vs.any starE) = true
      · rw [if_pos h2]
      · rw [if_neg h2, if_pos h]
  · by_cases h1 : (!(ts.length == 2 || ts.length == 3) || vs.length != ts.length || false) = true
    · rw [if_pos h1]
    · rw [if_neg h1]
      by_cases h2 : (vs.any starE) = true
      · rw [if_pos h2]
      · rw [if_neg h2]
        by_cases h3 : ((swNames env.scope ts).length != ts.length || (swNames env.scope ts).eraseDups.length != (swNames env.scope ts).length) = true
        · rw [if_pos h3]
        · rw [if_neg h3, if_pos h]

/-! ### the look at statements -/
def noSt (sc : Scope) (t x : Expr) : Bool := match t, x with
  | .Tuple ts _ _, .Tuple vs _ _ => noParB sc ts vs
  | .List .., .Tuple .. => false
  | _, _ => true
theorem st_none {t x : Expr} {env : PySem.Env} (hk : env.scope.kind = .function) (h : noSt env.scope t x = true) : swappedStores [t] x env = pure none := by
  cases t with
  | Tuple ts k p =>
    cases x with
    | Tuple vs k2 p2 => exact st_none3 hk h
    | _ => exact st_none2 rfl
  | List ts p =>
    cases x with
    | Tuple vs k2 p2 => cases h
    | _ => exact st_none2 rfl
  | _ => exact st_none1 rfl
/-- a loop's walked thing -/
def chkI (T : Tab) (N : List Str) (k : IK) (its : Es) (sc : Scope) (tgx iterx : Expr) : Bool :=
  match k with
  | .plain => chkEs T N its sc [iterx]
  | k => match iterx with
    | .Call (.Name n _) xs [] _ => glB sc n && nmOk n && decide (n = iterNm k) && decide (n ∈ T.fr) && chkEs T N its sc xs && (match k with
      | .range => decide (xs.length = 1) || decide (xs.length = 2) || decide (xs.length = 3)
      | .enm => decide (xs.length = 1) && (match tgx with | .Tuple .. => true | _ => false)
      | _ => decide (xs.length = 2) && (match tgx with | .Tuple .. => true | _ => false))
    | _ => false
def nameOf : Expr → Str
  | .Name n _ => n
  | _ => ""
/-! ### the look at except clauses -/
mutual
def chkH (T : Tab) (N : List Str) (sc : Scope) (cl : List Nat) (en : Option (Nat × Str)) : H → Expr → Bool
  | .cst v, x => chkE T N (.cst v) sc x
  | .var i, x => chkE T N (.var i) sc x
  | .fld n, x => match x with
    | .Attribute (.Name m _) f _ => (match en with
      | some (_, m') => decide (m = m') && nmOk m && cl.all fun c => decide ((T.exf[c]?.bind (·[n]?)) = some f)
      | none => false)
    | _ => false
  | .tup hs, x => match x with
    | .Tuple xs _ _ => chkHs T N sc cl en hs xs
    | _ => false
  | .cat a b, x => match x with
    | .BinOp y .Add z _ => chkH T N sc cl en a y && chkH T N sc cl en b z
    | _ => false
  | .ite bs a b, x => match x with
    | .IfExp (.Call (.Name f _) [.Name m _, .Name c _] [] _) y z _ => (match en with
      | some (_, m') => decide (m = m') && nmOk m && decide (f = "isinstance") && glB sc f && decide (f ∈ T.fr) && glB sc c && nmOk c && decide (T.iss.lookup c = some bs) && chkH T N sc cl en a y && chkH T N sc cl en b z
      | none => false)
    | _ => false
def chkHs (T : Tab) (N : List Str) (sc : Scope) (cl : List Nat) (en : Option (Nat × Str)) : Hs → List Expr → Bool
  | .nil, [] => true
  | .cons h r, x :: xs => plainX x && chkH T N sc cl en h x && chkHs T N sc cl en r xs
  | _, _ => false
end
def trues (bs : List Bool) : List Nat := (List.range bs.length).filter fun c => bs[c]? == some true
def enOf (nm : Option Nat) (n : Option Str) : Option (Nat × Str) := match nm, n with
  | some i, some m => some (i, m)
  | _, _ => none
def chkHd (T : Tab) (N : List Str) (sc : Scope) (p : List Bool × Option Nat × H) : ExceptHandler → Bool
  | .ExceptHandler (some (.Name x _)) n [.Return (some e) _] _ => glB sc x && nmOk x && decide (T.hds.lookup x = some p.1) && (match p.2.1, n with
    | none, none => true
    | some i, some m => decide (N[i]? = some m) && decide (sc.names.lookup m = some .local)
    | _, _ => false) && chkH T N sc (trues p.1) (enOf p.2.1 n) p.2.2 e
  | _ => false
def chkHds (T : Tab) (N : List Str) (sc : Scope) : List (List Bool × Option Nat × H) → List ExceptHandler → Bool
  | [], [] => true
  | p :: r, x :: xs => chkHd T N sc p x && chkHds T N sc r xs
  | _, _ => false
section
variable (T : Tab) (N : List Str)
mutual
def chkS : S → Scope → Stmt → Bool
  | .exp e, sc, x => match x with
    | .Expr y _ => notComp y && chkE T N e sc y
    | _ => false
  | .asg t e, sc, x => match x with
    | .Assign [tx] y pos => match y with
      | .ListComp eltx gs scope _ => match e, t, tx with
        | .comp own tg k its cond elt, .nm i, .Name n py =>
          if sc.names.lookup n = some .cell then chkE T N e sc y && chkTg N sc.names t tx else
          chkE T N e sc y && decide (N[i]? = some n) && decide (sc.names.lookup n = some .local) && (py.line == y.pos.line) && !(scope.names.any fun (m, k) => m == n && (k == .local || k == .cell))
        | _, _, _ => false
      | _ => notComp y && plainX tx && noSt sc tx y && chkTg N sc.names t tx && chkE T N e sc y
    | _ => false
  | .par is es, sc, x => match x with
    | .Assign [.Tuple ts _ _] (.Tuple vs _ _) _ => parB sc ts vs && chkEs T N es sc vs && decide (is.map (fun i => N[i]?) = ts.map fun t => some (nameOf t)) && decide is.Nodup
    | _ => false
  | .setI o i e, sc, x => match x with
    | .Assign [.Subscript ox ix _] y _ => plainX ix && chkE T N e sc y && chkE T N o sc ox && chkE T N i sc ix
    | _ => false
  | .set2 o i o' i' e, sc, x => match x with
    | .Assign [.Tuple [.Subscript ox ix p1, .Subscript ox' ix' p2] kt pt] y _ => notComp y && noSt sc (.Tuple [.Subscript ox ix p1, .Subscript ox' ix' p2] kt pt) y && plainX ix && plainX ix' && chkE T N e sc y && chkE T N o sc ox && chkE T N i sc ix && chkE T N o' sc ox' && chkE T N i' sc ix'
    | _ => false
  | .aug i op e, sc, x => match x with
    | .AugAssign (.Name n _) o y _ => decide (o = bopOf op) && decide (N[i]? = some n) && decide (sc.names.lookup n = some .local) && chkE T N e sc y
    | _ => false
  | .ret e, sc, x => match x with
    | .Return (some y) _ => chkE T N e sc y
    | _ => false
  | .retN, sc, x => match x with
    | .Return none _ => true
    | _ => false
  | .ife c a b, sc, x => match x with
    | .If y xs ys _ => chkC T N c sc y && chkSs a sc xs && chkSs b sc ys
    | _ => false
  | .whl c b, sc, x => match x with
    | .While y xs [] _ => chkC T N c sc y && chkSs b sc xs
    | _ => false
  | .fr t k its b, sc, x => match x with
    | .For tx iterx xs [] _ => plainX iterx && chkTg N sc.names t tx && chkSs b sc xs && chkI T N k its sc tx iterx
    | _ => false
  | .rse c es, sc, x => match x with
    | .Raise (some (.Call (.Name n _) (y :: ys) [] _)) none _ => glB sc n && nmOk n && decide (T.exs.lookup n = some (c, esLen es)) && decide (ys.length < 20) && chkEs T N es sc (y :: ys)
    | _ => false
  | .tryR b hs, sc, x => match x with
    | .Try body hds [] [] _ => !hds.isEmpty && chkSs b sc body && chkHds T N sc hs hds
    | _ => false
  | .pass, sc, x => match x with
    | .Pass _ => true
    | _ => false
  | .brk, sc, x => match x with
    | .Break _ => true
    | _ => false
  | .cnt, sc, x => match x with
    | .Continue _ => true
    | _ => false
def chkSs : Ss → Scope → List Stmt → Bool
  | .nil, _, [] => true
  | .cons a r, sc, x :: xs => chkS a sc x && chkSs r sc xs
  | _, _, _ => false
end
end
section
variable {T : Tab} {Γ : Gam} {call : Call} {N : List Str} {k : Nat}
theorem snd_I {kk : IK} {its : Es} {tgx iterx : Expr} {X : Cx} {sc : Scope} {W : WX} (o : OkE T Γ call X sc N k W) (h9 : chkI T N kk its sc tgx iterx = true) : PI X tgx iterx (tI Γ X.K W kk (evs call its)) := by
  unfold chkI at h9
  cases kk with
  | plain =>
    have h9 : chkEs T N its sc [iterx] = true := h9
    match its, h9 with
    | .cons e .nil, h9 =>
      have h9 : (plainX iterx && chkE T N e sc iterx && true) = true := h9
      simp only [Bool.and_eq_true_iff] at h9
      exact i_plain (snd_E e iterx X sc W o h9.1.2)
    | .cons e (.cons e2 r), h9 =>
      have h9 : (plainX iterx && chkE T N e sc iterx && false) = true := h9
      simp at h9
  | range =>
    simp only at h9
    split at h9
    · rename_i n p xs pos2
      simp only [Bool.and_eq_true_iff] at h9
      obtain ⟨⟨⟨⟨⟨b1, b2⟩, b3⟩, b4⟩, b5⟩, b6⟩ := h9
      have hg := gl_of o.sc b1
      have hm := o.facts.fr n (of_decide_eq_true b4)
      obtain ⟨hpl, hlen⟩ := chkEs_plain b5
      have b3 : n = "range" := of_decide_eq_true b3
      subst b3
      have hA := snd_Es its xs X sc W o b5
      have hL : ∀ s g vs g1, evs call its s g = .ok vs g1 → vs.length = xs.length := fun s g vs g1 q => by rw [hlen]; exact evs_len call q
      match xs, hpl, hA, hL, b6 with
      | [y], hpl, hA, hL, _ => exact i_range1 hg hm hA (star_of (hpl y (by simp))) hL
      | [y, z], hpl, hA, hL, _ => exact i_range2 hg hm hA (by rw [star_of (hpl y (by simp)), star_of (hpl z (by simp))]; rfl) (star_of (hpl z (by simp))) hL
      | [y, z, u], hpl, hA, hL, _ => exact i_range3 hg hm hA (star_of (hpl y (by simp))) (back_any fun x hx => hpl x (List.mem_cons_of_mem _ hx)) hL
      | [], _, _, _, b6 => simp at b6
      | _ :: _ :: _ :: _ :: _, _, _, _, b6 => simp at b6
    · cases h9
  | enm =>
    simp only at h9
    split at h9
    · rename_i n p xs pos2
      simp only [Bool.and_eq_true_iff] at h9
      obtain ⟨⟨⟨⟨⟨b1, b2⟩, b3⟩, b4⟩, b5⟩, b6, b7⟩ := h9
      have hg := gl_of o.sc b1
      have hm := o.facts.fr n (of_decide_eq_true b4)
      obtain ⟨hpl, hlen⟩ := chkEs_plain b5
      have b3 : n = "enumerate" := of_decide_eq_true b3
      subst b3
      have hA := snd_Es its xs X sc W o b5
      cases tgx <;> first | cases b7 | skip
      match xs, hpl, hA, b6 with
      | [y], hpl, hA, _ => exact i_enm hg hm hA (star_of (hpl y (by simp)))
      | [], _, _, b6 => simp at b6
      | _ :: _ :: _, _, _, b6 => simp at b6
    · cases h9
  | zp =>
    simp only at h9
    split at h9
    · rename_i n p xs pos2
      simp only [Bool.and_eq_true_iff] at h9
      obtain ⟨⟨⟨⟨⟨b1, b2⟩, b3⟩, b4⟩, b5⟩, b6, b7⟩ := h9
      have hg := gl_of o.sc b1
      have hm := o.facts.fr n (of_decide_eq_true b4)
      obtain ⟨hpl, hlen⟩ := chkEs_plain b5
      have b3 : n = "zip" := of_decide_eq_true b3
      subst b3
      have hA := snd_Es its xs X sc W o b5
      cases tgx <;> first | cases b7 | skip
      match xs, hpl, hA, b6 with
      | [y, z], hpl, hA, _ => exact i_zp hg hm hA (star_of (hpl y (by simp))) (back_any fun x hx => hpl x (List.mem_cons_of_mem _ hx))
      | [], _, _, b6 => simp at b6
      | [_], _, _, b6 => simp at b6
      | _ :: _ :: _ :: _, _, _, b6 => simp at b6
    · cases h9
end
end KM

namespace KM
open PySem PySem.Spec PyProof.Rows L2 PySem.W

/-! ### super().__init__(..) in an own exception's __init__ -/
section
variable {X : Cx} {pins : List (Addr × Obj)} {σ : L2.St} {H : Hp} {s : Shared} {a C u : Addr} {E : Value → Shared → Prop}
theorem mw_call {A : Around} {us : List Value} {Q : Value → Shared → Prop} (T : OexC X.K C) (I : Inv X ((u, kxs_mw "ValueError.__init__" a) :: pins) σ H s) (e : H a = some (exo a C none)) (hl : us.length ≤ sizeLine) (h : ∀ s', Inv X pins σ H s' → Q .none s') :
    wpAny (model X.prog X.w) A (PySem.call (.ref u) us) Q E s := by
  obtain ⟨nm, q, N, bs, bm, sn, sub, ab, col, dd, k0, k1, k2, k3, k5, hC, hbm⟩ := T.cls
  obtain ⟨t1, ho⟩ := exo_at I.hok e
  have hu : s.heap.get? u = some (kxs_mw "ValueError.__init__" a) := (I.pin (u, _) (by simp)).1
  have hC' := I.kIn _ _ hC
  have I0 : Inv X pins σ H s := I.pins_of fun p hp => I.pin p (by simp [hp])
  obtain ⟨hp, g, d, t, os⟩ := s
  have fin : ∀ h', (∀ b o, b ≠ a → hp.get? b = some o → h'.get? b = some o) → h'.get? a = some (PySem.W.excObj C hp.objs.size none .none) → h'.get? hp.objs.size = some (PySem.W.excTup us) → Q .none ⟨h', g, d, t, os⟩ := fun h' k hx _ => by
    have J := I0.write (t' := t) (x := a) (e := a) (o := exo a C none) (by rw [e]; exact True.intro) (.inl rfl) k ⟨_, hx⟩ (exo_ok hx)
    have eu : upd H a (exo a C none) = H := by
      funext b
      by_cases hb : b = a
      · rw [hb, upd_same, e]
      · rw [upd_ne hb]
    rw [eu] at J
    exact h _ J
  refine wpAny_call (codeAny_of_tree ?_)
  show wpAny _ A.in1 (callAny (.ref u) ⟨us, []⟩) _ _ _
  simp only [callAny]
  refine wpAny_bind (wpAny_load hu ?_)
  simp only [kxs_mw, show (Value.type "method-wrapper" == Value.type "method" || Value.type "method-wrapper" == Value.type "builtin_function_or_method" || Value.type "method-wrapper" == Value.type "method-wrapper") = true by decide, if_true]
  refine KFB.if_so (by decide) ?_
  refine wpAny_bind (check_bound_init F.excBase_ValueError.toExcCallFacts hC' ho rfl ?_)
  refine wpAny_bind (wpAny_pure (wpAny_pure ?_))
  refine ⟨plainId_quiet F.excBase_ValueError.init.plain _, codeAny_builtin F.excBase_ValueError.initEntry ?_⟩
  rw [Around.under_plainId F.excBase_ValueError.init.plain _]
  exact exc_init_tree (cls := .ref C) (t0 := t1) (dv := none) (c2 := .none) (c3 := .none) (b4 := .bool false) ho hl fin
end
/-- what the written part says of the class C's own __init__, being run -/
structure SupX (X : Cx) (C : Addr) (me : Str) : Prop where
  ex : ∃ (f cda cc : Addr) (fd : FuncData) (vs : Array Value) (file : Str) (tf : Tok) (oc : Value) (od : Option Addr) (osl : Array (Option Value)) (ccl : Value) (cdd : Option Addr) (ccs : Array (Option Value)) (cl : Value) (cld : Option Addr) (csl : Array (Option Value)) (ar : Arg),
    X.env.func = some f ∧ X.env.code = .ref cda ∧ X.K.lookup f = some ⟨oc, od, .func fd, osl⟩ ∧ (fd.params.posonlyargs ++ fd.params.args).head? = some ar ∧ ar.arg = me ∧ X.K.lookup cda = some ⟨ccl, cdd, .fields vs, ccs⟩ ∧ vs[2]? = some (.str file tf) ∧
    ((X.prog.main.file : Str) == file) = true ∧ X.env.cells.lookup ("__class__" : Str) = some cc ∧ X.K.lookup cc = some ⟨cl, cld, .cell (some (.ref C)), csl⟩
  sup : X.mg "super" = none
  ks : X.env.scope.names.lookup ("super" : Str) = some .globalImplicit
  kc : X.env.scope.names.lookup ("__class__" : Str) = some .free
  ka : X.env.scope.names.lookup me = some .local
  top : (X.prog.main.scope.names.lookup ("super" : Str)).isSome = false
  opq : PySem.W.nsIn X.K cStatics "thirdparty.any" = some none
  along : PySem.W.ks_superIn X.K C C "__init__" = some (some (.builtin "ValueError.__init__"))
  ve : PySem.W.subIn X.K (.ref C) (.type "ValueError") = some true
section
variable {X : Cx} {pins : List (Addr × Obj)} {σ : L2.St} {H : Hp} {s : Shared} {a C : Addr} {E : Value → Shared → Prop} {self : Str} {i : Nat}
theorem sup_base {body : List Stmt} {p0 p1 : Pos} {attr : Str} {whole : Sem Value} {Q : Value → Shared → Prop} (S : SupX X C self) (T : OexC X.K C) (I : Inv X pins σ H s) (hN : X.N[i]? = some self) (hσ : σ[i]? = some (some (.ref a))) (e : H a = some (exo a C none)) (hat : (attr == ("__class__" : Str)) = false)
    (h : ∀ h', h'.get? s.heap.objs.size = some (ks_superObj C a C) → (∀ b o, s.heap.get? b = some o → h'.get? b = some o) → Q (.ref s.heap.objs.size) { s with heap := h' }) :
    _root_.PySem.wpAt (model X.prog X.w) X.A (.func body X.env) (attributeBase (.Call (.Name "super" p0) [] [] p1) attr X.env whole) Q E s := by
  obtain ⟨f, cda, cc, fd, vs, file, tf, oc, od, osl, ccl, cdd, ccs, cl, cld, csl, ar, e1, e2, e3, e4, e5, e6, e7, e8, e9, e10⟩ := S.ex
  obtain ⟨nm, q, N, bs, bm, sn, sub, ab, col, dd, k0, k1, k2, k3, k5, hC, hbm⟩ := T.cls
  obtain ⟨t1, ho⟩ := exo_at I.hok e
  have hin := I.kIn
  obtain ⟨mb, hb1, hb2⟩ := I.mod.blt
  obtain ⟨m, hns, hlook⟩ := I.loc
  have hself : m self = some (.ref a) := by
    obtain ⟨u, ru, hl⟩ := hlook i self (.ref a) hN hσ (.inl S.ka)
    have ru : u = Value.ref a := ru
    subst ru
    rcases hl with ⟨_, z⟩ | ⟨z, _⟩
    · exact z
    · rcases z with z | z <;> exact absurd (S.ka.symm.trans z) (by decide)
  have hC' := hin _ _ hC
  refine PySem.ks_wpAt_super_base (prog := X.prog) (w := X.w) (env := X.env) S.ks S.kc hat e1 (hin _ _ e3) rfl e4 e2 (hin _ _ e6) rfl e7 e8 S.top ?_
  refine ks_loadName_global I.ok.kind S.ks (Calls.loadGlobal_builtin (by rw [I.ok.glob]; exact I.mod.glob.keeps I.bk) S.sup (by rw [I.ok.blt]; exact hb1.keeps I.bk) ((hb2 _ (by decide)).trans rfl) ⟨rfl, ?_⟩)
  refine wpAny_loadName_free I.ok.kind S.kc e9 ⟨_, hin _ _ e10, rfl⟩ ?_
  rw [e5]
  refine wpAny_loadName_local I.ok.kind S.ka hns hself ?_
  obtain ⟨hh, g, d, t, os⟩ := s
  refine ks_wpAny_isType_cls hC' rfl ⟨rfl, ?_⟩
  refine ks_wpAny_call_super hC' rfl ho rfl (fun c z => by cases z) (looks_mroIn hin ?_) (fun h' z k => h h' z k)
  unfold PySem.W.mroIn PySem.W.clsIn
  rw [hC]
  simp [excClassObj]

theorem sup_stmt {body : List Stmt} {p0 p1 p2 p3 p4 : Pos} {e : Expr} {es : List Expr} {ta : TA} {D : Ends} (S : SupX X C self) (T : OexC X.K C) (I : Inv X pins σ H s) (hN : X.N[i]? = some self) (hσ : σ[i]? = some (some (.ref a))) (ea : H a = some (exo a C none)) (ha : PA X (e :: es) ta)
    (hst : starEach (e :: es) X.env = (false, eval e X.env) :: starEach es X.env) (hpl : (backTo p3 (starEach es X.env)).any (·.1) = false)
    (hfew : methodCallForm ((e :: es).length + 0) (backTo p3 (starEach (e :: es) X.env)) [] = true) (hline : (p2.endLine == p3.line) = true)
    (h : ta σ H fun vs H1 => vs.length ≤ 1000 ∧ H1 a = some (exo a C none) ∧ D.nx σ H1) :
    _root_.PySem.wpAt (model X.prog X.w) X.A (.func body X.env) (exec (.Expr (.Call (.Attribute (.Call (.Name "super" p0) [] [] p1) "__init__" p2) (e :: es) [] p3) p4) X.env) (SP X pins D) X.xe s := by
  refine ks_wpAt_Expr_any ?_ I.quiet (sw_val rfl)
  have hpos : methodCallPos true (.Call (.Name "super" p0) [] [] p1) X.env p2 p3 = pure p3 := by unfold methodCallPos; simp [hline]
  have he : eval (.Call (.Attribute (.Call (.Name "super" p0) [] [] p1) "__init__" p2) (e :: es) [] p3) X.env = (do
      let ov ← attributeBase (.Call (.Name "super" p0) [] [] p1) "__init__" X.env (eval (.Call (.Name "super" p0) [] [] p1) X.env)
      standAt p2.atName
      let (f, first) ← holding [ov] (getMethod ov "__init__" (do return (← importBound (.Call (.Name "super" p0) [] [] p1) X.env).getD true))
      callWith p3 f first (backTo p3 (starEach (e :: es) X.env)) []) := by
    rw [arm_eval_Call]
    unfold methodCall
    have hform : methodCallForm ((e :: es).length + ([] : List Keyword).length) (backTo p3 (starEach (e :: es) X.env)) (backToKw p3 (keywordEach [] X.env)) = true := hfew
    simp only [hform, hpos]
    rfl
  refine ks_wpAt_MethodCall (sup_base S T I hN hσ ea (by decide) fun h' hso kp => ?_) he
  have I1 : Inv X pins σ H { s with heap := h' } := I.kept (t' := s.toks) kp
  obtain ⟨nm, q, N, bs, bm, sn, sub, ab, col, dd, k0, k1, k2, k3, k5, hC, hbm⟩ := T.cls
  obtain ⟨t1, ho⟩ := exo_at I1.hok ea
  have hal : PySem.W.alongIn X.K "__init__" bm = some (some (.builtin "ValueError.__init__")) := by
    have z := S.along
    unfold PySem.W.ks_superIn PySem.W.clsIn at z
    rw [hC] at z
    have z2 : PySem.W.alongIn X.K "__init__" (((Value.ref C :: bm).dropWhile (· != .ref C)).drop 1) = some (some (.builtin "ValueError.__init__")) := z
    rw [PySem.ESX.drop_own] at z2
    exact z2
  have hcl : PySem.W.clsIn X.K C = some { name := nm, bases := bs, mro := .ref C :: bm, ns := N, qualname := q, hasDict := true, slotNames := sn, subclasses := sub, abstract := ab, collection := col, hasDel := false } := by unfold PySem.W.clsIn; rw [hC] <;> rfl
  have ia : PySem.W.InstAt h' a { cls := .ref C, dict := none, data := .fields #[.ref t1, .none, .none, .none, .bool false, .none] } C none := ⟨ho, rfl, rfl, trivial⟩
  obtain ⟨hp, g, dr, tk, os⟩ := s
  have na : a < h'.objs.size := Heap.lt_size ho
  refine kxs_getMethod kxs_ValueError hso (looks_opaque I1.kIn S.opq) (l₀ := .ref C :: bm) (fun A Q E s k q => wpAny_bind ((looks_clsIn I1.kIn hcl) A _ E s k (wpAny_pure q))) (PySem.ESX.drop_own C bm) I1.kIn hal (ia.type.andThen (looks_subIn I1.kIn S.ve)) (ks_ne I1.kIn ia hcl) (by decide) ?_
  have hfr : H h'.objs.size = none := I1.hok.fresh (Nat.le_refl _)
  have I2 : Inv X ((h'.objs.size, kxs_mw "ValueError.__init__" a) :: pins) σ H ⟨h'.push (kxs_mw "ValueError.__init__" a), g, dr, tk + 1, os⟩ := by
    have J : Inv X pins σ H ⟨h'.push (kxs_mw "ValueError.__init__" a), g, dr, tk + 1, os⟩ := I1.kept (t' := tk + 1) fun b o q => Heap.get?_push_of_some _ q
    refine J.pins_of fun p hp => ?_
    rcases List.mem_cons.mp hp with rfl | hp
    · exact ⟨Heap.get?_push_at rfl rfl, hfr, fun z => Nat.lt_irrefl _ (z ▸ I1.lt), I1.nofs (Nat.le_refl _), fun v z => by cases z⟩
    · exact J.pin p (List.mem_append_right _ hp)
  show wpAny _ _ (callWith p3 (.ref h'.objs.size) [] (backTo p3 (starEach (e :: es) X.env)) []) _ _ _
  have hA := ha.run p3 _ _ σ H _ I2 h
  rw [hst] at hA ⊢
  refine kxs_callWith (i := "ValueError.__init__") (x := a) (by show (false || (backTo p3 (starEach es X.env)).any (·.1)) = false; rw [hpl]; rfl) ?_
  refine Calls.evalArgs_plain (thn hA fun us s2 ⟨vs, H2, J2, r2, hz, e2, q⟩ => ⟨(J2.pin (h'.objs.size, _) (by simp)).1, ?_⟩)
  refine mw_call T J2 e2 ?_ fun s3 J3 => ⟨σ, H2, J3, q⟩
  have hlen := r2.length
  show us.length ≤ sizeLine
  rw [sizeLine_eq]; omega
end
end KM

namespace KM
open PySem PySem.Spec PyProof.Rows L2 PySem.W _root_.NdefX

theorem cells_K {K : PySem.W.Frag} {P : Program} {w : World} {mg : Str → Option Value} {base : Heap} {A : Around} {outer : List PySem.Env} {s : Shared} {H : Hp} {cc C : Addr} {cl : Value} {cld : Option Addr} {csl : Array (Option Value)} (e0 : Env0 P w K mg base A outer s H)
    (lc : K.lookup cc = some ⟨cl, cld, .cell (some (.ref C)), csl⟩) : CellsAt [(("__class__" : Str), cc)] ["__class__"] [some (.ref C)] s.heap H := by
  have hb := e0.bs cc _ (e0.mod.kin _ _ lc)
  have key : ∀ (y : Str) (c : Addr), ([(("__class__" : Str), cc)] : List (Str × Addr)).lookup y = some c → y = "__class__" ∧ c = cc := fun y c e => by
    simp only [List.lookup] at e
    split at e
    · rename_i h
      cases e
      exact ⟨eq_of_beq h, rfl⟩
    · cases e
  refine ⟨rfl, fun y c e => ?_, fun x y c e e' => ?_, fun i y e => ?_⟩
  · obtain ⟨_, rfl⟩ := key y c e
    exact ⟨hb.2, _, _, hb.1, rfl⟩
  · rw [(key x c e).1, (key y c e').1]
  · match i, e with
    | 0, e =>
      cases e
      refine ⟨cc, rfl, fun v hv => ?_⟩
      cases hv
      exact ⟨.ref C, rfl, _, hb.1, rfl⟩
section
variable {P : Program} {w : World} {K : PySem.W.Frag} {mg : Str → Option Value} {base : Heap}
/-- an own exception's __init__ that begins with super().__init__(..) -/
theorem fn_sup {CX : CXT} {k : Nat} {f cc cda C : Addr} {name qual : Str} {params : Arguments} {body stores : List Stmt} {scope : Scope} {dV kV doc pm ct oc : Value} {an od : Option Addr} {osl : Array (Option Value)} {N ps : List Str} {sp : Sp} {cl : Value} {cld : Option Addr} {csl : Array (Option Value)}
    {p0 p1 p2 p3 p4 : Pos} {e : Expr} {self : Str}
    (lk : K.lookup f = some ⟨oc, od, .func (PySem.W.fnX name qual params body scope [("__class__", cc)] dV kV doc pm an (.ref cda) ct), osl⟩) (hcd : PySem.W.codeIn K (.ref cda) qual = true) (lc : K.lookup cc = some ⟨cl, cld, .cell (some (.ref C)), csl⟩)
    (S : NScope N ps ["__class__"] scope) (T : OexC K C) (hN : N[0]? = some self)
    (hbd : body = .Expr (.Call (.Attribute (.Call (.Name "super" p0) [] [] p1) "__init__" p2) [e] [] p3) p4 :: stores) (he : plainX e = true) (hline : (p2.endLine == p3.line) = true)
    (len : ∀ vs H Q E, sp vs H Q E → vs.length = ps.length)
    (hbody : ∀ (A : Around) (outer : List PySem.Env) (s : Shared) (H : Hp) (vs : List V) (Q : VK) (E : XK), sp vs H Q E → ∀ X : Cx, X = ncx CX P w K mg base N ⟨name, qual, params, body, scope, [("__class__", cc)], cda⟩ f A outer s H E →
      ∃ ta t a, SupX X C self ∧ (startF N vs [some (.ref C)])[0]? = some (some (.ref a)) ∧ H a = some (exo a C none) ∧ PA X [e] ta ∧ PSs X stores t ∧
        ta (startF N vs [some (.ref C)]) H fun us H1 => us.length ≤ 1000 ∧ H1 a = some (exo a C none) ∧ t { nx := fun _ H' => Q .non H', rt := Q } (startF N vs [some (.ref C)]) H1) :
    FnOk P w K mg base CX (k + 1) f (PySem.W.fnX name qual params body scope [("__class__", cc)] dV kV doc pm an (.ref cda) ct) ps sp := by
  refine ⟨len, fun A outer s H args us vs Q E hr e0 hb r hsp => ?_⟩
  have hl := len _ _ _ _ hsp
  have KX : K.In s.heap := e0.mod.kin.keeps fun b o e => (e0.bs b o e).1
  have lim : s.heap.NoLimit := e0.mod.nolimit.keeps fun b o e => (e0.bs b o e).1
  have CA := cells_K e0 lc
  refine ks_codeAny_call_defAt (fd := PySem.W.fnX name qual params body scope [("__class__", cc)] dV kV doc pm an (.ref cda) ct) (body := body) (binds := ps.zip us) hr.depth (KX _ _ lk) rfl lim (codeRec_of KX hcd) rfl hb S.nocell (fun ⟨n, _⟩ hy => S.par n (List.of_mem_zip hy).1) (fun h₁ hns kp => ?_) S.co S.gen S.kind
  obtain ⟨ta, t, a, SX, hσ, ha, hA, hS, hq⟩ := hbody A outer s H vs Q E hsp _ rfl
  have I : Inv (ncx CX P w K mg base N ⟨name, qual, params, body, scope, [("__class__", cc)], cda⟩ f A outer s H E) [] (startF N vs [some (.ref C)]) H { s with heap := h₁, toks := s.toks + (ps.zip us).length } := inv_startN S hr.hd e0 hl r CA hns kp
  have fin : ∀ {σ' : L2.St} {H' : Hp} {v : V} {u : Value} {s' : Shared}, Inv (ncx CX P w K mg base N ⟨name, qual, params, body, scope, [("__class__", cc)], cda⟩ f A outer s H E) [] σ' H' s' → L2.RelV v u → Q v H' → CE outer P w H s Q u s' :=
    fun {σ' H' v u s'} J rv q => ⟨v, H', J.os, J.bare, J.base, J.hok, rv, q⟩
  subst hbd
  generalize hX : ncx CX P w K mg base N ⟨name, qual, params, .Expr (.Call (.Attribute (.Call (.Name "super" p0) [] [] p1) "__init__" p2) [e] [] p3) p4 :: stores, scope, [("__class__", cc)], cda⟩ f A outer s H E = X at *
  have q1 := sup_stmt (body := .Expr (.Call (.Attribute (.Call (.Name "super" p0) [] [] p1) "__init__" p2) [e] [] p3) p4 :: stores) (p0 := p0) (p1 := p1) (p2 := p2) (p3 := p3) (p4 := p4) (D := { nx := fun σ' H' => t { nx := fun _ H' => Q .non H', rt := Q } σ' H', rt := fun _ _ => False }) SX (by rw [← hX]; exact T) I (by rw [← hX]; exact hN) hσ ha hA (star_of he) rfl (by rw [star_of he]; rfl) hline hq
  subst hX
  refine ks_wpAt_execs_cons (ks_wpAt_mono q1 (fun fl s' hs => ?_) fun _ _ z => z)
  cases fl with
  | next =>
    obtain ⟨σ', H', J, q⟩ := hs
    refine PySem.wpAt_of_wpAny (wpAny_mono (hS.run [] s' σ' H' _ J q) (fun fl s2 hs2 => ?_) fun _ _ z => z)
    cases fl with
    | ret u =>
      obtain ⟨v, σ2, H2, J2, rv, q2⟩ := hs2
      exact fin J2 rv q2
    | next =>
      obtain ⟨σ2, H2, J2, q2⟩ := hs2
      exact fin (v := V.non) (u := Value.none) J2 rfl q2
    | brk =>
      obtain ⟨_, _, _, q2⟩ := hs2
      exact False.elim q2
    | cont =>
      obtain ⟨_, _, _, q2⟩ := hs2
      exact False.elim q2
  | ret u =>
    obtain ⟨_, _, _, _, _, q⟩ := hs
    exact False.elim q
  | brk =>
    obtain ⟨_, _, _, q⟩ := hs
    exact False.elim q
  | cont =>
    obtain ⟨_, _, _, q⟩ := hs
    exact False.elim q
end
end KM

namespace KM
open PySem PySem.Spec PyProof.Rows L2 PySem.W _root_.NdefX

/-- an own exception's __init__ as it stands behind the top -/
structure IniK (P : Program) (K : PySem.W.Frag) (mg : Str → Option Value) (C f : Addr) (st : Stmt) (fd : FuncData) : Prop where
  ex : ∃ (oc : Value) (od : Option Addr) (osl : Array (Option Value)) (dV kV doc pm : Value) (an : Option Addr) (ct : Value) (cda cc : Addr) (cl : Value) (cld : Option Addr) (csl : Array (Option Value)) (ccl : Value) (cdd : Option Addr) (ccs : Array (Option Value)) (vs : Array Value) (file : Str) (tf : Tok) (qual : Str),
    fd = PySem.W.fnX "__init__" qual (defArgs st) (defBody st) (defScope st) [("__class__", cc)] dV kV doc pm an (.ref cda) ct ∧ K.lookup f = some ⟨oc, od, .func fd, osl⟩ ∧ PySem.W.codeIn K (.ref cda) qual = true ∧ K.lookup cc = some ⟨cl, cld, .cell (some (.ref C)), csl⟩ ∧
      K.lookup cda = some ⟨ccl, cdd, .fields vs, ccs⟩ ∧ vs[2]? = some (.str file tf) ∧ ((P.main.file : Str) == file) = true ∧ dV = .none
  oex : OexC K C
  sup : mg "super" = none
  top : (P.main.scope.names.lookup ("super" : Str)).isSome = false
  opq : PySem.W.nsIn K cStatics "thirdparty.any" = some none
  along : PySem.W.ks_superIn K C C "__init__" = some (some (.builtin "ValueError.__init__"))
  ve : PySem.W.subIn K (.ref C) (.type "ValueError") = some true
/-- what an f-string may take -/
def FmtV (w : V) : Prop := (∃ y : Str, w = .str y ∧ y.length ≤ SL) ∨ ∃ i : Int, w = .int i ∧ i.natAbs.log2 < 64
/-- C(w) with the field f1 -/
def spI1 (C : Addr) (f1 : Str) : Sp := fun vs H Q _ => ∃ a w, vs = [.ref a, w] ∧ FmtV w ∧ H a = some (exo a C none) ∧ ∀ dx, H dx = none → dx ≠ a → Q .non (upd (upd H dx (exd dx [(f1, w)])) a (exo a C (some dx)))
def spI2 (C : Addr) (f1 f2 : Str) : Sp := fun vs H Q _ => ∃ a w1 w2, vs = [.ref a, w1, w2] ∧ FmtV w1 ∧ FmtV w2 ∧ H a = some (exo a C none) ∧
  ∀ dx, H dx = none → dx ≠ a → Q .non (upd (upd (upd H dx (exd dx [(f1, w1)])) a (exo a C (some dx))) dx (exd dx [(f2, w2), (f1, w1)]))
theorem tfmt_var {i : Nat} {σ : L2.St} {w : V} {H : Hp} {Q : V → Hp → Prop} (hσ : σ[i]? = some (some w)) (h : FmtV w) (q : ∀ y : Str, y.length ≤ SL → Q (.str y) H) : tFmt (tVar i) σ H Q := by
  refine ⟨w, hσ, ?_⟩
  rcases h with ⟨y, rfl, hy⟩ | ⟨i, rfl, hi⟩
  · exact .inl ⟨y, rfl, Nat.le_trans hy (by rw [sizeLine_eq]; decide), q y hy⟩
  · refine .inr ⟨i, rfl, by omega, q _ ?_⟩
    have := int_text_len_1921 (i := i) (by omega)
    exact Nat.le_trans this (by decide)
theorem len_app (a b : Str) : (a ++ b).length = a.length + b.length := by
  show (a.cps ++ b.cps).size = a.cps.size + b.cps.size
  simp
section
variable {P : Program} {w : World} {K : PySem.W.Frag} {mg : Str → Option Value} {base : Heap} {C f : Addr} {st : Stmt} {fd : FuncData} {CX : CXT} {k : Nat}
theorem supX_of {N : List Str} {A : Around} {outer : List PySem.Env} {s : Shared} {H : Hp} {E : XK} {self : Str} {qual : Str} {dV kV doc pm ct oc : Value} {an od : Option Addr} {osl : Array (Option Value)} {cda cc : Addr} {cl : Value} {cld : Option Addr} {csl : Array (Option Value)} {ccl : Value} {cdd : Option Addr} {ccs : Array (Option Value)} {vs : Array Value} {file : Str} {tf : Tok} {ar : Arg}
    (I : IniK P K mg C f st fd) (efd : fd = PySem.W.fnX "__init__" qual (defArgs st) (defBody st) (defScope st) [("__class__", cc)] dV kV doc pm an (.ref cda) ct) (lk : K.lookup f = some ⟨oc, od, .func fd, osl⟩) (lc : K.lookup cc = some ⟨cl, cld, .cell (some (.ref C)), csl⟩)
    (ld : K.lookup cda = some ⟨ccl, cdd, .fields vs, ccs⟩) (hv : vs[2]? = some (.str file tf)) (hf : ((P.main.file : Str) == file) = true) (har : ((defArgs st).posonlyargs ++ (defArgs st).args).head? = some ar) (hself : ar.arg = self)
    (ks : (defScope st).names.lookup ("super" : Str) = some .globalImplicit) (kc : (defScope st).names.lookup ("__class__" : Str) = some .free) (ka : (defScope st).names.lookup self = some .local) :
    SupX (ncx CX P w K mg base N ⟨"__init__", qual, defArgs st, defBody st, defScope st, [("__class__", cc)], cda⟩ f A outer s H E) C self where
  ex := ⟨f, cda, cc, fd, vs, file, tf, oc, od, osl, ccl, cdd, ccs, cl, cld, csl, ar, rfl, rfl, lk, by rw [efd]; exact har, hself, ld, hv, hf, rfl, lc⟩
  sup := I.sup
  ks := ks
  kc := kc
  ka := ka
  top := I.top
  opq := I.opq
  along := I.along
  ve := I.ve
/-- __init__(self, code): super().__init__(f's{code}'); self.f1 = code -/
theorem ini1_ok {self a1 f1 s1 : Str} {p0 p1 p2 p3 p4 q1 q2 q3 q4 q5 q6 q7 q8 : Pos} {j : Nat} {ar : Arg} (I : IniK P K mg C f st fd)
    (hbd : defBody st = [.Expr (.Call (.Attribute (.Call (.Name "super" p0) [] [] p1) "__init__" p2) [.JoinedStr [.Constant (.str s1) j q1, .FormattedValue (.Name a1 q2) (-1) none q3] q4] [] p3) p4, .Assign [.Attribute (.Name self q5) f1 q6] (.Name a1 q7) q8])
    (S : NScope [self, a1, "__class__"] [self, a1] ["__class__"] (defScope st)) (har : ((defArgs st).posonlyargs ++ (defArgs st).args).head? = some ar) (hself : ar.arg = self) (hline : (p2.endLine == p3.line) = true) (hs1 : s1.length ≤ 1000)
    (ks : (defScope st).names.lookup ("super" : Str) = some .globalImplicit) (kc : (defScope st).names.lookup ("__class__" : Str) = some .free) (hd1 : (self == ("__debug__" : Str)) = false ∧ (self == ("__classdict__" : Str)) = false) (hd2 : (a1 == ("__debug__" : Str)) = false ∧ (a1 == ("__classdict__" : Str)) = false)
    (hno : PySem.W.findIn K (.ref C) f1 = some none) : FnOk P w K mg base CX (k + 1) f fd [self, a1] (spI1 C f1) := by
  obtain ⟨oc, od, osl, dV, kV, doc, pm, an, ct, cda, cc, cl, cld, csl, ccl, cdd, ccs, vs, file, tf, qual, efd, lk, hcd, lc, ld, hv, hf, _⟩ := I.ex
  have ka : (defScope st).names.lookup self = some .local := S.par self (by simp)
  have kb : (defScope st).names.lookup a1 = some .local := S.par a1 (by simp)
  have lk0 := lk
  rw [efd] at lk ⊢
  refine fn_sup (self := self) lk hcd lc S I.oex rfl hbd rfl hline (fun vs H Q E h => ?_) fun A outer s H us Q E h X hX => ?_
  · obtain ⟨a, w, rfl, _⟩ := h
    rfl
  · obtain ⟨a, y, rfl, hy, ha, hq⟩ := h
    subst hX
    have vS : ∀ {n : Str} {p : Pos} {i : Nat}, [self, a1, ("__class__" : Str)][i]? = some n → (defScope st).names.lookup n = some .local → (n == ("__debug__" : Str)) = false → (n == ("__classdict__" : Str)) = false →
        PE (ncx CX P w K mg base [self, a1, "__class__"] ⟨"__init__", qual, defArgs st, defBody st, defScope st, [("__class__", cc)], cda⟩ f A outer s H E) (.Name n p) (tVar i) := fun h1 h2 h3 h4 => pe_var h1 (.inl h2) h3 h4
    refine ⟨_, _, a, supX_of I efd lk0 lc ld hv hf har hself ks kc ka, rfl, ha, pa_cons (pe_joined (.cons pe_str (.cons (pe_fmt (vS (i := 1) rfl kb hd2.1 hd2.2)) .nil))) pa_nil,
      pss_one (ps_ost (vS (i := 0) rfl ka hd1.1 hd1.2) (vS (i := 1) rfl kb hd2.1 hd2.2)), ?_⟩
    refine ⟨s1, rfl, ?_, ?_⟩
    · rw [len_app]
      show 0 + s1.length ≤ _
      rw [sizeLine_eq]; omega
    · show tFmt (tVar 1) _ _ _
      refine tfmt_var rfl hy fun z hz => ⟨z, rfl, ?_, ?_⟩
      · rw [len_app, len_app]
        show 0 + s1.length + z.length ≤ _
        have : SL = 1000000 := rfl
        rw [sizeLine_eq]; omega
      · exact ⟨Nat.le_of_ble_eq_true rfl, ha, y, rfl, .ref a, rfl, a, C, rfl, I.oex, hno, .inl ⟨ha, fun dx h1 h2 => hq dx h1 h2⟩⟩
/-- __init__(self, code, at): super().__init__(f's{code}t{at}'); self.f1 = code; self.f2 = at -/
theorem ini2_ok {self a1 a2 f1 f2 s1 s2 : Str} {p0 p1 p2 p3 p4 q1 q2 q3 q4 q5 q6 q7 q8 q9 q10 q11 q12 q13 q14 q15 : Pos} {j j2 : Nat} {ar : Arg} (I : IniK P K mg C f st fd)
    (hbd : defBody st = [.Expr (.Call (.Attribute (.Call (.Name "super" p0) [] [] p1) "__init__" p2) [.JoinedStr [.Constant (.str s1) j q1, .FormattedValue (.Name a1 q2) (-1) none q3, .Constant (.str s2) j2 q9, .FormattedValue (.Name a2 q10) (-1) none q11] q4] [] p3) p4, .Assign [.Attribute (.Name self q5) f1 q6] (.Name a1 q7) q8,
      .Assign [.Attribute (.Name self q12) f2 q13] (.Name a2 q14) q15])
    (S : NScope [self, a1, a2, "__class__"] [self, a1, a2] ["__class__"] (defScope st)) (har : ((defArgs st).posonlyargs ++ (defArgs st).args).head? = some ar) (hself : ar.arg = self) (hline : (p2.endLine == p3.line) = true) (hs1 : s1.length ≤ 1000) (hs2 : s2.length ≤ 1000)
    (ks : (defScope st).names.lookup ("super" : Str) = some .globalImplicit) (kc : (defScope st).names.lookup ("__class__" : Str) = some .free) (hd1 : (self == ("__debug__" : Str)) = false ∧ (self == ("__classdict__" : Str)) = false) (hd2 : (a1 == ("__debug__" : Str)) = false ∧ (a1 == ("__classdict__" : Str)) = false)
    (hd3 : (a2 == ("__debug__" : Str)) = false ∧ (a2 == ("__classdict__" : Str)) = false) (hno : PySem.W.findIn K (.ref C) f1 = some none) (hno2 : PySem.W.findIn K (.ref C) f2 = some none) : FnOk P w K mg base CX (k + 1) f fd [self, a1, a2] (spI2 C f1 f2) := by
  obtain ⟨oc, od, osl, dV, kV, doc, pm, an, ct, cda, cc, cl, cld, csl, ccl, cdd, ccs, vs, file, tf, qual, efd, lk, hcd, lc, ld, hv, hf, _⟩ := I.ex
  have ka : (defScope st).names.lookup self = some .local := S.par self (by simp)
  have kb : (defScope st).names.lookup a1 = some .local := S.par a1 (by simp)
  have kb2 : (defScope st).names.lookup a2 = some .local := S.par a2 (by simp)
  have lk0 := lk
  rw [efd] at lk ⊢
  refine fn_sup (self := self) lk hcd lc S I.oex rfl hbd rfl hline (fun vs H Q E h => ?_) fun A outer s H us Q E h X hX => ?_
  · obtain ⟨a, w, w2, rfl, _⟩ := h
    rfl
  · obtain ⟨a, y, y2, rfl, hy, hy2, ha, hq⟩ := h
    subst hX
    have vS : ∀ {n : Str} {p : Pos} {i : Nat}, [self, a1, a2, ("__class__" : Str)][i]? = some n → (defScope st).names.lookup n = some .local → (n == ("__debug__" : Str)) = false → (n == ("__classdict__" : Str)) = false →
        PE (ncx CX P w K mg base [self, a1, a2, "__class__"] ⟨"__init__", qual, defArgs st, defBody st, defScope st, [("__class__", cc)], cda⟩ f A outer s H E) (.Name n p) (tVar i) := fun h1 h2 h3 h4 => pe_var h1 (.inl h2) h3 h4
    refine ⟨_, _, a, supX_of I efd lk0 lc ld hv hf har hself ks kc ka, rfl, ha, pa_cons (pe_joined (.cons pe_str (.cons (pe_fmt (vS (i := 1) rfl kb hd2.1 hd2.2)) (.cons pe_str (.cons (pe_fmt (vS (i := 2) rfl kb2 hd3.1 hd3.2)) .nil))))) pa_nil,
      pss_cons (ps_ost (vS (i := 0) rfl ka hd1.1 hd1.2) (vS (i := 1) rfl kb hd2.1 hd2.2)) (pss_one (ps_ost (vS (i := 0) rfl ka hd1.1 hd1.2) (vS (i := 2) rfl kb2 hd3.1 hd3.2))), ?_⟩
    have hSL : SL = 1000000 := rfl
    refine ⟨s1, rfl, ?_, ?_⟩
    · rw [len_app]
      show 0 + s1.length ≤ _
      rw [sizeLine_eq]; omega
    · show tFmt (tVar 1) _ _ _
      refine tfmt_var rfl hy fun z hz => ⟨z, rfl, ?_, ?_⟩
      · rw [len_app, len_app]
        show 0 + s1.length + z.length ≤ _
        rw [sizeLine_eq]; omega
      · refine ⟨s2, rfl, ?_, ?_⟩
        · rw [len_app, len_app, len_app]
          show 0 + s1.length + z.length + s2.length ≤ _
          rw [sizeLine_eq]; omega
        · show tFmt (tVar 2) _ _ _
          refine tfmt_var rfl hy2 fun z2 hz2 => ⟨z2, rfl, ?_, ?_⟩
          · rw [len_app, len_app, len_app, len_app]
            show 0 + s1.length + z.length + s2.length + z2.length ≤ _
            rw [sizeLine_eq]; omega
          · refine ⟨Nat.le_of_ble_eq_true rfl, ha, y, rfl, .ref a, rfl, a, C, rfl, I.oex, hno, .inl ⟨ha, fun dx h1 h2 => ?_⟩⟩
            refine ⟨y2, rfl, .ref a, rfl, a, C, rfl, I.oex, hno2, .inr ⟨dx, [(f1, y)], upd_same, ?_, Nat.le_of_ble_eq_true rfl, hq dx h1 h2⟩⟩
            rw [upd_ne h2]; exact upd_same
end
end KM

namespace KM
open PySem PySem.Spec PyProof.Rows L2 PySem.W

/-! ### several except clauses, with and without names -/
abbrev HdL := List (Value × Option Nat × (Addr → Value → Option Addr → TS))
/-- the ends behind a suite whose name goes -/
def offD (nm : Option Nat) (D : Ends) : Ends := match nm with
  | none => D
  | some i => { nx := fun σ' H' => D.nx (σ'.set i none) H', rt := D.rt, bk := fun σ' H' => D.bk (σ'.set i none) H', ct := fun σ' H' => D.ct (σ'.set i none) H' }
def onS (nm : Option Nat) (a : Addr) (σ : L2.St) : L2.St := match nm with
  | none => σ
  | some i => σ.set i (some (.ref a))
def wAll (K : PySem.W.Frag) (Wout : WX) (D : Ends) : HdL → WX
  | [] => Wout
  | (c, nm, ts) :: r => fun cls d σ H => ∃ b, PySem.W.exmOne K cls c = some b ∧ (b = true → ∀ a, H a = none → ts a cls d (offD nm D) (onS nm a σ) H) ∧ (b = false → wAll K Wout D r cls d σ H)
def NmOk (X : Cx) : Option Nat → Option Str → Prop
  | none, none => True
  | some i, some n => X.N.Nodup ∧ X.N[i]? = some n ∧ X.env.kindOf n = some .local
  | _, _ => False
inductive HdsA (X : Cx) : List ExceptHandler → HdL → Prop
  | nil : HdsA X [] []
  | cons {x : Str} {c : Value} {nm : Option Nat} {n : Option Str} {ts : Addr → Value → Option Addr → TS} {b₀ : Stmt} {suite : List Stmt} {np pos' : Pos} {hds : List ExceptHandler} {l : HdL} (hc : Names X x c) (hn : NmOk X nm n)
      (hsu : ∀ (a : Addr) (oe : Obj) (cls : Value) (d : Option Addr) (pn : List (Addr × Obj)), Zc cls d oe → (∃ vs, oe.data = .fields vs) → PSs (X.suite a ((a, oe) :: pn)) (b₀ :: suite) (ts a cls d)) (r : HdsA X hds l) :
      HdsA X (.ExceptHandler (some (.Name x np)) n (b₀ :: suite) pos' :: hds) ((c, nm, ts) :: l)
section
variable {X : Cx} {body : List Stmt} {h₀ : ExceptHandler} {hds : List ExceptHandler} {l : HdL} {pos : Pos} {tb : WX → TS} {Wout : WX}
theorem ps_try_all (hs : X.stack = X.env :: X.outer) (hf : X.env.frame = some X.env.locals) (tk : Takes X Wout)
    (hb : ∀ (W : WX) (pn : List (Addr × Obj)) (xe : Value → Shared → Prop), Takes (X.tr pn xe) W → PassesOwn (model X.prog X.w) X.A X.env xe → PSs (X.tr pn xe) body (tb W))
    (hh : HdsA X (h₀ :: hds) l) : PS X (.Try body (h₀ :: hds) [] [] pos) (fun D σ H => tb (wAll X.K Wout D l) D σ H) := by
  refine ⟨fun pins s σ H D I h => ?_⟩
  have ok := I.ok
  have hfr : X.A.frames = some (X.env :: X.outer) := by rw [ok.frames, hs]
  refine wpAny_Try_except ?_
  refine wpAny_mono ((hb (wAll X.K Wout D l) (X.pn ++ pins) (fun e s₁ => wpAny (model X.prog X.w) X.A (noteFrame e X.env) (fun _ s₂ => wpAny (model X.prog X.w) X.A (setFlight e none) (fun _ s₃ =>
    wpAny (model X.prog X.w) X.A (handleBy e X.env (h₀ :: hds)) (SP X pins D) X.xe s₃) X.xe s₂) X.xe s₁) (fun u s' xx => ?_) PassesOwn.looking).run [] s σ H D (I.toTry _) h) (fun f s1 hsp => ?_) (fun e s1 he => he)
  · -- the catch
    obtain ⟨a, B, sI, pins', σ', H', cls, d, rfl, J', nb, up, sky, na, os, ag, w⟩ := xx
    have J : Inv X pins σ' H' sI := J'.ofTry ok
    have sky' : Sky B (X.env :: X.outer) a (Zc cls d) X.env.locals s'.heap := by rw [← hs]; exact sky
    show wpAny (model X.prog X.w) X.A (noteFrame (.ref a) X.env) _ _ _
    refine Sky.land Zc.steady hfr hf sky' fun h3 fl3 up3 => ?_
    have J3 : Inv X pins σ' H' { s' with heap := h3 } := J.landed nb fl3.1 (up.trans up3) os ag
    obtain ⟨oe3, vs3, he3, hz3, hd3⟩ := fl3.there
    have notFr : ∀ {h : Heap} {o : Obj} {vs : Array Value}, h.FunFrames B (X.env :: X.outer) → h.get? a = some o → o.data = .fields vs → a ∉ frs (X.env :: X.outer) := fun {h o vs} ff e dd hm => by
      obtain ⟨_, o', e', hnf⟩ := ff.mem hm
      rw [e] at e'; cases e'
      exact hnf _ dd
    have nfr := notFr fl3.2.2.1 he3 hd3
    have nL : a ≠ X.env.locals := fun z => nfr (List.mem_filterMap.mpr ⟨X.env, List.mem_cons_self, by rw [hf, z]⟩)
    have nF : a ∉ X.fs := fun hm => by
      obtain ⟨e, he, q⟩ := List.mem_filterMap.mp hm
      exact nfr (List.mem_filterMap.mpr ⟨e, List.mem_cons_of_mem _ he, q⟩)
    have S3 := J3.suite he3 hd3 na nL nF
    have go : ∀ {hds' : List ExceptHandler} {l' : HdL}, HdsA X hds' l' → wAll X.K Wout D l' cls d σ' H' →
        wpAny (model X.prog X.w) X.A (handleBy (.ref a) X.env hds') (SP X pins D) X.xe { s' with heap := h3 } := by
      intro hds' l' hk
      induction hk with
      | nil =>
        intro w
        refine wpAny_handleBy_nil ?_
        obtain ⟨k1, k2, k3, oe, vs, T, oT, ts', he, hz, hd, h1, hr⟩ := id fl3
        unfold PySem.passOn
        refine wpAny_bind (wpAny_field he hd h1 ?_)
        rw [if_neg (show ¬ ((Value.ref T == Value.none) = true) from by simp)]
        have fin : wpAny (model X.prog X.w) X.A (setFlight (.ref a) X.env.frame) (fun _ s4 => wpAny (model X.prog X.w) X.A (throw (.ref a) : Sem Flow) (SP X pins D) X.xe s4) X.xe { s' with heap := h3 } := by
          rw [hf]
          refine HandSPX.setFlight_upZ fl3 fun h4 hh4 up4 => wpAny_throw (tk _ _ ?_)
          exact ⟨a, B, sI, pins, σ', H', cls, d, rfl, J, nb, (up.trans up3).trans up4, .inr (.inr (by rw [hs]; exact hh4)), na, os, ag, w⟩
        first
          | exact wpAny_bind (wpAny_pure (wpAny_bind fin))
          | exact wpAny_bind fin
      | @cons x c nm n ts b₀ suite np pos' hds2 l2 hc hn hsu r ih =>
        intro w
        obtain ⟨b, hb1, hyes, hno⟩ := w
        refine wpAny_handleBy_cons (codeAny_handlers_test ?_) (by intro q; cases q)
        have LT : PySem.W.Looks (model X.prog X.w) h3 (typeOf (.ref a)) cls := fun A Q E s k q => wpAny_typeOf_ref (k _ _ he3) (by rw [hz3.1]; exact q)
        have LM := PySem.W.exm_one (M := model X.prog X.w) (J3.kIn) LT hb1
        have test : ∀ {Q : Value → Shared → Prop} {E : Value → Shared → Prop}, Q c { s' with heap := h3 } → wpAny (model X.prog X.w) (X.A.mark (some (.ref a))) (eval (.Name x np) X.env) Q E { s' with heap := h3 } := fun {Q E} q => by
          obtain ⟨hg, hdbg, hm | ⟨hm, hv, hnn⟩⟩ := hc
          · exact ld_glob (X := X.suite a ((a, oe3) :: (X.pn ++ pins))) S3 hg hm q hdbg
          · exact ld_blt (X := X.suite a ((a, oe3) :: (X.pn ++ pins))) S3 hg hm hv q hnn hdbg
        refine test (LM.here ?_)
        cases b with
        | true =>
          cases nm with
          | none =>
            cases n with
            | some n => exact hn.elim
            | none =>
              refine codeAny_handlers_suite ?_
              refine HandSPX.lands_againZ fl3 fun h4 fl4 up4 => ?_
              have J4 : Inv X pins σ' H' { s' with heap := h4 } := J.landed nb fl4.1 ((up.trans up3).trans up4) os ag
              obtain ⟨oe4, vs4, he4, hz4, hd4⟩ := fl4.there
              have S4 := J4.suite he4 hd4 na nL nF
              refine wpAny_mono ((hsu a oe4 cls d (X.pn ++ pins) hz4 ⟨_, hd4⟩).run [] _ _ H' _ S4 (hyes rfl a na)) (fun f s6 hsp => ?_) (fun _ _ z => False.elim z)
              cases f with
              | next =>
                obtain ⟨σ6, H6, S6, q6⟩ := hsp
                exact ⟨_, _, S6.unsuite ok, q6⟩
              | brk =>
                obtain ⟨σ6, H6, S6, q6⟩ := hsp
                exact ⟨_, _, S6.unsuite ok, q6⟩
              | cont =>
                obtain ⟨σ6, H6, S6, q6⟩ := hsp
                exact ⟨_, _, S6.unsuite ok, q6⟩
              | ret u =>
                obtain ⟨v6, σ6, H6, S6, r6, q6⟩ := hsp
                exact ⟨_, _, _, S6.unsuite ok, r6, q6⟩
          | some i =>
            cases n with
            | none => exact hn.elim
            | some n =>
              obtain ⟨hN, hi, hln⟩ := hn
              have hloc : Loc X.env.scope n := .inl hln
              refine codeAny_handlers_suite_as ?_
              refine HandSPX.lands_againZ fl3 fun h4 fl4 up4 => ?_
              have J4 : Inv X pins σ' H' { s' with heap := h4 } := J.landed nb fl4.1 ((up.trans up3).trans up4) os ag
              obtain ⟨oe4, vs4, he4, hz4, hd4⟩ := fl4.there
              have S4 := J4.suite he4 hd4 na nL nF
              refine store_ok (X := X.suite a ((a, oe4) :: (X.pn ++ pins))) (v := .ref a) S4 hN hi hloc rfl (fun s5 S5 => ?_) (.inr hln)
              refine wpAny_mono ((hsu a oe4 cls d (X.pn ++ pins) hz4 ⟨_, hd4⟩).run [] s5 _ H' _ S5 (hyes rfl a na)) (fun f s6 hsp => ?_) (fun _ _ z => False.elim z)
              have end_ : ∀ {σ6 : L2.St} {H6 : Hp} {Q : Shared → Prop}, Inv (X.suite a ((a, oe4) :: (X.pn ++ pins))) [] σ6 H6 s6 → (∀ s7, Inv X pins (σ6.set i none) H6 s7 → Q s7) →
                  wpAny (model X.prog X.w) X.A (do bindName X.env n .none; unbindBehindTheSuite X.env n pos') (fun _ s7 => Q s7) X.xe s6 := fun {σ6 H6 Q} S6 hq => gone_ok (S6.unsuite ok) hN hi hln hq
              cases f with
              | next =>
                obtain ⟨σ6, H6, S6, q6⟩ := hsp
                exact end_ S6 fun s7 J7 => ⟨_, _, J7, q6⟩
              | brk =>
                obtain ⟨σ6, H6, S6, q6⟩ := hsp
                exact end_ S6 fun s7 J7 => ⟨_, _, J7, q6⟩
              | cont =>
                obtain ⟨σ6, H6, S6, q6⟩ := hsp
                exact end_ S6 fun s7 J7 => ⟨_, _, J7, q6⟩
              | ret u =>
                obtain ⟨v6, σ6, H6, S6, r6, q6⟩ := hsp
                exact end_ S6 fun s7 J7 => ⟨_, _, _, J7, r6, q6⟩
        | false =>
          show wpAny _ X.A (handleBy (.ref a) X.env hds2) _ _ _
          exact ih (hno rfl)
    exact go hh w
  · cases f with
    | next =>
      obtain ⟨σ', H', J', q⟩ := hsp
      exact wpAny_execs_nil ⟨σ', H', J'.ofTry ok, q⟩
    | brk =>
      obtain ⟨σ', H', J', q⟩ := hsp
      exact ⟨σ', H', J'.ofTry ok, q⟩
    | cont =>
      obtain ⟨σ', H', J', q⟩ := hsp
      exact ⟨σ', H', J'.ofTry ok, q⟩
    | ret u =>
      obtain ⟨v, σ', H', J', r, q⟩ := hsp
      exact ⟨v, σ', H', J'.ofTry ok, r, q⟩
end
end KM

namespace KM
open PySem PySem.Spec PyProof.Rows L2

/-! ### what is known of the exceptions' classes -/
/-- what a class's __init__ promises -/
def InitSp (C : Addr) (names : List Str) (sp : Sp) : Prop := ∀ (a : Addr) (ws : List V) (H : Hp) (Q : VK) (E : XK), ws.length = names.length → (∀ w ∈ ws, FmtV w) → H a = some (exo a C none) →
  (∀ dx fs H', H dx = none → dx ≠ a → H' a = some (exo a C (some dx)) → H' dx = some (exd dx fs) → (∀ b, b ≠ a → b ≠ dx → H' b = H b) → (∀ (i : Nat) (n : Str) (w : V), names[i]? = some n → ws[i]? = some w → fs.lookup n = some w) → Q .non H') → sp (.ref a :: ws) H Q E
theorem init_sp1 {C : Addr} {f1 : Str} : InitSp C [f1] (spI1 C f1) := fun a ws H Q E hl hf ha h => by
  match ws, hl with
  | [w], _ =>
    refine ⟨a, w, rfl, hf w (by simp), ha, fun dx h1 h2 => h dx [(f1, w)] _ h1 h2 upd_same (by rw [upd_ne h2]; exact upd_same) (fun b hb hb2 => by rw [upd_ne hb, upd_ne hb2]) fun i n y h3 h4 => ?_⟩
    match i, h3, h4 with
    | 0, h3, h4 =>
      cases h3; cases h4
      simp [List.lookup]
theorem init_sp2 {C : Addr} {f1 f2 : Str} (hne : f1 ≠ f2) : InitSp C [f1, f2] (spI2 C f1 f2) := fun a ws H Q E hl hf ha h => by
  match ws, hl with
  | [w, w2], _ =>
    refine ⟨a, w, w2, rfl, hf w (by simp), hf w2 (by simp), ha, fun dx h1 h2 => h dx [(f2, w2), (f1, w)] _ h1 h2 (by rw [upd_ne (Ne.symm h2)]; exact upd_same) upd_same (fun b hb hb2 => by rw [upd_ne hb2, upd_ne hb, upd_ne hb2]) fun i n y h3 h4 => ?_⟩
    match i, h3, h4 with
    | 0, h3, h4 =>
      cases h3; cases h4
      rw [List.lookup_cons, show (f1 == f2) = false from by simpa using hne]
      simp [List.lookup]
    | 1, h3, h4 =>
      cases h3; cases h4
      simp [List.lookup]
/-- what isinstance asks of a class -/
structure KisC (K : PySem.W.Frag) (C : Addr) : Prop where
  cl : (PySem.W.clsIn K C).isSome = true
  gt : PySem.W.findIn K (.ref C) "__getattr__" = some none
  ha : PySem.W.findIn K (.ref C) "__class__" = some (some (.builtin "object.__class__"))
  hn : PySem.W.specialIn K (.builtin "object.__class__") "__get__" = some (some (.builtin "getset_descriptor.__get__"))
  ht : PySem.W.takesIn K (.builtin "object.__class__") = some true
  hm : PySem.W.mroIn K C (.type "object") = some true
structure FactsX (T : Tab) (Γ : Gam) (P : Program) (w : World) (K : PySem.W.Frag) (mg : Str → Option Value) (base : Heap) (k : Nat) : Prop where
  made : ∀ x c n, T.exs.lookup x = some (c, n) → ∃ fI fd ps j sp, mg x = some (.ref (Γ.exc c)) ∧ OexC K (Γ.exc c) ∧ PySem.W.findIn K (.ref (Γ.exc c)) "__init__" = some (some (.ref fI)) ∧ PySem.W.typeIn K (.ref fI) = some (.type "function") ∧ Binds K fd ps [] ∧ j + 1 ≤ k ∧
    FnOk P w K mg base (L2.CX P w) j fI fd ps sp ∧ InitSp (Γ.exc c) (Γ.exf c) sp ∧ (Γ.exf c).length = n
  xf : ∀ c l, T.exf[c]? = some l → Γ.exf c = l ∧ XfC K (Γ.exc c) ∧ ∀ n ∈ l, PySem.W.findIn K (.ref (Γ.exc c)) n = some none
  hd : ∀ x bs, T.hds.lookup x = some bs → ∃ cv, mg x = some cv ∧ ∀ (c : Nat) (b : Bool), bs[c]? = some b → PySem.W.exmOne K (.ref (Γ.exc c)) cv = some b
  is : ∀ x bs, T.iss.lookup x = some bs → ∃ cv : Addr, mg x = some (.ref cv) ∧ ∀ (c : Nat) (b : Bool), bs[c]? = some b → PySem.W.kitOne K (.ref (Γ.exc c)) (.ref cv) = some b ∧ KisC K (Γ.exc c) ∧ XfC K (Γ.exc c)
theorem FactsX.mono {T : Tab} {Γ : Gam} {P : Program} {w : World} {K : PySem.W.Frag} {mg : Str → Option Value} {base : Heap} {j k : Nat} (F : FactsX T Γ P w K mg base j) (h : j ≤ k) : FactsX T Γ P w K mg base k :=
  ⟨fun x c n e => by
    obtain ⟨fI, fd, ps, i, sp, a1, a2, a3, a4, a5, a6, r⟩ := F.made x c n e
    exact ⟨fI, fd, ps, i, sp, a1, a2, a3, a4, a5, Nat.le_trans a6 h, r⟩, F.xf, F.hd, F.is⟩

/-! ### except suites -/
theorem RX.go {Γ : Gam} {K : PySem.W.Frag} {H H1 : Hp} {ρ ρ1 : List Addr} {x : Exn} {cls : Value} {d : Option Addr} {g : Gh} (h : RX Γ K H ρ x cls d) (rg : RG Γ K H ρ g) (e : Ext ρ H ρ1 H1) : RX Γ K H1 ρ1 x cls d := by
  obtain ⟨h1, h2, h3⟩ := h
  refine ⟨h1, h2, h3.imp (fun z => z) ?_⟩
  rintro ⟨dd, fs, e1, e2, h4⟩
  refine ⟨dd, fs, e1, e.keep _ _ e2 fun hm => ?_, fun i n y a b => ?_⟩
  · obtain ⟨j, hj, ej⟩ := List.mem_iff_getElem.mp hm
    have hlt : j < g.length := by rw [← rg.len]; exact hj
    obtain ⟨b, hb, ro⟩ := rg.at_ j _ (List.getElem?_eq_getElem hlt)
    rw [List.getElem?_eq_getElem hj, ej] at hb
    cases hb
    obtain ⟨o, ho, hm⟩ := ro.mut
    rw [e2] at ho
    cases ho
    exact hm
  · obtain ⟨v, hv, rv⟩ := h4 i n y a b
    exact ⟨v, hv, rv.go rg e⟩
section
variable {T : Tab} {Γ : Gam} {X : Cx} {a : Addr} {oe : Obj} {cls : Value} {d : Option Addr} {pn : List (Addr × Obj)} {nm : Option Nat} {cl : List Nat}
def tH (Γ : Gam) (K : PySem.W.Frag) (nm : Option Nat) (cl : List Nat) (a : Addr) (cls : Value) (d : Option Addr) (f : Exn → KM.Env → Gh → R Val) : TE := fun σ H Q =>
  ∃ x ρ g s, (∀ i, nm = some i → σ[i]? = some (some (.ref a))) ∧ x.c ∈ cl ∧ RX Γ K H ρ x cls d ∧ RS K H ρ s σ ∧ RG Γ K H ρ g ∧ FinG Γ K (relV K) W0 σ ρ H (f x s g) Q
def tHs (Γ : Gam) (K : PySem.W.Frag) (nm : Option Nat) (cl : List Nat) (a : Addr) (cls : Value) (d : Option Addr) (f : Exn → KM.Env → Gh → R (List Val)) : TA := fun σ H Q =>
  ∃ x ρ g s, (∀ i, nm = some i → σ[i]? = some (some (.ref a))) ∧ x.c ∈ cl ∧ RX Γ K H ρ x cls d ∧ RS K H ρ s σ ∧ RG Γ K H ρ g ∧ FinG Γ K (relVs K) W0 σ ρ H (f x s g) Q
variable {Y : Cx}
theorem h_cst {e : Expr} {v : Val} {y : V} (h : PE Y e (tC y)) (hr : ∀ H ρ, RV Y.K H ρ v y) : PE Y e (tH Γ Y.K nm cl a cls d (evH (.cst v))) :=
  pe_imp h fun σ H Q ⟨x, ρ, g, s, _, _, _, rs, rg, h⟩ => h y ρ H .refl rg (hr H ρ)
theorem h_var {i : Nat} {x : Str} {pos : Pos} (hN : Y.N[i]? = some x) (hv : Vis Y.env.scope x) (hd : (x == ("__debug__" : Str)) = false) (hcd : (x == ("__classdict__" : Str)) = false) : PE Y (.Name x pos) (tH Γ Y.K nm cl a cls d (evH (.var i))) := by
  refine pe_imp (pe_var hN hv hd hcd) fun σ H Q ⟨x, ρ, g, s, _, _, _, rs, rg, h⟩ => ?_
  have h : FinG Γ Y.K (relV Y.K) W0 σ ρ H (match s[i]? with
    | some (some v) => .ok v g
    | _ => .bad) Q := h
  split at h
  · rename_i v hv
    obtain ⟨u, h1, h2⟩ := rs.at_ i v hv
    exact ⟨u, h1, h _ ρ H .refl rg h2⟩
  · exact h.elim
theorem h_nil : PA Y [] (tHs Γ Y.K nm cl a cls d (evHs .nil)) := pa_imp pa_nil fun σ H Q ⟨x, ρ, g, s, _, _, _, rs, rg, h⟩ => h [] ρ H .refl rg rfl
theorem h_cons {h : H} {r : Hs} {x : Expr} {xs : List Expr} (h1 : PE Y x (tH Γ Y.K nm cl a cls d (evH h))) (h2 : PA Y xs (tHs Γ Y.K nm cl a cls d (evHs r))) (hs : starEach (x :: xs) Y.env = (false, eval x Y.env) :: starEach xs Y.env) :
    PA Y (x :: xs) (tHs Γ Y.K nm cl a cls d (evHs (.cons h r))) := by
  refine pa_imp (pa_cons h1 h2 hs) fun σ H Q ⟨x, ρ, g, s, hi, hc, rx, rs, rg, q⟩ => ⟨x, ρ, g, s, hi, hc, rx, rs, rg, (two rs rg q).mono ?_⟩
  rintro v' H1 ⟨ρ1, g1, v, rs1, rg1, rv, e1, q1⟩
  refine ⟨x, ρ1, g1, s, hi, hc, rx.go rg e1, rs1, rg1, (FinG.bind q1).mono ?_⟩
  rintro vs' H2 ⟨ρ2, g2, vs, e2, rg2, rvs, q2⟩
  exact q2 _ ρ2 H2 .refl rg2 ⟨v', vs', rfl, rv.go rg1 e2, rvs⟩
theorem h_tup {hs : Hs} {xs : List Expr} {n : Nat} {pos : Pos} (ha : PA Y xs (tHs Γ Y.K nm cl a cls d (evHs hs))) : PE Y (.Tuple xs n pos) (tH Γ Y.K nm cl a cls d (evH (.tup hs))) := by
  refine pe_imp (pe_tup ha) fun σ H Q ⟨x, ρ, g, s, hi, hc, rx, rs, rg, h⟩ => ⟨x, ρ, g, s, hi, hc, rx, rs, rg, (twoA (X := Y) rs rg h).mono ?_⟩
  rintro vs H1 ⟨ρ1, g1, v, rs1, rg1, rv, e1, h1⟩
  unfold mkT at h1
  split at h1
  · rename_i hz
    exact ⟨by rw [rv.length]; exact le_line hz, fin_tup rg1 rv h1⟩
  · exact h1.elim
theorem h_cat {h k : H} {x y : Expr} {pos : Pos} (h1 : PE Y x (tH Γ Y.K nm cl a cls d (evH h))) (h2 : PE Y y (tH Γ Y.K nm cl a cls d (evH k))) : PE Y (.BinOp x .Add y pos) (tH Γ Y.K nm cl a cls d (evH (.cat h k))) := by
  refine pe_imp (pe_op (o_all (Γ := Γ) .add) h1 h2) fun σ H Q ⟨x, ρ, g, s, hi, hc, rx, rs, rg, q⟩ => ⟨x, ρ, g, s, hi, hc, rx, rs, rg, (two rs rg q).mono ?_⟩
  rintro v' H1 ⟨ρ1, g1, v, rs1, rg1, rv, e1, q1⟩
  refine ⟨x, ρ1, g1, s, hi, hc, rx.go rg e1, rs1, rg1, (two rs1 rg1 q1).mono ?_⟩
  rintro w' H2 ⟨ρ2, g2, w, rs2, rg2, rw_, e2, q2⟩
  exact ⟨W0, σ, ρ2, g2, v, w, rg2, rv.go rg1 e2, rw_, q2⟩
/-- e.f -/
theorem h_fld {n : Nat} {f m : Str} {i : Nat} {pos p : Pos} (hN : X.N[i]? = some m) (hv : Vis X.env.scope m) (hd : (m == ("__debug__" : Str)) = false) (hcd : (m == ("__classdict__" : Str)) = false) (hnm : nm = some i)
    (hz : Zc cls d oe) (hf : ∃ vs, oe.data = .fields vs) (hcl : ∀ c ∈ cl, (Γ.exf c)[n]? = some f ∧ XfC X.K (Γ.exc c) ∧ PySem.W.findIn X.K (.ref (Γ.exc c)) f = some none) :
    PE (X.suite a ((a, oe) :: pn)) (.Attribute (.Name m p) f pos) (tH Γ X.K nm cl a cls d (evH (.fld n))) := by
  refine ⟨fun pins s σ H Q I ⟨x, ρ, g, s', hi, hc, rx, rs, rg, h⟩ => ?_⟩
  obtain ⟨h1, h2, h3⟩ := hcl x.c hc
  refine (pe_xf (X := X) (C := Γ.exc x.c) h2 h3 hz hf (pe_var (X := X.suite a ((a, oe) :: pn)) hN hv hd hcd)).run pins s σ H Q I ?_
  obtain ⟨r1, r2, r3⟩ := rx
  refine ⟨.ref a, hi i hnm, rfl, r1, ?_⟩
  have h : FinG Γ X.K (relV X.K) W0 σ ρ H (match x.fs[n]? with
    | some v => .ok v g
    | none => .bad) Q := h
  rcases r3 with ⟨z, _⟩ | ⟨dd, fs, e1, e2, e3⟩
  · rw [z] at h1
    simp at h1
  · split at h
    · rename_i v hv
      obtain ⟨u, hu, rv⟩ := e3 n f v h1 hv
      exact ⟨dd, fs, u, e1, e2, hu, h u ρ H .refl rg rv⟩
    · exact h.elim
/-- isinstance(e, c) -/
theorem call_isX {D : Addr} {b : Bool} {cv : Addr} (C : KisC X.K D) (Z : XfC X.K D) (hz : Zc (.ref D) d oe) (hf : ∃ vs, oe.data = .fields vs) (e : PySem.W.kitOne X.K (.ref D) (.ref cv) = some b) (hdd : ∀ dd, d = some dd → True) :
    CallR (X.suite a ((a, oe) :: pn)) (.builtin "isinstance") (fun xs H Q => xs = [.ref a, .ref cv] ∧ (∀ dd, d = some dd → ∃ fs, H dd = some (.xd fs)) ∧ Q (.bl b) H) := by
  intro pins s σ H xs us Q I r h
  obtain ⟨rfl, hxd, q⟩ := h
  cases r with
  | cons rx rr =>
    cases rr with
    | cons rt rr =>
      cases rr
      cases rx
      cases rt
      obtain ⟨hget, _⟩ := I.pin (a, oe) (List.mem_append.mpr (.inl List.mem_cons_self))
      obtain ⟨vs, hv⟩ := hf
      have J : ∃ od, PySem.W.InstAt s.heap a oe D od := by
        obtain ⟨oc, od, oda, osl⟩ := oe
        obtain ⟨h1, h2⟩ := hz
        dsimp only at h1 h2 hv
        subst h1 h2 hv
        cases od with
        | none => exact ⟨none, hget, rfl, rfl, trivial⟩
        | some dd =>
          obtain ⟨fs, hx⟩ := hxd dd rfl
          have hx2 : ObjOk X.prog X.w H s.heap dd (.xd fs) := I.hok dd _ hx
          obtain ⟨mA, hns, hr⟩ := hx2
          obtain ⟨o2, ho, hl⟩ := lookIn_ns hns
          exact ⟨some o2, hget, rfl, rfl, ho⟩
      obtain ⟨od, J⟩ := J
      exact PySem.W.kia_one (PySem.W.kitx_exc C.cl Z.ga C.gt Z.exC C.ha C.hn C.ht C.hm) I.kIn J e (fun z => nomatch z) fun tk => ⟨.bl b, H, I.kept (t' := tk) fun _ _ z => z, rfl, q⟩

theorem h_ite {bs : List Bool} {h k : H} {m xn iname : Str} {i : Nat} {p1 p2 p3 p4 pos : Pos} {y z : Expr} {Pm : Program} (hN : X.N[i]? = some m) (hv : Vis X.env.scope m) (hd : (m == ("__debug__" : Str)) = false) (hcd : (m == ("__classdict__" : Str)) = false) (hnm : nm = some i)
    (hi0 : iname = "isinstance") (hg : Gl X iname) (hm0 : X.mg iname = none) (hgx : Gl X xn) (hdx : (xn == ("__debug__" : Str)) = false) {cv : Addr} (hmx : X.mg xn = some (.ref cv)) (hz : Zc cls d oe) (hf : ∃ vs, oe.data = .fields vs)
    (hcl : ∀ (c : Nat) (b : Bool), bs[c]? = some b → PySem.W.kitOne X.K (.ref (Γ.exc c)) (.ref cv) = some b ∧ KisC X.K (Γ.exc c) ∧ XfC X.K (Γ.exc c))
    (h1 : PE (X.suite a ((a, oe) :: pn)) y (tH Γ X.K nm cl a cls d (evH h))) (h2 : PE (X.suite a ((a, oe) :: pn)) z (tH Γ X.K nm cl a cls d (evH k))) :
    PE (X.suite a ((a, oe) :: pn)) (.IfExp (.Call (.Name iname p1) [.Name m p2, .Name xn p3] [] p4) y z pos) (tH Γ X.K nm cl a cls d (evH (.ite bs h k))) := by
  subst hi0
  refine ⟨fun pins s σ H Q I ⟨x, ρ, g, s', hi, hc, rx, rs, rg, q⟩ => ?_⟩
  have q : FinG Γ X.K (relV X.K) W0 σ ρ H (match bs[x.c]? with
    | some true => evH h x s' g
    | some false => evH k x s' g
    | none => .bad) Q := q
  cases hb : bs[x.c]? with
  | none => rw [hb] at q; exact q.elim
  | some b =>
    rw [hb] at q
    obtain ⟨e1, e2, e3⟩ := hcl x.c b hb
    have rx0 := rx
    obtain ⟨r1, r2, r3⟩ := rx
    subst r1
    have hC := call_isX (X := X) (a := a) (oe := oe) (d := d) (pn := pn) e2 e3 hz hf e1 (fun _ _ => trivial)
    have hP : PE (X.suite a ((a, oe) :: pn)) (.Call (.Name "isinstance" p1) [.Name m p2, .Name xn p3] [] p4) _ := pe_callB hC hg hm0 rfl (pa_cons (pe_var (X := X.suite a ((a, oe) :: pn)) hN hv hd hcd) (pa_cons (pe_glob (X := X.suite a ((a, oe) :: pn)) (v := .ref cv) hgx hmx rfl hdx) pa_nil))
    refine (pe_ifExp (pt_truth hP (truth_of rfl)) h1 h2).run pins s σ H Q I ?_
    refine ⟨.ref a, hi i hnm, rfl, ?_, b, rfl, ?_⟩
    · intro dd hdd
      rcases r3 with ⟨_, z⟩ | ⟨dd', fs, e4, e5, _⟩
      · rw [z] at hdd; cases hdd
      · rw [e4] at hdd; cases hdd
        exact ⟨fs, e5⟩
    · cases b with
      | true => exact iteT ⟨x, ρ, g, s', hi, hc, rx0, rs, rg, q⟩
      | false => exact iteF ⟨x, ρ, g, s', hi, hc, rx0, rs, rg, q⟩
end
end KM

namespace KM
open PySem PySem.Spec PyProof.Rows L2

structure OkS (T : Tab) (Γ : Gam) (call : Call) (X : Cx) (sc : Scope) (N : List Str) (k : Nat) (W : WX) : Prop where
  e : OkE T Γ call X sc N k W
  hs : X.stack = X.env :: X.outer
  hf : X.env.frame = some X.env.locals
  own : PassesOwn (model X.prog X.w) X.A X.env X.xe
  asg : ∀ x, asB sc.names x = true → X.fn x = true ∨ X.env.scope.names.lookup x = some .local
  fx : FactsX T Γ X.prog X.w X.K X.mg X.base k
section
variable {T : Tab} {Γ : Gam} {call : Call} {N : List Str} {k : Nat}
theorem swF_some {sc : Scope} {l : Nat} {x : Expr} {b : Str} (h : swF sc l x = some b) : ∃ p, x = .Name b p ∧ sc.names.lookup b = some .local := by
  cases x <;> first | cases h | skip
  rename_i id pos
  have h : (if (sc.names.lookup id == some .local && pos.line == l) = true then some id else none) = some b := h
  split at h
  · rename_i hc
    rw [Bool.and_eq_true_iff] at hc
    cases h
    exact ⟨_, rfl, eq_of_beq hc.1⟩
  · cases h
theorem names_all {sc : Scope} {l : Nat} : ∀ ts : List Expr, (ts.filterMap (swF sc l)).length = ts.length → (∀ x ∈ ts, ∃ n p, x = .Name n p ∧ sc.names.lookup n = some .local) ∧ ts.filterMap (swF sc l) = ts.map nameOf
  | [], _ => ⟨fun x h => (nomatch h), rfl⟩
  | x :: r, h => by
    have hl := List.length_filterMap_le (swF sc l) r
    cases hb : swF sc l x with
    | none =>
      rw [List.filterMap_cons_none hb, List.length_cons] at h
      omega
    | some b =>
      rw [List.filterMap_cons_some hb, List.length_cons, List.length_cons] at h
      obtain ⟨h1, h2⟩ := names_all (sc := sc) (l := l) r (by omega)
      obtain ⟨p, rfl, e1⟩ := swF_some hb
      refine ⟨fun y hy => ?_, by rw [List.filterMap_cons_some hb, h2]; rfl⟩
      rcases List.mem_cons.mp hy with e | hy
      · exact ⟨_, _, e, e1⟩
      · exact h1 y hy
theorem par_of {sc : Scope} {ts vs : List Expr} (h : parB sc ts vs = true) : (ts.length = 2 ∨ ts.length = 3) ∧ vs.length = ts.length ∧ (∀ x ∈ ts, ∃ n p, x = .Name n p ∧ sc.names.lookup n = some .local) ∧ swNames sc ts = ts.map nameOf := by
  unfold parB at h
  simp only [Bool.and_eq_true_iff, Bool.not_eq_true', Bool.or_eq_false_iff, bne_eq_false_iff_eq, Bool.not_eq_false', Bool.or_eq_true_iff, beq_iff_eq] at h
  obtain ⟨⟨⟨⟨h1, h2⟩, h3, h4⟩, h5⟩, h6⟩ := h
  obtain ⟨a, b⟩ := names_all (sc := sc) ts h3
  refine ⟨h1.1.1, h1.1.2, a, b⟩

theorem OkS.has {X : Cx} {sc : Scope} {W : WX} (o : OkS T Γ call X sc N k W) : ∀ x, asB sc.names x = true → Loc X.env.scope x ∧ (X.fn x = true ∨ X.env.scope.names.lookup x = some .local) := fun x h =>
  ⟨by rw [o.e.sc]; exact loc_of h, o.asg x h⟩
theorem snd_par {is : List Nat} {es : Es} {ts vs : List Expr} {k1 p1 k2 p2 pos} {X : Cx} {sc : Scope} {W : WX} (o : OkS T Γ call X sc N k W) (h1 : parB sc ts vs = true) (h2 : chkEs T N es sc vs = true) (h3 : is.map (fun i => N[i]?) = ts.map fun t => some (nameOf t)) (h4 : is.Nodup) :
    PS X (.Assign [.Tuple ts k1 p1] (.Tuple vs k2 p2) pos) (tS Γ X.K W (ex call (.par is es))) := by
  obtain ⟨a, b, c, d⟩ := par_of h1
  have hN : X.N.Nodup := by rw [o.e.hN]; exact o.e.nd
  have hw : swappedStores [.Tuple ts k1 p1] (.Tuple vs k2 p2) X.env = pure (some (swNames X.env.scope ts)) := st_par o.e.kind (by rw [o.e.sc]; exact h1)
  rw [o.e.sc, d] at hw
  have hA := snd_Es es vs X sc W o.e h2
  have hgN : ∀ {i : Nat} {n : Str}, N[i]? = some n → X.N[i]? = some n := fun q => by rw [o.e.hN]; exact q
  have hsc : ∀ {n : Str}, sc.names.lookup n = some .local → X.env.scope.names.lookup n = some .local := fun q => by rw [o.e.sc]; exact q
  have hle : is.length = ts.length := by have := congrArg List.length h3; simpa using this
  rcases a with a | a
  · match ts, vs, is, a, b, hle, c, h3, h4, hw, hA with
    | [t1, t2], [v1, v2], [i, j], _, _, _, c, h3, h4, hw, hA =>
      obtain ⟨n1, q1, rfl, l1⟩ := c t1 (by simp)
      obtain ⟨n2, q2, rfl, l2⟩ := c t2 (by simp)
      simp only [List.map_cons, List.map_nil, List.cons.injEq, and_true] at h3
      simp only [List.nodup_cons, List.mem_singleton, List.not_mem_nil, not_false_eq_true, List.nodup_nil, and_true] at h4
      exact s_par2 o.e.calm hN (hgN h3.1) (hgN h3.2) h4 (hsc l1) (hsc l2) hA hw
  · match ts, vs, is, a, b, hle, c, h3, h4, hw, hA with
    | [t1, t2, t3], [v1, v2, v3], [i, j, l], _, _, _, c, h3, h4, hw, hA =>
      obtain ⟨n1, q1, rfl, l1⟩ := c t1 (by simp)
      obtain ⟨n2, q2, rfl, l2⟩ := c t2 (by simp)
      obtain ⟨n3, q3, rfl, l3⟩ := c t3 (by simp)
      simp only [List.map_cons, List.map_nil, List.cons.injEq, and_true] at h3
      simp only [List.nodup_cons, List.mem_cons, List.mem_singleton, List.not_mem_nil, not_false_eq_true, List.nodup_nil, and_true, not_or, or_false] at h4
      exact s_par3 o.e.calm hN (hgN h3.1) (hgN h3.2.1) (hgN h3.2.2) h4.1.1 h4.1.2 h4.2 (hsc l1) (hsc l2) (hsc l3) hA hw
theorem sw_lc {eltx : Expr} {gs : List Comprehension} {scope : Scope} {cp py : Pos} {n : Str} {l : Nat} {env : PySem.Env} (hk : env.scope.kind = .function) (h1 : env.scope.names.lookup n = some .local) (h2 : (py.line == cp.line) = true) (h3 : (!(scope.names.any fun (m, k) => m == n && (k == .local || k == .cell))) = true) :
    swapsWith (.ListComp eltx gs scope cp) (some (.Name n py)) l env = pure true := by
  show (pure (env.blockKind == .function && env.scope.names.lookup n == some .local && py.line == cp.line && !(scope.names.any fun (m, k) => m == n && (k == .local || k == .cell))) : Sem Bool) = pure true
  rw [bk_fun hk, h1, h2, h3]
  rfl
theorem sw_cell {eltx : Expr} {gs : List Comprehension} {scope : Scope} {cp py : Pos} {n : Str} {l : Nat} {env : PySem.Env} (h1 : env.scope.names.lookup n = some .cell) :
    swapsWithSole [.Name n py] (.ListComp eltx gs scope cp) l env = pure false := by
  show (pure (env.blockKind == .function && env.scope.names.lookup n == some .local && py.line == cp.line && !(scope.names.any fun (m, k) => m == n && (k == .local || k == .cell))) : Sem Bool) = pure false
  rw [h1]
  have : ((some NameKind.cell : Option NameKind) == some .local) = false := by decide
  rw [this]
  simp
theorem snd_asgC {i : Nat} {own : List Nat} {tg : Tg} {kk : IK} {its : Es} {cond : C} {elt : E} {n : Str} {py cp pos : Pos} {eltx : Expr} {gs : List Comprehension} {scope : Scope} {X : Cx} {sc : Scope} {W : WX} (o : OkS T Γ call X sc N k W)
    (h : chkE T N (.comp own tg kk its cond elt) sc (.ListComp eltx gs scope cp) = true) (hi' : N[i]? = some n) (hl : sc.names.lookup n = some .local) (h2' : (py.line == cp.line) = true) (h3' : (!(scope.names.any fun (m, k) => m == n && (k == .local || k == .cell))) = true) :
    PS X (.Assign [.Name n py] (.ListComp eltx gs scope cp) pos) (tS Γ X.K W (ex call (.asg (.nm i) (.comp own tg kk its cond elt)))) := by
  obtain ⟨o, o2, o3, o4, o5, o6⟩ := o
  unfold chkE at h
  split at h
  · rename_i eltx' tgx iterx ifs a scope' pos' hx
    cases hx
    simp only [Bool.and_eq_true_iff] at h
    obtain ⟨⟨⟨⟨⟨⟨⟨⟨h1, h2⟩, h3⟩, h4⟩, h5⟩, h6⟩, h7⟩, h8⟩, h9⟩ := h
    have ha : a = 0 := of_decide_eq_true h1
    subst ha
    have h4 : (ownOf N own).map (·.2) = own := of_decide_eq_true h4
    have ok : BlkOk X.N X.env.scope scope (ownOf N own) := by rw [o.hN, o.sc]; exact blkOk_by h3
    have hts : ∀ i ∈ tslots tg, i ∈ own := fun i hi => of_decide_eq_true (List.all_eq_true.mp h6 i hi)
    have hnd : X.N.Nodup := by rw [o.hN]; exact o.nd
    have hi : PI X tgx iterx (tI Γ X.K W kk (evs call its)) := snd_I o h9
    have hg : ∀ (s : Shared) (H : Hp) (C : Addr) (cl : List (Str × Addr)) (fp : List Addr), PG (X.blk s H scope (compEnvC scope cl C X.env) fp) tgx (gT Γ X.K tg) := fun s H C cl fp =>
      snd_T (X := X.blk s H scope (compEnvC scope cl C X.env) fp) o.hN o.nd o.calm (has_blk (sc := sc) (W := W) ok s H C cl fp) tg tgx h5
    have ht : ∀ (s : Shared) (H : Hp) (C : Addr) (cl : List (Str × Addr)) (fp : List Addr), PTs (X.blk s H scope (compEnvC scope cl C X.env) fp) ifs (tT Γ X.K W0 (evT call cond)) := fun s H C cl fp => by
      cases ifs with
      | nil =>
        match cond, h7 with
        | .and .nil, _ => exact ⟨fun pins s σ H Q I ⟨ρ, g, s', rs, rg, q⟩ => pts_nil.run pins s σ H Q I (q true ρ H .refl rg rfl)⟩
      | cons y ys =>
        cases ys with
        | nil => exact pts_one (snd_C cond y (X.blk s H scope (compEnvC scope cl C X.env) fp) (relS scope sc) W0 (o.blk ok s H C cl fp) h7)
        | cons _ _ => cases h7
    have he : ∀ (s : Shared) (H : Hp) (C : Addr) (cl : List (Str × Addr)) (fp : List Addr), PE (X.blk s H scope (compEnvC scope cl C X.env) fp) eltx (tE Γ X.K W0 (ev call elt)) := fun s H C cl fp =>
      snd_E elt eltx (X.blk s H scope (compEnvC scope cl C X.env) fp) (relS scope sc) W0 (o.blk ok s H C cl fp) h8

    exact s_asgC o.calm hnd (by rw [o.hN]; exact hi') (by rw [o.sc]; exact hl) (sw_lc o.kind (by rw [o.sc]; exact hl) h2' h3') hi ok h4 hts hg ht he (fold_of h2)
  · cases h

/-! #### except -/
mutual
theorem evH_no : ∀ (h : H) (x : Exn) (s : KM.Env) (g : Gh) (y : Exn) (g' : Gh), evH h x s g ≠ .exn y g'
  | .cst v, x, s, g, y, g' => fun e => nomatch e
  | .fld n, x, s, g, y, g' => by
    show (match x.fs[n]? with
      | some v => (.ok v g : R Val)
      | none => .bad) ≠ _
    split <;> exact fun e => nomatch e
  | .tup hs, x, s, g, y, g' => by
    show (evHs hs x s g).bind mkT ≠ _
    have := evHs_no hs x s g
    cases hq : evHs hs x s g with
    | ok vs g1 =>
      show mkT vs g1 ≠ _
      unfold mkT
      split <;> exact fun e => nomatch e
    | exn z g1 => exact absurd hq (this z g1)
    | bad => exact fun e => nomatch e
  | .cat a b, x, s, g, y, g' => by
    show ((evH a x s g).bind fun v g1 => (evH b x s g1).bind fun w g2 => binV .add v w g2) ≠ _
    have h1 := evH_no a x s g
    cases hq : evH a x s g with
    | ok v g1 =>
      show ((evH b x s g1).bind fun w g2 => binV .add v w g2) ≠ _
      have h2 := evH_no b x s g1
      cases hq2 : evH b x s g1 with
      | ok w g2 =>
        show binV .add v w g2 ≠ _
        unfold binV mkS mkT mkL new
        simp only
        split <;> (try split) <;> (try split) <;> exact fun e => nomatch e
      | exn z g2 => exact absurd hq2 (h2 z g2)
      | bad => exact fun e => nomatch e
    | exn z g1 => exact absurd hq (h1 z g1)
    | bad => exact fun e => nomatch e
  | .var i, x, s, g, y, g' => by
    show (match s[i]? with
      | some (some v) => (.ok v g : R Val)
      | _ => .bad) ≠ _
    split <;> exact fun e => nomatch e
  | .ite bs a b, x, s, g, y, g' => by
    show (match bs[x.c]? with
      | some true => evH a x s g
      | some false => evH b x s g
      | none => .bad) ≠ _
    split
    · exact evH_no a x s g y g'
    · exact evH_no b x s g y g'
    · exact fun e => nomatch e
theorem evHs_no : ∀ (h : Hs) (x : Exn) (s : KM.Env) (g : Gh) (y : Exn) (g' : Gh), evHs h x s g ≠ .exn y g'
  | .nil, x, s, g, y, g' => fun e => nomatch e
  | .cons h r, x, s, g, y, g' => by
    show ((evH h x s g).bind fun v g1 => (evHs r x s g1).bind fun vs g2 => .ok (v :: vs) g2) ≠ _
    have h1 := evH_no h x s g
    cases hq : evH h x s g with
    | ok v g1 =>
      show ((evHs r x s g1).bind fun vs g2 => .ok (v :: vs) g2) ≠ _
      have h2 := evHs_no r x s g1
      cases hq2 : evHs r x s g1 with
      | ok w g2 => exact fun e => nomatch e
      | exn z g2 => exact absurd hq2 (h2 z g2)
      | bad => exact fun e => nomatch e
    | exn z g1 => exact absurd hq (h1 z g1)
    | bad => exact fun e => nomatch e
end
theorem RS.off {K : PySem.W.Frag} {H : Hp} {ρ : List Addr} {s : KM.Env} {σ : L2.St} (h : RS K H ρ s σ) (nm : Option Nat) (a : Addr) : RS K H ρ (nmOff nm s) (onS nm a σ) := by
  cases nm with
  | none => exact h
  | some i =>
    refine ⟨by show (s.set i none).length = (σ.set i (some (.ref a))).length; simp [h.len], fun j y q => ?_⟩
    have q : (s.set i none)[j]? = some (some y) := q
    show ∃ v, (σ.set i (some (.ref a)))[j]? = some (some v) ∧ _
    by_cases e : i = j
    · subst e
      rw [List.getElem?_set] at q
      simp at q
    · rw [List.getElem?_set_ne e] at q
      obtain ⟨v, h1, h2⟩ := h.at_ j y q
      exact ⟨v, by rw [List.getElem?_set_ne e]; exact h1, h2⟩
section
variable {X : Cx} {sc : Scope} {W : WX} {a : Addr} {oe : Obj} {cls : Value} {d : Option Addr} {pn : List (Addr × Obj)} {nm : Option Nat} {n : Option Str} {cl : List Nat}
theorem en_some {i : Nat} {m : Str} (h : enOf nm n = some (i, m)) : nm = some i ∧ n = some m := by
  unfold enOf at h
  split at h
  · cases h; exact ⟨rfl, rfl⟩
  · cases h
mutual
theorem snd_H (o : OkS T Γ call X sc N k W) (hen : ∀ i m, enOf nm n = some (i, m) → N[i]? = some m ∧ sc.names.lookup m = some .local) (hz : Zc cls d oe) (hf : ∃ vs, oe.data = .fields vs) : ∀ (h : H) (e : Expr), chkH T N sc cl (enOf nm n) h e = true → PE (X.suite a ((a, oe) :: pn)) e (tH Γ X.K nm cl a cls d (evH h))
  | .cst v, x, h => by
    have h : chkE T N (.cst v) sc x = true := h
    unfold chkE at h
    split at h
    · rw [of_decide_eq_true h]
      exact h_cst (Y := X.suite a ((a, oe) :: pn)) pe_int fun _ _ => rfl
    · rw [of_decide_eq_true h]
      exact h_cst (Y := X.suite a ((a, oe) :: pn)) pe_bl fun _ _ => rfl
    · rw [of_decide_eq_true h]
      exact h_cst (Y := X.suite a ((a, oe) :: pn)) pe_non fun _ _ => rfl
    · exact h_cst (Y := X.suite a ((a, oe) :: pn)) pe_str fun H ρ => strB_of h X.K H ρ
    · rename_i n0 p0 p1
      rw [Bool.and_eq_true_iff, Bool.and_eq_true_iff] at h
      obtain ⟨h1, h2, _⟩ := nm_of h.1.2
      obtain ⟨y, u, hm, hr, hv⟩ := o.e.facts.cs n0 v (of_decide_eq_true h.2)
      exact h_cst (Y := X.suite a ((a, oe) :: pn)) (pe_glob (X := X.suite a ((a, oe) :: pn)) (by show X.env.scope.names.lookup n0 = _; exact gl_of o.e.sc h.1.1) hm hr h1) hv
    · cases h
  | .var i, x, h => by
    have h : chkE T N (.var i) sc x = true := h
    unfold chkE at h
    split at h
    · rename_i n0 p0 p1
      rw [Bool.and_eq_true_iff, Bool.and_eq_true_iff] at h
      obtain ⟨h1, h2, _⟩ := nm_of h.2
      exact h_var (Y := X.suite a ((a, oe) :: pn)) (by show X.N[i]? = _; rw [o.e.hN]; exact of_decide_eq_true h.1.1) (by show Vis X.env.scope n0; rw [o.e.sc]; exact vis_of h.1.2) h1 h2
    · cases h
  | .fld j, x, h => by
    unfold chkH at h
    split at h
    · rename_i m p f pos
      split at h
      · rename_i i m' he
        obtain ⟨e1, e2⟩ := hen i m' he
        simp only [Bool.and_eq_true_iff] at h
        obtain ⟨⟨h1, h2⟩, h3⟩ := h
        obtain ⟨h4, h5, _⟩ := nm_of h2
        have h1 := of_decide_eq_true h1
        subst h1
        refine h_fld (i := i) (by rw [o.e.hN]; exact e1) (by rw [o.e.sc]; exact .inl e2) h4 h5 (en_some he).1 hz hf fun c hc => ?_
        have q := of_decide_eq_true (List.all_eq_true.mp h3 c hc)
        obtain ⟨l, hl, hl2⟩ := Option.bind_eq_some_iff.mp q
        obtain ⟨f1, f2, f3⟩ := o.fx.xf c l hl
        rw [f1]
        exact ⟨hl2, f2, f3 f (List.mem_of_getElem? hl2)⟩
      · cases h
    · cases h
  | .tup hs, x, h => by
    unfold chkH at h
    split at h
    · exact h_tup (Y := X.suite a ((a, oe) :: pn)) (snd_Hs o hen hz hf hs _ h)
    · cases h
  | .cat b c, x, h => by
    unfold chkH at h
    split at h
    · rw [Bool.and_eq_true_iff] at h
      exact h_cat (Y := X.suite a ((a, oe) :: pn)) (snd_H o hen hz hf b _ h.1) (snd_H o hen hz hf c _ h.2)
    · cases h
  | .ite bs b c, x, h => by
    unfold chkH at h
    split at h
    · rename_i f p1 m p2 xn p3 p4 y z pos
      split at h
      · rename_i i m' he
        obtain ⟨e1, e2⟩ := hen i m' he
        simp only [Bool.and_eq_true_iff] at h
        obtain ⟨⟨⟨⟨⟨⟨⟨⟨⟨h1, h2⟩, h3⟩, h4⟩, h5⟩, h6⟩, h7⟩, h8⟩, h9⟩, h10⟩ := h
        obtain ⟨q4, q5, _⟩ := nm_of h2
        obtain ⟨q6, _, _⟩ := nm_of h7
        have h1 := of_decide_eq_true h1
        subst h1
        obtain ⟨cv, hcv, hb⟩ := o.fx.is xn bs (of_decide_eq_true h8)
        exact h_ite (Pm := X.prog) (i := i) (by rw [o.e.hN]; exact e1) (by rw [o.e.sc]; exact .inl e2) q4 q5 (en_some he).1 (of_decide_eq_true h3) (gl_of o.e.sc h4) (o.e.facts.fr f (of_decide_eq_true h5)) (gl_of o.e.sc h6) q6 hcv hz hf hb
          (snd_H o hen hz hf b _ h9) (snd_H o hen hz hf c _ h10)
      · cases h
    · cases h
theorem snd_Hs (o : OkS T Γ call X sc N k W) (hen : ∀ i m, enOf nm n = some (i, m) → N[i]? = some m ∧ sc.names.lookup m = some .local) (hz : Zc cls d oe) (hf : ∃ vs, oe.data = .fields vs) : ∀ (h : Hs) (xs : List Expr), chkHs T N sc cl (enOf nm n) h xs = true → PA (X.suite a ((a, oe) :: pn)) xs (tHs Γ X.K nm cl a cls d (evHs h))
  | .nil, [], _ => h_nil (Y := X.suite a ((a, oe) :: pn))
  | .nil, _ :: _, h => by cases h
  | .cons _ _, [], h => by cases h
  | .cons b r, x :: xs, h => by
    have h : (plainX x && chkH T N sc cl (enOf nm n) b x && chkHs T N sc cl (enOf nm n) r xs) = true := h
    simp only [Bool.and_eq_true_iff] at h
    exact h_cons (Y := X.suite a ((a, oe) :: pn)) (snd_H o hen hz hf b x h.1.2) (snd_Hs o hen hz hf r xs h.2) (star_of h.1.1)
end
theorem mem_trues {bs : List Bool} {c : Nat} (h : bs[c]? = some true) : c ∈ trues bs := by
  unfold trues
  rw [List.mem_filter]
  exact ⟨List.mem_range.mpr (List.getElem?_eq_some_iff.mp h).1, by rw [h]; rfl⟩
theorem snd_hds (o : OkS T Γ call X sc N k W) : ∀ (hs : List (List Bool × Option Nat × H)) (hds : List ExceptHandler), chkHds T N sc hs hds = true →
    ∃ l : HdL, HdsA X hds l ∧ ∀ (D : Ends) (ρ : List Addr) (H : Hp) (cls : Value) (d : Option Addr) (σ : L2.St) (s : KM.Env) (x : Exn) (g : Gh), RG Γ X.K H ρ g → RS X.K H ρ s σ → RX Γ X.K H ρ x cls d → FinS Γ X.K W D ρ H (hndl hs x s g) → wAll X.K W D l cls d σ H
  | [], [], _ => ⟨[], .nil, fun D ρ H cls d σ s x g rg rs rx h => h cls d σ ρ H .refl rg rs rx⟩
  | [], _ :: _, h => by cases h
  | _ :: _, [], h => by cases h
  | (bs, nm, h) :: r, hd :: hds, hc => by
    have hc : (chkHd T N sc (bs, nm, h) hd && chkHds T N sc r hds) = true := hc
    rw [Bool.and_eq_true_iff] at hc
    obtain ⟨hc1, hc2⟩ := hc
    obtain ⟨l, hl, hw⟩ := snd_hds o r hds hc2
    unfold chkHd at hc1
    split at hc1
    · rename_i x np n e rp pos'
      simp only [Bool.and_eq_true_iff] at hc1
      obtain ⟨⟨⟨⟨q1, q2⟩, q3⟩, q4⟩, q5⟩ := hc1
      obtain ⟨m1, m2, _⟩ := nm_of q2
      obtain ⟨cv, hcv, hb⟩ := o.fx.hd x bs (of_decide_eq_true q3)
      have hen : ∀ i m, enOf nm n = some (i, m) → N[i]? = some m ∧ sc.names.lookup m = some .local := fun i m he => by
        obtain ⟨rfl, rfl⟩ := en_some he
        simp only [Bool.and_eq_true_iff] at q4
        exact ⟨of_decide_eq_true q4.1, of_decide_eq_true q4.2⟩
      have hnm : NmOk X nm n := by
        cases nm with
        | none => cases n with
          | none => trivial
          | some m => cases q4
        | some i => cases n with
          | none => cases q4
          | some m =>
            obtain ⟨e1, e2⟩ := hen i m rfl
            exact ⟨by rw [o.e.hN]; exact o.e.nd, by rw [o.e.hN]; exact e1, by show X.env.scope.names.lookup m = _; rw [o.e.sc]; exact e2⟩
      refine ⟨(cv, nm, fun a cls d => tRet (tH Γ X.K nm (trues bs) a cls d (evH h))) :: l, .cons ⟨gl_of o.e.sc q1, m1, .inl hcv⟩ hnm (fun a oe cls d pn hz hf => pss_one (ps_ret (snd_H o hen hz hf h e q5))) hl, ?_⟩
      intro D ρ H cls d σ s x g rg rs rx hq
      have hq : FinS Γ X.K W D ρ H (match bs[x.c]? with
        | some true => if nmIn nm s then (evH h x (nmOff nm s) g).st s fun v g1 => .rt v g1 else .bad
        | some false => hndl r x s g
        | none => .bad) := hq
      cases hbx : bs[x.c]? with
      | none => rw [hbx] at hq; exact hq.elim
      | some b =>
        rw [hbx] at hq
        have hcl := rx.1
        refine ⟨b, by rw [hcl]; exact hb x.c b hbx, fun e1 a ha => ?_, fun e1 => ?_⟩
        · subst e1
          have hrt : (offD nm D).rt = D.rt := by cases nm <;> rfl
          have hq : FinS Γ X.K W D ρ H (if nmIn nm s then (evH h x (nmOff nm s) g).st s fun v g1 => .rt v g1 else .bad) := hq
          split at hq
          case isFalse => exact hq.elim
          rename_i hin
          show tH Γ X.K nm (trues bs) a cls d (evH h) (onS nm a σ) H (offD nm D).rt
          rw [hrt]
          refine ⟨x, ρ, g, nmOff nm s, fun i hi => ?_, mem_trues hbx, rx, rs.off nm a, rg, ?_⟩
          · subst hi
            show (σ.set i (some (.ref a)))[i]? = _
            have hin : i < s.length := of_decide_eq_true hin
            rw [List.getElem?_set_self (by rw [← rs.len]; exact hin)]
          · have hno := evH_no h x (nmOff nm s) g
            generalize evH h x (nmOff nm s) g = rr at hq hno
            cases rr with
            | ok v g1 => exact fun v' ρ' H' e a b => hq v' ρ' H' e a b
            | exn y g1 => exact absurd rfl (hno y g1)
            | bad => exact hq
        · subst e1
          exact hw D ρ H cls d σ s x g rg rs rx hq
    · cases hc1
end
theorem OkS.tr {X : Cx} {sc : Scope} {W W' : WX} {pn : List (Addr × Obj)} {xe : Value → Shared → Prop} (o : OkS T Γ call X sc N k W) (tk : Takes (X.tr pn xe) W') (ow : PassesOwn (model X.prog X.w) X.A X.env xe) : OkS T Γ call (X.tr pn xe) sc N k W' :=
  ⟨⟨o.e.hN, o.e.nd, o.e.sc, o.e.kind, o.e.calm, o.e.room, tk, o.e.facts⟩, o.hs, o.hf, ow, o.asg, o.fx⟩
theorem rs_fmt {K : PySem.W.Frag} {H : Hp} {ρ : List Addr} : ∀ {xs : List Val} {vs : List V}, RVs K H ρ xs vs → xs.all rsOk = true → ∀ w ∈ vs, FmtV w
  | [], vs, h, _, w, hw => by rw [show vs = [] from h] at hw; cases hw
  | x :: xs, vs, h, ha, w, hw => by
    obtain ⟨v, r, rfl, hv, hr⟩ := h
    rw [List.all_cons, Bool.and_eq_true_iff] at ha
    rcases List.mem_cons.mp hw with e | hw
    · subst e
      cases x <;> first | cases ha.1 | skip
      · rename_i i
        have hv : w = .int i := hv
        refine .inr ⟨i, hv, ?_⟩
        have hlt : i.natAbs < 2 ^ 64 := of_decide_eq_true ha.1
        by_cases h0 : i.natAbs = 0
        · rw [h0]; decide
        · exact (Nat.log2_lt h0).mpr hlt
      · rename_i cs
        obtain ⟨e1, e2, _⟩ := hv
        exact .inl ⟨_, e1, by rw [toS_len]; exact e2⟩
    · exact rs_fmt hr ha.2 w hw
theorem snd_rse {c : Nat} {es : Es} {n : Str} {p cp pos : Pos} {y : Expr} {ys : List Expr} {X : Cx} {sc : Scope} {W : WX} (o : OkS T Γ call X sc N k W) (h1 : glB sc n = true) (h2 : nmOk n = true) (h3 : T.exs.lookup n = some (c, esLen es)) (hA : PA X (y :: ys) (tA Γ X.K W (evs call es))) (h5 : ys.length < 20) (h4 : chkEs T N es sc (y :: ys) = true) :
    PS X (.Raise (some (.Call (.Name n p) (y :: ys) [] cp)) none pos) (tS Γ X.K W (ex call (.rse c es))) := by
  obtain ⟨fI, fd, ps, j, sp, a1, a2, a3, a4, a5, a6, a7, a8, a9⟩ := o.fx.made n c _ h3
  obtain ⟨m1, _, _⟩ := nm_of h2
  obtain ⟨hpl, hlen⟩ := chkEs_plain h4
  have hP := pmk_oex (X := X) (x := n) (p := p) (pos := cp) (CX := L2.CX X.prog X.w) a2 a3 a4 a7 (o.e.room.mono a6) a5 (dvs := []) .nil passL (gl_of o.e.sc h1) a1 hA m1 (star_of (hpl y (by simp))) (back_any fun x hx => hpl x (List.mem_cons_of_mem _ hx))
  refine ps_imp (ps_raise o.e.calm o.e.takes hP) fun D σ H ⟨ρ, g, s, rs, rg, h⟩ => ?_
  have h : FinS Γ X.K W D ρ H ((evs call es s g).st s fun vs g1 => if vs.all rsOk then .exn ⟨c, vs⟩ s g1 else .bad) := h
  have hl := fun vs g1 => evs_len call (es := es) (s := s) (g := g) (vs := vs) (g1 := g1)
  refine ⟨ρ, g, s, rs, rg, ?_⟩
  generalize evs call es s g = r at h hl
  cases r with
  | bad => exact h
  | exn z g1 => exact fun c d ρ' H' e a b => h c d σ ρ' H' e a (rs.go rg e) b
  | ok vs g1 =>
    have hl := hl vs g1 rfl
    intro us ρ1 H1 e1 rg1 rv
    have h : FinS Γ X.K W D ρ H (if vs.all rsOk then .exn ⟨c, vs⟩ s g1 else .bad) := h
    split at h
    · rename_i hok
      have hul : us.length = (Γ.exf c).length := by rw [rv.length, hl, a9]
      refine ⟨by rw [rv.length, hl, ← hlen, List.length_cons]; omega, fun a ha => ?_⟩
      rw [List.append_nil]
      refine a8 a us _ _ _ hul (rs_fmt rv hok) upd_same fun dx fs H' hd hda e2 e3 e4 e5 => ⟨rfl, dx, fs, e2, e3, by rw [upd_ne hda] at hd; exact hd, ?_⟩
      have hd1 : H1 dx = none := by rw [upd_ne hda] at hd; exact hd
      have eH : upd (del H' a) dx (.xd fs) = upd H1 dx (.xd fs) := by
        funext b
        by_cases hb : b = dx
        · rw [hb, upd_same, upd_same]
        · rw [upd_ne hb, upd_ne hb]
          by_cases hba : b = a
          · rw [hba, del_same, ha]
          · rw [del_ne hba, e4 b hba hb, upd_ne hba]
      rw [eH]
      have ex2 := ext_tup (o := .xd fs) rg1 hd1
      refine h _ _ σ ρ1 _ (e1.trans ex2) (rg_tup rg1 hd1) (rs.go rg (e1.trans ex2)) ⟨rfl, by rw [← hul, rv.length], .inr ⟨dx, fs, rfl, upd_same, fun i nn yy hi hy => ?_⟩⟩
      obtain ⟨w, hw, rw_⟩ := rv.get hy
      exact ⟨w, e5 i nn w hi hw, rw_.go rg1 ex2⟩
    · exact h.elim
mutual
theorem snd_S : ∀ (a : S) (x : Stmt) (X : Cx) (sc : Scope) (W : WX), OkS T Γ call X sc N k W → chkS T N a sc x = true → PS X x (tS Γ X.K W (ex call a))
  | .exp e, x, X, sc, W, o, h => by
    cases x <;> first | cases h | skip
    rename_i y p
    have h : (notComp y && chkE T N e sc y) = true := h
    rw [Bool.and_eq_true_iff] at h
    exact s_exp (snd_E e y X sc W o.e h.2) (sw_val h.1)
  | .asg t e, x, X, sc, W, o, h => by
    unfold chkS at h
    split at h
    · rename_i tx y pos
      split at h
      · rename_i eltx gs scope cp
        split at h
        · rename_i own tg kk its cond elt i n py
          split at h
          · rename_i hcell
            simp only [Bool.and_eq_true_iff] at h
            obtain ⟨h1, h2⟩ := h
            exact s_asg (snd_E _ _ X sc W o.e h1) (snd_T o.e.hN o.e.nd o.e.calm o.has (.nm i) (.Name n py) h2) (sw_cell (by rw [o.e.sc]; exact hcell)) (st_none1 rfl) rfl
          · simp only [Bool.and_eq_true_iff] at h
            obtain ⟨⟨⟨⟨h1, h2⟩, h3⟩, h4⟩, h5⟩ := h
            exact snd_asgC o h1 (of_decide_eq_true h2) (of_decide_eq_true h3) h4 h5
        · cases h
      · simp only [Bool.and_eq_true_iff] at h
        obtain ⟨⟨⟨⟨h1, h2⟩, h3⟩, h4⟩, h5⟩ := h
        exact s_asg (snd_E e y X sc W o.e h5) (snd_T o.e.hN o.e.nd o.e.calm o.has t tx h4) (sw_sole h1) (st_none o.e.kind (by rw [o.e.sc]; exact h3)) h2
    · cases h
  | .par is es, x, X, sc, W, o, h => by
    unfold chkS at h
    split at h
    · simp only [Bool.and_eq_true_iff] at h
      obtain ⟨⟨⟨h1, h2⟩, h3⟩, h4⟩ := h
      exact snd_par o h1 h2 (of_decide_eq_true h3) (of_decide_eq_true h4)
    · cases h
  | .setI oo i e, x, X, sc, W, o, h => by
    unfold chkS at h
    split at h
    · simp only [Bool.and_eq_true_iff] at h
      obtain ⟨⟨⟨h1, h2⟩, h3⟩, h4⟩ := h
      exact s_setI (by have := o.e.hu; omega) (snd_E e _ X sc W o.e h2) (snd_E oo _ X sc W o.e h3) (snd_E i _ X sc W o.e h4) h1 (sw_tgt rfl) (st_none1 rfl)
    · cases h
  | .set2 oo i oo' i' e, x, X, sc, W, o, h => by
    unfold chkS at h
    split at h
    · simp only [Bool.and_eq_true_iff] at h
      obtain ⟨⟨⟨⟨⟨⟨⟨⟨h1, h2⟩, h3⟩, h4⟩, h5⟩, h6⟩, h7⟩, h8⟩, h9⟩ := h
      exact s_set2 (by have := o.e.hu; omega) o.e.calm (snd_E e _ X sc W o.e h5) (snd_E oo _ X sc W o.e h6) (snd_E i _ X sc W o.e h7) h3 (snd_E oo' _ X sc W o.e h8) (snd_E i' _ X sc W o.e h9) h4 (sw_sole h1) (st_none o.e.kind (by rw [o.e.sc]; exact h2))
    · cases h
  | .aug i op e, x, X, sc, W, o, h => by
    unfold chkS at h
    split at h
    · simp only [Bool.and_eq_true_iff] at h
      obtain ⟨⟨⟨h1, h2⟩, h3⟩, h4⟩ := h
      rw [of_decide_eq_true h1]
      have h3 := of_decide_eq_true h3
      exact s_aug (by rw [o.e.hN]; exact o.e.nd) (by rw [o.e.hN]; exact of_decide_eq_true h2) (.inl (by rw [o.e.sc]; exact h3)) (.inr (by rw [o.e.sc]; exact h3)) (snd_E e _ X sc W o.e h4)
    · cases h
  | .ret e, x, X, sc, W, o, h => by
    unfold chkS at h
    split at h
    · exact s_ret (snd_E e _ X sc W o.e h)
    · cases h
  | .retN, x, X, sc, W, o, h => by
    unfold chkS at h
    split at h
    · exact s_retN
    · cases h
  | .ife c a b, x, X, sc, W, o, h => by
    unfold chkS at h
    split at h
    · simp only [Bool.and_eq_true_iff] at h
      exact s_ife (snd_C c _ X sc W o.e h.1.1) (snd_Ss a _ X sc W o h.1.2) (snd_Ss b _ X sc W o h.2)
    · cases h
  | .whl c b, x, X, sc, W, o, h => by
    unfold chkS at h
    split at h
    · simp only [Bool.and_eq_true_iff] at h
      exact s_whl o.own (snd_C c _ X sc W o.e h.1) (snd_Ss b _ X sc W o h.2)
    · cases h
  | .fr t kk its b, x, X, sc, W, o, h => by
    unfold chkS at h
    split at h
    · simp only [Bool.and_eq_true_iff] at h
      exact s_fr o.own o.e.calm (snd_I o.e h.2) (snd_T o.e.hN o.e.nd o.e.calm o.has t _ h.1.1.2) (snd_Ss b _ X sc W o h.1.2) (fold_of h.1.1.1)
    · cases h
  | .rse c es, x, X, sc, W, o, h => by
    unfold chkS at h
    split at h
    · rename_i n p y ys cp pos
      simp only [Bool.and_eq_true_iff] at h
      obtain ⟨⟨⟨⟨h1, h2⟩, h3⟩, h5⟩, h4⟩ := h
      exact snd_rse o h1 h2 (of_decide_eq_true h3) (snd_Es es _ X sc W o.e h4) (of_decide_eq_true h5) h4
    · cases h
  | .tryR b hs, x, X, sc, W, o, h => by
    unfold chkS at h
    split at h
    · rename_i body hds pos
      simp only [Bool.and_eq_true_iff] at h
      obtain ⟨⟨h1, h2⟩, h3⟩ := h
      obtain ⟨l, hl, hw⟩ := snd_hds o hs hds h3
      match hds, h1, hl with
      | h0 :: hds, _, hl =>
        refine ps_imp (ps_try_all (tb := fun W' => tS Γ X.K W' (exs call b)) o.hs o.hf o.e.takes (fun W' pn xe tk ow => snd_Ss b body (X.tr pn xe) sc W' (o.tr tk ow) h2) hl) fun D σ H ⟨ρ, g, s, rs, rg, q⟩ => ⟨ρ, g, s, rs, rg, ?_⟩
        have q : FinS Γ X.K W D ρ H (match exs call b s g with
          | .exn x s' g' => hndl hs x s' g'
          | r => r) := q
        generalize exs call b s g = r at q
        cases r with
        | nx s' g' => exact q
        | rt v g' => exact q
        | bk s' g' => exact q
        | ct s' g' => exact q
        | exn x s' g' => exact fun cls d σ' ρ' H' e rg' rs' rx => hw D ρ' H' cls d σ' s' x g' rg' rs' rx (FinS.go (r := hndl hs x s' g') q e)
        | bad => exact q
    · cases h
  | .pass, x, X, sc, W, o, h => by
    unfold chkS at h
    split at h
    · exact s_pass
    · cases h
  | .brk, x, X, sc, W, o, h => by
    unfold chkS at h
    split at h
    · exact s_brk
    · cases h
  | .cnt, x, X, sc, W, o, h => by
    unfold chkS at h
    split at h
    · exact s_cnt
    · cases h
theorem snd_Ss : ∀ (a : Ss) (xs : List Stmt) (X : Cx) (sc : Scope) (W : WX), OkS T Γ call X sc N k W → chkSs T N a sc xs = true → PSs X xs (tS Γ X.K W (exs call a))
  | .nil, [], X, sc, W, o, h => s_nil
  | .nil, _ :: _, X, sc, W, o, h => by cases h
  | .cons a r, [], X, sc, W, o, h => by cases h
  | .cons a r, x :: xs, X, sc, W, o, h => by
    have h : (chkS T N a sc x && chkSs T N r sc xs) = true := h
    rw [Bool.and_eq_true_iff] at h
    exact s_cons (snd_S a x X sc W o h.1) (snd_Ss r xs X sc W o h.2)
end
end
end KM

namespace KM
open PySem PySem.Spec PyProof.Rows L2

/-! ### the defs of the text -/
structure FnE where
  x : Str
  st : Stmt
  ps : List Str
  N : List Str
  body : Ss
def ftOf (fs : List FnE) : Nat → Option Fn := fun i => (fs[i]?).map fun e => ⟨e.ps.length, e.N.length, e.body⟩
def fnsOf : List FnE → Nat → List (Str × Nat × Nat)
  | [], _ => []
  | e :: r, i => (e.x, i, e.ps.length) :: fnsOf r (i + 1)
theorem fnsOf_look {x : Str} {f np : Nat} : ∀ {fs : List FnE} {i : Nat}, (fnsOf fs i).lookup x = some (f, np) → ∃ e, i ≤ f ∧ fs[f - i]? = some e ∧ e.x = x ∧ e.ps.length = np
  | [], i, h => nomatch h
  | e :: r, i, h => by
    unfold fnsOf at h
    rw [List.lookup_cons] at h
    split at h
    · rename_i hb
      cases h
      exact ⟨e, Nat.le_refl _, by simp, (eq_of_beq hb).symm, rfl⟩
    · obtain ⟨e2, h1, h2, h3, h4⟩ := fnsOf_look h
      refine ⟨e2, by omega, ?_, h3, h4⟩
      rw [show f - i = (f - (i + 1)) + 1 from by omega]
      exact h2
def chkF (T : Tab) (e : FnE) : Bool := _root_.C8.scC e.N e.ps (defScope e.st) && chkSs T e.N e.body (defScope e.st) (defBody e.st)
section
variable {T : Tab} {Γ : Gam} {P : Program} {w : World} {K : PySem.W.Frag} {mg : Str → Option Value} {base : Heap} {fs : List FnE}
theorem fin_S {W : WX} {ρ : List Addr} {H : Hp} {r : SR} {Q : VK} {E : XK} (h : FinG Γ K (relV K) (fun c d _ H' => E c d H') [] ρ H (fin r) Q) : FinS Γ K (fun c d _ H' => E c d H') { nx := fun _ H' => Q .non H', rt := Q } ρ H r := by
  cases r with
  | nx s g => exact fun σ' ρ' H' e a b => h .non ρ' H' e a rfl
  | rt v g => exact fun v' ρ' H' e a b => h v' ρ' H' e a b
  | bk s g => exact h.elim
  | ct s g => exact h.elim
  | exn x s g => exact fun c d σ' ρ' H' e a b rx => h c d ρ' H' e a rx
  | bad => exact h
theorem rs_start {H : Hp} {ρ : List Addr} {xs : List Val} {vs : List V} {N : List Str} {np : Nat} (h : RVs K H ρ xs vs) (hl : vs.length = np) : RS K H ρ (xs.map some ++ List.replicate (N.length - np) none) (L2.start N vs) := by
  have hlen := h.length
  subst hl
  refine ⟨by unfold L2.start; simp [hlen], fun i x q => ?_⟩
  by_cases hi : i < xs.length
  · rw [List.getElem?_append_left (by simpa using hi), List.getElem?_map] at q
    cases hx : xs[i]? with
    | none => rw [hx] at q; cases q
    | some y =>
      rw [hx] at q
      cases q
      obtain ⟨v, hv, rv⟩ := h.get hx
      refine ⟨v, ?_, rv⟩
      unfold L2.start
      rw [List.getElem?_append_left (by rw [List.length_map, hlen]; exact hi), List.getElem?_map, hv]
      rfl
  · rw [List.getElem?_append_right (by simpa using hi), List.getElem?_replicate] at q
    split at q <;> cases q
/-- what the head says of the defs -/
structure Told (fs : List FnE) (K : PySem.W.Frag) (mg : Str → Option Value) : Prop where
  fn : ∀ e ∈ fs, ∃ f fd, FunD K e.x e.x (defArgs e.st) (defBody e.st) (defScope e.st) [] [] f fd ∧ mg e.x = some (.ref f) ∧ Binds K fd e.ps []
theorem run_ok (hT : T.fns = fnsOf fs 0) (hchk : ∀ e ∈ fs, chkF T e = true) (hF : Told fs K mg) (hcs : ∀ x v, T.cs.lookup x = some v → ∃ y u, mg x = some u ∧ RelV y u ∧ ∀ H ρ, RV K H ρ v y) (hfr : ∀ x ∈ T.fr, mg x = none)
    (hx : FactsX T Γ P w K mg base 4) : ∀ (m : Nat), ∀ (i : Nat) (e : FnE), fs[i]? = some e → ∀ (f : Addr) (fd : FuncData), FunD K e.x e.x (defArgs e.st) (defBody e.st) (defScope e.st) [] [] f fd →
      FnOk P w K mg base (L2.CX P w) (m + 4) f fd e.ps (spOf Γ K e.ps.length (run (ftOf fs) m i))
  | 0, i, e, hi, f, fd, F => ⟨fun vs H Q E h => h.1, fun A outer s H args us vs Q E hr e0 hb r hsp => by
      obtain ⟨_, ρ, g, xs, rg, rv, q⟩ := hsp
      exact q.elim⟩
  | m + 1, i, e, hi, f, fd, F => by
    have he : e ∈ fs := List.mem_of_getElem? hi
    have hc := hchk e he
    unfold chkF at hc
    rw [Bool.and_eq_true_iff] at hc
    have S := _root_.C8.fnScope_by hc.1
    have ih := run_ok hT hchk hF hcs hfr hx m
    have FX : Facts T Γ (run (ftOf fs) m) P w K mg base (m + 4) := by
      refine ⟨fun x f np hl => ?_, hcs, hfr⟩
      rw [hT] at hl
      obtain ⟨e2, _, h2, h3, h4⟩ := fnsOf_look hl
      have h2 : fs[f]? = some e2 := h2
      obtain ⟨fa, fd2, F2, hm2, hb2⟩ := hF.fn e2 (List.mem_of_getElem? h2)
      exact ⟨fa, fd2, e2.ps, h4, by rw [← h3]; exact hm2, F2.kp, hb2, ih f e2 h2 fa fd2 F2⟩
    refine F.ok (k := m + 4) (CX := L2.CX P w) S (fun vs H Q E h => h.1) fun cdv A outer s H vs Q E hr hsp => ?_
    refine ⟨tS Γ K (fun c d _ H' => E c d H') (exs (run (ftOf fs) m) e.body), ?_, ?_⟩
    · refine snd_Ss (k := m + 4) e.body (defBody e.st) _ (defScope e.st) _ ⟨⟨rfl, S.nd, rfl, S.kind, rfl, hr, takes_of rfl rfl rfl rfl, FX⟩, rfl, rfl, passes_of rfl, fun _ _ => .inl rfl, hx.mono (by omega)⟩ hc.2
    · obtain ⟨hlen, ρ, g, xs, rg, rv, q⟩ := hsp
      have hxl : xs.length = e.ps.length := by rw [← rv.length, hlen]
      have q : FinG Γ K (relV K) (fun c d _ H' => E c d H') [] ρ H (match ftOf fs i with
        | none => .bad
        | some d => if xs.length = d.np then tidy g (fin (exs (run (ftOf fs) m) d.body (xs.map some ++ List.replicate (d.ns - d.np) none) g)) else .bad) Q := q
      have hft : ftOf fs i = some ⟨e.ps.length, e.N.length, e.body⟩ := by unfold ftOf; rw [hi]; rfl
      rw [hft] at q
      have q : FinG Γ K (relV K) (fun c d _ H' => E c d H') [] ρ H (if xs.length = e.ps.length then tidy g (fin (exs (run (ftOf fs) m) e.body (xs.map some ++ List.replicate (e.N.length - e.ps.length) none) g)) else .bad) Q := q
      rw [if_pos hxl] at q
      exact ⟨ρ, g, _, rs_start rv hlen, rg, fin_S (W := W0) (FinG.untidy rg q)⟩
end
end KM

namespace KM
open PySem PySem.Spec PyProof.Rows L2 He

/-! ### the head: what stands behind the top -/
structure ExE where
  x : Str
  fields : List Str
  st : Stmt
structure Desc where
  fs : List FnE
  cs : List (Str × Val)
  fr : List Str
  es : List ExE
  hds : List (Str × List Bool)
  iss : List (Str × List Bool)
  file : Str
def exsOf : List ExE → Nat → List (Str × Nat × Nat)
  | [], _ => []
  | e :: r, i => (e.x, i, e.fields.length) :: exsOf r (i + 1)
def Desc.T (D : Desc) : Tab := { fns := fnsOf D.fs 0, cs := D.cs, fr := D.fr, exs := exsOf D.es 0, exf := D.es.map (·.fields), hds := D.hds, iss := D.iss }
def exAt (K : PySem.W.Frag) (es : List ExE) (c : Nat) : Addr := match es[c]? with
  | some e => ga K e.x
  | none => 0
def Desc.G (D : Desc) (K : PySem.W.Frag) : Gam where
  cls := fun _ => 0
  nm := fun _ => ""
  exc := exAt K D.es
  exf := fun c => match D.es[c]? with
    | some e => e.fields
    | none => []
def dfE (e : FnE) : DefD := ⟨(e.x, none), e.x, e.x, defArgs e.st, defBody e.st, defScope e.st, [], []⟩
def oexB (K : PySem.W.Frag) (C : Addr) : Bool := (match K.lookup C with
  | some ⟨.type t, _, .cls cd, sl⟩ => decide (t = "type") && cd.hasDict && !cd.hasDel && (match cd.mro, sl.toList with
    | .ref C' :: bm, [_, _, _, _, some (.builtin n), _] => decide (C' = C) && decide (n = "ValueError.__new__") && PySem.HandSPX.refsVE bm
    | _, _ => false)
  | _ => false) && (He.eqO (PySem.W.findIn K (.ref C) "__setattr__") (some (some (.builtin "object.__setattr__"))) && (decide (PySem.W.subIn K (.ref C) (.type "BaseException") = some true) && (decide (PySem.W.typeIn K (.ref C) = some (.type "type")) && PySem.W.keepIn K (.ref C))))
theorem oexB_ok {K : PySem.W.Frag} {C : Addr} (h : oexB K C = true) : OexC K C := by
  obtain ⟨h1, h⟩ := ba h
  obtain ⟨h2, h⟩ := ba h
  obtain ⟨h3, h⟩ := ba h
  obtain ⟨h4, h5⟩ := ba h
  refine ⟨?_, He.eqO_ok h2, of_decide_eq_true h3, of_decide_eq_true h4, h5⟩
  split at h1
  · rename_i t dd cd sl ho
    simp only [Bool.and_eq_true_iff, Bool.not_eq_true'] at h1
    obtain ⟨⟨⟨e1, hdict⟩, hdel⟩, h1⟩ := h1
    have e1 := of_decide_eq_true e1
    subst e1
    split at h1
    · rename_i C' bm k0 k1 k2 k3 n k5 hm hs
      simp only [Bool.and_eq_true_iff] at h1
      obtain ⟨⟨e2, e3⟩, e4⟩ := h1
      have e2 := of_decide_eq_true e2
      have e3 := of_decide_eq_true e3
      subst e2 e3
      obtain ⟨nm, bs, mro, ns, qn, hd, sn, sub, ab, col, del⟩ := cd
      dsimp only at hm hdel hdict
      subst hm hdel hdict
      have hsl : sl = #[k0, k1, k2, k3, some (.builtin "ValueError.__new__"), k5] := by
        obtain ⟨l⟩ := sl
        simp only at hs
        rw [hs]
      subst hsl
      exact ⟨nm, qn, ns, bs, bm, sn, sub, ab, col, dd, k0, k1, k2, k3, k5, ho, e4⟩
    · cases h1
  · cases h1
abbrev IniW : Type := Option (Str × Arguments × FuncBody × Scope × Addr × Addr)
def iniAd (K : PySem.W.Frag) (e : ExE) : Addr := ma K (ga K e.x) "__init__"
def iniW (K : PySem.W.Frag) (e : ExE) : IniW := match K.lookup (iniAd K e) with
  | some ⟨_, _, .func fd, _⟩ => some (fd.name, fd.params, fd.body, fd.scope, fd.globals, fd.builtins)
  | _ => none
def iniVal (e : ExE) : IniW := some ("__init__", defArgs e.st, .stmts (defBody e.st), defScope e.st, mainGlobals, builtinsNs)
def iniOk (file : Str) (K : PySem.W.Frag) (C f : Addr) : Bool := match K.lookup f with
  | some ⟨_, _, .func fd, _⟩ => (match fd.closure with
    | [(n, cc)] => (match fd.code with
      | .ref cda => (match fd.defaults with
        | .none => decide (n = ("__class__" : Str)) && (PySem.W.codeIn K (.ref cda) fd.qualname && ((match K.lookup cc with
          | some ⟨_, _, .cell (some (.ref D)), _⟩ => decide (D = C)
          | _ => false) && (match K.lookup cda with
          | some ⟨_, _, .fields vs, _⟩ => (match (vs[2]? : Option Value) with
            | some (.str fl _) => file == fl
            | _ => false)
          | _ => false)))
        | _ => false)
      | _ => false)
    | _ => false)
  | _ => false
def kisB (K : PySem.W.Frag) (C : Addr) : Bool := (PySem.W.clsIn K C).isSome && (He.eqO (PySem.W.findIn K (.ref C) "__getattr__") (some none) && (He.eqO (PySem.W.findIn K (.ref C) "__class__") (some (some (.builtin "object.__class__"))) &&
  (He.eqO (PySem.W.specialIn K (.builtin "object.__class__") "__get__") (some (some (.builtin "getset_descriptor.__get__"))) && (decide (PySem.W.takesIn K (.builtin "object.__class__") = some true) && decide (PySem.W.mroIn K C (.type "object") = some true)))))
theorem kisB_ok {K : PySem.W.Frag} {C : Addr} (h : kisB K C = true) : KisC K C := by
  obtain ⟨h1, h⟩ := ba h
  obtain ⟨h2, h⟩ := ba h
  obtain ⟨h3, h⟩ := ba h
  obtain ⟨h4, h⟩ := ba h
  obtain ⟨h5, h6⟩ := ba h
  exact ⟨h1, He.eqO_ok h2, He.eqO_ok h3, He.eqO_ok h4, of_decide_eq_true h5, of_decide_eq_true h6⟩
mutual
/-- a written value as the model has it -/
def valB (K : PySem.W.Frag) : Val → Value → Bool
  | .int i, .int j _ => decide (i = j)
  | .str cs, .str s _ => decide (s.cps.toList = cs) && (decide (cs.length ≤ SL) && cs.all fun c => decide (c < 1114112))
  | .bl b, .bool c => decide (b = c)
  | .non, .none => true
  | .tup xs, .ref a => match K.lookup a with
    | some ⟨.type t, d, .seq its _, _⟩ => decide (t = "tuple") && (decide (xs ∈ ctups) && d.isNone && (decide (its.size ≤ 1000) && valsB K xs its.toList))
    | _ => false
  | _, _ => false
def valsB (K : PySem.W.Frag) : List Val → List Value → Bool
  | [], [] => true
  | x :: xs, v :: vs => valB K x v && valsB K xs vs
  | _, _ => false
end
mutual
theorem valB_ok {K : PySem.W.Frag} : ∀ {x : Val} {v : Value}, valB K x v = true → ∃ y, RelV y v ∧ ∀ H ρ, RV K H ρ x y
  | .int i, .int j t, h => by
    have h : decide (i = j) = true := h
    exact ⟨.int i, ⟨t, by rw [of_decide_eq_true h]⟩, fun _ _ => rfl⟩
  | .str cs, .str s t, h => by
    have h : (decide (s.cps.toList = cs) && (decide (cs.length ≤ SL) && cs.all fun c => decide (c < 1114112))) = true := h
    obtain ⟨h1, h⟩ := ba h
    obtain ⟨h2, h3⟩ := ba h
    have h1 := of_decide_eq_true h1
    subst h1
    exact ⟨.str s, ⟨t, rfl⟩, fun _ _ => ⟨by simp, of_decide_eq_true h2, fun c hc => of_decide_eq_true (List.all_eq_true.mp h3 c hc)⟩⟩
  | .bl b, .bool c, h => by
    have h : decide (b = c) = true := h
    exact ⟨.bl b, by rw [of_decide_eq_true h]; rfl, fun _ _ => rfl⟩
  | .non, .none, h => ⟨.non, rfl, fun _ _ => rfl⟩
  | .tup xs, .ref a, h => by
    unfold valB at h
    split at h
    · rename_i t d its n sl ho
      obtain ⟨h1, h⟩ := ba h
      obtain ⟨h2, h⟩ := ba h
      obtain ⟨h3, h4⟩ := ba h
      have h1 := of_decide_eq_true h1
      subst h1
      obtain ⟨hct, h2⟩ := ba h2
      have hct := of_decide_eq_true hct
      have h2 : d = none := by cases d <;> first | rfl | cases h2
      subst h2
      obtain ⟨ys, hv, hr⟩ := valsB_ok h4
      refine ⟨.ref a, rfl, fun H ρ => ⟨a, ys, rfl, .inr ⟨hct, .inr ⟨_, its, n, ho, rfl, rfl, ?_, hv⟩⟩, hr H ρ⟩⟩
      rw [sizeLine_eq]
      have := of_decide_eq_true h3
      omega
    · cases h
theorem valsB_ok {K : PySem.W.Frag} : ∀ {xs : List Val} {vs : List Value}, valsB K xs vs = true → ∃ ys, Vals ys vs ∧ ∀ H ρ, RVs K H ρ xs ys
  | [], [], _ => ⟨[], .nil, fun _ _ => rfl⟩
  | x :: xs, v :: vs, h => by
    have h : (valB K x v && valsB K xs vs) = true := h
    obtain ⟨h1, h2⟩ := ba h
    obtain ⟨y, r1, r2⟩ := valB_ok h1
    obtain ⟨ys, r3, r4⟩ := valsB_ok h2
    exact ⟨y :: ys, .cons r1 r3, fun H ρ => ⟨y, ys, rfl, r2 H ρ, r4 H ρ⟩⟩
  | [], _ :: _, h => by cases h
  | _ :: _, [], h => by cases h
end
def csB (K : PySem.W.Frag) (p : Str × Val) : Bool := match p.2 with
  | .int i => (Fa.int p.1 i).ok K
  | .tup xs => (Fa.glo p.1).ok K && valB K (.tup xs) (.ref (ga K p.1))
  | .str cs => (Fa.str p.1 (toS cs)).ok K && (decide (cs.length ≤ SL) && cs.all fun c => decide (c < 1114112))
  | _ => false
def exB (file : Str) (K : PySem.W.Frag) (e : ExE) : Bool :=
  (Fa.glo e.x).ok K && (oexB K (ga K e.x) && (He.eqO (PySem.W.findIn K (.ref (ga K e.x)) "__init__") (some (some (.ref (iniAd K e)))) && (decide (PySem.W.typeIn K (.ref (iniAd K e)) = some (.type "function")) && (iniOk file K (ga K e.x) (iniAd K e) &&
    (e.fields.all (fun f => He.eqO (PySem.W.findIn K (.ref (ga K e.x)) f) (some none)) && (xfB K (ga K e.x) && (He.eqO (PySem.W.ks_superIn K (ga K e.x) (ga K e.x) "__init__") (some (some (.builtin "ValueError.__init__"))) && decide (PySem.W.subIn K (.ref (ga K e.x)) (.type "ValueError") = some true))))))))
def hdB (K : PySem.W.Frag) (es : List ExE) (p : Str × List Bool) : Bool := (Fa.glo p.1).ok K && (List.range p.2.length).all fun c => match p.2[c]? with
  | some b => decide (PySem.W.exmOne K (.ref (exAt K es c)) (.ref (ga K p.1)) = some b)
  | none => false
def isB (K : PySem.W.Frag) (es : List ExE) (p : Str × List Bool) : Bool := (Fa.glo p.1).ok K && (List.range p.2.length).all fun c => match p.2[c]? with
  | some b => decide (PySem.W.kitOne K (.ref (exAt K es c)) (.ref (ga K p.1)) = some b) && (kisB K (exAt K es c) && xfB K (exAt K es c))
  | none => false
def Desc.chk (D : Desc) (K : PySem.W.Frag) : Bool :=
  D.fs.all (fun e => (Fa.glo e.x).ok K && (dfE e).ok K) && (D.cs.all (csB K) && (D.fr.all (fun x => (Fa.free x).ok K) && ((Fa.free "super").ok K && (He.eqO (PySem.W.nsIn K cStatics "thirdparty.any") (some none) && (D.es.all (exB D.file K) && (D.hds.all (hdB K D.es) && D.iss.all (isB K D.es)))))))
abbrev ObsM : Type := Bool × List FnW × List IniW
def Desc.obs (D : Desc) (K : PySem.W.Frag) : ObsM := (D.chk K, D.fs.map (fun e => fnW K (e.x, none)), D.es.map (iniW K))
def Desc.val (D : Desc) : ObsM := (true, D.fs.map (fun e => (dfE e).val), D.es.map iniVal)
def obsM (n : Nat) (D : Desc) (g : Addr → Option Obj) : ObsM := D.obs (frG g (cStatics :: asD g n))
def hookM (n : Nat) (D : Desc) : PySem.W.Hook where
  α := ObsM
  obs := fun s => obsM n D s.heap.get?
  val := fun _ => D.val
  says := fun _ h => ∃ K : PySem.W.Frag, K.In h ∧ D.obs K = D.val
  of := fun _ _ e => ⟨_, frG_in, e⟩
  keeps := fun _ _ _ ⟨K, hK, c⟩ k => ⟨K, PySem.W.Frag.In.keeps hK k, c⟩
theorem obsM_eq {n : Nat} {D : Desc} {g : Addr → Option Obj} {s : Shared} (h : ∀ a, g a = s.heap.get? a) : obsM n D g = (hookM n D).obs s := by
  have e : g = s.heap.get? := funext h
  rw [e] <;> rfl
end KM

namespace KM
open PySem PySem.Spec PyProof.Rows L2 He

def BindP (x : Str) (st : Stmt) (ps : List Str) : Prop := ∀ (qual : Str) (cl : List (Str × Addr)) (kV doc pm : Value) (an : Option Addr) (cdv ct : Value) (us : List Value), us.length = ps.length →
  bindArgs (PySem.W.fnX x qual (defArgs st) (defBody st) (defScope st) cl .none kV doc pm an cdv ct) ⟨us, []⟩ = pure (ps.zip us)
/-- what an exception's __init__ looks like -/
def iniPs (e : ExE) : List Str := match defBody e.st with
  | [_, .Assign _ (.Name a1 _) _] => ["self", a1]
  | [_, .Assign _ (.Name a1 _) _, .Assign _ (.Name a2 _) _] => ["self", a1, a2]
  | _ => []
def firstArg (st : Stmt) : Str := match ((defArgs st).posonlyargs ++ (defArgs st).args).head? with
  | some a => a.arg
  | none => ""
def supC : Stmt → Bool
  | .Expr (.Call (.Attribute (.Call (.Name s _) [] [] _) i p2) [_] [] p3) _ => decide (s = "super") && decide (i = "__init__") && (p2.endLine == p3.line)
  | _ => false
def iniC (e : ExE) : Bool := match e.fields, defBody e.st with
  | [f1], [.Expr (.Call (.Attribute (.Call (.Name s _) [] [] _) i p2) [.JoinedStr [.Constant (.str s1) _ _, .FormattedValue (.Name a1 _) cv none _] _] [] p3) _, .Assign [.Attribute (.Name self _) f1' _] (.Name a1' _) _] =>
    decide (s = "super") && decide (i = "__init__") && (p2.endLine == p3.line) && decide (cv = -1) && decide (self = "self") && decide (f1' = f1) && decide (a1' = a1) && decide (s1.length ≤ 1000) && nmOk a1 && _root_.NdefX.nscB ["self", a1, "__class__"] ["self", a1] ["__class__"] (defScope e.st) &&
      decide ((defScope e.st).names.lookup ("super" : Str) = some .globalImplicit) && decide ((defScope e.st).names.lookup ("__class__" : Str) = some .free) && !((defArgs e.st).posonlyargs ++ (defArgs e.st).args).isEmpty && decide (firstArg e.st = "self")
  | [f1, f2], [.Expr (.Call (.Attribute (.Call (.Name s _) [] [] _) i p2) [.JoinedStr [.Constant (.str s1) _ _, .FormattedValue (.Name a1 _) cv none _, .Constant (.str s2) _ _, .FormattedValue (.Name a2 _) cv2 none _] _] [] p3) _, .Assign [.Attribute (.Name self _) f1' _] (.Name a1' _) _, .Assign [.Attribute (.Name self' _) f2' _] (.Name a2' _) _] =>
    decide (s = "super") && decide (i = "__init__") && (p2.endLine == p3.line) && decide (cv = -1) && decide (cv2 = -1) && decide (self = "self") && decide (self' = "self") && decide (f1' = f1) && decide (f2' = f2) && decide (a1' = a1) && decide (a2' = a2) && decide (s1.length ≤ 1000) && decide (s2.length ≤ 1000) && nmOk a1 && nmOk a2 &&
      _root_.NdefX.nscB ["self", a1, a2, "__class__"] ["self", a1, a2] ["__class__"] (defScope e.st) && decide ((defScope e.st).names.lookup ("super" : Str) = some .globalImplicit) && decide ((defScope e.st).names.lookup ("__class__" : Str) = some .free) && !((defArgs e.st).posonlyargs ++ (defArgs e.st).args).isEmpty && decide (firstArg e.st = "self") && !decide (f1 = f2)
  | _, _ => false
section
variable {P : Program} {w : World} {K : PySem.W.Frag} {mg : Str → Option Value} {base : Heap}
theorem head_of {st : Stmt} (h : (!((defArgs st).posonlyargs ++ (defArgs st).args).isEmpty) = true) (h2 : firstArg st = "self") : ∃ ar, ((defArgs st).posonlyargs ++ (defArgs st).args).head? = some ar ∧ ar.arg = "self" := by
  unfold firstArg at h2
  cases hq : ((defArgs st).posonlyargs ++ (defArgs st).args).head? with
  | none =>
    rw [List.head?_eq_none_iff] at hq
    rw [hq] at h
    cases h
  | some ar =>
    rw [hq] at h2
    exact ⟨ar, rfl, h2⟩
theorem ini_ok {C f : Addr} {fd : FuncData} {e : ExE} (I : IniK P K mg C f e.st fd) (h : iniC e = true) (hno : ∀ n ∈ e.fields, PySem.W.findIn K (.ref C) n = some none) : ∃ sp, FnOk P w K mg base (L2.CX P w) 1 f fd (iniPs e) sp ∧ InitSp C e.fields sp := by
  obtain ⟨x, fields, st⟩ := e
  unfold iniC at h
  unfold iniPs
  dsimp only at h hno I ⊢
  split at h
  · rename_i f1 s p0 p1 i p2 s1 j q1 a1 q2 cv q3 q4 p3 p4 self q5 f1' q6 a1' q7 q8 hb
    rw [hb]
    simp only [Bool.and_eq_true_iff] at h
    obtain ⟨⟨⟨⟨⟨⟨⟨⟨⟨⟨⟨⟨⟨h1, h2⟩, h3⟩, h4⟩, h5⟩, h6⟩, h7⟩, h8⟩, h9⟩, h10⟩, h11⟩, h12⟩, h13⟩, h14⟩ := h
    have h1 := of_decide_eq_true h1
    have h2 := of_decide_eq_true h2
    have h4 := of_decide_eq_true h4
    have h5 := of_decide_eq_true h5
    have h6 := of_decide_eq_true h6
    have h7 := of_decide_eq_true h7
    subst h1 h2 h4 h5 h6 h7
    obtain ⟨ar, har, hself⟩ := head_of h13 (of_decide_eq_true h14)
    obtain ⟨m1, m2, _⟩ := nm_of h9
    exact ⟨_, ini1_ok I hb (_root_.NdefX.nscope_by h10) har hself h3 (of_decide_eq_true h8) (of_decide_eq_true h11) (of_decide_eq_true h12) ⟨by decide, by decide⟩ ⟨m1, m2⟩ (hno _ (by simp)), init_sp1⟩
  · rename_i f1 f2 s p0 p1 i p2 s1 j q1 a1 q2 cv q3 s2 j2 q9 a2 q10 cv2 q11 q4 p3 p4 self q5 f1' q6 a1' q7 q8 self' q12 f2' q13 a2' q14 q15 hb
    rw [hb]
    simp only [Bool.and_eq_true_iff] at h
    obtain ⟨⟨⟨⟨⟨⟨⟨⟨⟨⟨⟨⟨⟨⟨⟨⟨⟨⟨⟨⟨h1, h2⟩, h3⟩, h4⟩, h5⟩, h6⟩, h7⟩, h8⟩, h9⟩, h10⟩, h11⟩, h12⟩, h13⟩, h14⟩, h15⟩, h16⟩, h17⟩, h18⟩, h19⟩, h20⟩, h21⟩ := h
    have h1 := of_decide_eq_true h1
    have h2 := of_decide_eq_true h2
    have h4 := of_decide_eq_true h4
    have h5 := of_decide_eq_true h5
    have h6 := of_decide_eq_true h6
    have h7 := of_decide_eq_true h7
    have h8 := of_decide_eq_true h8
    have h9 := of_decide_eq_true h9
    have h10 := of_decide_eq_true h10
    have h11 := of_decide_eq_true h11
    subst h1 h2 h4 h5 h6 h7 h8 h9 h10 h11
    obtain ⟨ar, har, hself⟩ := head_of h19 (of_decide_eq_true h20)
    obtain ⟨m1, m2, _⟩ := nm_of h14
    obtain ⟨m3, m4, _⟩ := nm_of h15
    simp only [Bool.not_eq_true', decide_eq_false_iff_not] at h21
    exact ⟨_, ini2_ok I hb (_root_.NdefX.nscope_by h16) har hself h3 (of_decide_eq_true h12) (of_decide_eq_true h13) (of_decide_eq_true h17) (of_decide_eq_true h18) ⟨by decide, by decide⟩ ⟨m1, m2⟩ ⟨m3, m4⟩ (hno _ (by simp)) (hno _ (by simp)), init_sp2 h21⟩
  · cases h
theorem inik_of {file : Str} {e : ExE} {h : Heap} (X : K.In h) (G : h.Ns mainGlobals mg) (hf : ((P.main.file : Str) == file) = true) (htop : (P.main.scope.names.lookup ("super" : Str)).isSome = false) (hs : mg "super" = none) (ho : PySem.W.nsIn K cStatics "thirdparty.any" = some none)
    (c : exB file K e = true) (v : iniW K e = iniVal e) : ∃ fd, IniK P K mg (ga K e.x) (iniAd K e) e.st fd ∧ (BindP "__init__" e.st (iniPs e) → Binds K fd (iniPs e) []) := by
  unfold exB at c
  obtain ⟨c1, c⟩ := ba c
  obtain ⟨c2, c⟩ := ba c
  obtain ⟨c3, c⟩ := ba c
  obtain ⟨c4, c⟩ := ba c
  obtain ⟨c5, c⟩ := ba c
  obtain ⟨c6, c⟩ := ba c
  obtain ⟨c7, c⟩ := ba c
  obtain ⟨c8, c9⟩ := ba c
  unfold iniOk at c5
  unfold iniW at v
  split at c5
  · rename_i oc od fd osl ho2
    rw [ho2] at v
    obtain ⟨n1, n2, n3, n4, n5, n6, n7, n8, n9, n10, n11, n12, n13, n14, n15⟩ := fd
    have e2 : (some (n1, n3, n4, n5, n6, n15) : IniW) = some (("__init__" : Str), defArgs e.st, FuncBody.stmts (defBody e.st), defScope e.st, mainGlobals, builtinsNs) := v
    simp only [Option.some.injEq, Prod.mk.injEq] at e2
    obtain ⟨h1, h2, h3, h4, h5, h6⟩ := e2
    subst h1 h2 h3 h4 h5 h6
    dsimp only at c5
    split at c5
    · rename_i n cc
      split at c5
      · rename_i cda
        split at c5
        · obtain ⟨d1, c5⟩ := ba c5
          obtain ⟨d2, c5⟩ := ba c5
          obtain ⟨d3, d4⟩ := ba c5
          have d1 := of_decide_eq_true d1
          subst d1
          split at d3
          · rename_i cl cld D csl hcc
            have d3 := of_decide_eq_true d3
            subst d3
            split at d4
            · rename_i ccl cdd vs ccs hcda
              split at d4
              · rename_i fl tf hv
                refine ⟨_, ⟨⟨oc, od, osl, _, _, _, _, _, _, cda, cc, cl, cld, csl, ccl, cdd, ccs, vs, fl, tf, _, rfl, ho2, d2, hcc, hcda, hv, ?_, rfl⟩, oexB_ok c2, hs, htop, ho, He.eqO_ok c8, of_decide_eq_true c9⟩, fun hb => .all fun us hl => hb _ _ _ _ _ _ _ _ us hl⟩
                rw [beq_iff_eq] at hf d4 ⊢
                exact hf.trans d4
              · cases d4
            · cases d4
          · cases d3
        · cases c5
      · cases c5
    · cases c5
  · cases c5
theorem exsOf_look {x : Str} {c n : Nat} : ∀ {es : List ExE} {i : Nat}, (exsOf es i).lookup x = some (c, n) → ∃ e, i ≤ c ∧ es[c - i]? = some e ∧ e.x = x ∧ e.fields.length = n
  | [], i, h => nomatch h
  | e :: r, i, h => by
    unfold exsOf at h
    rw [List.lookup_cons] at h
    split at h
    · rename_i hb
      cases h
      exact ⟨e, Nat.le_refl _, by simp, (eq_of_beq hb).symm, rfl⟩
    · obtain ⟨e2, h1, h2, h3, h4⟩ := exsOf_look h
      refine ⟨e2, by omega, ?_, h3, h4⟩
      rw [show c - i = (c - (i + 1)) + 1 from by omega]
      exact h2
theorem look_mem {α : Type} {x : Str} {v : α} : ∀ {l : List (Str × α)}, l.lookup x = some v → (x, v) ∈ l
  | [], h => nomatch h
  | (y, u) :: r, h => by
    rw [List.lookup_cons] at h
    split at h
    · rename_i hb
      cases h
      rw [eq_of_beq hb]
      exact List.mem_cons_self
    · exact List.mem_cons_of_mem _ (look_mem h)
/-- all that the evaluation leans on -/
theorem facts_of {D : Desc} {h : Heap} (X : K.In h) (G : h.Ns mainGlobals mg) (c : D.obs K = D.val) (hf : ((P.main.file : Str) == D.file) = true) (htop : (P.main.scope.names.lookup ("super" : Str)).isSome = false) (hi : ∀ e ∈ D.es, iniC e = true) (hbi : ∀ e ∈ D.es, BindP "__init__" e.st (iniPs e)) (hb : ∀ e ∈ D.fs, BindP e.x e.st e.ps) :
    Told D.fs K mg ∧ (∀ x v, D.cs.lookup x = some v → ∃ y u, mg x = some u ∧ RelV y u ∧ ∀ H ρ, RV K H ρ v y) ∧ (∀ x ∈ D.fr, mg x = none) ∧ FactsX D.T (D.G K) P w K mg base 4 := by
  have c1 : D.chk K = true := congrArg (fun z : ObsM => z.1) c
  have c2 : D.fs.map (fun e => fnW K (e.x, none)) = D.fs.map (fun e => (dfE e).val) := congrArg (fun z : ObsM => z.2.1) c
  have c3 : D.es.map (iniW K) = D.es.map iniVal := congrArg (fun z : ObsM => z.2.2) c
  unfold Desc.chk at c1
  obtain ⟨k1, c1⟩ := ba c1
  obtain ⟨k2, c1⟩ := ba c1
  obtain ⟨k3, c1⟩ := ba c1
  obtain ⟨k4, c1⟩ := ba c1
  obtain ⟨k5, c1⟩ := ba c1
  obtain ⟨k6, c1⟩ := ba c1
  obtain ⟨k7, k8⟩ := ba c1
  have hs : mg "super" = none := free_ok X G k4
  have exG : ∀ {c : Nat} {e : ExE}, D.es[c]? = some e → exAt K D.es c = ga K e.x := fun {c e} q => by unfold exAt; rw [q]
  refine ⟨⟨fun e he => ?_⟩, fun x v hl => ?_, fun x hx => free_ok X G (List.all_eq_true.mp k3 x hx), ⟨fun x c n hl => ?_, fun c l hl => ?_, fun x bs hl => ?_, fun x bs hl => ?_⟩⟩
  · obtain ⟨q1, q2⟩ := ba (List.all_eq_true.mp k1 e he)
    have q3 : fnW K (e.x, none) = (dfE e).val := List.map_inj_left.mp c2 e he
    obtain ⟨fd, F⟩ := DefD.funD (K := K) (d := dfE e) q3 q2
    have F : FunD K e.x e.x (defArgs e.st) (defBody e.st) (defScope e.st) [] [] (ga K e.x) fd := F
    exact ⟨_, fd, F, glo_ok X G q1, F.bindsN fun kV doc pm an cdv ct us hl => hb e he e.x [] kV doc pm an cdv ct us hl⟩
  · have q := List.all_eq_true.mp k2 _ (look_mem hl)
    unfold csB at q
    cases v with
    | int i =>
      obtain ⟨t, ht⟩ := int_ok X G q
      exact ⟨.int i, _, ht, ⟨t, rfl⟩, fun H ρ => rfl⟩
    | str cs =>
      obtain ⟨q1, q2⟩ := ba q
      obtain ⟨q3, q4⟩ := ba q2
      obtain ⟨t, ht⟩ := str_ok X G q1
      exact ⟨.str (toS cs), _, ht, ⟨t, rfl⟩, fun H ρ => ⟨rfl, of_decide_eq_true q3, fun c hc => of_decide_eq_true (List.all_eq_true.mp q4 c hc)⟩⟩
    | tup xs =>
      obtain ⟨q1, q2⟩ := ba q
      obtain ⟨y, r1, r2⟩ := valB_ok q2
      exact ⟨y, _, glo_ok X G q1, r1, r2⟩
    | _ => cases q
  · obtain ⟨e, _, h2, h3, h4⟩ := exsOf_look hl
    have h2 : D.es[c]? = some e := h2
    have he := List.mem_of_getElem? h2
    have q := List.all_eq_true.mp k6 e he
    have qv : iniW K e = iniVal e := List.map_inj_left.mp c3 e he
    obtain ⟨fd, I, hB⟩ := inik_of (P := P) X G hf htop hs (He.eqO_ok k5) q qv
    have q0 := q
    unfold exB at q
    obtain ⟨e1, q⟩ := ba q
    obtain ⟨e2, q⟩ := ba q
    obtain ⟨e3, q⟩ := ba q
    obtain ⟨e4, q⟩ := ba q
    obtain ⟨e5, q⟩ := ba q
    obtain ⟨e6, q⟩ := ba q
    obtain ⟨sp, hF, hI⟩ := ini_ok (w := w) (base := base) I (hi e he) fun n hn => He.eqO_ok (List.all_eq_true.mp e6 n hn)
    have hx : (D.G K).exc c = ga K e.x := exG h2
    have hx2 : (D.G K).exf c = e.fields := by show (match D.es[c]? with | some e => e.fields | none => []) = _; rw [h2]
    refine ⟨iniAd K e, fd, iniPs e, 1, sp, ?_, ?_, ?_, of_decide_eq_true e4, hB (hbi e he), by decide, hF, ?_, by rw [hx2]; exact h4⟩
    · rw [hx, ← h3]; exact glo_ok X G e1
    · rw [hx]; exact oexB_ok e2
    · rw [hx]; exact He.eqO_ok e3
    · rw [hx, hx2]; exact hI
  · have hl : (D.es.map (·.fields))[c]? = some l := hl
    rw [List.getElem?_map] at hl
    obtain ⟨e, h2, h3⟩ := Option.map_eq_some_iff.mp hl
    have he := List.mem_of_getElem? h2
    have q := List.all_eq_true.mp k6 e he
    unfold exB at q
    obtain ⟨e1, q⟩ := ba q
    obtain ⟨e2, q⟩ := ba q
    obtain ⟨e3, q⟩ := ba q
    obtain ⟨e4, q⟩ := ba q
    obtain ⟨e5, q⟩ := ba q
    obtain ⟨e6, q⟩ := ba q
    obtain ⟨e7, q⟩ := ba q
    have hx : (D.G K).exc c = ga K e.x := exG h2
    refine ⟨?_, by rw [hx]; exact xfB_ok e7, fun n hn => ?_⟩
    · show (match D.es[c]? with | some e => e.fields | none => []) = _
      rw [h2]; exact h3
    · rw [hx]
      exact He.eqO_ok (List.all_eq_true.mp e6 n (by rw [h3]; exact hn))
  · obtain ⟨q1, q2⟩ := ba (List.all_eq_true.mp k7 _ (look_mem hl))
    refine ⟨_, glo_ok X G q1, fun c b hb => ?_⟩
    have q := List.all_eq_true.mp q2 c (List.mem_range.mpr (List.getElem?_eq_some_iff.mp hb).1)
    dsimp only at q
    rw [hb] at q
    exact of_decide_eq_true q
  · obtain ⟨q1, q2⟩ := ba (List.all_eq_true.mp k8 _ (look_mem hl))
    refine ⟨_, glo_ok X G q1, fun c b hb => ?_⟩
    have q := List.all_eq_true.mp q2 c (List.mem_range.mpr (List.getElem?_eq_some_iff.mp hb).1)
    dsimp only at q
    rw [hb] at q
    obtain ⟨q3, q4⟩ := ba q
    obtain ⟨q5, q6⟩ := ba q4
    exact ⟨of_decide_eq_true q3, kisB_ok q5, xfB_ok q6⟩
end
end KM

namespace KM
open PySem PySem.Spec PyProof.Rows L2 He

theorem fn_none {P : Program} {w : World} {K : PySem.W.Frag} {mg : Str → Option Value} {base : Heap} {k : Nat} {f : Addr} {fd : FuncData} {ps : List Str} {sp : Sp} (F : FnOk P w K mg base (L2.CX P w) k f fd ps sp) :
    FnOk P w K mg base CX0 k f fd ps (fun vs H Q _ => sp vs H Q (fun _ _ _ => False)) :=
  ⟨fun vs H Q E h => F.len _ _ _ _ h, fun A outer s H args us vs Q E hr e0 hb r h => codeAny_mono (F.run A outer s H args us vs Q _ hr e0 hb r h) fun res s' z => by
    cases res with
    | ok fl => cases fl <;> exact z
    | error e =>
      obtain ⟨_, _, _, _, _, _, _, _, _, _, _, _, z⟩ := z
      exact z.elim⟩
theorem rvs_ints {K : PySem.W.Frag} {H : Hp} {ρ : List Addr} : ∀ ns : List Int, RVs K H ρ (ns.map Val.int) (ns.map V.int)
  | [] => rfl
  | n :: ns => ⟨.int n, ns.map V.int, rfl, rfl, rvs_ints ns⟩
theorem sqf_of {K : PySem.W.Frag} {H : Hp} {a : Addr} {vs : List V} (hO : Only H) (h : SqL K H a vs) : SqF K H a vs := by
  rcases h with (h | h) | h
  · rcases hO a with z | ⟨o, xs, z⟩
    · rw [h] at z; cases z
    · rw [h] at z; cases z
  · exact .inl h
  · exact .inr h
theorem law_go {l : PySem.W.OpenLaw} {D : Desc} {m n iL N : Nat} {q : Program} {loose : List Str} {XP : (Str → Option Value) → Heap → Prop} {d : DefRec} {x : Str} {e : FnE}
    (hn : l.most = some n) (hn2 : n ≤ sizeLine) (hdf : d.params.defaults = []) (hr : Room (m + 4) callerA) (he : D.fs[iL]? = some e) (hps : e.ps = [x]) (hname : d.name = e.x)
    (hf : ((l.prog.main.file : Str) == D.file) = true) (htop : (l.prog.main.scope.names.lookup ("super" : Str)).isSome = false) (hi : ∀ e ∈ D.es, iniC e = true) (hbi : ∀ e ∈ D.es, BindP "__init__" e.st (iniPs e)) (hb : ∀ e ∈ D.fs, BindP e.x e.st e.ps)
    (hchk : ∀ e ∈ D.fs, chkF D.T e = true) (hrun : ∀ ns : List Int, ns.length ≤ n → ∃ g, run (ftOf D.fs) m iL [.rol (ns.map Val.int)] [] = .ok (.bl true) g) :
    PySem.W.WalkO q loose XP (hookM N D).says l.row.toRowW d [] (fun f vs => PySem.call f vs) := by
  refine L2.walk_ofE (k := m + 4) (x := x) (CX := L2.CX0) hn hn2 hdf hr (fun w mg fa h Y G hmg => ?_) (fun _ _ _ _ z => z)
  obtain ⟨K, KX, c⟩ := Y
  have hem := List.mem_of_getElem? he
  have T0 := (facts_of (P := l.prog) (w := w) (base := h) KX G c hf htop hi hbi hb).1
  obtain ⟨fL, fd, F, hmL, hbL⟩ := T0.fn e hem
  rw [hname, hmL] at hmg
  cases hmg
  have Bd : ∀ (s : Shared) (u : Value), BindsTo s fd ⟨[u], []⟩ [(x, u)] := fun s u => by
    have z := F.bindsA (ps := e.ps) (fun kV doc pm an cdv ct us hl => hb e hem e.x [] kV doc pm an cdv ct us hl) s [u] (by rw [hps]; rfl)
    rw [hps] at z
    exact z
  refine ⟨K, fd, fun vs H Q _ => spOf (D.G K) K 1 (run (ftOf D.fs) m iL) vs H Q (fun _ _ _ => False), KX, Bd, fun H a ns hl hO hS => ?_, fun base KB GB => ?_⟩
  · obtain ⟨g', hg⟩ := hrun ns hl
    refine ⟨rfl, [], [], [.rol (ns.map Val.int)], ⟨rfl, List.nodup_nil, fun n c q => nomatch q⟩, ⟨.ref a, [], rfl, ⟨a, _, rfl, sqf_of hO hS, rvs_ints ns⟩, rfl⟩, ?_⟩
    rw [hg]
    exact fun v' ρ' H' _ _ rv => rv
  · obtain ⟨T1, f2, f3, f4⟩ := facts_of (P := l.prog) (w := w) (base := base) KB GB c hf htop hi hbi hb
    have R := run_ok (T := D.T) rfl hchk T1 f2 f3 f4 m iL e he fa fd F
    rw [hps] at R
    exact fn_none R
end KM

namespace KQ
open KM
/-! ### the evaluation, rule by rule -/
section
variable {α β : Type}
@[simp] theorem bind_ok (a : α) (g : Gh) (k : α → Gh → R β) : (R.ok a g).bind k = k a g := rfl
@[simp] theorem bind_exn (x : Exn) (g : Gh) (k : α → Gh → R β) : (R.exn x g : R α).bind k = .exn x g := rfl
@[simp] theorem bind_bad (k : α → Gh → R β) : (R.bad : R α).bind k = .bad := rfl
@[simp] theorem st_ok (a : α) (s : Env) (g : Gh) (k : α → Gh → SR) : (R.ok a g).st s k = k a g := rfl
@[simp] theorem st_exn (x : Exn) (s : Env) (g : Gh) (k : α → Gh → SR) : (R.exn x g : R α).st s k = .exn x s g := rfl
@[simp] theorem seq_nx (s : Env) (g : Gh) (k : Env → Gh → SR) : (SR.nx s g).seq k = k s g := rfl
@[simp] theorem seq_rt (v : Val) (g : Gh) (k : Env → Gh → SR) : (SR.rt v g).seq k = .rt v g := rfl
@[simp] theorem seq_bk (s : Env) (g : Gh) (k : Env → Gh → SR) : (SR.bk s g).seq k = .bk s g := rfl
@[simp] theorem seq_ct (s : Env) (g : Gh) (k : Env → Gh → SR) : (SR.ct s g).seq k = .ct s g := rfl
@[simp] theorem seq_exn (x : Exn) (s : Env) (g : Gh) (k : Env → Gh → SR) : (SR.exn x s g).seq k = .exn x s g := rfl
@[simp] theorem fin_nx (s : Env) (g : Gh) : fin (.nx s g) = .ok .non g := rfl
@[simp] theorem fin_rt (v : Val) (g : Gh) : fin (.rt v g) = .ok v g := rfl
@[simp] theorem fin_exn (x : Exn) (s : Env) (g : Gh) : fin (.exn x s g) = .exn x g := rfl
end
section
variable (call : Call) (s : Env) (g : Gh)
@[simp] theorem ev_var (i : Nat) : ev call (.var i) s g = match s[i]? with
    | some (some v) => .ok v g
    | _ => .bad := rfl
@[simp] theorem ev_cst (v : Val) : ev call (.cst v) s g = .ok v g := rfl
@[simp] theorem ev_bin (op : Bop) (a b : E) : ev call (.bin op a b) s g = (ev call a s g).bind fun v g1 => (ev call b s g1).bind fun w g2 => binV op v w g2 := rfl
@[simp] theorem ev_neg (a : E) : ev call (.neg a) s g = (ev call a s g).bind fun v g1 => match v with
    | .int i => .ok (.int (-i)) g1
    | _ => .bad := rfl
@[simp] theorem ev_cmp (op : Cop) (a b : E) : ev call (.cmp op a b) s g = (ev call a s g).bind fun v g1 => (ev call b s g1).bind fun w g2 => cmpV op v w g2 := rfl
@[simp] theorem ev_chn (op op' : Cop) (a b c : E) : ev call (.chn op op' a b c) s g = (ev call a s g).bind fun v g1 => (ev call b s g1).bind fun w g2 => match cmpO op v w g2 with
    | some true => (ev call c s g2).bind fun u g3 => cmpV op' w u g3
    | some false => .ok (.bl false) g2
    | none => .bad := rfl
@[simp] theorem ev_not (a : E) : ev call (.not a) s g = (ev call a s g).bind fun v g1 => match truO v g1 with
    | some b => .ok (.bl (!b)) g1
    | none => .bad := rfl
@[simp] theorem ev_and (es : Es) : ev call (.and es) s g = evAnd call es s g := rfl
@[simp] theorem ev_or (es : Es) : ev call (.or es) s g = evOr call es s g := rfl
@[simp] theorem ev_ite (c : C) (a b : E) : ev call (.ite c a b) s g = (evT call c s g).bind fun t g1 => if t then ev call a s g1 else ev call b s g1 := rfl
@[simp] theorem ev_tup (es : Es) : ev call (.tup es) s g = (evs call es s g).bind mkT := rfl
@[simp] theorem ev_lst (es : Es) : ev call (.lst es) s g = (evs call es s g).bind mkL := rfl
@[simp] theorem ev_idx (a b : E) : ev call (.idx a b) s g = (ev call a s g).bind fun v g1 => (ev call b s g1).bind fun w g2 => match idxO v w g2 with
    | some x => .ok x g2
    | none => .bad := rfl
@[simp] theorem ev_slc (a : E) (lo hi : B) : ev call (.slc a lo hi) s g = (ev call a s g).bind fun v g1 => (evB call lo s g1).bind fun l g2 => (evB call hi s g2).bind fun h g3 => slcO v l h g3 := rfl
@[simp] theorem ev_rev (a : E) : ev call (.rev a) s g = (ev call a s g).bind revV := rfl
@[simp] theorem ev_call (f : Nat) (es : Es) : ev call (.call f es) s g = (evs call es s g).bind fun vs g1 => call f vs g1 := rfl
@[simp] theorem ev_blt (b : Blt) (es : Es) : ev call (.blt b es) s g = (evs call es s g).bind fun vs g1 => bltV b vs g1 := rfl
@[simp] theorem ev_bm (m : Bm) (o : E) (es : Es) : ev call (.bm m o es) s g = (ev call o s g).bind fun v g1 => if bmT m v g1 then (evs call es s g1).bind fun vs g2 => bmV m v vs g2 else .bad := rfl
/-- the body of a comprehension -/
def cbody (own : List Nat) (tg : Tg) (cond : C) (elt : E) : Val → Gh → R (Option Val) := fun v g2 => match asgT tg v (wipe s own) with
        | none => .bad
        | some s2 => (evT call cond s2 g2).bind fun b g3 =>
          if b then (tidy g3 (ev call elt s2 g3)).bind fun w g4 => .ok (some w) g4 else .ok none g3
@[simp] theorem ev_comp (own : List Nat) (tg : Tg) (k : IK) (its : Es) (cond : C) (elt : E) : ev call (.comp own tg k its cond elt) s g = (evs call its s g).bind fun vs g1 => match mkIter k vs g1 with
    | none => .bad
    | some it => (compG (cbody call s own tg cond elt) it WF 0 [] g1).bind fun ws g2 => new (.lst ws) g2 := rfl
@[simp] theorem ev_lrng1 (a : E) : ev call (.lrng1 a) s g = (ev call a s g).bind fun v g1 => match v with
    | .int j => lrng 0 j g1
    | _ => .bad := rfl
@[simp] theorem ev_lrng2 (a b : E) : ev call (.lrng2 a b) s g = (ev call a s g).bind fun v g1 => (ev call b s g1).bind fun w g2 => match v, w with
    | .int i, .int j => lrng i j g2
    | _, _ => .bad := rfl
@[simp] theorem evB_no : evB call .no s g = .ok none g := rfl
@[simp] theorem evB_e (a : E) : evB call (.e a) s g = (ev call a s g).bind fun v g1 => match v with
    | .int i => .ok (some i) g1
    | _ => .bad := rfl
@[simp] theorem evT_not (a : C) : evT call (.not a) s g = (evT call a s g).bind fun b g1 => .ok (!b) g1 := rfl
@[simp] theorem evT_and (cs : Cs) : evT call (.and cs) s g = evAndT call cs s g := rfl
@[simp] theorem evT_or (cs : Cs) : evT call (.or cs) s g = evOrT call cs s g := rfl
@[simp] theorem evT_ite (c a b : C) : evT call (.ite c a b) s g = (evT call c s g).bind fun t g1 => if t then evT call a s g1 else evT call b s g1 := rfl
@[simp] theorem evT_e (a : E) : evT call (.e a) s g = truR g (ev call a s g) := rfl
@[simp] theorem evAndT_nil : evAndT call .nil s g = .ok true g := rfl
@[simp] theorem evAndT_cons (a : C) (r : Cs) : evAndT call (.cons a r) s g = (evT call a s g).bind fun t g1 => if t then evAndT call r s g1 else .ok false g1 := rfl
@[simp] theorem evOrT_nil : evOrT call .nil s g = .ok false g := rfl
@[simp] theorem evOrT_cons (a : C) (r : Cs) : evOrT call (.cons a r) s g = (evT call a s g).bind fun t g1 => if t then .ok true g1 else evOrT call r s g1 := rfl
@[simp] theorem evAnd_one (a : E) : evAnd call (.cons a .nil) s g = ev call a s g := rfl
@[simp] theorem evAnd_cons (a b : E) (r : Es) : evAnd call (.cons a (.cons b r)) s g = (ev call a s g).bind fun v g1 => match truO v g1 with
    | some true => evAnd call (.cons b r) s g1
    | some false => .ok v g1
    | none => .bad := rfl
@[simp] theorem evOr_one (a : E) : evOr call (.cons a .nil) s g = ev call a s g := rfl
@[simp] theorem evOr_cons (a b : E) (r : Es) : evOr call (.cons a (.cons b r)) s g = (ev call a s g).bind fun v g1 => match truO v g1 with
    | some false => evOr call (.cons b r) s g1
    | some true => .ok v g1
    | none => .bad := rfl
@[simp] theorem evs_nil : evs call .nil s g = .ok [] g := rfl
@[simp] theorem evs_cons (e : E) (r : Es) : evs call (.cons e r) s g = (ev call e s g).bind fun v g1 => (evs call r s g1).bind fun vs g2 => .ok (v :: vs) g2 := rfl
@[simp] theorem ex_exp (e : E) : ex call (.exp e) s g = (tidy g (ev call e s g)).st s fun _ g1 => .nx s g1 := rfl
@[simp] theorem ex_asg (t : Tg) (e : E) : ex call (.asg t e) s g = (tidy g (ev call e s g)).st s fun v g1 => match asgT t v s with
    | some s' => .nx s' g1
    | none => .bad := rfl
@[simp] theorem ex_par (is : List Nat) (es : Es) : ex call (.par is es) s g = (evs call es s g).st s fun vs g1 => match setAll is vs s with
    | some s' => .nx s' g1
    | none => .bad := rfl
@[simp] theorem ex_setI (o i e : E) : ex call (.setI o i e) s g = (tidy g (ev call e s g)).st s fun v g1 => (ev call o s g1).st s fun ov g2 => (ev call i s g2).st s fun iv g3 => match setIG ov iv v g3 with
    | some g4 => .nx s g4
    | none => .bad := rfl
@[simp] theorem ex_set2 (o i o' i' e : E) : ex call (.set2 o i o' i' e) s g = (tidy g (ev call e s g)).st s fun v g1 => match v with
    | .tup [x, y] => (ev call o s g1).st s fun ov g2 => (ev call i s g2).st s fun iv g3 => match setIG ov iv x g3 with
      | some g4 => (ev call o' s g4).st s fun ov' g5 => (ev call i' s g5).st s fun iv' g6 => match setIG ov' iv' y g6 with
        | some g7 => .nx s g7
        | none => .bad
      | none => .bad
    | _ => .bad := rfl
@[simp] theorem ex_aug (i : Nat) (op : Bop) (e : E) : ex call (.aug i op e) s g = match s[i]? with
    | some (some v) => (tidy g (ev call e s g)).st s fun w g1 => (augV op v w g1).st s fun z g2 => .nx (s.set i (some z)) g2
    | _ => .bad := rfl
@[simp] theorem ex_ret (e : E) : ex call (.ret e) s g = (ev call e s g).st s fun v g1 => .rt v g1 := rfl
@[simp] theorem ex_retN : ex call .retN s g = .rt .non g := rfl
@[simp] theorem ex_ife (c : C) (a b : Ss) : ex call (.ife c a b) s g = (evT call c s g).st s fun t g1 => if t then exs call a s g1 else exs call b s g1 := rfl
@[simp] theorem ex_whl (c : C) (b : Ss) : ex call (.whl c b) s g = whlG (fun s g => evT call c s g) (fun s g => exs call b s g) WF s g := rfl
/-- the body of a for -/
def fbody (t : Tg) (b : Ss) : Val → Env → Gh → SR := fun v s2 g2 => match asgT t v s2 with
        | some s3 => exs call b s3 g2
        | none => .bad
@[simp] theorem ex_fr (t : Tg) (k : IK) (its : Es) (b : Ss) : ex call (.fr t k its b) s g = (evs call its s g).st s fun vs g1 => match mkIter k vs g1 with
    | none => .bad
    | some it => forG (fbody call t b) it WF 0 s g1 := rfl
@[simp] theorem ex_rse (c : Nat) (es : Es) : ex call (.rse c es) s g = (evs call es s g).st s fun vs g1 => if vs.all rsOk then .exn ⟨c, vs⟩ s g1 else .bad := rfl
@[simp] theorem ex_tryR (b : Ss) (hs : List (List Bool × Option Nat × H)) : ex call (.tryR b hs) s g = match exs call b s g with
    | .exn x s' g' => hndl hs x s' g'
    | r => r := rfl
@[simp] theorem ex_pass : ex call .pass s g = .nx s g := rfl
@[simp] theorem ex_brk : ex call .brk s g = .bk s g := rfl
@[simp] theorem ex_cnt : ex call .cnt s g = .ct s g := rfl
@[simp] theorem exs_nil : exs call .nil s g = .nx s g := rfl
@[simp] theorem exs_cons (a : S) (r : Ss) : exs call (.cons a r) s g = (ex call a s g).seq fun s' g' => exs call r s' g' := rfl
end
theorem run_eq {ft : Nat → Option Fn} {f : Nat} {d : Fn} (h : ft f = some d) (m : Nat) (vs : List Val) (g : Gh) (hl : vs.length = d.np) : run ft (m + 1) f vs g = tidy g (fin (exs (run ft m) d.body (vs.map some ++ List.replicate (d.ns - d.np) none) g)) := by
  show (match ft f with
    | none => R.bad
    | some d => if vs.length = d.np then tidy g (fin (exs (run ft m) d.body (vs.map some ++ List.replicate (d.ns - d.np) none) g)) else .bad) = _
  rw [h]
  simp only [hl, if_true]
@[simp] theorem asgT_nm (i : Nat) (v : Val) (s : Env) : asgT (.nm i) v s = if i < s.length then some (s.set i (some v)) else none := rfl
@[simp] theorem asgT_tp (ts : Tgs) (xs : List Val) (s : Env) : asgT (.tp ts) (.tup xs) s = asgTs ts xs s := rfl
@[simp] theorem asgTs_nil (s : Env) : asgTs .nil [] s = some s := rfl
@[simp] theorem asgTs_cons (t : Tg) (r : Tgs) (x : Val) (xs : List Val) (s : Env) : asgTs (.cons t r) (x :: xs) s = (asgT t x s).bind (asgTs r xs) := rfl
@[simp] theorem setAll_nil (s : Env) : setAll [] [] s = some s := rfl
@[simp] theorem setAll_cons (i : Nat) (is : List Nat) (v : Val) (vs : List Val) (s : Env) : setAll (i :: is) (v :: vs) s = if i < s.length then setAll is vs (s.set i (some v)) else none := rfl
@[simp] theorem wipe_nil (s : Env) : wipe s [] = s := rfl
@[simp] theorem wipe_cons (s : Env) (v : Nat) (vs : List Nat) : wipe s (v :: vs) = (wipe s vs).set v none := rfl

/-! ### what is let go -/
mutual
theorem okv_mono {m n : Nat} (h : m ≤ n) : ∀ v : Val, okv m v = true → okv n v = true
  | .ref k, q => by
    have q : decide (k < m) = true := q
    show decide (k < n) = true
    rw [decide_eq_true_iff] at *
    omega
  | .tup xs, q => okvs_mono h xs q
  | .rol xs, q => okvs_mono h xs q
  | .non, _ => rfl
  | .bl _, _ => rfl
  | .int _, _ => rfl
  | .str _, _ => rfl
theorem okvs_mono {m n : Nat} (h : m ≤ n) : ∀ v : List Val, okvs m v = true → okvs n v = true
  | [], _ => rfl
  | x :: xs, q => by
    have q : (okv m x && okvs m xs) = true := q
    rw [Bool.and_eq_true_iff] at q
    show (okv n x && okvs n xs) = true
    rw [okv_mono h x q.1, okvs_mono h xs q.2]; rfl
end
@[simp] theorem okv_non (n : Nat) : okv n .non = true := rfl
@[simp] theorem okv_bl (n : Nat) (b : Bool) : okv n (.bl b) = true := rfl
@[simp] theorem okv_int (n : Nat) (i : Int) : okv n (.int i) = true := rfl
@[simp] theorem okv_str (n : Nat) (i : List Nat) : okv n (.str i) = true := rfl
@[simp] theorem okv_ref (n m : Nat) : okv n (.ref m) = decide (m < n) := rfl
@[simp] theorem okv_tup (n : Nat) (xs : List Val) : okv n (.tup xs) = okvs n xs := rfl
@[simp] theorem okv_rol (n : Nat) (xs : List Val) : okv n (.rol xs) = okvs n xs := rfl
@[simp] theorem okvs_nil (n : Nat) : okvs n [] = true := rfl
@[simp] theorem okvs_cons (n : Nat) (x : Val) (xs : List Val) : okvs n (x :: xs) = (okv n x && okvs n xs) := rfl
@[simp] theorem okc_lst (n : Nat) (xs : List Val) : okc n (.lst xs) = okvs n xs := rfl
theorem okvs_of {n : Nat} : ∀ {xs : List Val}, (∀ x ∈ xs, okv n x = true) → okvs n xs = true
  | [], _ => rfl
  | x :: xs, h => by rw [okvs_cons, h x List.mem_cons_self, okvs_of fun y hy => h y (List.mem_cons_of_mem _ hy)]; rfl
@[simp] theorem okvs_app (n : Nat) : ∀ (xs ys : List Val), okvs n (xs ++ ys) = (okvs n xs && okvs n ys)
  | [], ys => by simp
  | x :: xs, ys => by simp [okvs_app n xs ys, Bool.and_assoc]
@[simp] theorem okvs_int (n : Nat) (l : List Int) : okvs n (l.map Val.int) = true := okvs_of fun x hx => by
  obtain ⟨i, _, rfl⟩ := List.mem_map.mp hx; rfl
@[simp] theorem okvs_str (n : Nat) (l : List (List Nat)) : okvs n (l.map Val.str) = true := okvs_of fun x hx => by
  obtain ⟨i, _, rfl⟩ := List.mem_map.mp hx; rfl
@[simp] theorem okg_app (n : Nat) : ∀ (g l : Gh), okg n g (g ++ l) = true
  | [], l => by cases l <;> rfl
  | c :: g, l => by
    show ((decide (c = c) || okc n c) && okg n g (g ++ l)) = true
    rw [okg_app n g l]; simp
@[simp] theorem okg_self (n : Nat) (g : Gh) : okg n g g = true := by
  have := okg_app n g []
  simpa using this
@[simp] theorem okg_cons (n : Nat) (c c' : Cell) (g g' : Gh) : okg n (c :: g) (c' :: g') = ((decide (c = c') || okc n c') && okg n g g') := rfl
@[simp] theorem okg_nil (n : Nat) (g' : Gh) : okg n [] g' = true := by cases g' <;> rfl
theorem okg_set {n : Nat} {c : Cell} (hc : okc n c = true) : ∀ (g l : Gh) (i : Nat), okg n g (g.set i c ++ l) = true
  | [], l, i => by simp
  | d :: g, l, 0 => by simp [hc]
  | d :: g, l, i + 1 => by simp [okg_set hc g l i]
@[simp] theorem tidy_exn (g : Gh) (x : Exn) (g' : Gh) : tidy g (.exn x g') = if okg g.length g g' && okvs g.length x.fs then .exn x (g'.take g.length) else .exn x g' := rfl
@[simp] theorem tidy_bad (g : Gh) : tidy g .bad = .bad := rfl
theorem tidy_eq (g : Gh) (v : Val) (g' : Gh) : tidy g (.ok v g') = if okg g.length g g' then
      if okv g.length v then .ok v (g'.take g.length)
      else match v with
        | .ref m => match g'[m]? with
          | some c => if okc g.length c then .ok (.ref g.length) (g'.take g.length ++ [c]) else .ok v g'
          | none => .ok v g'
        | _ => .ok v g'
    else .ok v g' := by
  cases v <;> rfl
@[simp] theorem tidy_non (g g' : Gh) : tidy g (.ok .non g') = if okg g.length g g' then .ok .non (g'.take g.length) else .ok .non g' := by rw [tidy_eq]; simp
@[simp] theorem tidy_bl (b : Bool) (g g' : Gh) : tidy g (.ok (.bl b) g') = if okg g.length g g' then .ok (.bl b) (g'.take g.length) else .ok (.bl b) g' := by rw [tidy_eq]; simp
@[simp] theorem tidy_int (b : Int) (g g' : Gh) : tidy g (.ok (.int b) g') = if okg g.length g g' then .ok (.int b) (g'.take g.length) else .ok (.int b) g' := by rw [tidy_eq]; simp
@[simp] theorem tidy_str (b : List Nat) (g g' : Gh) : tidy g (.ok (.str b) g') = if okg g.length g g' then .ok (.str b) (g'.take g.length) else .ok (.str b) g' := by rw [tidy_eq]; simp
@[simp] theorem tidy_tup (b : List Val) (g g' : Gh) : tidy g (.ok (.tup b) g') = if okg g.length g g' && okvs g.length b then .ok (.tup b) (g'.take g.length) else .ok (.tup b) g' := by
  rw [tidy_eq]
  by_cases h : okg g.length g g' = true <;> by_cases h2 : okvs g.length b = true <;> simp [h, h2]
@[simp] theorem tidy_ref (m : Nat) (g g' : Gh) : tidy g (.ok (.ref m) g') = if okg g.length g g' then (if m < g.length then .ok (.ref m) (g'.take g.length) else match g'[m]? with
    | some c => if okc g.length c then .ok (.ref g.length) (g'.take g.length ++ [c]) else .ok (.ref m) g'
    | none => .ok (.ref m) g') else .ok (.ref m) g' := by
  rw [tidy_eq]
  simp
@[simp] theorem truR_eq (g : Gh) (r : R Val) : truR g r = (tidy g r).bind fun v g' => match truO v g' with
    | some b => .ok b g'
    | none => .bad := by
  unfold truR
  cases tidy g r <;> rfl

/-! ### loops -/
theorem for_rule {body : Val → Env → Gh → SR} {it : IterV} {xs : List Val} (I : Nat → Env → Gh → Prop) (hw : ∀ i s g, I i s g → i ≤ xs.length → nxt g i it = some xs[i]?)
    (hs : ∀ i x s g, I i s g → xs[i]? = some x → ∃ s' g', (body x s g = .nx s' g' ∨ body x s g = .ct s' g') ∧ I (i + 1) s' g') :
    ∀ (n i : Nat) (s : Env) (g : Gh), xs.length - i < n → i ≤ xs.length → I i s g → ∃ s' g', forG body it n i s g = .nx s' g' ∧ I xs.length s' g'
  | 0, i, s, g, h, _, _ => by omega
  | n + 1, i, s, g, hn, hi, h => by
    show ∃ s' g', (match nxt g i it with
      | none => SR.bad
      | some none => SR.nx s g
      | some (some v) => match body v s g with
        | .nx s' g' => forG body it n (i + 1) s' g'
        | .ct s' g' => forG body it n (i + 1) s' g'
        | .bk s' g' => .nx s' g'
        | r => r) = .nx s' g' ∧ _
    rw [hw i s g h hi]
    cases hx : xs[i]? with
    | none =>
      rw [List.getElem?_eq_none_iff] at hx
      have e : i = xs.length := by omega
      subst e
      exact ⟨s, g, rfl, h⟩
    | some v =>
      have hlt := (List.getElem?_eq_some_iff.mp hx).1
      obtain ⟨s', g', e, h'⟩ := hs i v s g h hx
      have ih := for_rule I hw hs n (i + 1) s' g' (by omega) (by omega) h'
      rcases e with e | e
      · simp only [e]; exact ih
      · simp only [e]; exact ih
/-- a for over a thing, by an invariant -/
theorem for_inv {body : Val → Env → Gh → SR} {it : IterV} {xs : List Val} {s : Env} {g : Gh} (I : Nat → Env → Gh → Prop) (h0 : I 0 s g) (hw : ∀ i s g, I i s g → i ≤ xs.length → nxt g i it = some xs[i]?) (hlen : xs.length < WF)
    (hs : ∀ i x s g, I i s g → xs[i]? = some x → ∃ s' g', (body x s g = .nx s' g' ∨ body x s g = .ct s' g') ∧ I (i + 1) s' g') :
    ∃ s' g', forG body it WF 0 s g = .nx s' g' ∧ I xs.length s' g' := for_rule I hw hs WF 0 s g (by omega) (Nat.zero_le _) h0
theorem comp_rule {body : Val → Gh → R (Option Val)} {it : IterV} {xs : List Val} (I : Nat → List Val → Gh → Prop) (hw : ∀ i a g, I i a g → i ≤ xs.length → nxt g i it = some xs[i]?) (hsz : ∀ i a g, I i a g → a.length ≤ i) (hl : xs.length ≤ SL)
    (hs : ∀ i x a g, I i a g → xs[i]? = some x → ∃ o g', body x g = .ok o g' ∧ I (i + 1) (a ++ o.toList) g') :
    ∀ (n i : Nat) (a : List Val) (g : Gh), xs.length - i < n → i ≤ xs.length → I i a g → ∃ a' g', compG body it n i a g = .ok a' g' ∧ I xs.length a' g'
  | 0, i, a, g, h, _, _ => by omega
  | n + 1, i, a, g, hn, hi, h => by
    show ∃ a' g', (match nxt g i it with
      | none => R.bad
      | some none => R.ok a g
      | some (some v) => match body v g with
        | .ok none g' => compG body it n (i + 1) a g'
        | .ok (some w) g' => if a.length < SL then compG body it n (i + 1) (a ++ [w]) g' else .bad
        | .exn _ _ => .bad
        | .bad => .bad) = .ok a' g' ∧ _
    rw [hw i a g h hi]
    cases hx : xs[i]? with
    | none =>
      rw [List.getElem?_eq_none_iff] at hx
      have e : i = xs.length := by omega
      subst e
      exact ⟨a, g, rfl, h⟩
    | some v =>
      have hlt := (List.getElem?_eq_some_iff.mp hx).1
      obtain ⟨o, g', e, h'⟩ := hs i v a g h hx
      have ih := comp_rule I hw hsz hl hs n (i + 1) _ g' (by omega) (by omega) h'
      simp only [e]
      cases o with
      | none => simpa using ih
      | some w =>
        have := hsz i a g h
        simp only [show a.length < SL by omega, if_true]
        exact ih
theorem comp_inv {body : Val → Gh → R (Option Val)} {it : IterV} {xs : List Val} {g : Gh} (I : Nat → List Val → Gh → Prop) (h0 : I 0 [] g) (hw : ∀ i a g, I i a g → i ≤ xs.length → nxt g i it = some xs[i]?) (hsz : ∀ i a g, I i a g → a.length ≤ i) (hl : xs.length ≤ SL)
    (hs : ∀ i x a g, I i a g → xs[i]? = some x → ∃ o g', body x g = .ok o g' ∧ I (i + 1) (a ++ o.toList) g') : ∃ a' g', compG body it WF 0 [] g = .ok a' g' ∧ I xs.length a' g' :=
  comp_rule I hw hsz hl hs WF 0 [] g (Nat.lt_of_le_of_lt (Nat.le_trans (Nat.sub_le _ _) hl) (by decide)) (Nat.zero_le _) h0
theorem filterMap_take_succ {α β : Type} (f : α → Option β) {l : List α} {i : Nat} {x : α} (h : l[i]? = some x) : (l.take (i + 1)).filterMap f = (l.take i).filterMap f ++ (f x).toList := by
  rw [List.take_succ, h, List.filterMap_append]
  cases hf : f x <;> simp [hf]
/-- a comprehension whose elements change nothing -/
theorem comp_pure {body : Val → Gh → R (Option Val)} {it : IterV} {xs : List Val} {g : Gh} (f : Val → Option Val) (hw : ∀ i, nxt g i it = some xs[i]?) (hl : xs.length ≤ SL) (hs : ∀ x ∈ xs, body x g = .ok (f x) g) :
    compG body it WF 0 [] g = .ok (xs.filterMap f) g := by
  obtain ⟨a', g', e, h1, h2⟩ := comp_inv (body := body) (it := it) (xs := xs) (g := g) (fun i a g' => g' = g ∧ a = (xs.take i).filterMap f ∧ a.length ≤ i) ⟨rfl, by simp, by simp⟩ (fun i a g' h _ => by rw [h.1]; exact hw i) (fun i a g h => h.2.2) hl
    (fun i x a g' h hx => ⟨f x, g', by rw [h.1]; exact hs x (List.mem_of_getElem? hx), h.1, by rw [filterMap_take_succ f hx, h.2.1], by
      rw [List.length_append]
      have := h.2.2
      cases f x <;> simp <;> omega⟩)
  rw [e, h1, h2.1, List.take_length]
@[simp] theorem nxt_items (g : Gh) (i : Nat) (xs : List Val) : nxt g i (.items xs) = some xs[i]? := rfl

/-- a for that is left by return at its k-th turn -/
theorem for_ret_rule {body : Val → Env → Gh → SR} {it : IterV} {xs : List Val} {k : Nat} {v : Val} {g2 : Gh} (I : Nat → Env → Gh → Prop) (hw : ∀ i s g, I i s g → i ≤ xs.length → nxt g i it = some xs[i]?) (hk : k < xs.length)
    (hs : ∀ i x s g, i < k → I i s g → xs[i]? = some x → ∃ s' g', (body x s g = .nx s' g' ∨ body x s g = .ct s' g') ∧ I (i + 1) s' g') (he : ∀ x s g, I k s g → xs[k]? = some x → body x s g = .rt v g2) :
    ∀ (n i : Nat) (s : Env) (g : Gh), k - i < n → i ≤ k → I i s g → forG body it n i s g = .rt v g2
  | 0, i, s, g, h, _, _ => by omega
  | n + 1, i, s, g, hn, hi, h => by
    show (match nxt g i it with
      | none => SR.bad
      | some none => SR.nx s g
      | some (some v) => match body v s g with
        | .nx s' g' => forG body it n (i + 1) s' g'
        | .ct s' g' => forG body it n (i + 1) s' g'
        | .bk s' g' => .nx s' g'
        | r => r) = _
    have hlt : i < xs.length := by omega
    rw [hw i s g h (by omega), List.getElem?_eq_getElem hlt]
    by_cases e : i = k
    · subst e
      simp only [he _ s g h (List.getElem?_eq_getElem hlt)]
    · obtain ⟨s', g', e1, h'⟩ := hs i _ s g (by omega) h (List.getElem?_eq_getElem hlt)
      have ih := for_ret_rule I hw hk hs he n (i + 1) s' g' (by omega) (by omega) h'
      rcases e1 with e1 | e1
      · simp only [e1]; exact ih
      · simp only [e1]; exact ih
theorem for_ret {body : Val → Env → Gh → SR} {it : IterV} {xs : List Val} {k : Nat} {v : Val} {s : Env} {g g2 : Gh} (I : Nat → Env → Gh → Prop) (h0 : I 0 s g) (hw : ∀ i s g, I i s g → i ≤ xs.length → nxt g i it = some xs[i]?) (hk : k < xs.length) (hlen : xs.length < WF)
    (hs : ∀ i x s g, i < k → I i s g → xs[i]? = some x → ∃ s' g', (body x s g = .nx s' g' ∨ body x s g = .ct s' g') ∧ I (i + 1) s' g') (he : ∀ x s g, I k s g → xs[k]? = some x → body x s g = .rt v g2) : forG body it WF 0 s g = .rt v g2 :=
  for_ret_rule I hw hk hs he WF 0 s g (by omega) (Nat.zero_le _) h0
/-- a while, by an invariant with a number that falls -/
theorem whl_rule {cond : Env → Gh → R Bool} {body : Env → Gh → SR} {Post : Env → Gh → Prop} (I : Nat → Env → Gh → Prop)
    (h : ∀ n s g, I n s g → (∃ g1, cond s g = .ok false g1 ∧ Post s g1) ∨ ∃ g1 s' g' m, cond s g = .ok true g1 ∧ (body s g1 = .nx s' g' ∨ body s g1 = .ct s' g') ∧ m < n ∧ I m s' g') :
    ∀ (F n : Nat) (s : Env) (g : Gh), n < F → I n s g → ∃ s' g', whlG cond body F s g = .nx s' g' ∧ Post s' g'
  | 0, n, s, g, hn, _ => by omega
  | F + 1, n, s, g, hn, hi => by
    show ∃ s' g', ((cond s g).st s fun b g1 =>
      if b then match body s g1 with
        | .nx s' g' => whlG cond body F s' g'
        | .ct s' g' => whlG cond body F s' g'
        | .bk s' g' => .nx s' g'
        | r => r
      else .nx s g1) = .nx s' g' ∧ _
    rcases h n s g hi with ⟨g1, e, hp⟩ | ⟨g1, s', g', m, e, e2, hm, h'⟩
    · rw [e]
      exact ⟨s, g1, rfl, hp⟩
    · rw [e]
      have ih := whl_rule I h F m s' g' (by omega) h'
      rcases e2 with e2 | e2
      · simp only [st_ok, e2, if_true]; exact ih
      · simp only [st_ok, e2, if_true]; exact ih
theorem whl_inv {cond : Env → Gh → R Bool} {body : Env → Gh → SR} {Post : Env → Gh → Prop} {n : Nat} {s : Env} {g : Gh} (I : Nat → Env → Gh → Prop) (h0 : I n s g) (hn : n < WF)
    (h : ∀ n s g, I n s g → (∃ g1, cond s g = .ok false g1 ∧ Post s g1) ∨ ∃ g1 s' g' m, cond s g = .ok true g1 ∧ (body s g1 = .nx s' g' ∨ body s g1 = .ct s' g') ∧ m < n ∧ I m s' g') :
    ∃ s' g', whlG cond body WF s g = .nx s' g' ∧ Post s' g' := whl_rule I h WF n s g hn h0
end KQ

namespace KQ
open KM
/-! ### the operations, rule by rule -/
/-- a text many times -/
@[irreducible] def rept (k : Int) (a : List Nat) : List Nat := (List.replicate k.toNat a).flatten
section
variable (g : Gh)
@[simp] theorem add_int (i j : Int) : binV .add (.int i) (.int j) g = .ok (.int (i + j)) g := rfl
@[simp] theorem add_str (a b : List Nat) : binV .add (.str a) (.str b) g = mkS (a ++ b) g := rfl
@[simp] theorem add_tup (a b : List Val) : binV .add (.tup a) (.tup b) g = mkT (a ++ b) g := rfl
@[simp] theorem add_ref (m n : Nat) : binV .add (.ref m) (.ref n) g = match g[m]?, g[n]? with
      | some (.lst a), some (.lst b) => mkL (a ++ b) g
      | _, _ => .bad := rfl
@[simp] theorem sub_int (i j : Int) : binV .sub (.int i) (.int j) g = .ok (.int (i - j)) g := rfl
@[simp] theorem mul_int (i j : Int) : binV .mul (.int i) (.int j) g = if (decide (-(2 ^ 64) < i) && decide (i < 2 ^ 64)) || (decide (-(2 ^ 64) < j) && decide (j < 2 ^ 64)) then .ok (.int (i * j)) g else .bad := rfl
@[simp] theorem mul_str (a : List Nat) (k : Int) : binV .mul (.str a) (.int k) g = if intsIn k && decide (a.length * k.toNat ≤ SL) then .ok (.str (rept k a)) g else .bad := by
  unfold rept; rfl
@[simp] theorem mul_ref (m : Nat) (k : Int) : binV .mul (.ref m) (.int k) g = match g[m]? with
    | some (.lst a) => if intsIn k && decide (a.length * k.toNat ≤ SL) then new (.lst (List.replicate k.toNat a).flatten) g else .bad
    | _ => .bad := rfl
@[simp] theorem fdiv_int (i j : Int) : binV .fdiv (.int i) (.int j) g = if decide (0 < j) && decide (j < 1073741824) then .ok (.int (i / j)) g else .bad := rfl
@[simp] theorem mod_int (i j : Int) : binV .mod (.int i) (.int j) g = if decide (0 < j) then .ok (.int (i % j)) g else .bad := rfl
@[simp] theorem pow_int (i j : Int) : binV .pow (.int i) (.int j) g = if decide (0 ≤ j) && decide (j ≤ 1000) && decide (i.natAbs < 2 ^ 64) then .ok (.int (i ^ j.toNat)) g else .bad := rfl
theorem mkS_ok {cs : List Nat} (h : cs.length ≤ SL) : mkS cs g = .ok (.str cs) g := if_pos h
theorem mkT_ok {cs : List Val} (h : cs.length ≤ SL) : mkT cs g = .ok (.tup cs) g := if_pos h
theorem mkL_ok {cs : List Val} (h : cs.length ≤ SL) : mkL cs g = .ok (.ref g.length) (g ++ [.lst cs]) := if_pos h
theorem SL_eq : SL = 1000000 := rfl
theorem WF_eq : WF = 100000000 := rfl
@[simp] theorem new_eq (c : Cell) : new c g = .ok (.ref g.length) (g ++ [c]) := rfl
/-- a few items -/
@[simp] theorem mkT_nil : mkT [] g = .ok (.tup []) g := rfl
@[simp] theorem mkT_1 (a : Val) : mkT [a] g = .ok (.tup [a]) g := rfl
@[simp] theorem mkT_2 (a b : Val) : mkT [a, b] g = .ok (.tup [a, b]) g := rfl
@[simp] theorem mkT_3 (a b c : Val) : mkT [a, b, c] g = .ok (.tup [a, b, c]) g := rfl
@[simp] theorem mkT_4 (a b c d : Val) : mkT [a, b, c, d] g = .ok (.tup [a, b, c, d]) g := rfl
@[simp] theorem mkT_5 (a b c d e : Val) : mkT [a, b, c, d, e] g = .ok (.tup [a, b, c, d, e]) g := rfl
@[simp] theorem mkL_nil : mkL [] g = .ok (.ref g.length) (g ++ [.lst []]) := rfl
@[simp] theorem mkL_1 (a : Val) : mkL [a] g = .ok (.ref g.length) (g ++ [.lst [a]]) := rfl
@[simp] theorem mkL_2 (a b : Val) : mkL [a, b] g = .ok (.ref g.length) (g ++ [.lst [a, b]]) := rfl
@[simp] theorem mkL_3 (a b c : Val) : mkL [a, b, c] g = .ok (.ref g.length) (g ++ [.lst [a, b, c]]) := rfl
@[simp] theorem mkL_4 (a b c d : Val) : mkL [a, b, c, d] g = .ok (.ref g.length) (g ++ [.lst [a, b, c, d]]) := rfl
@[simp] theorem mkL_5 (a b c d e : Val) : mkL [a, b, c, d, e] g = .ok (.ref g.length) (g ++ [.lst [a, b, c, d, e]]) := rfl
@[simp] theorem lstAt_eq (n : Nat) : lstAt g n = match g[n]? with
  | some (.lst xs) => some xs
  | _ => none := rfl
@[simp] theorem cmpV_eq (op : Cop) (v w : Val) : cmpV op v w g = match cmpO op v w g with
  | some b => .ok (.bl b) g
  | none => .bad := rfl
@[simp] theorem cmpO_eq (v w : Val) : cmpO .eq v w g = eqO v w g := rfl
@[simp] theorem cmpO_ne (v w : Val) : cmpO .ne v w g = (eqO v w g).map (!·) := rfl
@[simp] theorem cmpO_lt (i j : Int) : cmpO .lt (.int i) (.int j) g = some (decide (i < j)) := rfl
@[simp] theorem cmpO_le (i j : Int) : cmpO .le (.int i) (.int j) g = some (decide (i ≤ j)) := by
  show some (!decide (j < i)) = _
  by_cases h : j < i
  · simp [h]
  · simp [h]; omega
@[simp] theorem cmpO_gt (i j : Int) : cmpO .gt (.int i) (.int j) g = some (decide (j < i)) := rfl
@[simp] theorem cmpO_ge (i j : Int) : cmpO .ge (.int i) (.int j) g = some (decide (j ≤ i)) := by
  show some (!decide (i < j)) = _
  by_cases h : i < j
  · simp [h]
  · simp [h]; omega
@[simp] theorem cmpO_lts (i j : List Nat) : cmpO .lt (.str i) (.str j) g = some (ltL i j) := rfl
@[simp] theorem cmpO_is (v : Val) : cmpO .is v .non g = some (decide (v = .non)) := rfl
@[simp] theorem cmpO_isnot (v : Val) : cmpO .isnot v .non g = some (!decide (v = .non)) := rfl
@[simp] theorem cmpO_isb (a b : Bool) : cmpO .is (.bl a) (.bl b) g = some (decide (a = b)) := rfl
@[simp] theorem cmpO_isnotb (a b : Bool) : cmpO .isnot (.bl a) (.bl b) g = some (!decide (a = b)) := rfl
@[simp] theorem band_int (i j : Int) : binV .band (.int i) (.int j) g = if decide (0 ≤ i) && decide (0 ≤ j) then .ok (.int ((i.toNat &&& j.toNat : Nat) : Int)) g else .bad := rfl
@[simp] theorem bor_int (i j : Int) : binV .bor (.int i) (.int j) g = if decide (0 ≤ i) && decide (0 ≤ j) then .ok (.int ((i.toNat ||| j.toNat : Nat) : Int)) g else .bad := rfl
@[simp] theorem shl_int (i j : Int) : binV .shl (.int i) (.int j) g = if decide (0 ≤ j) && decide (j ≤ 1000) && decide (i.natAbs < 2 ^ 64) then .ok (.int (i * 2 ^ j.toNat)) g else .bad := rfl
@[simp] theorem shr_int (i j : Int) : binV .shr (.int i) (.int j) g = if decide (0 ≤ j) then .ok (.int (i / 2 ^ j.toNat)) g else .bad := rfl
@[simp] theorem ev_lset_rule (call : Call) (a : E) (s : Env) : ev call (.lset a) s g = (ev call a s g).bind fun v g1 => lsetV v g1 := rfl
@[simp] theorem lsetV_ref (n : Nat) : lsetV (.ref n) g = match (lstAt g n).bind intsOf with
    | some ns => if decide ns.Nodup && decide (ns.length ≤ 4000) then .ok (.int (ns.length : Nat)) g else .bad
    | none => .bad := rfl
@[simp] theorem ev_isS_rule (call : Call) (a : E) (s : Env) : ev call (.isS a) s g = (ev call a s g).bind fun v g1 => isSV v g1 := rfl
@[simp] theorem isSV_str (s : List Nat) : isSV (.str s) g = .ok (.bl true) g := rfl
@[simp] theorem isSV_int (i : Int) : isSV (.int i) g = .ok (.bl false) g := rfl
@[simp] theorem isSV_non : isSV .non g = .ok (.bl false) g := rfl
@[simp] theorem isSV_tup (xs : List Val) : isSV (.tup xs) g = .ok (.bl false) g := rfl
@[simp] theorem isSV_bl (b : Bool) : isSV (.bl b) g = .ok (.bl false) g := rfl
@[simp] theorem max1_ref (n : Nat) : bltV .max1 [.ref n] g = match (lstAt g n).bind intsOf with
    | some (x :: xs) => .ok (.int (maxL x xs)) g
    | _ => .bad := rfl
@[simp] theorem min1_ref (n : Nat) : bltV .min1 [.ref n] g = match (lstAt g n).bind intsOf with
    | some (x :: xs) => .ok (.int (minL x xs)) g
    | _ => .bad := rfl
@[simp] theorem max3_int (i j k : Int) : bltV .max3 [.int i, .int j, .int k] g = .ok (.int (let m := if j > i then j else i; if k > m then k else m)) g := rfl
@[simp] theorem min3_int (i j k : Int) : bltV .min3 [.int i, .int j, .int k] g = .ok (.int (let m := if j < i then j else i; if k < m then k else m)) g := rfl
theorem sorted_ints (n : Nat) (xs : List Val) (is : List Int) (h : g[n]? = some (.lst xs)) (hi : intsOf xs = some is) : bltV .sorted [.ref n] g = new (.lst ((isrt is).map .int)) g := by
  show (match lstAt g n with
    | some xs => match intsOf xs with
      | some is => new (.lst ((isrt is).map .int)) g
      | none => match strsOf xs with
        | some ss => if ss.length < 64 then new (.lst ((ssrt ss).map .str)) g else R.bad
        | none => R.bad
    | none => R.bad) = _
  unfold lstAt
  rw [h]; simp only [hi]
theorem sorted_strs (n : Nat) (ss : List (List Nat)) (h : g[n]? = some (.lst (ss.map .str))) (hl : ss.length < 64) : bltV .sorted [.ref n] g = new (.lst ((ssrt ss).map .str)) g := by
  cases ss with
  | nil => exact sorted_ints g n [] [] h rfl
  | cons s r =>
    have e : strsOf ((s :: r).map Val.str) = some (s :: r) := by
      have : ∀ l : List (List Nat), strsOf (l.map Val.str) = some l := fun l => by
        induction l with
        | nil => rfl
        | cons x l ih => show (strsOf (l.map Val.str)).map (x :: ·) = _; rw [ih]; rfl
      exact this _
    show (match lstAt g n with
      | some xs => match intsOf xs with
        | some is => new (.lst ((isrt is).map .int)) g
        | none => match strsOf xs with
          | some ss => if ss.length < 64 then new (.lst ((ssrt ss).map .str)) g else R.bad
          | none => R.bad
      | none => R.bad) = _
    unfold lstAt
    rw [h]
    show (match intsOf ((s :: r).map Val.str) with
        | some is => new (.lst ((isrt is).map .int)) g
        | none => match strsOf ((s :: r).map Val.str) with
          | some ss => if ss.length < 64 then new (.lst ((ssrt ss).map .str)) g else R.bad
          | none => R.bad) = _
    rw [show intsOf ((s :: r).map Val.str) = none from rfl]
    simp only [e, if_pos hl]
@[simp] theorem bmT_pop1 (n : Nat) : bmT .pop1 (.ref n) g = (lstAt g n).isSome := rfl
@[simp] theorem bmT_sw (s : List Nat) : bmT .startswith (.str s) g = true := rfl
@[simp] theorem bmT_sw2 (s : List Nat) : bmT .sw2 (.str s) g = true := rfl
@[simp] theorem bmT_ew (s : List Nat) : bmT .endswith (.str s) g = true := rfl
@[simp] theorem bmT_strip (s : List Nat) : bmT .strip (.str s) g = true := rfl
@[simp] theorem bmT_lstrip (s : List Nat) : bmT .lstrip (.str s) g = true := rfl
@[simp] theorem bmT_sindex1 (s : List Nat) : bmT .sindex1 (.str s) g = true := rfl
@[simp] theorem bmT_sindex2 (s : List Nat) : bmT .sindex2 (.str s) g = true := rfl
@[simp] theorem sw_str (s t : List Nat) : bmV .startswith (.str s) [.str t] g = .ok (.bl (t.isPrefixOf s)) g := rfl
@[simp] theorem ew_str (s t : List Nat) : bmV .endswith (.str s) [.str t] g = .ok (.bl (t.isSuffixOf s)) g := rfl
@[simp] theorem sw2_str (s t : List Nat) (i : Int) : bmV .sw2 (.str s) [.str t, .int i] g = if decide (0 ≤ i) then .ok (.bl (decide (i.toNat ≤ s.length) && t.isPrefixOf (s.drop i.toNat))) g else .bad := rfl
@[simp] theorem strip_str (s t : List Nat) : bmV .strip (.str s) [.str t] g = .ok (.str (((s.dropWhile fun c => decide (c ∈ t)).reverse.dropWhile fun c => decide (c ∈ t)).reverse)) g := rfl
@[simp] theorem lstrip_str (s t : List Nat) : bmV .lstrip (.str s) [.str t] g = .ok (.str (s.dropWhile fun c => decide (c ∈ t))) g := rfl
@[simp] theorem sindex1_str (s : List Nat) (c : Nat) : bmV .sindex1 (.str s) [.str [c]] g = match findC c s 0 with
    | some k => .ok (.int (k : Int)) g
    | none => .bad := rfl
@[simp] theorem sindex2_str (s : List Nat) (c : Nat) (i : Int) : bmV .sindex2 (.str s) [.str [c], .int i] g = if decide (0 ≤ i) && decide (i ≤ (s.length : Int)) then match findC c (s.drop i.toNat) i.toNat with
    | some k => .ok (.int (k : Int)) g
    | none => .bad
    else .bad := rfl
@[simp] theorem pop1_ref (n : Nat) (i : Int) : bmV .pop1 (.ref n) [.int i] g = match g[n]? with
    | some (.lst xs) => if xs.length ≤ SL then match ixN xs.length i with
      | some k => match xs[k]? with
        | some v => .ok v (g.set n (.lst (xs.eraseIdx k)))
        | none => .bad
      | none => .bad
      else .bad
    | _ => .bad := rfl
@[simp] theorem pop0_ref (n : Nat) : bmV .pop0 (.ref n) [] g = match g[n]? with
    | some (.lst xs) => match xs[xs.length - 1]? with
      | some v => .ok v (g.set n (.lst xs.dropLast))
      | none => .bad
    | _ => .bad := rfl
@[simp] theorem cmpO_in (v w : Val) : cmpO .in_ v w g = inV v w g := rfl
@[simp] theorem cmpO_notin (v w : Val) : cmpO .notin v w g = (inV v w g).map (!·) := rfl
@[simp] theorem inV_str (c : Nat) (b : List Nat) : inV (.str [c]) (.str b) g = some (decide (c ∈ b)) := rfl
@[simp] theorem inV_tup (v : Val) (xs : List Val) : inV v (.tup xs) g = if sca v && xs.all sca then some (xs.any fun x => eqV x v) else none := rfl
@[simp] theorem inV_ref (v : Val) (n : Nat) : inV v (.ref n) g = match g[n]? with
    | some (.lst xs) => if flat 60 v && flats 60 xs then some (xs.any fun x => eqV x v) else none
    | some (.dic t kvs) => if isKey t v then some (findK v kvs).isSome else none
    | _ => none := rfl
@[simp] theorem eqO_int (i j : Int) : eqO (.int i) (.int j) g = some (i == j) := rfl
@[simp] theorem eqO_bl (i j : Bool) : eqO (.bl i) (.bl j) g = some (i == j) := rfl
@[simp] theorem eqO_str (i j : List Nat) : eqO (.str i) (.str j) g = some (i == j) := rfl
@[simp] theorem eqO_nn : eqO .non .non g = some true := rfl
@[simp] theorem eqO_is (i : Int) (j : List Nat) : eqO (.int i) (.str j) g = some false := rfl
@[simp] theorem eqO_si (i : Int) (j : List Nat) : eqO (.str j) (.int i) g = some false := rfl
@[simp] theorem eqO_ni (i : Int) : eqO .non (.int i) g = some false := rfl
@[simp] theorem eqO_in (i : Int) : eqO (.int i) .non g = some false := rfl
@[simp] theorem eqO_tup (xs ys : List Val) : eqO (.tup xs) (.tup ys) g = if flats 59 xs && flats 59 ys then some (eqVs xs ys) else none := rfl
@[simp] theorem eqO_ref (m n : Nat) : eqO (.ref m) (.ref n) g = match lstAt g m, lstAt g n with
      | some xs, some ys => if flats 60 xs && flats 60 ys then some (eqVs xs ys) else none
      | _, _ => none := rfl
@[simp] theorem truO_non : truO .non g = some false := rfl
@[simp] theorem truO_bl (b : Bool) : truO (.bl b) g = some b := rfl
@[simp] theorem truO_int (i : Int) : truO (.int i) g = some (i != 0) := rfl
@[simp] theorem truO_str (i : List Nat) : truO (.str i) g = some (!i.isEmpty) := rfl
@[simp] theorem truO_tup (i : List Val) : truO (.tup i) g = some (!i.isEmpty) := rfl
@[simp] theorem truO_ref (n : Nat) : truO (.ref n) g = match g[n]? with
    | some (.lst xs) => some (!xs.isEmpty)
    | some (.dic t kvs) => if t then none else some (!kvs.isEmpty)
    | _ => none := rfl
@[simp] theorem idxO_tup (xs : List Val) (i : Int) : idxO (.tup xs) (.int i) g = atI xs i := rfl
@[simp] theorem idxO_str (xs : List Nat) (i : Int) : idxO (.str xs) (.int i) g = (atI xs i).map fun c => .str [c] := rfl
@[simp] theorem idxO_ref (n : Nat) (i : Int) : idxO (.ref n) (.int i) g = match g[n]? with
    | some (.lst xs) => atI xs i
    | some (.dic t kvs) => if isKey t (.int i) then findK (.int i) kvs else none
    | _ => none := rfl
@[simp] theorem idxO_refT (n : Nat) (ks : List Val) : idxO (.ref n) (.tup ks) g = match g[n]? with
    | some (.dic t kvs) => if isKey t (.tup ks) then findK (.tup ks) kvs else none
    | _ => none := by
  show (match g[n]? with
    | some (.lst xs) => none
    | some (.dic t kvs) => if isKey t (.tup ks) then findK (.tup ks) kvs else none
    | _ => none) = _
  cases g[n]? with
  | none => rfl
  | some c => cases c <;> rfl
@[simp] theorem idxO_refS (n : Nat) (k : List Nat) : idxO (.ref n) (.str k) g = match g[n]? with
    | some (.dic t kvs) => if isKey t (.str k) then findK (.str k) kvs else none
    | _ => none := by
  show (match g[n]? with
    | some (.lst xs) => none
    | some (.dic t kvs) => if isKey t (.str k) then findK (.str k) kvs else none
    | _ => none) = _
  cases g[n]? with
  | none => rfl
  | some c => cases c <;> rfl
@[simp] theorem isKey_int (i : Int) : isKey false (.int i) = true := rfl
@[simp] theorem isKey_str (s : List Nat) : isKey false (.str s) = true := rfl
@[simp] theorem isKey_ii (i j : Int) : isKey true (.tup [.int i, .int j]) = true := rfl
theorem isKey_tup {xs : List Val} (h : xs.all isKey1 = true) (h2 : xs.length ≠ 1) : isKey true (.tup xs) = true := by
  show (xs.all isKey1 && decide (xs ∉ ctups)) = true
  rw [h]
  refine decide_eq_true fun hm => h2 ?_
  rw [List.mem_singleton.mp hm]; rfl
@[simp] theorem ev_dnew_rule (call : Call) (t : Bool) (s : Env) : ev call (.dnew t) s g = .ok (.ref g.length) (g ++ [.dic t []]) := rfl
@[simp] theorem bmT_get1 (n : Nat) : bmT .get1 (.ref n) g = match g[n]? with
    | some (.dic _ _) => true
    | _ => false := rfl
@[simp] theorem bmT_get2 (n : Nat) : bmT .get2 (.ref n) g = match g[n]? with
    | some (.dic _ _) => true
    | _ => false := rfl
@[simp] theorem get1_ref (n : Nat) (k : Val) : bmV .get1 (.ref n) [k] g = match g[n]? with
    | some (.dic t kvs) => if isKey t k then .ok ((findK k kvs).getD .non) g else .bad
    | _ => .bad := rfl
@[simp] theorem get2_ref (n : Nat) (k d : Val) : bmV .get2 (.ref n) [k, d] g = match g[n]? with
    | some (.dic t kvs) => if isKey t k then .ok ((findK k kvs).getD d) g else .bad
    | _ => .bad := rfl
@[simp] theorem slcO_tup (xs : List Val) (l h : Option Int) : slcO (.tup xs) l h g = .ok (.tup (cutL xs l h)) g := rfl
@[simp] theorem slcO_str (xs : List Nat) (l h : Option Int) : slcO (.str xs) l h g = .ok (.str (cutL xs l h)) g := rfl
@[simp] theorem slcO_ref (n : Nat) (l h : Option Int) : slcO (.ref n) l h g = match lstAt g n with
    | some xs => new (.lst (cutL xs l h)) g
    | none => .bad := rfl
@[simp] theorem revV_str (xs : List Nat) : revV (.str xs) g = .ok (.str xs.reverse) g := rfl
@[simp] theorem revV_tup (xs : List Val) : revV (.tup xs) g = .ok (.tup xs.reverse) g := rfl
@[simp] theorem revV_ref (n : Nat) : revV (.ref n) g = match lstAt g n with
    | some xs => new (.lst xs.reverse) g
    | none => .bad := rfl
@[simp] theorem len_str (cs : List Nat) : bltV .len [.str cs] g = .ok (.int cs.length) g := rfl
@[simp] theorem len_tup (cs : List Val) : bltV .len [.tup cs] g = .ok (.int cs.length) g := rfl
@[simp] theorem len_rol (cs : List Val) : bltV .len [.rol cs] g = .ok (.int cs.length) g := rfl
@[simp] theorem len_ref (n : Nat) : bltV .len [.ref n] g = match g[n]? with
    | some (.lst xs) => .ok (.int xs.length) g
    | some (.dic t kvs) => if t then .bad else .ok (.int kvs.length) g
    | _ => .bad := rfl
@[simp] theorem tuple_tup (cs : List Val) : bltV .tuple [.tup cs] g = .ok (.tup cs) g := rfl
@[simp] theorem tuple_ref (n : Nat) : bltV .tuple [.ref n] g = match lstAt g n with
    | some xs => .ok (.tup xs) g
    | none => .bad := rfl
@[simp] theorem list_tup (cs : List Val) : bltV .list [.tup cs] g = new (.lst cs) g := rfl
@[simp] theorem list_rol (cs : List Val) : bltV .list [.rol cs] g = new (.lst cs) g := rfl
@[simp] theorem list_ref (n : Nat) : bltV .list [.ref n] g = match lstAt g n with
    | some xs => new (.lst xs) g
    | none => .bad := rfl
@[simp] theorem abs_int (i : Int) : bltV .abs [.int i] g = .ok (.int (if i < 0 then -i else i)) g := rfl
@[simp] theorem min2_int (i j : Int) : bltV .min2 [.int i, .int j] g = .ok (.int (if j < i then j else i)) g := rfl
@[simp] theorem max2_int (i j : Int) : bltV .max2 [.int i, .int j] g = .ok (.int (if j > i then j else i)) g := rfl
@[simp] theorem int1_int (i : Int) : bltV .int1 [.int i] g = .ok (.int i) g := rfl
@[simp] theorem int1_bl (i : Bool) : bltV .int1 [.bl i] g = .ok (.int (b2i i)) g := rfl
@[simp] theorem ord_str (c : Nat) : bltV .ord [.str [c]] g = .ok (.int c) g := rfl
@[simp] theorem sum_ref (n : Nat) : bltV .sum [.ref n] g = match (lstAt g n).bind intsOf with
    | some xs => .ok (.int xs.sum) g
    | none => .bad := rfl
@[simp] theorem all_ref (n : Nat) : bltV .all [.ref n] g = match (lstAt g n).bind blsOf with
    | some xs => .ok (.bl (xs.all id)) g
    | none => .bad := rfl
@[simp] theorem any_ref (n : Nat) : bltV .any [.ref n] g = match (lstAt g n).bind blsOf with
    | some xs => .ok (.bl (xs.any id)) g
    | none => .bad := rfl
@[simp] theorem bmT_append (n : Nat) : bmT .append (.ref n) g = (lstAt g n).isSome := rfl
@[simp] theorem bmT_extend (n : Nat) : bmT .extend (.ref n) g = (lstAt g n).isSome := rfl
@[simp] theorem bmT_pop0 (n : Nat) : bmT .pop0 (.ref n) g = (lstAt g n).isSome := rfl
@[simp] theorem bmT_join (s : List Nat) : bmT .join (.str s) g = true := rfl
@[simp] theorem bmT_split (s : List Nat) : bmT .split (.str s) g = true := rfl
@[simp] theorem bmT_count (s : List Nat) : bmT .count (.str s) g = true := rfl
@[simp] theorem append_ref (n : Nat) (v : Val) : bmV .append (.ref n) [v] g = match g[n]? with
    | some (.lst xs) => if xs.length < SL then .ok .non (g.set n (.lst (xs ++ [v]))) else .bad
    | _ => .bad := rfl
@[simp] theorem join_any (s : List Nat) (w : Val) : bmV .join (.str s) [w] g = match (seqOf w g).bind strsOf with
    | some ss => if (ss.map List.length).sum + ss.length * s.length ≤ SL then .ok (.str (joinL s ss)) g else .bad
    | none => .bad := rfl
@[simp] theorem split_str (s : List Nat) (c : Nat) : bmV .split (.str s) [.str [c]] g = if s.length + 2 ≤ SL then new (.lst ((splitC c s).map .str)) g else .bad := rfl
@[simp] theorem count_str (s : List Nat) (c : Nat) : bmV .count (.str s) [.str [c]] g = .ok (.int (s.count c)) g := rfl
@[simp] theorem seqOf_tup (xs : List Val) : seqOf (.tup xs) g = some xs := rfl
@[simp] theorem seqOf_ref (n : Nat) : seqOf (.ref n) g = lstAt g n := rfl
@[simp] theorem iterOf_tup (xs : List Val) : iterOf (.tup xs) g = some (.items xs) := rfl
@[simp] theorem mkIter_plain (vs : List Val) : mkIter .plain vs g = mkPlain vs g := rfl
@[simp] theorem mkIter_range (vs : List Val) : mkIter .range vs g = mkRange vs := rfl
@[simp] theorem mkIter_enm (vs : List Val) : mkIter .enm vs g = mkEnm vs g := rfl
@[simp] theorem mkIter_zp (vs : List Val) : mkIter .zp vs g = mkZp vs g := rfl
@[simp] theorem mkEnm_tup (xs : List Val) : mkEnm [.tup xs] g = some (.items (enL 0 xs)) := rfl
@[simp] theorem mkEnm_str (cs : List Nat) : mkEnm [.str cs] g = some (.items (enL 0 (cs.map fun c => .str [c]))) := rfl
@[simp] theorem mkPlain_1 (v : Val) : mkPlain [v] g = iterOf v g := rfl
end
theorem enL_get : ∀ (xs : List Val) (n k : Nat), (enL n xs)[k]? = (xs[k]?).map fun v => Val.tup [.int ((n + k : Nat) : Int), v]
  | [], n, k => by simp [enL]
  | x :: xs, n, 0 => by simp [enL]
  | x :: xs, n, k + 1 => by
    show (enL (n + 1) xs)[k]? = _
    rw [enL_get xs (n + 1) k, List.getElem?_cons_succ, show n + 1 + k = n + (k + 1) by omega]
@[simp] theorem enL_len : ∀ (xs : List Val) (n : Nat), (enL n xs).length = xs.length
  | [], _ => rfl
  | x :: xs, n => by simp [enL, enL_len xs]
/-- 0, 1, .. -/
def rng (n : Nat) : List Val := (List.range n).map fun (i : Nat) => .int (i : Int)
/-- i, i + 1, .. -/
def rngF (i : Int) (n : Nat) : List Val := (List.range n).map fun (k : Nat) => .int (i + (k : Int))
@[simp] theorem mkRange_1 (j : Int) : mkRange [.int j] = if intsIn j then some (.items (rng j.toNat)) else none := by
  show (if intsIn j then some (IterV.items ((List.range j.toNat).map fun (i : Nat) => .int (0 + (i : Int)))) else none) = _
  unfold rng
  simp
@[simp] theorem mkRange_2 (i j : Int) : mkRange [.int i, .int j] = if intsIn i && intsIn j then some (.items (rngF i (j - i).toNat)) else none := rfl
/-- i, i + c, .. -/
def rngC (i c : Int) (n : Nat) : List Val := (List.range n).map fun (k : Nat) => .int (i + (k : Int) * c)
theorem mkRange_dn (i j : Int) (h1 : intsIn i = true) (h2 : intsIn j = true) : mkRange [.int i, .int j, .int (-1)] = some (.items (rngC i (-1) (i - j).toNat)) := by
  show (if intsIn i && intsIn j then _ else _) = _
  rw [h1, h2]; rfl
theorem mkRange_up (i j c : Int) (h1 : intsIn i = true) (h2 : intsIn j = true) (c1 : 0 < c) (c2 : c < 1000000) : mkRange [.int i, .int j, .int c] = some (.items (rngC i c (stepN i j c))) := by
  show (if intsIn i && intsIn j then (if c = -1 then some (IterV.items ((List.range (i - j).toNat).map fun (k : Nat) => .int (i + (k : Int) * (-1)))) else if decide (0 < c) && decide (c < 1000000) then some (IterV.items ((List.range (stepN i j c)).map fun (k : Nat) => .int (i + (k : Int) * c))) else none) else none) = _
  rw [h1, h2, decide_eq_true c1, decide_eq_true c2]
  simp only [Bool.and_self, if_true, if_neg (show ¬ c = -1 by omega)]; rfl
@[simp] theorem rngC_len (i c : Int) (n : Nat) : (rngC i c n).length = n := by simp [rngC]
theorem rngC_get {n i : Nat} {b c : Int} {x : Val} (h : (rngC b c n)[i]? = some x) : x = .int (b + i * c) ∧ i < n := by
  unfold rngC at h
  rw [List.getElem?_map] at h
  obtain ⟨j, hj, e⟩ := Option.map_eq_some_iff.mp h
  obtain ⟨h1, h2⟩ := List.getElem?_eq_some_iff.mp hj
  simp at h1 h2
  subst h2
  exact ⟨e.symm, h1⟩
@[simp] theorem rng_len (n : Nat) : (rng n).length = n := by simp [rng]
@[simp] theorem rngF_len (i : Int) (n : Nat) : (rngF i n).length = n := by simp [rngF]
theorem rng_get {n i : Nat} {x : Val} (h : (rng n)[i]? = some x) : x = .int i ∧ i < n := by
  unfold rng at h
  rw [List.getElem?_map] at h
  obtain ⟨j, hj, e⟩ := Option.map_eq_some_iff.mp h
  obtain ⟨h1, h2⟩ := List.getElem?_eq_some_iff.mp hj
  simp at h1 h2
  subst h2
  exact ⟨e.symm, h1⟩
theorem rngF_get {n i : Nat} {b : Int} {x : Val} (h : (rngF b n)[i]? = some x) : x = .int (b + i) ∧ i < n := by
  unfold rngF at h
  rw [List.getElem?_map] at h
  obtain ⟨j, hj, e⟩ := Option.map_eq_some_iff.mp h
  obtain ⟨h1, h2⟩ := List.getElem?_eq_some_iff.mp hj
  simp at h1 h2
  subst h2
  exact ⟨e.symm, h1⟩
@[simp] theorem setIG_ref (n : Nat) (k : Int) (v : Val) (g : Gh) : setIG (.ref n) (.int k) v g = match g[n]? with
    | some (.lst xs) => (ixN xs.length k).map fun j => g.set n (.lst (xs.set j v))
    | some (.dic t kvs) => if isKey t (.int k) && decide (kvs.length < SL) then some (g.set n (.dic t (putKV (.int k) v kvs))) else none
    | _ => none := rfl
@[simp] theorem setIG_refT (n : Nat) (k : List Val) (v : Val) (g : Gh) : setIG (.ref n) (.tup k) v g = match g[n]? with
    | some (.dic t kvs) => if isKey t (.tup k) && decide (kvs.length < SL) then some (g.set n (.dic t (putKV (.tup k) v kvs))) else none
    | _ => none := by
  show (match g[n]? with
    | some (.lst xs) => none
    | some (.dic t kvs) => if isKey t (.tup k) && decide (kvs.length < SL) then some (g.set n (.dic t (putKV (.tup k) v kvs))) else none
    | _ => none) = _
  cases g[n]? with
  | none => rfl
  | some c => cases c <;> rfl
@[simp] theorem setIG_refS (n : Nat) (k : List Nat) (v : Val) (g : Gh) : setIG (.ref n) (.str k) v g = match g[n]? with
    | some (.dic t kvs) => if isKey t (.str k) && decide (kvs.length < SL) then some (g.set n (.dic t (putKV (.str k) v kvs))) else none
    | _ => none := by
  show (match g[n]? with
    | some (.lst xs) => none
    | some (.dic t kvs) => if isKey t (.str k) && decide (kvs.length < SL) then some (g.set n (.dic t (putKV (.str k) v kvs))) else none
    | _ => none) = _
  cases g[n]? with
  | none => rfl
  | some c => cases c <;> rfl
@[simp] theorem augV_add (i j : Int) (g : Gh) : augV .add (.int i) (.int j) g = .ok (.int (i + j)) g := rfl
@[simp] theorem augV_adds (i j : List Nat) (g : Gh) : augV .add (.str i) (.str j) g = mkS (i ++ j) g := rfl
@[simp] theorem augV_sub (i j : Int) (g : Gh) : augV .sub (.int i) (.int j) g = .ok (.int (i - j)) g := rfl
/-! #### lists of texts, of numbers -/
@[simp] theorem strsOf_map : ∀ l : List (List Nat), strsOf (l.map Val.str) = some l
  | [] => rfl
  | x :: l => by
    show (strsOf (l.map Val.str)).map (x :: ·) = _
    rw [strsOf_map l]; rfl
@[simp] theorem intsOf_map : ∀ l : List Int, intsOf (l.map Val.int) = some l
  | [] => rfl
  | x :: l => by
    show (intsOf (l.map Val.int)).map (x :: ·) = _
    rw [intsOf_map l]; rfl
@[simp] theorem blsOf_map : ∀ l : List Bool, blsOf (l.map Val.bl) = some l
  | [] => rfl
  | x :: l => by
    show (blsOf (l.map Val.bl)).map (x :: ·) = _
    rw [blsOf_map l]; rfl
@[simp] theorem flat_non (n : Nat) : flat n .non = true := by cases n <;> rfl
@[simp] theorem flat_bl (n : Nat) (b : Bool) : flat n (.bl b) = true := by cases n <;> rfl
@[simp] theorem flat_int (n : Nat) (i : Int) : flat n (.int i) = true := by cases n <;> rfl
@[simp] theorem flat_str (n : Nat) (i : List Nat) : flat n (.str i) = true := by cases n <;> rfl
@[simp] theorem flat_tup (n : Nat) (xs : List Val) : flat (n + 1) (.tup xs) = flats n xs := rfl
@[simp] theorem flats_nil (n : Nat) : flats n [] = true := by cases n <;> rfl
@[simp] theorem flats_cons (n : Nat) (x : Val) (xs : List Val) : flats n (x :: xs) = (flat n x && flats n xs) := by cases n <;> rfl
theorem flats_of {n : Nat} : ∀ {xs : List Val}, (∀ x ∈ xs, flat n x = true) → flats n xs = true
  | [], _ => by simp
  | x :: xs, h => by rw [flats_cons, h x List.mem_cons_self, flats_of fun y hy => h y (List.mem_cons_of_mem _ hy)]; rfl
@[simp] theorem flats_map_str (n : Nat) (l : List (List Nat)) : flats n (l.map Val.str) = true := flats_of fun x hx => by
  obtain ⟨y, _, rfl⟩ := List.mem_map.mp hx; simp
@[simp] theorem flats_map_int (n : Nat) (l : List Int) : flats n (l.map Val.int) = true := flats_of fun x hx => by
  obtain ⟨y, _, rfl⟩ := List.mem_map.mp hx; simp
@[simp] theorem eqV_int (i j : Int) : eqV (.int i) (.int j) = (i == j) := rfl
@[simp] theorem eqV_str (i j : List Nat) : eqV (.str i) (.str j) = (i == j) := rfl
@[simp] theorem eqV_bl (i j : Bool) : eqV (.bl i) (.bl j) = (i == j) := rfl
@[simp] theorem eqV_tup (i j : List Val) : eqV (.tup i) (.tup j) = eqVs i j := rfl
@[simp] theorem eqV_nn : eqV .non .non = true := rfl
@[simp] theorem eqV_ni (i : Int) : eqV .non (.int i) = false := rfl
@[simp] theorem eqV_in (i : Int) : eqV (.int i) .non = false := rfl
@[simp] theorem eqVs_nil : eqVs [] [] = true := rfl
@[simp] theorem eqVs_cons (x y : Val) (xs ys : List Val) : eqVs (x :: xs) (y :: ys) = (eqV x y && eqVs xs ys) := rfl
@[simp] theorem eqVs_nc (x : Val) (xs : List Val) : eqVs [] (x :: xs) = false := rfl
@[simp] theorem eqVs_cn (x : Val) (xs : List Val) : eqVs (x :: xs) [] = false := rfl
mutual
theorem eqV_refl : ∀ (v : Val) (n : Nat), flat n v = true → eqV v v = true
  | .non, _, _ => rfl
  | .bl b, _, _ => by simp
  | .int b, _, _ => by simp
  | .str b, _, _ => by simp
  | .ref b, n, h => by cases n <;> cases h
  | .rol b, n, h => by cases n <;> cases h
  | .tup xs, 0, h => by cases h
  | .tup xs, n + 1, h => eqVs_refl xs n h
theorem eqVs_refl : ∀ (v : List Val) (n : Nat), flats n v = true → eqVs v v = true
  | [], _, _ => rfl
  | x :: xs, n, h => by
    rw [flats_cons, Bool.and_eq_true_iff] at h
    rw [eqVs_cons, eqV_refl x n h.1, eqVs_refl xs n h.2]; rfl
end
@[simp] theorem eqVs_str : ∀ (l m : List (List Nat)), eqVs (l.map Val.str) (m.map Val.str) = (l == m)
  | [], [] => rfl
  | [], _ :: _ => rfl
  | _ :: _, [] => rfl
  | x :: l, y :: m => by simp [eqVs_str l m]
@[simp] theorem eqVs_int : ∀ (l m : List Int), eqVs (l.map Val.int) (m.map Val.int) = (l == m)
  | [], [] => rfl
  | [], _ :: _ => rfl
  | _ :: _, [] => rfl
  | x :: l, y :: m => by simp [eqVs_int l m]
@[simp] theorem all_sca_str (l : List (List Nat)) : (l.map Val.str).all sca = true := by
  rw [List.all_eq_true]; intro x hx
  obtain ⟨y, _, rfl⟩ := List.mem_map.mp hx; rfl
@[simp] theorem sca_str (i : List Nat) : sca (.str i) = true := rfl
@[simp] theorem sca_int (i : Int) : sca (.int i) = true := rfl
@[simp] theorem sca_non : sca .non = true := rfl
@[simp] theorem sca_bl (b : Bool) : sca (.bl b) = true := rfl
/-! #### places -/
theorem ixN_nat {n i : Nat} (h : i < n) : ixN n (i : Int) = some i := by
  unfold ixN
  rw [if_pos (by omega), if_pos (by omega)]
  simp
theorem atI_nat {α : Type} (xs : List α) (i : Nat) : atI xs (i : Int) = xs[i]? := by
  unfold atI
  by_cases h : i < xs.length
  · rw [ixN_nat h]; rfl
  · unfold ixN
    rw [if_pos (by omega), if_neg (by omega), List.getElem?_eq_none (by omega)]; rfl
theorem atI_of {α : Type} (xs : List α) (i : Int) (h : 0 ≤ i) : atI xs i = xs[i.toNat]? := by
  obtain ⟨n, rfl⟩ := Int.eq_ofNat_of_zero_le h
  rw [atI_nat]; rfl
theorem atI_last {α : Type} (xs : List α) : atI xs (-1) = xs.getLast? := by
  unfold atI ixN
  rw [if_neg (by omega)]
  cases xs with
  | nil => rfl
  | cons x xs =>
    rw [if_pos (by simp; omega)]
    rw [List.getLast?_eq_getElem?]
    simp only [List.length_cons, Option.bind_some, Nat.add_sub_cancel]
    have e : ((-1 : Int) + ((xs.length + 1 : Nat) : Int)).toNat = xs.length := by omega
    rw [e]
@[simp] theorem atI_0 {α : Type} (xs : List α) : atI xs 0 = xs[0]? := atI_nat xs 0
@[simp] theorem atI_1 {α : Type} (xs : List α) : atI xs 1 = xs[1]? := atI_nat xs 1
@[simp] theorem atI_2 {α : Type} (xs : List α) : atI xs 2 = xs[2]? := atI_nat xs 2
@[simp] theorem atI_3 {α : Type} (xs : List α) : atI xs 3 = xs[3]? := atI_nat xs 3
@[simp] theorem ixN_0 (n : Nat) : ixN (n + 1) 0 = some 0 := ixN_nat (n := n + 1) (i := 0) (by omega)
@[simp] theorem ixN_1 (n : Nat) : ixN (n + 2) 1 = some 1 := ixN_nat (n := n + 2) (i := 1) (by omega)
@[simp] theorem ixN_2 (n : Nat) : ixN (n + 3) 2 = some 2 := ixN_nat (n := n + 3) (i := 2) (by omega)
@[simp] theorem ixN_3 (n : Nat) : ixN (n + 4) 3 = some 3 := ixN_nat (n := n + 4) (i := 3) (by omega)

@[simp] theorem okvs_map {α : Type} (n : Nat) (f : α → Val) (l : List α) : okvs n (l.map f) = l.all fun a => okv n (f a) := by
  induction l with
  | nil => rfl
  | cons x l ih => simp [ih]
@[simp] theorem flats_map {α : Type} (n : Nat) (f : α → Val) (l : List α) : flats n (l.map f) = l.all fun a => flat n (f a) := by
  induction l with
  | nil => simp
  | cons x l ih => simp [ih]
@[simp] theorem iterOf_str (cs : List Nat) (g : Gh) : iterOf (.str cs) g = some (.items (cs.map fun c => .str [c])) := rfl
@[simp] theorem nxt_cell (g : Gh) (i n : Nat) : nxt g i (.cell n) = (lstAt g n).map fun xs => xs[i]? := rfl
@[simp] theorem set_last (g : Gh) (c d : Cell) : (g ++ [c]).set g.length d = g ++ [d] := by
  rw [List.set_append_right _ _ (Nat.le_refl _)]; simp
theorem map_ext' {α β : Type} {f g : α → β} : ∀ {l : List α}, (∀ a ∈ l, f a = g a) → l.map f = l.map g
  | [], _ => rfl
  | x :: l, h => by rw [List.map_cons, List.map_cons, h x List.mem_cons_self, map_ext' fun a ha => h a (List.mem_cons_of_mem _ ha)]
/-- a comprehension over items made of other things -/
theorem comp_map {α : Type} {body : Val → Gh → R (Option Val)} {l : List α} {i j : α → Val} {g : Gh} (hl : l.length ≤ SL) (h : ∀ a ∈ l, body (i a) g = .ok (some (j a)) g) : compG body (.items (l.map i)) WF 0 [] g = .ok (l.map j) g := by
  obtain ⟨a', g', e, h1, h2⟩ := comp_inv (body := body) (it := .items (l.map i)) (xs := l.map i) (g := g) (fun k a g' => g' = g ∧ a = (l.take k).map j ∧ a.length ≤ k) ⟨rfl, by simp, by simp⟩ (fun k a g' h _ => rfl) (fun k a g h => h.2.2) (by simpa using hl)
    (fun k x a g' hh hx => by
      rw [List.getElem?_map] at hx
      obtain ⟨y, hy, rfl⟩ := Option.map_eq_some_iff.mp hx
      refine ⟨some (j y), g', by rw [hh.1]; exact h y (List.mem_of_getElem? hy), hh.1, ?_, ?_⟩
      · rw [hh.2.1, List.take_succ, hy]; simp
      · have := hh.2.2
        rw [List.length_append]; simp; omega)
  rw [e, h1, h2.1, List.length_map, List.take_length]
theorem cutL_take {α : Type} (xs : List α) (n : Nat) : cutL xs none (some (n : Int)) = xs.take n := by
  unfold cutL sIx
  simp
theorem cutL_init {α : Type} (xs : List α) : cutL xs none (some (-1)) = xs.dropLast := by
  show (xs.drop 0).take ((if (0 : Int) ≤ -1 then min ((-1 : Int).toNat) xs.length else ((-1 : Int) + xs.length).toNat) - 0) = _
  rw [if_neg (by decide), List.dropLast_eq_take, List.drop_zero]
  congr 1
  omega

@[simp] theorem blsOf_mapc {α : Type} (f : α → Bool) (l : List α) : blsOf (l.map (Val.bl ∘ f)) = some (l.map f) := by rw [← List.map_map, blsOf_map]
@[simp] theorem strsOf_mapc {α : Type} (f : α → List Nat) (l : List α) : strsOf (l.map (Val.str ∘ f)) = some (l.map f) := by rw [← List.map_map, strsOf_map]
@[simp] theorem intsOf_mapc {α : Type} (f : α → Int) (l : List α) : intsOf (l.map (Val.int ∘ f)) = some (l.map f) := by rw [← List.map_map, intsOf_map]
@[simp] theorem blsOf_mapl {α : Type} (f : α → Bool) (l : List α) : blsOf (l.map fun a => Val.bl (f a)) = some (l.map f) := blsOf_mapc f l
@[simp] theorem strsOf_mapl {α : Type} (f : α → List Nat) (l : List α) : strsOf (l.map fun a => Val.str (f a)) = some (l.map f) := strsOf_mapc f l
@[simp] theorem intsOf_mapl {α : Type} (f : α → Int) (l : List α) : intsOf (l.map fun a => Val.int (f a)) = some (l.map f) := intsOf_mapc f l
@[simp] theorem rsOk_str (cs : List Nat) : rsOk (.str cs) = true := rfl

@[simp] theorem okg_app2 (n : Nat) (a b : Gh) : ∀ g : Gh, okg n (g ++ a) (g ++ b) = okg n a b
  | [] => rfl
  | c :: g => by
    show ((decide (c = c) || okc n c) && okg n (g ++ a) (g ++ b)) = _
    rw [okg_app2 n a b g]; simp
@[simp] theorem take_app2 (g l : Gh) (k : Nat) : (g ++ l).take (g.length + k) = g ++ l.take k := List.take_length_add_append k

theorem iterOf_ref (n : Nat) (g : Gh) : iterOf (.ref n) g = match g[n]? with
  | some (.lst _) => some (.cell n)
  | _ => none := by
  unfold iterOf lstAt
  simp only
  split <;> simp_all

@[simp] theorem blsOf_nil : blsOf [] = some [] := rfl
@[simp] theorem blsOf_cons (b : Bool) (r : List Val) : blsOf (.bl b :: r) = (blsOf r).map (b :: ·) := rfl
@[simp] theorem intsOf_nil : intsOf [] = some [] := rfl
@[simp] theorem intsOf_cons (b : Int) (r : List Val) : intsOf (.int b :: r) = (intsOf r).map (b :: ·) := rfl
@[simp] theorem strsOf_nil : strsOf [] = some [] := rfl
@[simp] theorem strsOf_cons (b : List Nat) (r : List Val) : strsOf (.str b :: r) = (strsOf r).map (b :: ·) := rfl

theorem intsIn_nat {n : Nat} (h : n < 1000000000) : intsIn (n : Int) = true := by
  unfold intsIn
  rw [decide_eq_true_iff]; omega
theorem intsIn_of {i : Int} (h : -1000000000 < i) (h2 : i < 1000000000) : intsIn i = true := by
  unfold intsIn
  rw [decide_eq_true_iff]; omega

theorem lrng_ok {i j : Int} (g : Gh) (h : intsIn i = true) (h2 : intsIn j = true) (h3 : (j - i).toNat ≤ SL) : lrng i j g = .ok (.ref g.length) (g ++ [.lst (rngF i (j - i).toNat)]) := by
  unfold lrng
  rw [h, h2, decide_eq_true h3]
  rfl
theorem lrng_nat {n : Nat} (g : Gh) (h : n ≤ 100000) : lrng 0 (n : Int) g = .ok (.ref g.length) (g ++ [.lst (rng n)]) := by
  rw [lrng_ok g rfl (intsIn_nat (by omega)) (by rw [SL_eq]; omega)]
  have e : rngF 0 ((n : Int) - 0).toNat = rng n := by
    unfold rngF rng
    simp
  rw [e]
@[simp] theorem bmT_index (n : Nat) (g : Gh) : bmT .index (.ref n) g = (lstAt g n).isSome := rfl
@[simp] theorem bmT_insert (n : Nat) (g : Gh) : bmT .insert (.ref n) g = (lstAt g n).isSome := rfl
@[simp] theorem index_ref (n : Nat) (v : Val) (g : Gh) : bmV .index (.ref n) [v] g = match g[n]? with
    | some (.lst xs) => if sca v && xs.all sca then match findI v xs 0 with
      | some j => .ok (.int (j : Int)) g
      | none => .bad
      else .bad
    | _ => .bad := rfl
@[simp] theorem extend_tupl (n : Nat) (ys : List Val) (g : Gh) : bmV .extend (.ref n) [.tup ys] g = match g[n]? with
    | some (.lst xs) => if xs.length + ys.length ≤ SL then .ok .non (g.set n (.lst (xs ++ ys))) else .bad
    | _ => .bad := rfl
@[simp] theorem extend_ref (n k : Nat) (g : Gh) : bmV .extend (.ref n) [.ref k] g = match g[n]?, g[k]? with
    | some (.lst xs), some (.lst ys) => if xs.length + ys.length ≤ SL then .ok .non (g.set n (.lst (xs ++ ys))) else .bad
    | _, _ => .bad := rfl
end KQ

namespace KQ
open KM
/-! ### the laws' own drawing: numbers, picks, texts -/
def beginF : Ss := .cons (.asg (.nm 1) (.bin .mod (.bin .add (.bin .add (.bin .mul (.var 1) (.cst (.int 69621))) (.bin .mod (.blt .int1 (.cons (.var 2) .nil)) (.cst (.int 2147483629)))) (.cst (.int 7))) (.cst (.int 2147483647)))) .nil
def beginB : Ss := .cons (.asg (.nm 1) (.cst (.int 1)))
  (.cons (.fr (.nm 2) .plain (.cons (.var 0) .nil) beginF)
  (.cons (.ret (.lst (.cons (.blt .list (.cons (.var 0) .nil)) (.cons (.cst (.int 0)) (.cons (.cst (.int 0)) (.cons (.var 1) .nil)))))) .nil))
def takeB : Ss := .cons (.ife (.and (.cons (.e (.cmp .eq (.idx (.var 0) (.cst (.int 2))) (.cst (.int 0)))) (.cons (.e (.cmp .lt (.idx (.var 0) (.cst (.int 1))) (.blt .len (.cons (.idx (.var 0) (.cst (.int 0))) .nil)))) .nil))) (.cons (.setI (.var 0) (.cst (.int 2)) (.blt .abs (.cons (.blt .int1 (.cons (.idx (.idx (.var 0) (.cst (.int 0))) (.idx (.var 0) (.cst (.int 1)))) .nil)) .nil)))
  (.cons (.setI (.var 0) (.cst (.int 1)) (.bin .add (.idx (.var 0) (.cst (.int 1))) (.cst (.int 1))))
  (.cons (.ife (.e (.cmp .lt (.idx (.var 0) (.cst (.int 2))) (.bin .pow (.cst (.int 10)) (.cst (.int 18))))) (.cons (.asg (.nm 2) (.blt .int1 (.cons (.idx (.var 0) (.cst (.int 2))) .nil)))
  (.cons (.setI (.var 0) (.cst (.int 2)) (.cst (.int 0)))
  (.cons (.ret (.bin .mod (.var 2) (.var 1))) .nil))) (.nil)) .nil))) (.nil))
  (.cons (.ife (.e (.cmp .gt (.idx (.var 0) (.cst (.int 2))) (.cst (.int 0)))) (.cons (.asg (.nm 3) (.bin .mod (.blt .int1 (.cons (.idx (.var 0) (.cst (.int 2))) .nil)) (.var 1)))
  (.cons (.setI (.var 0) (.cst (.int 2)) (.bin .fdiv (.blt .int1 (.cons (.idx (.var 0) (.cst (.int 2))) .nil)) (.var 1)))
  (.cons (.ret (.var 3)) .nil))) (.nil))
  (.cons (.setI (.var 0) (.cst (.int 3)) (.bin .mod (.blt .int1 (.cons (.bin .add (.bin .mul (.idx (.var 0) (.cst (.int 3))) (.cst (.int 48271))) (.cst (.int 11))) .nil)) (.cst (.int 2147483647))))
  (.cons (.ret (.bin .mod (.blt .int1 (.cons (.bin .fdiv (.idx (.var 0) (.cst (.int 3))) (.cst (.int 3))) .nil)) (.var 1))) .nil)))
def pickB (iT : Nat) : Ss := .cons (.ret (.idx (.var 1) (.call iT (.cons (.var 0) (.cons (.blt .len (.cons (.var 1) .nil)) .nil))))) .nil
def textE (iP : Nat) : E := .call iP (.cons (.var 0) (.cons (.var 2) .nil))
def textB (iT iP : Nat) : Ss := .cons (.ret (.bm .join (.cst (.str [])) (.cons (.comp [3] (.nm 3) .range (.cons (.call iT (.cons (.var 0) (.cons (.bin .add (.var 1) (.cst (.int 1))) .nil))) .nil) (.and .nil) (textE iP)) .nil))) .nil

@[simp] theorem okg_set1 {n : Nat} {c : Cell} (hc : okc n c = true) (g : Gh) (i : Nat) : okg n g (g.set i c) = true := by
  have := okg_set hc g [] i
  simpa using this
@[simp] theorem take_set (g : Gh) (i : Nat) (c : Cell) : (g.set i c).take g.length = g.set i c := List.take_of_length_le (by simp)
@[simp] theorem take_app (g l : Gh) : (g ++ l).take g.length = g := by simp
theorem set_get {g : Gh} {n : Nat} {c d : Cell} (h : g[n]? = some c) : (g.set n d)[n]? = some d := by
  rw [List.getElem?_set_self (List.getElem?_eq_some_iff.mp h).1]
theorem lt_get {g : Gh} {n : Nat} {c : Cell} (h : g[n]? = some c) : n < g.length := (List.getElem?_eq_some_iff.mp h).1
/-- what is drawn from: the list at n -/
structure Dr (g : Gh) (n : Nat) : Prop where
  ex : ∃ (p : Nat) (xs : List Int) (i : Nat) (a s : Int), g[n]? = some (.lst [.ref p, .int i, .int a, .int s]) ∧ g[p]? = some (.lst (xs.map .int)) ∧ p < n ∧ 0 ≤ a
section
variable {ft : Nat → Option Fn} {iB iT iP iX : Nat}
theorem take_run (h : ft iT = some ⟨2, 4, takeB⟩) (m : Nat) {g : Gh} {n : Nat} (d : Dr g n) {k : Int} (hk : 0 < k) (hk2 : k < 1073741824) :
    ∃ (r : Int) (c : Cell), run ft (m + 1) iT [.ref n, .int k] g = .ok (.int r) (g.set n c) ∧ 0 ≤ r ∧ r < k ∧ Dr (g.set n c) n := by
  obtain ⟨p, xs, i, a, s, h1, h2, hpl, ha⟩ := d.ex
  have hpn : p ≠ n := Nat.ne_of_lt hpl
  have hn := lt_get h1
  have hp := lt_get h2
  have hset : ∀ c : Cell, (g.set n c)[n]? = some c := fun c => set_get h1
  have hsp : ∀ c : Cell, (g.set n c)[p]? = some (.lst (xs.map .int)) := fun c => by rw [List.getElem?_set_ne (Ne.symm hpn)]; exact h2
  have dr : ∀ (i' : Nat) (a' s' : Int), 0 ≤ a' → Dr (g.set n (.lst [.ref p, .int i', .int a', .int s'])) n := fun i' a' s' h0 => ⟨p, xs, i', a', s', hset _, hsp _, hpl, h0⟩
  rw [run_eq h m _ _ rfl]
  by_cases c1 : a = 0 ∧ (i : Int) < xs.length
  · obtain ⟨rfl, hi⟩ := c1
    have hi' : i < xs.length := by omega
    have hx : (xs.map Val.int)[i]? = some (.int xs[i]) := by rw [List.getElem?_map, List.getElem?_eq_getElem hi']; rfl
    obtain ⟨y, hy, hy0⟩ : ∃ y : Int, (if xs[i] < 0 then -xs[i] else xs[i]) = y ∧ 0 ≤ y := ⟨_, rfl, by split <;> omega⟩
    by_cases c2 : y < 1000000000000000000
    · refine ⟨y % k, .lst [.ref p, .int ((i : Int) + 1), .int 0, .int s], ?_, Int.emod_nonneg _ (by omega), Int.emod_lt_of_pos _ hk, ?_⟩
      · clear hn hp
        simp [takeB, h1, h2, hi', hx, hy, hset, hsp, atI_nat, c2, hk, List.set_set]
      · exact dr (i + 1) 0 s (by omega)
    · refine ⟨y % k, .lst [.ref p, .int ((i : Int) + 1), .int (y / k), .int s], ?_, Int.emod_nonneg _ (by omega), Int.emod_lt_of_pos _ hk, ?_⟩
      · clear hn hp
        simp [takeB, h1, h2, hi', hx, hy, hset, hsp, atI_nat, c2, hk, hk2, List.set_set, show 0 < y by omega]
      · exact dr (i + 1) (y / k) s (Int.ediv_nonneg hy0 (by omega))
  · by_cases c3 : 0 < a
    · refine ⟨a % k, .lst [.ref p, .int i, .int (a / k), .int s], ?_, Int.emod_nonneg _ (by omega), Int.emod_lt_of_pos _ hk, ?_⟩
      · clear hn hp
        simp [takeB, h1, h2, hset, hsp, hk, hk2, c3, List.set_set, show ¬ a = 0 by omega]
      · exact dr i (a / k) s (Int.ediv_nonneg ha (by omega))
    · have a0 : a = 0 := by omega
      subst a0
      have hi : ¬ i < xs.length := fun z => c1 ⟨rfl, by omega⟩
      refine ⟨((s * 48271 + 11) % 2147483647 / 3) % k, .lst [.ref p, .int i, .int 0, .int ((s * 48271 + 11) % 2147483647)], ?_, Int.emod_nonneg _ (by omega), Int.emod_lt_of_pos _ hk, ?_⟩
      · clear hn hp
        simp [takeB, h1, h2, hset, hsp, hi, hk, List.set_set]
      · exact dr i 0 _ (by omega)
theorem Dr.app {g : Gh} {n : Nat} (d : Dr g n) (l : Gh) : Dr (g ++ l) n := by
  obtain ⟨p, xs, i, a, s, h1, h2, h3⟩ := d.ex
  exact ⟨p, xs, i, a, s, by rw [List.getElem?_append_left (lt_get h1)]; exact h1, by rw [List.getElem?_append_left (lt_get h2)]; exact h2, h3⟩
theorem Dr.lt {g : Gh} {n : Nat} (d : Dr g n) : n < g.length := by
  obtain ⟨p, xs, i, a, s, h1, h2, h3⟩ := d.ex
  exact lt_get h1
theorem dr_okc {g : Gh} {n : Nat} {c : Cell} (hn : n < g.length) (d : Dr (g.set n c) n) : okc g.length c = true := by
  obtain ⟨p, xs, i, a, s, h1, h2, h3⟩ := d.ex
  rw [List.getElem?_set_self hn] at h1
  cases h1
  have := lt_get h2
  rw [List.length_set] at this
  simp [this]
theorem dr_okcN {g : Gh} {n N : Nat} {c : Cell} (hn : n < g.length) (hN : n ≤ N) (d : Dr (g.set n c) n) : okc N c = true := by
  obtain ⟨p, xs, i, a, s, h1, h2, h3, _⟩ := d.ex
  rw [List.getElem?_set_self hn] at h1
  cases h1
  simp; omega
@[simp] theorem okg_set2 {n : Nat} {c : Cell} (hc : okc n c = true) (g l : Gh) (i : Nat) : okg n g (g.set i c ++ l) = true := okg_set hc g l i
@[simp] theorem take_set_app (g l : Gh) (i : Nat) (c : Cell) : (g.set i c ++ l).take g.length = g.set i c := by
  have : (g.set i c ++ l).take (g.set i c).length = g.set i c := by simp
  rw [List.length_set] at this; exact this
/-- a text is picked from -/
theorem pick_str (hT : ft iT = some ⟨2, 4, takeB⟩) (hP : ft iP = some ⟨2, 2, pickB iT⟩) (m : Nat) {g : Gh} {n : Nat} (d : Dr g n) {cs : List Nat} (h0 : cs ≠ []) (h1 : cs.length < 1073741824) :
    ∃ (x : Nat) (c : Cell), run ft (m + 2) iP [.ref n, .str cs] g = .ok (.str [x]) (g.set n c) ∧ x ∈ cs ∧ Dr (g.set n c) n := by
  obtain ⟨r, c, e, hr0, hr1, d'⟩ := take_run hT m d (k := cs.length) (by have := List.length_pos_iff.mpr h0; omega) (by omega)
  have hlt : r.toNat < cs.length := by omega
  have hokc := dr_okc d.lt d'
  refine ⟨cs[r.toNat], c, ?_, List.getElem_mem hlt, d'⟩
  rw [run_eq hP _ _ _ rfl]
  have hix : atI cs r = some cs[r.toNat] := by rw [atI_of _ _ hr0, List.getElem?_eq_getElem hlt]
  simp only [pickB, exs_cons, ex_ret, ev_idx, ev_var, ev_call, evs_cons, ev_blt, evs_nil]
  simp [e, hix, hokc]
/-- a list of texts is picked from -/
theorem pick_lst (hT : ft iT = some ⟨2, 4, takeB⟩) (hP : ft iP = some ⟨2, 2, pickB iT⟩) (m : Nat) {g : Gh} {n q : Nat} (d : Dr g n) {l : List (List Nat)} (hq : g[q]? = some (.lst (l.map .str))) (hqn : q ≠ n) (h0 : l ≠ []) (h1 : l.length < 1073741824) :
    ∃ (x : List Nat) (c : Cell), run ft (m + 2) iP [.ref n, .ref q] g = .ok (.str x) (g.set n c) ∧ x ∈ l ∧ Dr (g.set n c) n := by
  obtain ⟨r, c, e, hr0, hr1, d'⟩ := take_run hT m d (k := l.length) (by have := List.length_pos_iff.mpr h0; omega) (by omega)
  have hlt : r.toNat < l.length := by omega
  have hokc := dr_okc d.lt d'
  refine ⟨l[r.toNat], c, ?_, List.getElem_mem hlt, d'⟩
  rw [run_eq hP _ _ _ rfl]
  have hix : atI (l.map Val.str) r = some (.str l[r.toNat]) := by rw [atI_of _ _ hr0, List.getElem?_map, List.getElem?_eq_getElem hlt]; rfl
  have hq2 : (g.set n c)[q]? = some (.lst (l.map .str)) := by rw [List.getElem?_set_ne (Ne.symm hqn)]; exact hq
  simp only [pickB, exs_cons, ex_ret, ev_idx, ev_var, ev_call, evs_cons, ev_blt, evs_nil]
  simp [hq, e, hq2, hix, hokc]
theorem joinL_sum (s : List Nat) : ∀ l : List (List Nat), True := fun _ => trivial
theorem joinL_nil : ∀ l : List (List Nat), joinL [] l = l.flatten
  | [] => rfl
  | [x] => by simp [joinL]
  | x :: y :: r => by
    show x ++ [] ++ joinL [] (y :: r) = _
    rw [joinL_nil (y :: r)]; simp
theorem flat_one : ∀ t : List Nat, (t.map fun x => [x]).flatten = t
  | [] => rfl
  | x :: t => by simp [flat_one t]
theorem sum_one : ∀ t : List Nat, ((t.map fun x => [x]).map List.length).sum = t.length
  | [] => rfl
  | x :: t => by
    simp only [List.map_cons, List.sum_cons, sum_one t, List.length_cons, List.length_nil]; omega
theorem text_run (hT : ft iT = some ⟨2, 4, takeB⟩) (hP : ft iP = some ⟨2, 2, pickB iT⟩) (hX : ft iX = some ⟨3, 4, textB iT iP⟩) (m : Nat) {g : Gh} {n : Nat} (d : Dr g n) {k : Nat} {cs : List Nat} (h0 : cs ≠ []) (h1 : cs.length < 1073741824) (hk : k ≤ 100000) :
    ∃ (t : List Nat) (c : Cell), run ft (m + 3) iX [.ref n, .int k, .str cs] g = .ok (.str t) (g.set n c) ∧ t.length ≤ k ∧ (∀ x ∈ t, x ∈ cs) ∧ Dr (g.set n c) n := by
  obtain ⟨r, c, e, hr0, hr1, d'⟩ := take_run hT (m + 1) d (k := (k : Int) + 1) (by omega) (by omega)
  have hok := dr_okc d.lt d'
  have hint : intsIn r = true := intsIn_of (by omega) (by omega)
  obtain ⟨a', g', e2, c', t, hg, hd, ha, htl, hmem⟩ := comp_inv (body := cbody (run ft (m + 2)) [some (.ref n), some (.int k), some (.str cs), none] [3] (.nm 3) (.and .nil) (textE iP)) (it := .items (rng r.toNat)) (xs := rng r.toNat) (g := g.set n c)
    (fun i a g' => ∃ c' t, g' = g.set n c' ∧ Dr g' n ∧ a = (t.map fun x => [x]).map Val.str ∧ t.length = i ∧ ∀ x ∈ t, x ∈ cs) ⟨c, [], rfl, d', rfl, rfl, fun x h => nomatch h⟩ (fun i a g' h _ => rfl) (fun i a g' ⟨c', t, _, _, ha, hl, _⟩ => by rw [ha]; simp [hl]) (by rw [rng_len, SL_eq]; omega)
    (fun i x a g' ⟨c', t, hg, hd, ha, hl, hm⟩ hx => by
      obtain ⟨y, c2, e3, hy, hd2⟩ := pick_str hT hP m hd h0 h1
      have hok2 := dr_okc hd.lt hd2
      refine ⟨some (.str [y]), g'.set n c2, ?_, c2, t ++ [y], by rw [hg, List.set_set], hd2, by rw [ha]; simp, by simp [hl], fun z hz => ?_⟩
      · unfold cbody textE
        simp [e3, hok2]
      · rcases List.mem_append.mp hz with hz | hz
        · exact hm z hz
        · rw [List.mem_singleton.mp hz]; exact hy)
  subst hg
  have hok3 := dr_okc d.lt hd
  rw [rng_len] at htl
  refine ⟨t, c', ?_, by omega, hmem, hd⟩
  rw [run_eq hX _ _ _ rfl]
  have hsz : t.length ≤ SL := by rw [SL_eq]; omega
  have hjoin : joinL [] (t.map fun x => [x]) = t := by rw [joinL_nil, flat_one]
  have hsum : (t.map (List.length ∘ fun x => [x])).sum = t.length := by rw [← List.map_map]; exact sum_one t
  simp only [textB, exs_cons, ex_ret, ev_bm, ev_cst, ev_comp, evs_cons, evs_nil, ev_call, ev_var, ev_bin, bind_ok]
  have hstr : strsOf a' = some (t.map fun x => [x]) := by rw [ha]; exact strsOf_map _
  simp [e, hint, e2, hstr]
  simp [hjoin, hsum, hsz, hok3]
theorem text_runz (hT : ft iT = some ⟨2, 4, takeB⟩) (hP : ft iP = some ⟨2, 2, pickB iT⟩) (hX : ft iX = some ⟨3, 4, textB iT iP⟩) (m : Nat) {g : Gh} {n : Nat} (d : Dr g n) (k : Nat) (kz : Int) (hz : kz = k) {cs : List Nat} (h0 : cs ≠ []) (h1 : cs.length < 1073741824) (hk : k ≤ 100000) :
    ∃ (t : List Nat) (c : Cell), run ft (m + 3) iX [.ref n, .int kz, .str cs] g = .ok (.str t) (g.set n c) ∧ t.length ≤ k ∧ (∀ x ∈ t, x ∈ cs) ∧ Dr (g.set n c) n := by
  subst hz
  exact text_run hT hP hX m d h0 h1 hk
/-- the drawing begins -/
theorem begin_run (hB : ft iB = some ⟨1, 3, beginB⟩) (m : Nat) {ns : List Int} (hl : ns.length ≤ 63) : ∃ s : Int, run ft (m + 1) iB [.rol (ns.map .int)] [] = .ok (.ref 1) [.lst (ns.map .int), .lst [.ref 0, .int 0, .int 0, .int s]] := by
  obtain ⟨s', g', e, v, s0, hs, hg⟩ := for_inv (body := fbody (run ft m) (.nm 2) beginF) (it := .items (ns.map .int)) (xs := ns.map .int) (s := [some (.rol (ns.map .int)), some (.int 1), none]) (g := [])
    (fun i s g => ∃ (v : Option Val) (x : Int), s = [some (.rol (ns.map .int)), some (.int x), v] ∧ g = []) ⟨none, 1, rfl, rfl⟩ (fun i s g _ _ => rfl) (by rw [List.length_map, WF_eq]; omega)
    (fun i x s g ⟨v, y, hs, hg⟩ hx => by
      rw [List.getElem?_map] at hx
      obtain ⟨z, hz, rfl⟩ := Option.map_eq_some_iff.mp hx
      subst hs hg
      exact ⟨[some (.rol (ns.map .int)), some (.int ((y * 69621 + z % 2147483629 + 7) % 2147483647)), some (.int z)], [], .inl (by simp [fbody, beginF]), some (.int z), _, rfl, rfl⟩)
  subst hs hg
  refine ⟨s0, ?_⟩
  rw [run_eq hB _ _ _ rfl]
  have hit : iterOf (.rol (ns.map .int)) [] = some (.items (ns.map .int)) := rfl
  simp [beginB, hit, e]
theorem begin_dr (ns : List Int) (s : Int) : Dr [.lst (ns.map .int), .lst [.ref 0, .int 0, .int 0, .int s]] 1 := ⟨0, ns, 0, 0, s, rfl, rfl, by decide, by decide⟩
end

/-- the law's end is True -/
def Good (r : SR) : Prop := ∃ g, tidy [] (fin r) = .ok (.bl true) g
theorem good_step {call : Call} {a : S} {r : Ss} {s s1 : Env} {g g1 : Gh} (h : ex call a s g = .nx s1 g1) (k : Good (exs call r s1 g1)) : Good (exs call (.cons a r) s g) := by
  rw [exs_cons, h, seq_nx]; exact k
theorem good_ret {call : Call} {e : E} {r : Ss} {s : Env} {g g1 : Gh} (h : ev call e s g = .ok (.bl true) g1) : Good (exs call (.cons (.ret e) r) s g) := by
  rw [exs_cons, ex_ret, h, st_ok, seq_rt]
  show ∃ g, tidy [] (.ok (.bl true) g1) = .ok (.bl true) g
  simp
theorem good_run {ft : Nat → Option Fn} {f : Nat} {d : Fn} (h : ft f = some d) (m : Nat) (vs : List Val) (hl : vs.length = d.np) (k : Good (exs (run ft m) d.body (vs.map some ++ List.replicate (d.ns - d.np) none) [])) : ∃ g, run ft (m + 1) f vs [] = .ok (.bl true) g := by
  rw [run_eq h m vs [] hl]; exact k

theorem ex_fr_range {call : Call} {t : Tg} {b : Ss} {s s' : Env} {g g' : Gh} {n : Nat} {e : E} (he : ev call e s g = .ok (.int n) g) (hn : n < 1000000000) (hf : forG (fbody call t b) (.items (rng n)) WF 0 s g = .nx s' g') : ex call (.fr t .range (.cons e .nil) b) s g = .nx s' g' := by
  rw [ex_fr, evs_cons, he, bind_ok, evs_nil, bind_ok, st_ok, mkIter_range, mkRange_1, if_pos (intsIn_nat hn)]
  exact hf
theorem ex_fr_rng {call : Call} {t : Tg} {b : Ss} {s : Env} {g : Gh} {n : Nat} {e : E} {r : SR} (he : ev call e s g = .ok (.int n) g) (hn : n < 1000000000) (hf : forG (fbody call t b) (.items (rng n)) WF 0 s g = r) : ex call (.fr t .range (.cons e .nil) b) s g = r := by
  rw [ex_fr, evs_cons, he, bind_ok, evs_nil, bind_ok, st_ok, mkIter_range, mkRange_1, if_pos (intsIn_nat hn)]
  exact hf
theorem exs_step {call : Call} {a : S} {r : Ss} {s s1 : Env} {g g1 : Gh} (h : ex call a s g = .nx s1 g1) : exs call (.cons a r) s g = exs call r s1 g1 := by
  rw [exs_cons, h, seq_nx]
theorem exs_rt {call : Call} {a : S} {r : Ss} {s : Env} {g g1 : Gh} {v : Val} (h : ex call a s g = .rt v g1) : exs call (.cons a r) s g = .rt v g1 := by
  rw [exs_cons, h, seq_rt]
end KQ

namespace KQ
open KM
/-! ### more plain rules, more drawing -/
theorem run_at {ft : Nat → Option Fn} {f : Nat} {d : Fn} (h : ft f = some d) {m : Nat} (hm : 0 < m) (vs : List Val) (g : Gh) (hl : vs.length = d.np) : run ft m f vs g = tidy g (fin (exs (run ft (m - 1)) d.body (vs.map some ++ List.replicate (d.ns - d.np) none) g)) := by
  obtain ⟨k, rfl⟩ : ∃ k, m = k + 1 := ⟨m - 1, by omega⟩
  exact run_eq h k vs g hl
theorem cutL_from {α : Type} (xs : List α) (n : Nat) : cutL xs (some (n : Int)) none = xs.drop n := by
  unfold cutL sIx
  simp
  by_cases h : n ≤ xs.length
  · rw [Nat.min_eq_left h, List.take_of_length_le (by simp)]
  · rw [Nat.min_eq_right (by omega), List.drop_eq_nil_of_le (by omega), List.drop_eq_nil_of_le (by omega)]; simp
theorem cutL_mid {α : Type} (xs : List α) (i j : Nat) : cutL xs (some (i : Int)) (some (j : Int)) = (xs.drop i).take (j - i) := by
  unfold cutL sIx
  simp
  by_cases h : i ≤ xs.length
  · rw [Nat.min_eq_left h]
    by_cases h2 : j ≤ xs.length
    · rw [Nat.min_eq_left h2]
    · rw [Nat.min_eq_right (by omega), List.take_of_length_le (by simp), List.take_of_length_le (by simp; omega)]
  · rw [List.drop_eq_nil_of_le (by omega), List.drop_eq_nil_of_le (by omega)]; simp
theorem good_stepQ {call : Call} {a : S} {r : Ss} {s : Env} {g : Gh} (Q : Env → Gh → Prop) (h : ∃ s1 g1, ex call a s g = .nx s1 g1 ∧ Q s1 g1) (k : ∀ s1 g1, Q s1 g1 → Good (exs call r s1 g1)) : Good (exs call (.cons a r) s g) := by
  obtain ⟨s1, g1, h1, h2⟩ := h
  exact good_step h1 (k _ _ h2)
theorem ev_comp_it {call : Call} {own : List Nat} {tg : Tg} {k : IK} {its : Es} {cond : C} {elt : E} {s : Env} {g g1 g2 : Gh} {vs ws : List Val} {it : IterV} (h1 : evs call its s g = .ok vs g1) (h2 : mkIter k vs g1 = some it) (h3 : compG (cbody call s own tg cond elt) it WF 0 [] g1 = .ok ws g2) :
    ev call (.comp own tg k its cond elt) s g = .ok (.ref g2.length) (g2 ++ [.lst ws]) := by
  rw [ev_comp, h1, bind_ok, h2]
  show (compG (cbody call s own tg cond elt) it WF 0 [] g1).bind _ = _
  rw [h3, bind_ok]
  rfl
/-- a flat thing equals itself -/
theorem eqV_self : ∀ (v : Val) (n : Nat), flat n v = true → eqV v v = true := by
  intro v
  refine Val.rec (motive_1 := fun v => ∀ n, flat n v = true → eqV v v = true) (motive_2 := fun vs => ∀ n, flats n vs = true → eqVs vs vs = true) ?_ ?_ ?_ ?_ ?_ ?_ ?_ ?_ ?_ v
  · exact fun _ _ => rfl
  · exact fun b _ _ => by simp [eqV]
  · exact fun i _ _ => by simp [eqV]
  · exact fun i _ _ => by simp [eqV]
  · intro xs ih n h
    cases n with
    | zero => cases h
    | succ n => exact ih n h
  · intro i n h; cases n <;> cases h
  · intro i _ n h; cases n <;> cases h
  · exact fun _ _ => rfl
  · intro x xs h1 h2 n h
    have h : (flat n x && flats n xs) = true := by cases n <;> exact h
    rw [Bool.and_eq_true_iff] at h
    show (eqV x x && eqVs xs xs) = true
    rw [h1 n h.1, h2 n h.2]; rfl
theorem eqVs_self : ∀ (vs : List Val) (n : Nat), flats n vs = true → eqVs vs vs = true
  | [], _, _ => rfl
  | x :: xs, n, h => by
    have h : (flat n x && flats n xs) = true := by cases n <;> exact h
    rw [Bool.and_eq_true_iff] at h
    show (eqV x x && eqVs xs xs) = true
    rw [eqV_self x n h.1, eqVs_self xs n h.2]; rfl
theorem eqO_self (v : Val) (g : Gh) (h : flat 60 v = true) : eqO v v g = some true := by
  unfold eqO
  rw [h]
  simp [eqV_self v 60 h]
/-- a text behind an edit -/
def edd (t : List Nat) (p c : Nat) (n : List Nat) : List Nat := t.take p ++ (n ++ t.drop (p + c))
theorem edd_len {t : List Nat} {p c : Nat} (w : List Nat) (h : p + c ≤ t.length) : (edd t p c w).length = t.length - c + w.length := by
  unfold edd; simp; omega
def editB (iT iX : Nat) : Ss := .cons (.asg (.nm 4) (.call iT (.cons (.var 0) (.cons (.bin .add (.blt .len (.cons (.var 1) .nil)) (.cst (.int 1))) .nil))))
  (.cons (.asg (.nm 5) (.call iT (.cons (.var 0) (.cons (.bin .add (.blt .min2 (.cons (.var 2) (.cons (.bin .sub (.blt .len (.cons (.var 1) .nil)) (.var 4)) .nil))) (.cst (.int 1))) .nil))))
  (.cons (.ret (.tup (.cons (.var 4) (.cons (.var 5) (.cons (.call iX (.cons (.var 0) (.cons (.var 2) (.cons (.var 3) .nil)))) .nil))))) .nil))
def editedB : Ss := .cons (.ret (.bin .add (.bin .add (.slc (.var 0) .no (.e (.idx (.var 1) (.cst (.int 0))))) (.idx (.var 1) (.cst (.int 2)))) (.slc (.var 0) (.e (.bin .add (.idx (.var 1) (.cst (.int 0))) (.idx (.var 1) (.cst (.int 1))))) .no))) .nil
section
variable {ft : Nat → Option Fn} {iT iP iX iE iD : Nat}
/-- an edit is drawn -/
theorem edit_run (hT : ft iT = some ⟨2, 4, takeB⟩) (hP : ft iP = some ⟨2, 2, pickB iT⟩) (hX : ft iX = some ⟨3, 4, textB iT iP⟩) (hE : ft iE = some ⟨4, 6, editB iT iX⟩) (m : Nat) {g : Gh} {n : Nat} (d : Dr g n) (t : List Nat) (k : Nat) (kz : Int) (hkz : kz = k) {cs : List Nat} (h0 : cs ≠ []) (h1 : cs.length < 1073741824) (hk : k ≤ 1000) (ht : t.length ≤ 1000) :
    ∃ (p c : Nat) (w : List Nat) (cl : Cell), run ft (m + 4) iE [.ref n, .str t, .int kz, .str cs] g = .ok (.tup [.int p, .int c, .str w]) (g.set n cl) ∧ p + c ≤ t.length ∧ c ≤ k ∧ w.length ≤ k ∧ (∀ x ∈ w, x ∈ cs) ∧ Dr (g.set n cl) n := by
  subst hkz
  obtain ⟨r, c1, e1, hr0, hr1, d1⟩ := take_run (ft := ft) (iT := iT) hT (m + 2) d (k := (t.length : Int) + 1) (by omega) (by omega)
  obtain ⟨p, rfl⟩ := Int.eq_ofNat_of_zero_le hr0
  have hp : p ≤ t.length := by omega
  have hmin : (if (t.length : Int) - p < k then (t.length : Int) - p else k) = ((min k (t.length - p) : Nat) : Int) := by split <;> omega
  obtain ⟨r2, c2, e2, hq0, hq1, d2⟩ := take_run (ft := ft) (iT := iT) hT (m + 2) d1 (k := ((min k (t.length - p) : Nat) : Int) + 1) (by omega) (by omega)
  obtain ⟨c, rfl⟩ := Int.eq_ofNat_of_zero_le hq0
  obtain ⟨w, c3, e3, hw, hm, d3⟩ := text_runz (iT := iT) (iP := iP) (iX := iX) hT hP hX m d2 k k rfl h0 h1 (by omega)
  rw [List.set_set] at e2 e3 d2 d3
  have ok1 := dr_okc d.lt d1
  rw [List.set_set] at d3
  have ok3 := dr_okc d.lt d3
  refine ⟨p, c, w, c3, ?_, by omega, by omega, hw, hm, d3⟩
  rw [run_eq hE _ _ _ rfl]
  have ok2 := dr_okc d.lt d2
  simp [editB, e1, hmin, e2, e3, ok1, ok2, ok3]
theorem edited_run (hD : ft iD = some ⟨2, 2, editedB⟩) {m : Nat} (hm : 1 ≤ m) (g : Gh) (t n : List Nat) (p c : Nat) (hz : t.length + n.length ≤ SL) : run ft m iD [.str t, .tup [.int p, .int c, .str n]] g = .ok (.str (edd t p c n)) g := by
  rw [run_at hD hm _ _ rfl]
  have e2 : cutL t (some ((p : Int) + c)) none = t.drop (p + c) := by
    rw [show (p : Int) + c = ((p + c : Nat) : Int) from by omega]; exact cutL_from t (p + c)
  have hz1 : (edd t p c n).length ≤ SL := by unfold edd; simp; omega
  have hz2 : (t.take p ++ n).length ≤ SL := by simp; omega
  unfold edd at hz1
  have m1 := fun g => mkS_ok g hz1
  have m2 := fun g => mkS_ok g hz2
  simp [editedB, cutL_take, e2, m2, m1, edd]
end
/-! ### loops over items, item by item -/
def forL (body : Val → Env → Gh → SR) : List Val → Env → Gh → SR
  | [], s, g => .nx s g
  | x :: xs, s, g => match body x s g with
    | .nx s' g' => forL body xs s' g'
    | .ct s' g' => forL body xs s' g'
    | .bk s' g' => .nx s' g'
    | r => r
theorem forG_items (body : Val → Env → Gh → SR) (xs : List Val) : ∀ (n i : Nat) (s : Env) (g : Gh), xs.length - i < n → forG body (.items xs) n i s g = forL body (xs.drop i) s g
  | 0, i, s, g, h => by omega
  | n + 1, i, s, g, h => by
    show (match nxt g i (.items xs) with
      | none => SR.bad
      | some none => SR.nx s g
      | some (some v) => match body v s g with
        | .nx s' g' => forG body (.items xs) n (i + 1) s' g'
        | .ct s' g' => forG body (.items xs) n (i + 1) s' g'
        | .bk s' g' => .nx s' g'
        | r => r) = _
    rw [nxt_items]
    by_cases hi : i < xs.length
    · rw [List.getElem?_eq_getElem hi, List.drop_eq_getElem_cons hi]
      have ih := fun s g => forG_items body xs n (i + 1) s g (by omega)
      simp only [forL, ih]
    · rw [List.getElem?_eq_none (by omega), List.drop_eq_nil_of_le (by omega)]
      rfl
theorem for_items {body : Val → Env → Gh → SR} {xs : List Val} {s : Env} {g : Gh} (h : xs.length < WF) : forG body (.items xs) WF 0 s g = forL body xs s g := by
  rw [forG_items body xs WF 0 s g (by omega), List.drop_zero]
@[simp] theorem forL_nil (body : Val → Env → Gh → SR) (s : Env) (g : Gh) : forL body [] s g = .nx s g := rfl
theorem forL_cons (body : Val → Env → Gh → SR) (x : Val) (xs : List Val) (s : Env) (g : Gh) : forL body (x :: xs) s g = match body x s g with
    | .nx s' g' => forL body xs s' g'
    | .ct s' g' => forL body xs s' g'
    | .bk s' g' => .nx s' g'
    | r => r := rfl
theorem forL_app (body : Val → Env → Gh → SR) : ∀ (xs ys : List Val) (s s' : Env) (g g' : Gh), forL body xs s g = .nx s' g' → (∀ x ∈ xs, ∀ s g s' g', body x s g ≠ .bk s' g') → forL body (xs ++ ys) s g = forL body ys s' g'
  | [], ys, s, s', g, g', h, _ => by cases h; rfl
  | x :: xs, ys, s, s', g, g', h, hb => by
    rw [List.cons_append, forL_cons]
    rw [forL_cons] at h
    have hb' := hb x List.mem_cons_self s g
    generalize body x s g = r at h hb'
    cases r with
    | nx s1 g1 => exact forL_app body xs ys _ _ _ _ h fun y hy => hb y (List.mem_cons_of_mem _ hy)
    | ct s1 g1 => exact forL_app body xs ys _ _ _ _ h fun y hy => hb y (List.mem_cons_of_mem _ hy)
    | bk s1 g1 => exact absurd rfl (hb' s1 g1)
    | rt v g1 => cases h
    | exn x s1 g1 => cases h
    | bad => cases h
def compL (body : Val → Gh → R (Option Val)) : List Val → Gh → R (List Val)
  | [], g => .ok [] g
  | x :: xs, g => match body x g with
    | .ok none g' => compL body xs g'
    | .ok (some w) g' => match compL body xs g' with
      | .ok ws g2 => .ok (w :: ws) g2
      | .exn x g => .exn x g
      | .bad => .bad
    | .exn _ _ => .bad
    | .bad => .bad
theorem compG_items (body : Val → Gh → R (Option Val)) (xs : List Val) : ∀ (n i : Nat) (acc : List Val) (g : Gh), xs.length - i < n → acc.length + (xs.length - i) ≤ SL → compG body (.items xs) n i acc g = (match compL body (xs.drop i) g with
      | .ok ws g2 => .ok (acc ++ ws) g2
      | .exn x g => .exn x g
      | .bad => .bad)
  | 0, i, acc, g, h, _ => by omega
  | n + 1, i, acc, g, h, hs => by
    show (match nxt g i (.items xs) with
      | none => R.bad
      | some none => R.ok acc g
      | some (some v) => match body v g with
        | .ok none g' => compG body (.items xs) n (i + 1) acc g'
        | .ok (some w) g' => if acc.length < SL then compG body (.items xs) n (i + 1) (acc ++ [w]) g' else .bad
        | .exn _ _ => .bad
        | .bad => .bad) = _
    rw [nxt_items]
    by_cases hi : i < xs.length
    · rw [List.getElem?_eq_getElem hi, List.drop_eq_getElem_cons hi]
      simp only [compL]
      cases hb : body xs[i] g with
      | ok o g' =>
        cases o with
        | none => exact compG_items body xs n (i + 1) acc g' (by omega) (by omega)
        | some w =>
          simp only
          rw [if_pos (by omega), compG_items body xs n (i + 1) (acc ++ [w]) g' (by omega) (by rw [List.length_append, List.length_singleton]; omega)]
          cases compL body (xs.drop (i + 1)) g' with
          | ok ws g2 => simp
          | exn x g => rfl
          | bad => rfl
      | exn x g => rfl
      | bad => rfl
    · rw [List.getElem?_eq_none (by omega), List.drop_eq_nil_of_le (by omega)]
      simp [compL]
theorem comp_items {body : Val → Gh → R (Option Val)} {xs : List Val} {g : Gh} (h : xs.length ≤ SL) : compG body (.items xs) WF 0 [] g = compL body xs g := by
  have hS : SL = 1000000 := rfl
  have hW : WF = 100000000 := rfl
  rw [compG_items body xs WF 0 [] g (by omega) (by simp; omega), List.drop_zero]
  cases compL body xs g <;> simp
section
variable (body : Val → Gh → R (Option Val)) (a b c d e : Val) (g : Gh)
theorem comp_0 : compG body (.items []) WF 0 [] g = .ok [] g := comp_items (Nat.zero_le _)
theorem comp_1 : compG body (.items [a]) WF 0 [] g = compL body [a] g := comp_items (show _ ≤ 1000000 by simp)
theorem comp_2 : compG body (.items [a, b]) WF 0 [] g = compL body [a, b] g := comp_items (show _ ≤ 1000000 by simp)
theorem comp_3 : compG body (.items [a, b, c]) WF 0 [] g = compL body [a, b, c] g := comp_items (show _ ≤ 1000000 by simp)
theorem comp_4 : compG body (.items [a, b, c, d]) WF 0 [] g = compL body [a, b, c, d] g := comp_items (show _ ≤ 1000000 by simp)
theorem comp_5 : compG body (.items [a, b, c, d, e]) WF 0 [] g = compL body [a, b, c, d, e] g := comp_items (show _ ≤ 1000000 by simp)
end
section
variable (body : Val → Env → Gh → SR) (a b c d : Val) (s : Env) (g : Gh)
theorem for_0 : forG body (.items []) WF 0 s g = .nx s g := for_items (show _ < 100000000 by simp)
theorem for_1 : forG body (.items [a]) WF 0 s g = forL body [a] s g := for_items (show _ < 100000000 by simp)
theorem for_2 : forG body (.items [a, b]) WF 0 s g = forL body [a, b] s g := for_items (show _ < 100000000 by simp)
theorem for_3 : forG body (.items [a, b, c]) WF 0 s g = forL body [a, b, c] s g := for_items (show _ < 100000000 by simp)
theorem for_4 : forG body (.items [a, b, c, d]) WF 0 s g = forL body [a, b, c, d] s g := for_items (show _ < 100000000 by simp)
end
@[simp] theorem compL_nil (body : Val → Gh → R (Option Val)) (g : Gh) : compL body [] g = .ok [] g := rfl
theorem compL_cons (body : Val → Gh → R (Option Val)) (x : Val) (xs : List Val) (g : Gh) : compL body (x :: xs) g = match body x g with
    | .ok none g' => compL body xs g'
    | .ok (some w) g' => match compL body xs g' with
      | .ok ws g2 => .ok (w :: ws) g2
      | .exn x g => .exn x g
      | .bad => .bad
    | .exn _ _ => .bad
    | .bad => .bad := rfl
/-- a while, turn by turn -/
theorem whl_turn (cond : Env → Gh → R Bool) (body : Env → Gh → SR) (n : Nat) (s : Env) (g : Gh) : whlG cond body (n + 1) s g = (cond s g).st s fun b g1 =>
    if b then match body s g1 with
      | .nx s' g' => whlG cond body n s' g'
      | .ct s' g' => whlG cond body n s' g'
      | .bk s' g' => .nx s' g'
      | r => r
    else .nx s g1 := rfl
/-- the greatest, the least -/
theorem maxL_spec : ∀ (xs : List Int) (m : Int), maxL m xs ∈ m :: xs ∧ ∀ y ∈ m :: xs, y ≤ maxL m xs
  | [], m => ⟨by simp [maxL], fun y hy => by simp at hy; rw [hy]; simp [maxL]⟩
  | x :: xs, m => by
    obtain ⟨h1, h2⟩ := maxL_spec xs (if x > m then x else m)
    show maxL (if x > m then x else m) xs ∈ _ ∧ ∀ y ∈ m :: x :: xs, y ≤ maxL (if x > m then x else m) xs
    generalize hM : maxL (if x > m then x else m) xs = M at *
    have h3 := h2 _ List.mem_cons_self
    refine ⟨?_, fun y hy => ?_⟩
    · rcases List.mem_cons.mp h1 with e | e
      · rw [e]; split <;> simp
      · simp [e]
    · rcases List.mem_cons.mp hy with e | hy
      · rw [e]; split at h3 <;> omega
      · rcases List.mem_cons.mp hy with e | hy
        · rw [e]; split at h3 <;> omega
        · exact h2 y (List.mem_cons_of_mem _ hy)
theorem minL_spec : ∀ (xs : List Int) (m : Int), minL m xs ∈ m :: xs ∧ ∀ y ∈ m :: xs, minL m xs ≤ y
  | [], m => ⟨by simp [minL], fun y hy => by simp at hy; rw [hy]; simp [minL]⟩
  | x :: xs, m => by
    obtain ⟨h1, h2⟩ := minL_spec xs (if x < m then x else m)
    show minL (if x < m then x else m) xs ∈ _ ∧ ∀ y ∈ m :: x :: xs, minL (if x < m then x else m) xs ≤ y
    generalize hM : minL (if x < m then x else m) xs = M at *
    have h3 := h2 _ List.mem_cons_self
    refine ⟨?_, fun y hy => ?_⟩
    · rcases List.mem_cons.mp h1 with e | e
      · rw [e]; split <;> simp
      · simp [e]
    · rcases List.mem_cons.mp hy with e | hy
      · rw [e]; split at h3 <;> omega
      · rcases List.mem_cons.mp hy with e | hy
        · rw [e]; split at h3 <;> omega
        · exact h2 y (List.mem_cons_of_mem _ hy)
/-- numbers as values -/
def nV (l : List Nat) : List Val := l.map fun (n : Nat) => .int (n : Int)
@[simp] theorem nV_nil : nV [] = [] := rfl
@[simp] theorem nV_cons (n : Nat) (l : List Nat) : nV (n :: l) = .int n :: nV l := rfl
@[simp] theorem nV_app (a b : List Nat) : nV (a ++ b) = nV a ++ nV b := by simp [nV]
@[simp] theorem nV_len (l : List Nat) : (nV l).length = l.length := by simp [nV]
theorem nV_get (l : List Nat) (i : Nat) : (nV l)[i]? = (l[i]?).map fun (n : Nat) => .int (n : Int) := by simp [nV]
@[simp] theorem okvs_nV (n : Nat) (l : List Nat) : okvs n (nV l) = true := okvs_of fun x hx => by
  obtain ⟨i, _, rfl⟩ := List.mem_map.mp hx; rfl
@[simp] theorem flats_nV (n : Nat) (l : List Nat) : flats n (nV l) = true := flats_of fun x hx => by
  obtain ⟨i, _, rfl⟩ := List.mem_map.mp hx; simp
theorem ints_nV : ∀ l : List Nat, intsOf (nV l) = some (l.map fun (n : Nat) => (n : Int))
  | [] => rfl
  | x :: l => by
    show (intsOf (nV l)).map (_ :: ·) = _
    rw [ints_nV l]; rfl
theorem nV_drop (l : List Nat) (i : Nat) : (nV l).drop i = nV (l.drop i) := by simp [nV]
theorem nV_take (l : List Nat) (i : Nat) : (nV l).take i = nV (l.take i) := by simp [nV]
theorem eqVs_nV : ∀ a b : List Nat, eqVs (nV a) (nV b) = decide (a = b)
  | [], [] => rfl
  | [], _ :: _ => rfl
  | _ :: _, [] => rfl
  | x :: a, y :: b => by
    show ((((x : Int) == (y : Int)) && eqVs (nV a) (nV b)) : Bool) = _
    rw [eqVs_nV a b, Bool.eq_iff_iff]
    simp
    intro _; omega
end KQ

namespace KQ
open KM
/-! ### rows and texts, plainly -/
theorem splitC_eq (c : Nat) (xs : List Nat) : splitC c (c :: xs) = [] :: splitC c xs := by simp [splitC]
theorem splitC_ne {c x : Nat} (h : x ≠ c) {xs p : List Nat} {ps : List (List Nat)} (e : splitC c xs = p :: ps) : splitC c (x :: xs) = (x :: p) :: ps := by simp [splitC, h, e]
theorem splitC_free (c : Nat) : ∀ r : List Nat, c ∉ r → splitC c r = [r]
  | [], _ => rfl
  | x :: r, h => by
    simp at h
    exact splitC_ne (Ne.symm h.1) (splitC_free c r h.2)
theorem splitC_app (c : Nat) (t : List Nat) : ∀ r : List Nat, c ∉ r → splitC c (r ++ [c] ++ t) = r :: splitC c t
  | [], _ => splitC_eq c t
  | x :: r, h => by
    simp at h
    exact splitC_ne (Ne.symm h.1) (splitC_app c t r h.2)
theorem split_join (c : Nat) : ∀ rs : List (List Nat), rs ≠ [] → (∀ r ∈ rs, c ∉ r) → splitC c (joinL [c] rs) = rs
  | [], h, _ => absurd rfl h
  | [r], _, h => splitC_free c r (h r List.mem_cons_self)
  | r :: y :: rs, _, h => by
    show splitC c (r ++ [c] ++ joinL [c] (y :: rs)) = _
    rw [splitC_app c _ r (h r List.mem_cons_self), split_join c (y :: rs) (by simp) fun x hx => h x (List.mem_cons_of_mem _ hx)]
def sz (rs : List (List Nat)) : Nat := (rs.map List.length).sum + rs.length
@[simp] theorem sz_nil : sz [] = 0 := rfl
@[simp] theorem sz_cons (r : List Nat) (rs : List (List Nat)) : sz (r :: rs) = r.length + sz rs + 1 := by simp [sz]; omega
@[simp] theorem sz_app (a b : List (List Nat)) : sz (a ++ b) = sz a + sz b := by simp [sz]; omega
theorem sz_le (k : Nat) : ∀ rs : List (List Nat), (∀ r ∈ rs, r.length ≤ k) → sz rs ≤ (k + 1) * rs.length
  | [], _ => by simp
  | r :: rs, h => by
    have h1 := sz_le k rs fun x hx => h x (List.mem_cons_of_mem _ hx)
    have h2 := h r List.mem_cons_self
    rw [sz_cons, List.length_cons, Nat.mul_add]; omega
theorem join_len (c : Nat) : ∀ rs : List (List Nat), (joinL [c] rs).length ≤ sz rs
  | [] => by simp [joinL]
  | [r] => by simp [joinL]
  | r :: y :: rs => by
    have h := join_len c (y :: rs)
    show (r ++ [c] ++ joinL [c] (y :: rs)).length ≤ _
    rw [sz_cons]; simp at *; omega
/-! ### texts as values -/
def sV (l : List (List Nat)) : List Val := l.map .str
@[simp] theorem sV_nil : sV [] = [] := rfl
@[simp] theorem sV_cons (n : List Nat) (l : List (List Nat)) : sV (n :: l) = .str n :: sV l := rfl
@[simp] theorem sV_app (a b : List (List Nat)) : sV (a ++ b) = sV a ++ sV b := by simp [sV]
@[simp] theorem sV_len (l : List (List Nat)) : (sV l).length = l.length := by simp [sV]
theorem sV_get (l : List (List Nat)) (i : Nat) : (sV l)[i]? = (l[i]?).map .str := by simp [sV]
@[simp] theorem okvs_sV (n : Nat) (l : List (List Nat)) : okvs n (sV l) = true := okvs_str n l
@[simp] theorem flats_sV (n : Nat) (l : List (List Nat)) : flats n (sV l) = true := flats_of fun x hx => by
  obtain ⟨i, _, rfl⟩ := List.mem_map.mp hx; simp
@[simp] theorem strs_sV (l : List (List Nat)) : strsOf (sV l) = some l := strsOf_map l
theorem sV_drop (l : List (List Nat)) (i : Nat) : (sV l).drop i = sV (l.drop i) := by simp [sV]
theorem sV_take (l : List (List Nat)) (i : Nat) : (sV l).take i = sV (l.take i) := by simp [sV]
theorem at_sV {l : List (List Nat)} {k : Nat} {a : List Nat} (h : l[k]? = some a) : atI (sV l) (k : Int) = some (.str a) := by
  rw [atI_nat, sV_get, h]; rfl
theorem cut_sV (l : List (List Nat)) (i j : Nat) : cutL (sV l) (some (i : Int)) (some (j : Int)) = sV ((l.drop i).take (j - i)) := by
  rw [cutL_mid, sV_drop, sV_take]
theorem nxt_cellA {g : Gh} {q : Nat} {xs : List Val} (h : g[q]? = some (.lst xs)) (i : Nat) : nxt g i (.cell q) = some xs[i]? := by
  show (lstAt g q).map _ = _
  unfold lstAt; rw [h]; rfl
/-! ### comprehensions that change nothing -/
theorem compL_map {body : Val → Gh → R (Option Val)} {g : Gh} (f : Val → Val) : ∀ xs : List Val, (∀ x ∈ xs, body x g = .ok (some (f x)) g) → compL body xs g = .ok (xs.map f) g
  | [], _ => rfl
  | x :: xs, h => by
    rw [compL_cons, h x List.mem_cons_self]
    simp only
    rw [compL_map f xs fun y hy => h y (List.mem_cons_of_mem _ hy)]; rfl
theorem comp_rows {body : Val → Gh → R (Option Val)} {g : Gh} {rs : List (List Nat)} (F : List Nat → Val) (hl : rs.length ≤ SL) (h : ∀ r ∈ rs, body (.str r) g = .ok (some (F r)) g) : compG body (.items (sV rs)) WF 0 [] g = .ok (rs.map F) g := by
  rw [comp_items (by rw [sV_len]; exact hl)]
  have : rs.map F = (sV rs).map fun v => match v with
      | .str r => F r
      | v => v := by unfold sV; rw [List.map_map]; rfl
  rw [this]
  refine compL_map _ _ fun x hx => ?_
  obtain ⟨r, hr, rfl⟩ := List.mem_map.mp hx
  exact h r hr
theorem comp_cell {body : Val → Gh → R (Option Val)} {g : Gh} {q : Nat} {rs : List (List Nat)} (F : List Nat → Val) (hq : g[q]? = some (.lst (sV rs))) (hl : rs.length ≤ SL) (h : ∀ r ∈ rs, body (.str r) g = .ok (some (F r)) g) : compG body (.cell q) WF 0 [] g = .ok (rs.map F) g := by
  have := comp_pure (body := body) (it := .cell q) (xs := sV rs) (g := g) (fun v => match v with
      | .str r => some (F r)
      | v => some v) (nxt_cellA hq) (by rw [sV_len]; exact hl) fun x hx => by
    obtain ⟨r, hr, rfl⟩ := List.mem_map.mp hx
    exact h r hr
  rw [this]
  congr 1
  unfold sV
  rw [List.filterMap_map]
  show List.filterMap (some ∘ F) rs = _
  rw [List.filterMap_eq_map]
theorem comp_rng {body : Val → Gh → R (Option Val)} {g : Gh} {n : Nat} (F : Nat → Val) (hl : n ≤ SL) (h : ∀ k, k < n → body (.int k) g = .ok (some (F k)) g) : compG body (.items (rng n)) WF 0 [] g = .ok ((List.range n).map F) g := by
  rw [comp_items (by rw [rng_len]; exact hl)]
  have : (List.range n).map F = (rng n).map fun v => match v with
      | .int i => F i.toNat
      | v => v := by
    unfold rng; rw [List.map_map]; rfl
  rw [this]
  refine compL_map _ _ fun x hx => ?_
  unfold rng at hx
  obtain ⟨k, hk, rfl⟩ := List.mem_map.mp hx
  exact h k (List.mem_range.mp hk)
theorem at_nV {row : List Nat} {k a : Nat} (h : row[k]? = some a) : atI (nV row) (k : Int) = some (.int a) := by
  rw [atI_nat, nV_get, h]; rfl
theorem set_same {g : Gh} {q : Nat} {C : Cell} (h : g[q]? = some C) : g.set q C = g := by
  apply List.ext_getElem?
  intro i
  by_cases hi : i = q
  · subst hi; rw [List.getElem?_set_self (lt_get h), h]
  · rw [List.getElem?_set_ne (Ne.symm hi)]
theorem dr_cut {g l : Gh} {n : Nat} (d : Dr (g ++ l) n) (hn : n < g.length) : Dr g n := by
  obtain ⟨p, xs, i, a, s, h1, h2, h3⟩ := d.ex
  exact ⟨p, xs, i, a, s, by rw [List.getElem?_append_left hn] at h1; exact h1, by rw [List.getElem?_append_left (by omega)] at h2; exact h2, h3⟩
/-- a list of any values is picked from -/
theorem pick_any {ft : Nat → Option Fn} {iT iP : Nat} (hT : ft iT = some ⟨2, 4, takeB⟩) (hP : ft iP = some ⟨2, 2, pickB iT⟩) (m : Nat) {g : Gh} {n q : Nat} (d : Dr g n) {l : List Val} (hq : g[q]? = some (.lst l)) (hqn : q ≠ n) (h0 : l ≠ []) (h1 : l.length < 1073741824) (hok : okvs g.length l = true) :
    ∃ (x : Val) (c : Cell), run ft (m + 2) iP [.ref n, .ref q] g = .ok x (g.set n c) ∧ x ∈ l ∧ Dr (g.set n c) n := by
  obtain ⟨r, c, e, hr0, hr1, d'⟩ := take_run hT m d (k := l.length) (by have := List.length_pos_iff.mpr h0; omega) (by omega)
  have hlt : r.toNat < l.length := by omega
  have hokc := dr_okc d.lt d'
  refine ⟨l[r.toNat], c, ?_, List.getElem_mem hlt, d'⟩
  rw [run_eq hP _ _ _ rfl]
  have hix : atI l r = some l[r.toNat] := by rw [atI_of _ _ hr0, List.getElem?_eq_getElem hlt]
  have hq2 : (g.set n c)[q]? = some (.lst l) := by rw [List.getElem?_set_ne (Ne.symm hqn)]; exact hq
  have hokx : okv g.length l[r.toNat] = true := by
    have : ∀ {l : List Val} {i : Nat} (h : i < l.length), okvs g.length l = true → okv g.length l[i] = true := by
      intro l
      induction l with
      | nil => intro i h; simp at h
      | cons z zs ih =>
        intro i h ok
        have ok : okv g.length z = true ∧ okvs g.length zs = true := Bool.and_eq_true_iff.mp ok
        cases i with
        | zero => exact ok.1
        | succ i => exact ih (by simpa using h) ok.2
    exact this hlt hok
  simp only [pickB, exs_cons, ex_ret, ev_idx, ev_var, ev_call, evs_cons, ev_blt, evs_nil]
  simp [hq, e, hq2, hix, hokc, hokx]
  unfold tidy
  simp only
  rw [if_pos (okg_set1 hokc g n), if_pos hokx, take_set]
/-- a value whose kind is not told -/
theorem tidy_okv {g g' : Gh} {v : Val} (h1 : okg g.length g g' = true) (h2 : okv g.length v = true) : tidy g (.ok v g') = .ok v (g'.take g.length) := by
  unfold tidy
  simp only
  rw [if_pos h1, if_pos h2]
/-! ### dicts -/
theorem findK_put (k j v : Val) (kvs : List (Val × Val)) : findK j (putKV k v kvs) = if j = k then some v else findK j kvs := by
  have h1 : ∀ kvs : List (Val × Val), findK j (kvs ++ [(k, v)]) = match findK j kvs with
      | some x => some x
      | none => if j = k then some v else none := by
    intro kvs
    induction kvs with
    | nil =>
      show (if k = j then some v else none) = _
      by_cases e : k = j
      · rw [if_pos e, findK, if_pos e.symm]
      · rw [if_neg e, findK, if_neg (Ne.symm e)]
    | cons p r ih =>
      rw [List.cons_append, findK, findK]
      by_cases e : p.1 = j
      · rw [if_pos e, if_pos e]
      · rw [if_neg e, if_neg e]; exact ih
  have h2 : ∀ kvs : List (Val × Val), (kvs.any fun p => decide (p.1 = k)) = (findK k kvs).isSome := by
    intro kvs
    induction kvs with
    | nil => rfl
    | cons p r ih =>
      rw [List.any_cons, findK, ih]
      by_cases e : p.1 = k
      · rw [if_pos e, decide_eq_true e]; rfl
      · rw [if_neg e, decide_eq_false e]; rfl
  have h3 : ∀ kvs : List (Val × Val), findK j (kvs.map fun p => if p.1 = k then (p.1, v) else p) = if j = k then (findK k kvs).map (fun _ => v) else findK j kvs := by
    intro kvs
    induction kvs with
    | nil => simp [findK]
    | cons p r ih =>
      rw [List.map_cons, findK, ih, findK, findK]
      by_cases e : p.1 = k
      · simp only [if_pos e]
        by_cases ej : j = k
        · rw [if_pos (by rw [e, ej]), if_pos ej]; rfl
        · rw [if_neg (fun z => ej (z.symm.trans e)), if_neg ej, if_neg ej, if_neg (fun z => ej (z.symm.trans e))]
      · simp only [if_neg e]
        by_cases ej : j = k
        · subst ej
          rw [if_neg e, if_pos rfl, if_pos rfl]
        · rw [if_neg ej, if_neg ej]
  unfold putKV
  rw [h2]
  split
  · rename_i h
    rw [h3]
    by_cases e : j = k
    · rw [if_pos e, if_pos e]
      obtain ⟨x, hx⟩ := Option.isSome_iff_exists.mp h
      rw [hx]; rfl
    · rw [if_neg e, if_neg e]
  · rename_i h
    rw [h1]
    by_cases e : j = k
    · subst e
      have : findK j kvs = none := by cases hf : findK j kvs with
        | none => rfl
        | some x => rw [hf] at h; simp at h
      rw [this]
    · rw [if_neg e]
      simp only [if_neg e]
      cases findK j kvs <;> rfl
theorem putKV_len (k v : Val) (kvs : List (Val × Val)) : (putKV k v kvs).length ≤ kvs.length + 1 := by
  unfold putKV
  split <;> simp
theorem okc_put {N : Nat} {t : Bool} {kvs : List (Val × Val)} {k v : Val} (hk : okv N k = true) (hv : okv N v = true) (h : okc N (.dic t kvs) = true) : okc N (.dic t (putKV k v kvs)) = true := by
  have h : (kvs.all fun p => okv N p.1 && okv N p.2) = true := h
  show ((putKV k v kvs).all fun p => okv N p.1 && okv N p.2) = true
  rw [List.all_eq_true] at *
  unfold putKV
  intro p hp
  split at hp
  · obtain ⟨q, hq, rfl⟩ := List.mem_map.mp hp
    have := h q hq
    rw [Bool.and_eq_true_iff] at this
    by_cases e : q.1 = k
    · simp only [if_pos e, this.1, hv, Bool.and_self]
    · simp only [if_neg e, this.1, this.2, Bool.and_self]
  · rcases List.mem_append.mp hp with hp | hp
    · exact h p hp
    · rw [List.mem_singleton.mp hp, hk, hv]; rfl
end KQ

namespace KQ
open KM
/-! ### scripts between rows: the bodies (printed) -/
def ct_f0 : Ss := .cons (.asg (.nm 5) (.blt .max2 (.cons (.idx (.idx (.var 2) (.bin .add (.var 3) (.cst (.int 1)))) (.var 4)) (.cons (.idx (.idx (.var 2) (.var 3)) (.bin .add (.var 4) (.cst (.int 1)))) .nil))))
  (.cons (.setI (.idx (.var 2) (.var 3)) (.var 4) (.ite (.e (.cmp .eq (.idx (.var 0) (.var 3)) (.idx (.var 1) (.var 4)))) (.blt .max2 (.cons (.var 5) (.cons (.bin .add (.idx (.idx (.var 2) (.bin .add (.var 3) (.cst (.int 1)))) (.bin .add (.var 4) (.cst (.int 1)))) (.cst (.int 1))) .nil))) (.var 5))) .nil)
def ct_f1 : Ss := .cons (.fr (.nm 4) .range (.cons (.bin .sub (.blt .len (.cons (.var 1) .nil)) (.cst (.int 1))) (.cons (.neg (.cst (.int 1))) (.cons (.neg (.cst (.int 1))) .nil))) ct_f0) .nil
def ct_e0 : E := .bin .mul (.lst (.cons (.cst (.int 0)) .nil)) (.bin .add (.blt .len (.cons (.var 1) .nil)) (.cst (.int 1)))
def ctB : Ss := .cons (.asg (.nm 2) (.comp [6] (.nm 6) .range (.cons (.bin .add (.blt .len (.cons (.var 0) .nil)) (.cst (.int 1))) .nil) (.and .nil) (ct_e0)))
  (.cons (.fr (.nm 3) .range (.cons (.bin .sub (.blt .len (.cons (.var 0) .nil)) (.cst (.int 1))) (.cons (.neg (.cst (.int 1))) (.cons (.neg (.cst (.int 1))) .nil))) ct_f1)
  (.cons (.ret (.var 2)) .nil))
def sc_t0 : C := .or (.cons (.e (.cmp .lt (.var 4) (.blt .len (.cons (.var 0) .nil)))) (.cons (.e (.cmp .lt (.var 5) (.blt .len (.cons (.var 1) .nil)))) .nil))
def sc_w0 : Ss := .cons (.ife (.and (.cons (.e (.cmp .lt (.var 4) (.blt .len (.cons (.var 0) .nil)))) (.cons (.e (.cmp .eq (.idx (.idx (.var 2) (.bin .add (.var 4) (.cst (.int 1)))) (.var 5)) (.idx (.idx (.var 2) (.var 4)) (.var 5)))) .nil))) (.cons (.exp (.bm .append (.var 3) (.cons (.tup (.cons (.cst (.str [100, 114, 111, 112])) (.cons (.var 4) .nil))) .nil)))
  (.cons (.aug 4 .add (.cst (.int 1))) .nil)) (.cons (.ife (.and (.cons (.e (.cmp .lt (.var 4) (.blt .len (.cons (.var 0) .nil)))) (.cons (.e (.cmp .lt (.var 5) (.blt .len (.cons (.var 1) .nil)))) (.cons (.e (.cmp .eq (.idx (.var 0) (.var 4)) (.idx (.var 1) (.var 5)))) (.cons (.e (.cmp .eq (.bin .add (.idx (.idx (.var 2) (.bin .add (.var 4) (.cst (.int 1)))) (.bin .add (.var 5) (.cst (.int 1)))) (.cst (.int 1))) (.idx (.idx (.var 2) (.var 4)) (.var 5)))) .nil))))) (.cons (.exp (.bm .append (.var 3) (.cons (.tup (.cons (.cst (.str [107, 101, 101, 112])) (.cons (.var 4) (.cons (.var 5) .nil)))) .nil)))
  (.cons (.par [4, 5] (.cons (.bin .add (.var 4) (.cst (.int 1))) (.cons (.bin .add (.var 5) (.cst (.int 1))) .nil))) .nil)) (.cons (.exp (.bm .append (.var 3) (.cons (.tup (.cons (.cst (.str [112, 117, 116])) (.cons (.var 5) .nil))) .nil)))
  (.cons (.aug 5 .add (.cst (.int 1))) .nil))) .nil)) .nil
def scB (iC : Nat) : Ss := .cons (.asg (.nm 2) (.call iC (.cons (.var 0) (.cons (.var 1) .nil))))
  (.cons (.asg (.nm 3) (.lst (.nil)))
  (.cons (.asg (.tp (.cons (.nm 4) (.cons (.nm 5) (.nil)))) (.tup (.cons (.cst (.int 0)) (.cons (.cst (.int 0)) .nil))))
  (.cons (.whl sc_t0 sc_w0)
  (.cons (.ret (.blt .tuple (.cons (.var 3) .nil))) .nil))))
def sz_c0 : C := .e (.cmp .ne (.idx (.var 1) (.cst (.int 0))) (.cst (.str [107, 101, 101, 112])))
def szB : Ss := .cons (.ret (.blt .len (.cons (.comp [1] (.nm 1) .plain (.cons (.var 0) .nil) (sz_c0) (.var 1)) .nil))) .nil
def is_f0 : Ss := .cons (.ife (.and (.cons (.e (.cmp .eq (.var 5) (.tup (.cons (.cst (.str [100, 114, 111, 112])) (.cons (.var 3) .nil))))) (.cons (.e (.cmp .lt (.var 3) (.blt .len (.cons (.var 0) .nil)))) .nil))) (.cons (.aug 3 .add (.cst (.int 1))) .nil) (.cons (.ife (.and (.cons (.e (.cmp .eq (.var 5) (.tup (.cons (.cst (.str [112, 117, 116])) (.cons (.var 4) .nil))))) (.cons (.e (.cmp .lt (.var 4) (.blt .len (.cons (.var 1) .nil)))) .nil))) (.cons (.aug 4 .add (.cst (.int 1))) .nil) (.cons (.ife (.and (.cons (.e (.cmp .eq (.var 5) (.tup (.cons (.cst (.str [107, 101, 101, 112])) (.cons (.var 3) (.cons (.var 4) .nil)))))) (.cons (.e (.cmp .lt (.var 3) (.blt .len (.cons (.var 0) .nil)))) (.cons (.e (.cmp .lt (.var 4) (.blt .len (.cons (.var 1) .nil)))) (.cons (.e (.cmp .eq (.idx (.var 0) (.var 3)) (.idx (.var 1) (.var 4)))) .nil))))) (.cons (.par [3, 4] (.cons (.bin .add (.var 3) (.cst (.int 1))) (.cons (.bin .add (.var 4) (.cst (.int 1))) .nil))) .nil) (.cons (.ret (.cst (.bl false))) .nil)) .nil)) .nil)) .nil
def isB : Ss := .cons (.asg (.tp (.cons (.nm 3) (.cons (.nm 4) (.nil)))) (.tup (.cons (.cst (.int 0)) (.cons (.cst (.int 0)) .nil))))
  (.cons (.fr (.nm 5) .plain (.cons (.var 2) .nil) is_f0)
  (.cons (.ret (.and (.cons (.cmp .eq (.var 3) (.blt .len (.cons (.var 0) .nil))) (.cons (.cmp .eq (.var 4) (.blt .len (.cons (.var 1) .nil))) .nil)))) .nil))
def rw_e0 (iP : Nat) : E := .call iP (.cons (.var 0) (.cons (.lst (.cons (.cst (.str [97])) (.cons (.cst (.str [98])) (.cons (.cst (.str [99])) (.cons (.cst (.str [])) (.cons (.cst (.str [97, 32, 98])) .nil)))))) .nil))
def rwB (iP iT : Nat) : Ss := .cons (.ret (.blt .tuple (.cons (.comp [2] (.nm 2) .range (.cons (.call iT (.cons (.var 0) (.cons (.bin .add (.var 1) (.cst (.int 1))) .nil))) .nil) (.and .nil) ((rw_e0 iP))) .nil))) .nil
def lcm_f0 : Ss := .cons (.ife (.or (.cons (.e (.cmp .eq (.var 3) (.blt .len (.cons (.var 0) .nil)))) (.cons (.e (.cmp .eq (.var 4) (.blt .len (.cons (.var 1) .nil)))) .nil))) (.cons (.setI (.var 2) (.tup (.cons (.var 3) (.cons (.var 4) .nil))) (.cst (.int 0))) .nil) (.cons (.setI (.var 2) (.tup (.cons (.var 3) (.cons (.var 4) .nil))) (.blt .max3 (.cons (.idx (.var 2) (.tup (.cons (.bin .add (.var 3) (.cst (.int 1))) (.cons (.var 4) .nil)))) (.cons (.idx (.var 2) (.tup (.cons (.var 3) (.cons (.bin .add (.var 4) (.cst (.int 1))) .nil)))) (.cons (.ite (.e (.cmp .eq (.idx (.var 0) (.var 3)) (.idx (.var 1) (.var 4)))) (.bin .add (.idx (.var 2) (.tup (.cons (.bin .add (.var 3) (.cst (.int 1))) (.cons (.bin .add (.var 4) (.cst (.int 1))) .nil)))) (.cst (.int 1))) (.cst (.int 0))) .nil))))) .nil)) .nil
def lcm_f1 : Ss := .cons (.fr (.nm 4) .range (.cons (.blt .len (.cons (.var 1) .nil)) (.cons (.bin .sub (.cst (.int 0)) (.cst (.int 1))) (.cons (.bin .sub (.cst (.int 0)) (.cst (.int 1))) .nil))) lcm_f0) .nil
def lcmB : Ss := .cons (.asg (.nm 2) (.dnew true))
  (.cons (.fr (.nm 3) .range (.cons (.blt .len (.cons (.var 0) .nil)) (.cons (.bin .sub (.cst (.int 0)) (.cst (.int 1))) (.cons (.bin .sub (.cst (.int 0)) (.cst (.int 1))) .nil))) lcm_f1)
  (.cons (.ret (.var 2)) .nil))
def bnt_f0 (iP iT : Nat) : Ss := .cons (.asg (.nm 4) (.call iT (.cons (.var 0) (.cons (.bin .add (.blt .len (.cons (.var 2) .nil)) (.cst (.int 1))) .nil))))
  (.cons (.asg (.nm 5) (.call iT (.cons (.var 0) (.cons (.cst (.int 3)) .nil))))
  (.cons (.ife (.e (.cmp .eq (.var 5) (.cst (.int 0)))) (.cons (.exp (.bm .insert (.var 2) (.cons (.var 4) (.cons (.call iP (.cons (.var 0) (.cons (.lst (.cons (.cst (.str [120])) (.cons (.cst (.str [121])) (.cons (.cst (.str [97])) .nil)))) .nil))) .nil)))) .nil) (.cons (.ife (.and (.cons (.e (.cmp .lt (.var 4) (.blt .len (.cons (.var 2) .nil)))) (.cons (.e (.cmp .eq (.var 5) (.cst (.int 1)))) .nil))) (.cons (.exp (.bm .pop1 (.var 2) (.cons (.var 4) .nil))) .nil) (.cons (.ife (.e (.cmp .lt (.var 4) (.blt .len (.cons (.var 2) .nil)))) (.cons (.setI (.var 2) (.var 4) (.call iP (.cons (.var 0) (.cons (.lst (.cons (.cst (.str [120])) (.cons (.cst (.str [121])) (.cons (.cst (.str [98])) .nil)))) .nil)))) .nil) (.nil)) .nil)) .nil)) .nil))
def bntB (iP iT : Nat) : Ss := .cons (.asg (.nm 2) (.blt .list (.cons (.var 1) .nil)))
  (.cons (.fr (.nm 3) .range (.cons (.call iT (.cons (.var 0) (.cons (.cst (.int 4)) .nil))) .nil) (bnt_f0 iP iT))
  (.cons (.ret (.blt .tuple (.cons (.var 2) .nil))) .nil))
def rg_f0 : Ss := .cons (.ife (.e (.cmp .eq (.idx (.var 5) (.cst (.int 0))) (.cst (.str [100, 114, 111, 112])))) (.cons (.ife (.or (.cons (.e (.cmp .ne (.var 5) (.tup (.cons (.cst (.str [100, 114, 111, 112])) (.cons (.var 3) .nil))))) (.cons (.e (.cmp .ge (.var 3) (.blt .len (.cons (.var 0) .nil)))) .nil))) (.cons (.ret (.cst (.bl false))) .nil) (.nil))
  (.cons (.asg (.nm 3) (.bin .add (.var 3) (.cst (.int 1)))) .nil)) (.cons (.ife (.e (.cmp .eq (.idx (.var 5) (.cst (.int 0))) (.cst (.str [112, 117, 116])))) (.cons (.ife (.or (.cons (.e (.cmp .ne (.var 5) (.tup (.cons (.cst (.str [112, 117, 116])) (.cons (.var 4) .nil))))) (.cons (.e (.cmp .ge (.var 4) (.blt .len (.cons (.var 1) .nil)))) .nil))) (.cons (.ret (.cst (.bl false))) .nil) (.nil))
  (.cons (.asg (.nm 4) (.bin .add (.var 4) (.cst (.int 1)))) .nil)) (.cons (.ife (.or (.cons (.e (.cmp .ne (.var 5) (.tup (.cons (.cst (.str [107, 101, 101, 112])) (.cons (.var 3) (.cons (.var 4) .nil)))))) (.cons (.e (.cmp .ge (.var 3) (.blt .len (.cons (.var 0) .nil)))) (.cons (.e (.cmp .ge (.var 4) (.blt .len (.cons (.var 1) .nil)))) (.cons (.e (.cmp .ne (.idx (.var 0) (.var 3)) (.idx (.var 1) (.var 4)))) .nil))))) (.cons (.ret (.cst (.bl false))) .nil) (.nil))
  (.cons (.asg (.nm 3) (.bin .add (.var 3) (.cst (.int 1))))
  (.cons (.asg (.nm 4) (.bin .add (.var 4) (.cst (.int 1)))) .nil)))) .nil)) .nil
def rgB : Ss := .cons (.asg (.nm 3) (.cst (.int 0)))
  (.cons (.asg (.nm 4) (.cst (.int 0)))
  (.cons (.fr (.nm 5) .plain (.cons (.var 2) .nil) rg_f0)
  (.cons (.ret (.and (.cons (.cmp .eq (.var 3) (.blt .len (.cons (.var 0) .nil))) (.cons (.cmp .eq (.var 4) (.blt .len (.cons (.var 1) .nil))) .nil)))) .nil)))
/-! ### the most that can be kept -/
abbrev Rw := List (List Nat)
def lc : Rw → Rw → Nat
  | [], _ => 0
  | _ :: _, [] => 0
  | a :: x, b :: y => max (max (lc x (b :: y)) (lc (a :: x) y)) (if a = b then lc x y + 1 else 0)
termination_by x y => x.length + y.length
@[simp] theorem lc_nil (y : Rw) : lc [] y = 0 := by rw [lc]
@[simp] theorem lc_nil2 (x : Rw) : lc x [] = 0 := by cases x <;> rw [lc]
theorem lc_cons (a b : List Nat) (x y : Rw) : lc (a :: x) (b :: y) = max (max (lc x (b :: y)) (lc (a :: x) y)) (if a = b then lc x y + 1 else 0) := by rw [lc]
def LT (one other : Rw) (i j : Nat) : Nat := lc (one.drop i) (other.drop j)
theorem LT_n (one other : Rw) {i : Nat} (h : one.length ≤ i) (j : Nat) : LT one other i j = 0 := by
  unfold LT; rw [List.drop_of_length_le h]; simp
theorem LT_m (one other : Rw) (i : Nat) {j : Nat} (h : other.length ≤ j) : LT one other i j = 0 := by
  unfold LT; rw [List.drop_of_length_le h]; simp
theorem LT_step (one other : Rw) {i j : Nat} (hi : i < one.length) (hj : j < other.length) : LT one other i j = max (max (LT one other (i + 1) j) (LT one other i (j + 1))) (if one[i] = other[j] then LT one other (i + 1) (j + 1) + 1 else 0) := by
  unfold LT
  rw [List.drop_eq_getElem_cons hi, List.drop_eq_getElem_cons hj, lc_cons]
theorem lc_le (x y : Rw) : lc x y ≤ x.length := by
  have : ∀ (n : Nat) (x y : Rw), x.length + y.length ≤ n → lc x y ≤ x.length := by
    intro n
    induction n with
    | zero =>
      intro x y h
      have : x = [] := List.length_eq_zero_iff.mp (by omega)
      subst this; simp
    | succ n ih =>
      intro x y h
      cases x with
      | nil => simp
      | cons a x =>
        cases y with
        | nil => simp
        | cons b y =>
          simp only [List.length_cons] at *
          have h1 := ih x (b :: y) (by simp; omega)
          have h2 := ih (a :: x) y (by simp; omega)
          have h3 := ih x y (by omega)
          rw [lc_cons]
          simp only [List.length_cons] at h2
          split <;> omega
  exact this _ x y (Nat.le_refl _)
theorem lc_comm (x y : Rw) : lc x y = lc y x := by
  have : ∀ (n : Nat) (x y : Rw), x.length + y.length ≤ n → lc x y = lc y x := by
    intro n
    induction n with
    | zero =>
      intro x y h
      have : x = [] := List.length_eq_zero_iff.mp (by omega)
      subst this; simp
    | succ n ih =>
      intro x y h
      cases x with
      | nil => simp
      | cons a x =>
        cases y with
        | nil => simp
        | cons b y =>
          simp only [List.length_cons] at *
          have h1 := ih x (b :: y) (by simp; omega)
          have h2 := ih (a :: x) y (by simp; omega)
          have h3 := ih x y (by omega)
          rw [lc_cons, lc_cons, h1, h2, h3]
          by_cases e : a = b
          · rw [if_pos e, if_pos e.symm]; omega
          · rw [if_neg e, if_neg (Ne.symm e)]; omega
  exact this _ x y (Nat.le_refl _)
/-! ### common_table: rows of numbers in the heap -/
def upf (f : Nat → Nat → Nat) (i j v : Nat) : Nat → Nat → Nat := fun a b => if a = i ∧ b = j then v else f a b
def rowV (f : Nat → Nat → Nat) (m i : Nat) : List Val := (List.range (m + 1)).map fun j => .int (f i j)
def tb (f : Nat → Nat → Nat) (n m : Nat) : Gh := (List.range (n + 1)).map fun i => .lst (rowV f m i)
def refs (b n : Nat) : List Val := (List.range (n + 1)).map fun i => .ref (b + i)
def tbH (g : Gh) (f : Nat → Nat → Nat) (n m : Nat) (l : Gh) : Gh := g ++ (tb f n m ++ .lst (refs g.length n) :: l)
@[simp] theorem tb_len (f : Nat → Nat → Nat) (n m : Nat) : (tb f n m).length = n + 1 := by simp [tb]
@[simp] theorem rowV_len (f : Nat → Nat → Nat) (m i : Nat) : (rowV f m i).length = m + 1 := by simp [rowV]
theorem tbH_row (g : Gh) (f : Nat → Nat → Nat) (n m : Nat) (l : Gh) {i : Nat} (hi : i ≤ n) : (tbH g f n m l)[g.length + i]? = some (.lst (rowV f m i)) := by
  unfold tbH
  rw [List.getElem?_append_right (by omega), List.getElem?_append_left (by simp; omega), show g.length + i - g.length = i by omega]
  unfold tb
  rw [List.getElem?_map, List.getElem?_range (by omega)]; rfl
theorem tbH_refs (g : Gh) (f : Nat → Nat → Nat) (n m : Nat) (l : Gh) : (tbH g f n m l)[g.length + n + 1]? = some (.lst (refs g.length n)) := by
  unfold tbH
  rw [List.getElem?_append_right (by omega), List.getElem?_append_right (by simp; omega)]
  have : g.length + n + 1 - g.length - (tb f n m).length = 0 := by simp; omega
  rw [this]; rfl
theorem refs_at (b n : Nat) {i : Nat} (hi : i ≤ n) : atI (refs b n) (i : Int) = some (.ref (b + i)) := by
  rw [atI_nat]; unfold refs
  rw [List.getElem?_map, List.getElem?_range (by omega)]; rfl
theorem row_at (f : Nat → Nat → Nat) (m i : Nat) {j : Nat} (hj : j ≤ m) : atI (rowV f m i) (j : Int) = some (.int (f i j)) := by
  rw [atI_nat]; unfold rowV
  rw [List.getElem?_map, List.getElem?_range (by omega)]; rfl
theorem row_set (f : Nat → Nat → Nat) (m i : Nat) (j v : Nat) (hj : j ≤ m) : (rowV f m i).set j (.int v) = rowV (upf f i j v) m i := by
  unfold rowV
  apply List.ext_getElem?
  intro k
  by_cases hk : k < m + 1
  · by_cases e : k = j
    · subst e
      rw [List.getElem?_set_self (by simp; omega), List.getElem?_map, List.getElem?_range hk]
      simp [upf]
    · rw [List.getElem?_set_ne (Ne.symm e), List.getElem?_map, List.getElem?_map, List.getElem?_range hk]
      simp [upf, e]
  · rw [List.getElem?_eq_none (by simp; omega), List.getElem?_eq_none (by simp; omega)]
theorem tbH_set (g : Gh) (f : Nat → Nat → Nat) (n m : Nat) (l : Gh) {i : Nat} (hi : i ≤ n) (j v : Nat) (hj : j ≤ m) : (tbH g f n m l).set (g.length + i) (.lst ((rowV f m i).set j (.int v))) = tbH g (upf f i j v) n m l := by
  rw [row_set f m i j v hj]
  unfold tbH
  rw [List.set_append_right _ _ (by omega), List.set_append_left _ _ (by simp; omega), show g.length + i - g.length = i by omega]
  congr 2
  unfold tb
  apply List.ext_getElem?
  intro k
  by_cases hk : k < n + 1
  · by_cases e : k = i
    · subst e
      rw [List.getElem?_set_self (by simp; omega), List.getElem?_map, List.getElem?_range hk]
      rfl
    · rw [List.getElem?_set_ne (Ne.symm e), List.getElem?_map, List.getElem?_map, List.getElem?_range hk]
      have : rowV (upf f i j v) m k = rowV f m k := by
        unfold rowV
        refine List.map_congr_left fun b _ => ?_
        simp [upf, e]
      simp [this]
  · rw [List.getElem?_eq_none (by simp; omega), List.getElem?_eq_none (by simp; omega)]
theorem tbH_congr (g : Gh) {f f' : Nat → Nat → Nat} (n m : Nat) (l : Gh) (h : ∀ a ≤ n, ∀ b ≤ m, f a b = f' a b) : tbH g f n m l = tbH g f' n m l := by
  unfold tbH
  congr 2
  unfold tb
  refine List.map_congr_left fun a ha => ?_
  rw [List.mem_range] at ha
  congr 1
  unfold rowV
  refine List.map_congr_left fun b hb => ?_
  rw [List.mem_range] at hb
  rw [h a (by omega) b (by omega)]
end KQ

namespace KQ
open KM
theorem max_int (a b : Nat) : (if (b : Int) > (a : Int) then (b : Int) else (a : Int)) = ((max a b : Nat) : Int) := by split <;> omega
def ctv (one other : Rw) (f : Nat → Nat → Nat) (i j : Nat) : Nat := if one[i]? = other[j]? then max (max (f (i + 1) j) (f i (j + 1))) (f (i + 1) (j + 1) + 1) else max (f (i + 1) j) (f i (j + 1))
theorem ct_turn (call : Call) (one other : Rw) (g : Gh) (f : Nat → Nat → Nat) {i j : Nat} (hi : i < one.length) (hj : j < other.length) (x4 x5 x6 : Option Val) :
    ∃ y5, fbody call (.nm 4) ct_f0 (.int j) [some (.tup (sV one)), some (.tup (sV other)), some (.ref (g.length + one.length + 1)), some (.int i), x4, x5, x6] (tbH g f one.length other.length []) =
      .nx [some (.tup (sV one)), some (.tup (sV other)), some (.ref (g.length + one.length + 1)), some (.int i), some (.int j), y5, x6] (tbH g (upf f i j (ctv one other f i j)) one.length other.length []) := by
  have hR := tbH_refs g f one.length other.length []
  have h1 := tbH_row g f one.length other.length [] (i := i) (by omega)
  have h2 := tbH_row g f one.length other.length [] (i := i + 1) (by omega)
  have r1 := refs_at g.length one.length (i := i) (by omega)
  have r2 := refs_at g.length one.length (i := i + 1) (by omega)
  have a1 := row_at f other.length (i + 1) (j := j) (by omega)
  have a2 := row_at f other.length i (j := j + 1) (by omega)
  have a3 := row_at f other.length (i + 1) (j := j + 1) (by omega)
  have s1 := tbH_set g f one.length other.length [] (i := i) (by omega) j (ctv one other f i j) (by omega)
  have o1 := at_sV (l := one) (k := i) (List.getElem?_eq_getElem hi)
  have o2 := at_sV (l := other) (k := j) (List.getElem?_eq_getElem hj)
  have ix : ixN (other.length + 1) (j : Int) = some j := ixN_nat (by omega)
  obtain ⟨M, hM⟩ : ∃ M, M = max (f (i + 1) j) (f i (j + 1)) := ⟨_, rfl⟩
  obtain ⟨M2, hM2⟩ : ∃ M2, M2 = max M (f (i + 1) (j + 1) + 1) := ⟨_, rfl⟩
  have m1 : ∀ g, bltV .max2 [.int (f (i + 1) j), .int (f i (j + 1))] g = .ok (.int M) g := fun g => by rw [max2_int, max_int, hM]
  have m2 : ∀ g, bltV .max2 [.int M, .int ((f (i + 1) (j + 1) : Int) + 1)] g = .ok (.int M2) g := fun g => by rw [max2_int, hM2, ← max_int]; rfl
  have ec : (one[i] == other[j]) = decide (one[i]? = other[j]?) := by
    rw [List.getElem?_eq_getElem hi, List.getElem?_eq_getElem hj]
    by_cases e : one[i] = other[j] <;> simp [e]
  have ci : (((i + 1 : Nat)) : Int) = (i : Int) + 1 := by omega
  have cj : (((j + 1 : Nat)) : Int) = (j : Int) + 1 := by omega
  rw [ci] at r2
  rw [cj] at a2 a3
  unfold ctv at s1 ⊢
  rw [← hM] at s1 ⊢
  rw [← hM2] at s1 ⊢
  generalize one[i] = A at *
  generalize other[j] = B at *
  generalize hv : tbH g f one.length other.length [] = G at *
  refine ⟨some (.int M), ?_⟩
  by_cases e : one[i]? = other[j]?
  · rw [if_pos e] at s1 ⊢
    rw [decide_eq_true e] at ec
    simp only [fbody, ct_f0, asgT_nm]
    simp [-max2_int, hR, r2, r1, h1, h2, a1, a2, a3, m1, m2, o1, o2, ec, ix, s1]
  · rw [if_neg e] at s1 ⊢
    rw [decide_eq_false e] at ec
    simp only [fbody, ct_f0, asgT_nm]
    simp [-max2_int, hR, r2, r1, h1, h2, a1, a2, a3, m1, o1, o2, ec, ix, s1]
theorem ct_turn_v (one other : Rw) (f : Nat → Nat → Nat) {i j : Nat} (hi : i < one.length) (hj : j < other.length) (h1 : f (i + 1) j = LT one other (i + 1) j) (h2 : f i (j + 1) = LT one other i (j + 1)) (h3 : f (i + 1) (j + 1) = LT one other (i + 1) (j + 1)) : ctv one other f i j = LT one other i j := by
  rw [LT_step one other hi hj]
  unfold ctv
  rw [h1, h2, h3, List.getElem?_eq_getElem hi, List.getElem?_eq_getElem hj]
  by_cases e : one[i] = other[j]
  · rw [if_pos (by rw [e]), if_pos e]
  · rw [if_neg (fun z => e (Option.some.inj z)), if_neg e]; omega
theorem ct_inner (call : Call) (one other : Rw) (hm : other.length ≤ 1000) (g : Gh) (f : Nat → Nat → Nat) {i : Nat} (hi : i < one.length) (hf : ∀ b, f (i + 1) b = LT one other (i + 1) b) (h0 : f i other.length = 0) (x3 x4 x5 x6 : Option Val) :
    ∃ f' y4 y5, (∀ a b, (a ≠ i ∨ other.length < b) → f' a b = f a b) ∧ (∀ b ≤ other.length, f' i b = LT one other i b) ∧
      fbody call (.nm 3) ct_f1 (.int i) [some (.tup (sV one)), some (.tup (sV other)), some (.ref (g.length + one.length + 1)), x3, x4, x5, x6] (tbH g f one.length other.length []) =
        .nx [some (.tup (sV one)), some (.tup (sV other)), some (.ref (g.length + one.length + 1)), some (.int i), y4, y5, x6] (tbH g f' one.length other.length []) := by
  obtain ⟨s', g', e, f', y4, y5, h1, h2, rfl, rfl⟩ := for_inv (body := fbody call (.nm 4) ct_f0) (it := .items (rngC ((other.length : Int) - 1) (-1) other.length)) (xs := rngC ((other.length : Int) - 1) (-1) other.length) (s := [some (.tup (sV one)), some (.tup (sV other)), some (.ref (g.length + one.length + 1)), some (.int i), x4, x5, x6]) (g := tbH g f one.length other.length [])
    (fun k s G => ∃ f' y4 y5, (∀ a b, (a ≠ i ∨ other.length < b) → f' a b = f a b) ∧ (∀ b, other.length - k ≤ b → b ≤ other.length → f' i b = LT one other i b) ∧ s = [some (.tup (sV one)), some (.tup (sV other)), some (.ref (g.length + one.length + 1)), some (.int i), y4, y5, x6] ∧ G = tbH g f' one.length other.length [])
    ⟨f, x4, x5, fun _ _ _ => rfl, fun b hb1 hb2 => by
      have : b = other.length := by omega
      subst this; rw [h0, LT_m _ _ _ (Nat.le_refl _)], rfl, rfl⟩ (fun k s G _ _ => rfl) (by rw [rngC_len, WF_eq]; omega)
    (fun k x s G ⟨f', y4, y5, h1, h2, hs, hG⟩ hx => by
      obtain ⟨rfl, hk⟩ := rngC_get hx
      subst hs hG
      have ej : (other.length : Int) - 1 + k * (-1) = ((other.length - 1 - k : Nat) : Int) := by omega
      rw [ej]
      obtain ⟨y, he⟩ := ct_turn call one other g f' hi (j := other.length - 1 - k) (by omega) y4 y5 x6
      refine ⟨_, _, .inl he, _, _, _, ?_, ?_, rfl, rfl⟩
      · intro a b ha
        unfold upf
        rw [if_neg (fun z => by rcases ha with h | h <;> omega)]; exact h1 a b ha
      · intro b hb1 hb2
        unfold upf
        by_cases e : b = other.length - 1 - k
        · rw [if_pos ⟨rfl, e⟩, e]
          refine ct_turn_v one other f' hi (by omega) ?_ ?_ ?_
          · rw [h1 _ _ (.inl (by omega)), hf]
          · exact h2 _ (by omega) (by omega)
          · rw [h1 _ _ (.inl (by omega)), hf]
        · rw [if_neg (fun z => e z.2)]
          exact h2 b (by omega) hb2)
  rw [rngC_len] at h2
  refine ⟨f', y4, y5, h1, fun b hb => h2 b (by omega) hb, ?_⟩
  have i1 : intsIn ((other.length : Int) - 1) = true := intsIn_of (by omega) (by omega)
  have mr := mkRange_dn ((other.length : Int) - 1) (-1) i1 rfl
  rw [show ((other.length : Int) - 1 - -1).toNat = other.length by omega] at mr
  simp [fbody, ct_f1, mr, e]
theorem common_table {ft : Nat → Option Fn} {iC : Nat} (hC : ft iC = some ⟨2, 7, ctB⟩) {m : Nat} (hm : 1 ≤ m) (one other : Rw) (h1 : one.length ≤ 1000) (h2 : other.length ≤ 1000) (g : Gh) :
    run ft m iC [.tup (sV one), .tup (sV other)] g = .ok (.ref (g.length + one.length + 1)) (tbH g (LT one other) one.length other.length []) := by
  have hS : SL = 1000000 := rfl
  rw [run_at hC (by omega) _ _ rfl]
  -- the rows of zeros
  have hz : ∀ k, (g ++ (tb (fun _ _ => 0) one.length other.length).take k).length = g.length + min k (one.length + 1) := fun k => by simp
  have hrow : (List.replicate ((other.length : Int) + 1).toNat [Val.int 0]).flatten = rowV (fun _ _ => 0) other.length 0 := by
    rw [show ((other.length : Int) + 1).toNat = other.length + 1 by omega]
    unfold rowV
    apply List.ext_getElem?
    intro k
    have : ∀ n, (List.replicate n [Val.int 0]).flatten = List.replicate n (Val.int 0) := fun n => by
      induction n with
      | zero => rfl
      | succ n ih => rw [List.replicate_succ, List.flatten_cons, ih]; rfl
    rw [this]
    by_cases hk : k < other.length + 1
    · rw [List.getElem?_replicate, if_pos hk, List.getElem?_map, List.getElem?_range hk]; rfl
    · rw [List.getElem?_eq_none (by simp; omega), List.getElem?_eq_none (by simp; omega)]
  have i0 : intsIn ((other.length : Int) + 1) = true := intsIn_of (by omega) (by omega)
  obtain ⟨a', g', ec, ha, hg⟩ := comp_inv (body := cbody (run ft (m - 1)) [some (.tup (sV one)), some (.tup (sV other)), none, none, none, none, none] [6] (.nm 6) (.and .nil) ct_e0) (it := .items (rng (one.length + 1))) (xs := rng (one.length + 1)) (g := g)
    (fun k a G => a = (refs g.length one.length).take k ∧ G = g ++ (tb (fun _ _ => 0) one.length other.length).take k) ⟨by simp, by simp⟩ (fun _ _ _ _ _ => rfl) (fun k a G h => by rw [h.1]; simp; omega) (by rw [rng_len]; omega)
    (fun k x a G ⟨ha, hG⟩ hx => by
      obtain ⟨rfl, hk⟩ := rng_get hx
      have hl : G.length = g.length + k := by rw [hG, hz]; omega
      have e1 : (refs g.length one.length).take (k + 1) = (refs g.length one.length).take k ++ [.ref (g.length + k)] := by
        have h3 : (refs g.length one.length)[k]? = some (.ref (g.length + k)) := by
          unfold refs; rw [List.getElem?_map, List.getElem?_range (by omega)]; rfl
        rw [List.take_succ, h3]; rfl
      have e2 : (tb (fun _ _ => 0) one.length other.length).take (k + 1) = (tb (fun _ _ => 0) one.length other.length).take k ++ [.lst (rowV (fun _ _ => 0) other.length 0)] := by
        have : (tb (fun _ _ => 0) one.length other.length)[k]? = some (.lst (rowV (fun _ _ => 0) other.length 0)) := by
          unfold tb; rw [List.getElem?_map, List.getElem?_range (by omega)]; rfl
        rw [List.take_succ, this]; rfl
      refine ⟨some (.ref G.length), G ++ [.lst (rowV (fun _ _ => 0) other.length 0)], ?_, by rw [ha, e1, hl]; rfl, by rw [hG, e2, List.append_assoc]⟩
      have hq : (G ++ [Cell.lst [Val.int 0]])[G.length]? = some (.lst [.int 0]) := by simp
      have okr : okvs G.length (rowV (fun _ _ => 0) other.length 0) = true := okvs_of fun x hx => by
        unfold rowV at hx
        obtain ⟨_, _, rfl⟩ := List.mem_map.mp hx; rfl
      have gl : (G ++ [Cell.lst [Val.int 0], .lst (rowV (fun _ _ => 0) other.length 0)])[G.length + 1]? = some (.lst (rowV (fun _ _ => 0) other.length 0)) := by
        rw [List.getElem?_append_right (by omega)]; simp
      have zl : (other.length : Int) + 1 ≤ 1000000 := by omega
      have zl : other.length ≤ 999999 := by omega
      have hrow' : List.replicate (other.length + 1) (Val.int 0) = rowV (fun _ _ => 0) other.length 0 := by
        rw [← hrow, show ((other.length : Int) + 1).toNat = other.length + 1 by omega]
        have : ∀ n, (List.replicate n [Val.int 0]).flatten = List.replicate n (Val.int 0) := fun n => by
          induction n with
          | zero => rfl
          | succ n ih => rw [List.replicate_succ, List.flatten_cons, ih]; rfl
        rw [this]
      generalize rowV (fun _ _ => 0) other.length 0 = Z at *
      simp [cbody, ct_e0, i0, hrow', hS, okr, zl, gl, show ¬ G.length + 1 < G.length by omega])
  rw [rng_len] at ha hg
  rw [List.take_of_length_le (by simp [refs])] at ha
  rw [List.take_of_length_le (by simp)] at hg
  subst ha hg
  obtain ⟨s', g', e, f', y3, y4, y5, q1, q2, rfl, rfl⟩ := for_inv (body := fbody (run ft (m - 1)) (.nm 3) ct_f1) (it := .items (rngC ((one.length : Int) - 1) (-1) one.length)) (xs := rngC ((one.length : Int) - 1) (-1) one.length) (s := [some (.tup (sV one)), some (.tup (sV other)), some (.ref (g.length + one.length + 1)), none, none, none, none]) (g := tbH g (fun _ _ => 0) one.length other.length [])
    (fun k s G => ∃ f' y3 y4 y5, (∀ a, one.length - k ≤ a → ∀ b, b ≤ other.length → f' a b = LT one other a b) ∧ (∀ a b, (a < one.length - k ∨ other.length < b) → f' a b = 0) ∧ s = [some (.tup (sV one)), some (.tup (sV other)), some (.ref (g.length + one.length + 1)), y3, y4, y5, none] ∧ G = tbH g f' one.length other.length [])
    ⟨fun _ _ => 0, none, none, none, fun a ha b hb => by rw [LT_n _ _ (by omega)], fun _ _ _ => rfl, rfl, rfl⟩ (fun k s G _ _ => rfl) (by rw [rngC_len, WF_eq]; omega)
    (fun k x s G ⟨f', y3, y4, y5, q1, q2, hs, hG⟩ hx => by
      obtain ⟨rfl, hk⟩ := rngC_get hx
      subst hs hG
      have ej : (one.length : Int) - 1 + k * (-1) = ((one.length - 1 - k : Nat) : Int) := by omega
      rw [ej]
      obtain ⟨f2, z4, z5, w1, w2, he⟩ := ct_inner (run ft (m - 1)) one other h2 g f' (i := one.length - 1 - k) (by omega) (fun b => by
        by_cases hb : b ≤ other.length
        · exact q1 _ (by omega) b hb
        · rw [q2 _ _ (.inr (by omega)), LT_m _ _ _ (by omega)]) (q2 _ _ (.inl (by omega))) y3 y4 y5 none
      refine ⟨_, _, .inl he, f2, _, z4, z5, ?_, ?_, rfl, rfl⟩
      · intro a ha b hb
        by_cases e : a = one.length - 1 - k
        · rw [e]; exact w2 b hb
        · rw [w1 a b (.inl e)]; exact q1 a (by omega) b hb
      · intro a b hab
        by_cases e : a = one.length - 1 - k
        · rw [w1 a b (.inr (by omega))]; exact q2 a b (.inr (by omega))
        · rw [w1 a b (.inl e)]; exact q2 a b (by omega))
  rw [rngC_len] at q1
  have hfin : tbH g f' one.length other.length [] = tbH g (LT one other) one.length other.length [] := tbH_congr g _ _ _ fun a ha b hb => q1 a (by omega) b hb
  rw [hfin] at e
  have i1 : intsIn ((one.length : Int) - 1) = true := intsIn_of (by omega) (by omega)
  have mr := mkRange_dn ((one.length : Int) - 1) (-1) i1 rfl
  rw [show ((one.length : Int) - 1 - -1).toNat = one.length by omega] at mr
  have i2 : intsIn ((one.length : Int) + 1) = true := intsIn_of (by omega) (by omega)
  have ec' : compG (cbody (run ft (m - 1)) [some (.tup (sV one)), some (.tup (sV other)), none, none, none, none, none] [6] (.nm 6) (.and .nil) ct_e0) (.items (rng ((one.length : Int) + 1).toNat)) WF 0 [] g = .ok (refs g.length one.length) (g ++ tb (fun _ _ => 0) one.length other.length) := by
    rw [show ((one.length : Int) + 1).toNat = one.length + 1 by omega]; exact ec
  have eH : g ++ tb (fun _ _ => 0) one.length other.length ++ [.lst (refs g.length one.length)] = tbH g (fun _ _ => 0) one.length other.length [] := by
    unfold tbH; rw [List.append_assoc]
  have hL : (g ++ tb (fun _ _ => 0) one.length other.length).length = g.length + one.length + 1 := by simp; omega
  have hok : okc g.length (.lst (refs g.length one.length)) = false := by
    show okvs g.length (refs g.length one.length) = false
    have : refs g.length one.length = .ref g.length :: (refs g.length one.length).tail := by
      unfold refs; rw [List.range_succ_eq_map]; rfl
    rw [this]
    show (decide (g.length < g.length) && _) = false
    rw [decide_eq_false (Nat.lt_irrefl _)]; rfl
  have htd : ∀ (f : Nat → Nat → Nat), tidy g (.ok (.ref (g.length + one.length + 1)) (tbH g f one.length other.length [])) = .ok (.ref (g.length + one.length + 1)) (tbH g f one.length other.length []) := fun f => by
    unfold tidy
    simp only
    have h1 : okv g.length (.ref (g.length + one.length + 1)) = false := decide_eq_false (by omega)
    rw [h1, tbH_refs]
    simp only [hok, if_neg Bool.false_ne_true, ite_self]
  have st1 : ex (run ft (m - 1)) (.asg (.nm 2) (.comp [6] (.nm 6) .range (.cons (.bin .add (.blt .len (.cons (.var 0) .nil)) (.cst (.int 1))) .nil) (.and .nil) (ct_e0))) [some (.tup (sV one)), some (.tup (sV other)), none, none, none, none, none] g = .nx [some (.tup (sV one)), some (.tup (sV other)), some (.ref (g.length + one.length + 1)), none, none, none, none] (tbH g (fun _ _ => 0) one.length other.length []) := by
    have hev := ev_comp_it (call := run ft (m - 1)) (own := [6]) (tg := .nm 6) (k := .range) (its := .cons (.bin .add (.blt .len (.cons (.var 0) .nil)) (.cst (.int 1))) .nil) (cond := .and .nil) (elt := ct_e0) (s := [some (.tup (sV one)), some (.tup (sV other)), none, none, none, none, none]) (g := g) (g1 := g) (vs := [.int ((one.length : Int) + 1)]) (it := .items (rng ((one.length : Int) + 1).toNat)) (by simp) (by rw [mkIter_range, mkRange_1, if_pos i2]) ec'
    rw [ex_asg, hev, hL, eH, htd]
    rfl
  have hb : exs (run ft (m - 1)) ctB [some (.tup (sV one)), some (.tup (sV other)), none, none, none, none, none] g = .rt (.ref (g.length + one.length + 1)) (tbH g (LT one other) one.length other.length []) := by
    unfold ctB
    rw [exs_step st1]
    generalize tbH g (fun _ _ => 0) one.length other.length [] = G0 at *
    generalize tbH g (LT one other) one.length other.length [] = G1 at *
    simp [mr, e]
  show tidy g (fin (exs (run ft (m - 1)) ctB [some (.tup (sV one)), some (.tup (sV other)), none, none, none, none, none] g)) = _
  rw [hb, fin_rt, htd]
end KQ

namespace KQ
open KM
inductive St where | drop (i : Nat) | put (j : Nat) | keep (i j : Nat)
  deriving DecidableEq
abbrev wDrop : List Nat := [100, 114, 111, 112]
abbrev wPut : List Nat := [112, 117, 116]
abbrev wKeep : List Nat := [107, 101, 101, 112]
def stV : St → Val
  | .drop i => .tup [.str wDrop, .int i]
  | .put j => .tup [.str wPut, .int j]
  | .keep i j => .tup [.str wKeep, .int i, .int j]
def stVs (l : List St) : List Val := l.map stV
@[simp] theorem stVs_nil : stVs [] = [] := rfl
@[simp] theorem stVs_cons (p : St) (l : List St) : stVs (p :: l) = stV p :: stVs l := rfl
@[simp] theorem stVs_app (a b : List St) : stVs (a ++ b) = stVs a ++ stVs b := by simp [stVs]
@[simp] theorem stVs_len (l : List St) : (stVs l).length = l.length := by simp [stVs]
@[simp] theorem okvs_stVs (n : Nat) (l : List St) : okvs n (stVs l) = true := okvs_of fun x hx => by
  obtain ⟨i, _, rfl⟩ := List.mem_map.mp hx
  cases i <;> rfl
@[simp] theorem flats_stVs (n : Nat) (l : List St) : flats (n + 1) (stVs l) = true := flats_of fun x hx => by
  obtain ⟨i, _, rfl⟩ := List.mem_map.mp hx
  cases i <;> simp [stV]
def scr : Rw → Rw → Nat → Nat → List St
  | [], [], _, _ => []
  | [], _ :: y, i, j => .put j :: scr [] y i (j + 1)
  | a :: x, [], i, j => .drop i :: scr x [] (i + 1) j
  | a :: x, b :: y, i, j => if lc x (b :: y) = lc (a :: x) (b :: y) then .drop i :: scr x (b :: y) (i + 1) j
    else if a = b ∧ lc x y + 1 = lc (a :: x) (b :: y) then .keep i j :: scr x y (i + 1) (j + 1)
    else .put j :: scr (a :: x) y i (j + 1)
termination_by x y => x.length + y.length
@[simp] theorem scr_nn (i j : Nat) : scr [] [] i j = [] := by rw [scr]
theorem scr_n (b : List Nat) (y : Rw) (i j : Nat) : scr [] (b :: y) i j = .put j :: scr [] y i (j + 1) := by rw [scr]
theorem scr_m (a : List Nat) (x : Rw) (i j : Nat) : scr (a :: x) [] i j = .drop i :: scr x [] (i + 1) j := by rw [scr]
theorem scr_c (a b : List Nat) (x y : Rw) (i j : Nat) : scr (a :: x) (b :: y) i j = if lc x (b :: y) = lc (a :: x) (b :: y) then .drop i :: scr x (b :: y) (i + 1) j
    else if a = b ∧ lc x y + 1 = lc (a :: x) (b :: y) then .keep i j :: scr x y (i + 1) (j + 1)
    else .put j :: scr (a :: x) y i (j + 1) := by rw [scr]
/-- where the script is at two places of the rows -/
def scA (one other : Rw) (i j : Nat) : List St := scr (one.drop i) (other.drop j) i j
theorem scA_end (one other : Rw) {i j : Nat} (hi : one.length ≤ i) (hj : other.length ≤ j) : scA one other i j = [] := by
  unfold scA; rw [List.drop_of_length_le hi, List.drop_of_length_le hj, scr_nn]
theorem scA_drop (one other : Rw) {i j : Nat} (hi : i < one.length) (h : LT one other (i + 1) j = LT one other i j) : scA one other i j = .drop i :: scA one other (i + 1) j := by
  unfold scA
  unfold LT at h
  rw [List.drop_eq_getElem_cons hi] at *
  cases hy : other.drop j with
  | nil => rw [scr_m]
  | cons b y => rw [hy] at h; rw [scr_c, if_pos h]
theorem scA_keep (one other : Rw) {i j : Nat} (hi : i < one.length) (hj : j < other.length) (h : LT one other (i + 1) j ≠ LT one other i j) (he : one[i] = other[j]) (h2 : LT one other (i + 1) (j + 1) + 1 = LT one other i j) : scA one other i j = .keep i j :: scA one other (i + 1) (j + 1) := by
  unfold scA
  unfold LT at h h2
  rw [List.drop_eq_getElem_cons hi, List.drop_eq_getElem_cons hj] at *
  rw [scr_c, if_neg h, if_pos ⟨he, h2⟩]
theorem scA_put0 (one other : Rw) {i j : Nat} (hi : one.length ≤ i) (hj : j < other.length) : scA one other i j = .put j :: scA one other i (j + 1) := by
  unfold scA
  rw [List.drop_of_length_le hi, List.drop_eq_getElem_cons hj, scr_n]
theorem scA_put (one other : Rw) {i j : Nat} (hi : i < one.length) (hj : j < other.length) (h : LT one other (i + 1) j ≠ LT one other i j) (h2 : ¬ (one[i] = other[j] ∧ LT one other (i + 1) (j + 1) + 1 = LT one other i j)) : scA one other i j = .put j :: scA one other i (j + 1) := by
  unfold scA
  unfold LT at h h2
  rw [List.drop_eq_getElem_cons hi, List.drop_eq_getElem_cons hj] at *
  rw [scr_c, if_neg h, if_neg h2]
/-! ### the walk -/
theorem tbH_ext (g : Gh) (f : Nat → Nat → Nat) (n m : Nat) (C : Cell) : (tbH g f n m [C])[g.length + n + 2]? = some C := by
  unfold tbH
  rw [List.getElem?_append_right (by omega), List.getElem?_append_right (by simp; omega)]
  have : g.length + n + 2 - g.length - (tb f n m).length = 1 := by simp; omega
  rw [this]; rfl
theorem tbH_extset (g : Gh) (f : Nat → Nat → Nat) (n m : Nat) (C D : Cell) : (tbH g f n m [C]).set (g.length + n + 2) D = tbH g f n m [D] := by
  unfold tbH
  rw [List.set_append_right _ _ (by omega), List.set_append_right _ _ (by simp; omega)]
  have : g.length + n + 2 - g.length - (tb f n m).length = 1 := by simp; omega
  rw [this]; rfl
theorem tbH_app (g : Gh) (f : Nat → Nat → Nat) (n m : Nat) (C : Cell) : tbH g f n m [] ++ [C] = tbH g f n m [C] := by
  unfold tbH; simp
theorem tbH_len (g : Gh) (f : Nat → Nat → Nat) (n m : Nat) (l : Gh) : (tbH g f n m l).length = g.length + n + 2 + l.length := by
  unfold tbH; simp; omega
theorem refs_bad (g : Gh) (n : Nat) : okc g.length (.lst (refs g.length n)) = false := by
  show okvs g.length (refs g.length n) = false
  have : refs g.length n = .ref g.length :: (refs g.length n).tail := by
    unfold refs; rw [List.range_succ_eq_map]; rfl
  rw [this]
  show (decide (g.length < g.length) && _) = false
  rw [decide_eq_false (Nat.lt_irrefl _)]; rfl
theorem tidy_tbH (g : Gh) (f : Nat → Nat → Nat) (n m : Nat) : tidy g (.ok (.ref (g.length + n + 1)) (tbH g f n m [])) = .ok (.ref (g.length + n + 1)) (tbH g f n m []) := by
  unfold tidy
  simp only
  have h1 : okv g.length (.ref (g.length + n + 1)) = false := decide_eq_false (by omega)
  rw [h1, tbH_refs]
  simp only [refs_bad, if_neg Bool.false_ne_true, ite_self]
section
variable (call : Call) (one other : Rw) (g : Gh) (A : List St) (hA : A.length ≤ 5000) (i j : Nat)
include hA
theorem sc_drop (hi : i < one.length) (hj : j ≤ other.length) (h : LT one other (i + 1) j = LT one other i j) : exs call sc_w0 [some (.tup (sV one)), some (.tup (sV other)), some (.ref (g.length + one.length + 1)), some (.ref (g.length + one.length + 2)), some (.int i), some (.int j)] (tbH g (LT one other) one.length other.length [.lst (stVs A)]) =
    .nx [some (.tup (sV one)), some (.tup (sV other)), some (.ref (g.length + one.length + 1)), some (.ref (g.length + one.length + 2)), some (.int (i + 1 : Nat)), some (.int j)] (tbH g (LT one other) one.length other.length [.lst (stVs (A ++ [.drop i]))]) := by
  have hS : SL = 1000000 := rfl
  have hR := tbH_refs g (LT one other) one.length other.length [.lst (stVs A)]
  have h1 := tbH_row g (LT one other) one.length other.length [.lst (stVs A)] (i := i) (by omega)
  have h2 := tbH_row g (LT one other) one.length other.length [.lst (stVs A)] (i := i + 1) (by omega)
  have hx := tbH_ext g (LT one other) one.length other.length (.lst (stVs A))
  have hs := tbH_extset g (LT one other) one.length other.length (.lst (stVs A)) (.lst (stVs A ++ [stV (.drop i)]))
  have r1 := refs_at g.length one.length (i := i) (by omega)
  have r2 := refs_at g.length one.length (i := i + 1) (by omega)
  have a1 := row_at (LT one other) other.length (i + 1) (j := j) (by omega)
  have a2 := row_at (LT one other) other.length i (j := j) (by omega)
  have ci : (((i + 1 : Nat)) : Int) = (i : Int) + 1 := by omega
  rw [ci] at r2
  have zl : (stVs A).length < SL := by rw [stVs_len]; omega
  have hl := tbH_len g (LT one other) one.length other.length [.lst (stVs A)]
  have oks := okvs_stVs (tbH g (LT one other) one.length other.length [.lst (stVs A)]).length A
  rw [stVs_app]
  show _ = SR.nx _ (tbH g (LT one other) one.length other.length [.lst (stVs A ++ [stV (.drop i)])])
  simp only [stV, wDrop, wPut, wKeep] at hs ⊢
  generalize stVs A = VA at *
  generalize tbH g (LT one other) one.length other.length [.lst VA] = G at *
  rw [← hs]
  simp [sc_w0, hi, hR, r1, r2, h1, h2, a1, a2, h, hx, zl, oks]
theorem sc_keep (hi : i < one.length) (hj : j < other.length) (h : LT one other (i + 1) j ≠ LT one other i j) (he : one[i] = other[j]) (h3 : LT one other (i + 1) (j + 1) + 1 = LT one other i j) : exs call sc_w0 [some (.tup (sV one)), some (.tup (sV other)), some (.ref (g.length + one.length + 1)), some (.ref (g.length + one.length + 2)), some (.int i), some (.int j)] (tbH g (LT one other) one.length other.length [.lst (stVs A)]) =
    .nx [some (.tup (sV one)), some (.tup (sV other)), some (.ref (g.length + one.length + 1)), some (.ref (g.length + one.length + 2)), some (.int (i + 1 : Nat)), some (.int (j + 1 : Nat))] (tbH g (LT one other) one.length other.length [.lst (stVs (A ++ [.keep i j]))]) := by
  have hI : ¬ (LT one other (i + 1) j : Int) = (LT one other i j : Int) := by omega
  have hS : SL = 1000000 := rfl
  have hR := tbH_refs g (LT one other) one.length other.length [.lst (stVs A)]
  have h1 := tbH_row g (LT one other) one.length other.length [.lst (stVs A)] (i := i) (by omega)
  have h2 := tbH_row g (LT one other) one.length other.length [.lst (stVs A)] (i := i + 1) (by omega)
  have hx := tbH_ext g (LT one other) one.length other.length (.lst (stVs A))
  have hs := tbH_extset g (LT one other) one.length other.length (.lst (stVs A)) (.lst (stVs A ++ [stV (.keep i j)]))
  have r1 := refs_at g.length one.length (i := i) (by omega)
  have r2 := refs_at g.length one.length (i := i + 1) (by omega)
  have a1 := row_at (LT one other) other.length (i + 1) (j := j) (by omega)
  have a2 := row_at (LT one other) other.length i (j := j) (by omega)
  have a3 := row_at (LT one other) other.length (i + 1) (j := j + 1) (by omega)
  have o1 := at_sV (l := one) (k := i) (List.getElem?_eq_getElem hi)
  have o2 := at_sV (l := other) (k := j) (List.getElem?_eq_getElem hj)
  have ci : (((i + 1 : Nat)) : Int) = (i : Int) + 1 := by omega
  have cj : (((j + 1 : Nat)) : Int) = (j : Int) + 1 := by omega
  have h3' : (LT one other (i + 1) (j + 1) : Int) + 1 = (LT one other i j : Int) := by omega
  rw [ci] at r2
  rw [cj] at a3
  have zl : (stVs A).length < SL := by rw [stVs_len]; omega
  have hl := tbH_len g (LT one other) one.length other.length [.lst (stVs A)]
  have oks := okvs_stVs (tbH g (LT one other) one.length other.length [.lst (stVs A)]).length A
  rw [stVs_app]
  show _ = SR.nx _ (tbH g (LT one other) one.length other.length [.lst (stVs A ++ [stV (.keep i j)])])
  simp only [stV, wDrop, wPut, wKeep] at hs ⊢
  generalize stVs A = VA at *
  generalize tbH g (LT one other) one.length other.length [.lst VA] = G at *
  rw [he] at o1
  rw [← hs]
  simp [sc_w0, hi, hj, hR, r1, r2, h1, h2, a1, a2, a3, h, hI, o1, o2, h3', hx, zl, oks]
theorem sc_put0 (hi : i = one.length) (hj : j < other.length) : exs call sc_w0 [some (.tup (sV one)), some (.tup (sV other)), some (.ref (g.length + one.length + 1)), some (.ref (g.length + one.length + 2)), some (.int i), some (.int j)] (tbH g (LT one other) one.length other.length [.lst (stVs A)]) =
    .nx [some (.tup (sV one)), some (.tup (sV other)), some (.ref (g.length + one.length + 1)), some (.ref (g.length + one.length + 2)), some (.int i), some (.int (j + 1 : Nat))] (tbH g (LT one other) one.length other.length [.lst (stVs (A ++ [.put j]))]) := by
  have hS : SL = 1000000 := rfl
  have hx := tbH_ext g (LT one other) one.length other.length (.lst (stVs A))
  have hs := tbH_extset g (LT one other) one.length other.length (.lst (stVs A)) (.lst (stVs A ++ [stV (.put j)]))
  have zl : (stVs A).length < SL := by rw [stVs_len]; omega
  have hl := tbH_len g (LT one other) one.length other.length [.lst (stVs A)]
  have oks := okvs_stVs (tbH g (LT one other) one.length other.length [.lst (stVs A)]).length A
  rw [stVs_app]
  show _ = SR.nx _ (tbH g (LT one other) one.length other.length [.lst (stVs A ++ [stV (.put j)])])
  simp only [stV, wDrop, wPut, wKeep] at hs ⊢
  generalize stVs A = VA at *
  generalize tbH g (LT one other) one.length other.length [.lst VA] = G at *
  rw [← hs]
  simp [sc_w0, hi, hj, hx, zl, oks]
theorem sc_put (hi : i < one.length) (hj : j < other.length) (h : LT one other (i + 1) j ≠ LT one other i j) (h3 : ¬ (one[i] = other[j] ∧ LT one other (i + 1) (j + 1) + 1 = LT one other i j)) : exs call sc_w0 [some (.tup (sV one)), some (.tup (sV other)), some (.ref (g.length + one.length + 1)), some (.ref (g.length + one.length + 2)), some (.int i), some (.int j)] (tbH g (LT one other) one.length other.length [.lst (stVs A)]) =
    .nx [some (.tup (sV one)), some (.tup (sV other)), some (.ref (g.length + one.length + 1)), some (.ref (g.length + one.length + 2)), some (.int i), some (.int (j + 1 : Nat))] (tbH g (LT one other) one.length other.length [.lst (stVs (A ++ [.put j]))]) := by
  have hI : ¬ (LT one other (i + 1) j : Int) = (LT one other i j : Int) := by omega
  have hS : SL = 1000000 := rfl
  have hR := tbH_refs g (LT one other) one.length other.length [.lst (stVs A)]
  have h1 := tbH_row g (LT one other) one.length other.length [.lst (stVs A)] (i := i) (by omega)
  have h2 := tbH_row g (LT one other) one.length other.length [.lst (stVs A)] (i := i + 1) (by omega)
  have hx := tbH_ext g (LT one other) one.length other.length (.lst (stVs A))
  have hs := tbH_extset g (LT one other) one.length other.length (.lst (stVs A)) (.lst (stVs A ++ [stV (.put j)]))
  have r1 := refs_at g.length one.length (i := i) (by omega)
  have r2 := refs_at g.length one.length (i := i + 1) (by omega)
  have a1 := row_at (LT one other) other.length (i + 1) (j := j) (by omega)
  have a2 := row_at (LT one other) other.length i (j := j) (by omega)
  have a3 := row_at (LT one other) other.length (i + 1) (j := j + 1) (by omega)
  have o1 := at_sV (l := one) (k := i) (List.getElem?_eq_getElem hi)
  have o2 := at_sV (l := other) (k := j) (List.getElem?_eq_getElem hj)
  have ci : (((i + 1 : Nat)) : Int) = (i : Int) + 1 := by omega
  have cj : (((j + 1 : Nat)) : Int) = (j : Int) + 1 := by omega
  rw [ci] at r2
  rw [cj] at a3
  have zl : (stVs A).length < SL := by rw [stVs_len]; omega
  have hl := tbH_len g (LT one other) one.length other.length [.lst (stVs A)]
  have oks := okvs_stVs (tbH g (LT one other) one.length other.length [.lst (stVs A)]).length A
  rw [stVs_app]
  show _ = SR.nx _ (tbH g (LT one other) one.length other.length [.lst (stVs A ++ [stV (.put j)])])
  simp only [stV, wDrop, wPut, wKeep] at hs ⊢
  generalize stVs A = VA at *
  generalize tbH g (LT one other) one.length other.length [.lst VA] = G at *
  rw [← hs]
  by_cases he : one[i] = other[j]
  · have h4 : ¬ (LT one other (i + 1) (j + 1) : Int) + 1 = (LT one other i j : Int) := fun z => h3 ⟨he, by omega⟩
    rw [he] at o1
    simp [sc_w0, hi, hj, hR, r1, r2, h1, h2, a1, a2, a3, h, hI, o1, o2, h4, hx, zl, oks]
  · simp [sc_w0, hi, hj, hR, r1, r2, h1, h2, a1, a2, a3, h, hI, o1, o2, he, hx, zl, oks]
end
theorem sc_loop (call : Call) (one other : Rw) (g : Gh) : ∀ (k fuel i j : Nat) (A : List St), one.length - i + (other.length - j) ≤ k → k < fuel → i ≤ one.length → j ≤ other.length → A.length + k ≤ 5000 →
    whlG (fun s g => evT call sc_t0 s g) (fun s g => exs call sc_w0 s g) fuel [some (.tup (sV one)), some (.tup (sV other)), some (.ref (g.length + one.length + 1)), some (.ref (g.length + one.length + 2)), some (.int i), some (.int j)] (tbH g (LT one other) one.length other.length [.lst (stVs A)]) =
      .nx [some (.tup (sV one)), some (.tup (sV other)), some (.ref (g.length + one.length + 1)), some (.ref (g.length + one.length + 2)), some (.int one.length), some (.int other.length)] (tbH g (LT one other) one.length other.length [.lst (stVs (A ++ scA one other i j))]) := by
  intro k
  induction k with
  | zero =>
    intro fuel i j A hk hf hi hj hA
    obtain ⟨fuel, rfl⟩ : ∃ f, fuel = f + 1 := ⟨fuel - 1, by omega⟩
    have ei : i = one.length := by omega
    have ej : j = other.length := by omega
    subst ei ej
    rw [scA_end one other (Nat.le_refl _) (Nat.le_refl _), List.append_nil, whl_turn]
    generalize tbH g (LT one other) one.length other.length [.lst (stVs A)] = G
    simp [sc_t0]
  | succ k ih =>
    intro fuel i j A hk hf hi hj hA
    obtain ⟨fuel, rfl⟩ : ∃ f, fuel = f + 1 := ⟨fuel - 1, by omega⟩
    by_cases hend : i = one.length ∧ j = other.length
    · obtain ⟨ei, ej⟩ := hend
      subst ei ej
      rw [scA_end one other (Nat.le_refl _) (Nat.le_refl _), List.append_nil, whl_turn]
      generalize tbH g (LT one other) one.length other.length [.lst (stVs A)] = G
      simp [sc_t0]
    · have hc : ∀ G : Gh, evT call sc_t0 [some (.tup (sV one)), some (.tup (sV other)), some (.ref (g.length + one.length + 1)), some (.ref (g.length + one.length + 2)), some (.int i), some (.int j)] G = .ok true G := fun G => by
        by_cases h1 : i < one.length
        · simp [sc_t0, h1]
        · have h2 : j < other.length := by omega
          simp [sc_t0, h1, h2]
      rw [whl_turn, hc, st_ok]
      simp only [if_true]
      by_cases h1 : i < one.length
      · by_cases h2 : LT one other (i + 1) j = LT one other i j
        · rw [sc_drop call one other g A (by omega) i j h1 hj h2]
          simp only
          rw [ih fuel (i + 1) j (A ++ [St.drop i]) (by omega) (by omega) (by omega) hj (by simp; omega), scA_drop one other h1 h2, List.append_assoc]; rfl
        · have h3 : j < other.length := by
            by_cases h3 : j < other.length
            · exact h3
            · exact absurd (by rw [LT_m _ _ _ (by omega), LT_m _ _ _ (by omega)]) h2
          by_cases h4 : one[i] = other[j] ∧ LT one other (i + 1) (j + 1) + 1 = LT one other i j
          · rw [sc_keep call one other g A (by omega) i j h1 h3 h2 h4.1 h4.2]
            simp only
            rw [ih fuel (i + 1) (j + 1) (A ++ [St.keep i j]) (by omega) (by omega) (by omega) (by omega) (by simp; omega), scA_keep one other h1 h3 h2 h4.1 h4.2, List.append_assoc]; rfl
          · rw [sc_put call one other g A (by omega) i j h1 h3 h2 h4]
            simp only
            rw [ih fuel i (j + 1) (A ++ [St.put j]) (by omega) (by omega) (by omega) (by omega) (by simp; omega), scA_put one other h1 h3 h2 h4, List.append_assoc]; rfl
      · have h3 : j < other.length := by omega
        rw [sc_put0 call one other g A (by omega) i j (by omega) h3]
        simp only
        rw [ih fuel i (j + 1) (A ++ [St.put j]) (by omega) (by omega) (by omega) (by omega) (by simp; omega), scA_put0 one other (by omega) h3, List.append_assoc]; rfl
theorem script_of {ft : Nat → Option Fn} {iC iS : Nat} (hC : ft iC = some ⟨2, 7, ctB⟩) (hS : ft iS = some ⟨2, 6, scB iC⟩) {m : Nat} (hm : 2 ≤ m) (one other : Rw) (h1 : one.length ≤ 1000) (h2 : other.length ≤ 1000) (g : Gh) :
    run ft m iS [.tup (sV one), .tup (sV other)] g = .ok (.tup (stVs (scA one other 0 0))) g := by
  rw [run_at hS (by omega) _ _ rfl]
  have e1 := common_table hC (show 1 ≤ m - 1 by omega) one other h1 h2 g
  have e2 := sc_loop (run ft (m - 1)) one other g (one.length + other.length) WF 0 0 [] (by omega) (by rw [WF_eq]; omega) (by omega) (by omega) (by simp; omega)
  rw [List.nil_append] at e2
  have e3 := tidy_tbH g (LT one other) one.length other.length
  have e4 := tbH_app g (LT one other) one.length other.length (.lst [])
  have e5 := tbH_len g (LT one other) one.length other.length []
  have e6 := tbH_ext g (LT one other) one.length other.length (.lst (stVs (scA one other 0 0)))
  have e8 := okvs_stVs g.length (scA one other 0 0)
  have e9 : okg g.length g (tbH g (LT one other) one.length other.length [.lst (stVs (scA one other 0 0))]) = true := by unfold tbH; simp
  have e10 : (tbH g (LT one other) one.length other.length [.lst (stVs (scA one other 0 0))]).take g.length = g := by unfold tbH; simp
  simp only [List.length_nil, Nat.add_zero] at e5
  have hb : exs (run ft (m - 1)) (scB iC) [some (.tup (sV one)), some (.tup (sV other)), none, none, none, none] g = .rt (.tup (stVs (scA one other 0 0))) (tbH g (LT one other) one.length other.length [.lst (stVs (scA one other 0 0))]) := by
    have e2' : whlG (fun s g => evT (run ft (m - 1)) sc_t0 s g) (fun s g => exs (run ft (m - 1)) sc_w0 s g) WF [some (.tup (sV one)), some (.tup (sV other)), some (.ref (g.length + one.length + 1)), some (.ref (g.length + one.length + 2)), some (.int 0), some (.int 0)] (tbH g (LT one other) one.length other.length [.lst []]) = _ := e2
    generalize stVs (scA one other 0 0) = VS at *
    generalize tbH g (LT one other) one.length other.length [.lst VS] = G2 at *
    generalize tbH g (LT one other) one.length other.length [.lst []] = G1 at *
    generalize tbH g (LT one other) one.length other.length [] = G0 at *
    have st1 : ex (run ft (m - 1)) (.asg (.nm 2) (.call iC (.cons (.var 0) (.cons (.var 1) .nil)))) [some (.tup (sV one)), some (.tup (sV other)), none, none, none, none] g = .nx [some (.tup (sV one)), some (.tup (sV other)), some (.ref (g.length + one.length + 1)), none, none, none] G0 := by
      have h : ev (run ft (m - 1)) (.call iC (.cons (.var 0) (.cons (.var 1) .nil))) [some (.tup (sV one)), some (.tup (sV other)), none, none, none, none] g = .ok (.ref (g.length + one.length + 1)) G0 := by simp [e1]
      rw [ex_asg, h, e3]; rfl
    have st2 : ex (run ft (m - 1)) (.asg (.nm 3) (.lst .nil)) [some (.tup (sV one)), some (.tup (sV other)), some (.ref (g.length + one.length + 1)), none, none, none] G0 = .nx [some (.tup (sV one)), some (.tup (sV other)), some (.ref (g.length + one.length + 1)), some (.ref G0.length), none, none] (G0 ++ [.lst []]) := by simp
    unfold scB
    rw [exs_step st1, exs_step st2, e4, e5]
    simp [e2', e6]
  show tidy g (fin (exs (run ft (m - 1)) (scB iC) [some (.tup (sV one)), some (.tup (sV other)), none, none, none, none] g)) = _
  rw [hb, fin_rt]
  unfold tidy
  simp only [e9, if_true, e10]
  have : okv g.length (.tup (stVs (scA one other 0 0))) = true := e8
  rw [if_pos this]
end KQ

namespace KQ
open KM
/-! ### is it a script -/
theorem natbeq (a b : Nat) : ((a : Int) == (b : Int)) = decide (a = b) := by
  by_cases e : a = b
  · subst e; simp
  · rw [decide_eq_false e, beq_eq_false_iff_ne]; omega
def st1 (one other : Rw) (i j : Nat) : St → Option (Nat × Nat)
  | .drop a => if a = i ∧ i < one.length then some (i + 1, j) else none
  | .put b => if b = j ∧ j < other.length then some (i, j + 1) else none
  | .keep a b => if a = i ∧ b = j ∧ i < one.length ∧ j < other.length ∧ one[i]? = other[j]? then some (i + 1, j + 1) else none
def sts (one other : Rw) : Nat → Nat → List St → Option (Nat × Nat)
  | i, j, [] => some (i, j)
  | i, j, s :: r => match st1 one other i j s with
    | some (a, b) => sts one other a b r
    | none => none
def rgt (one other : Rw) (s : List St) : Bool := decide (sts one other 0 0 s = some (one.length, other.length))
theorem is_turn (call : Call) (one other : Rw) (x2 y : Option Val) (g : Gh) (s : St) (i j : Nat) :
    fbody call (.nm 5) is_f0 (stV s) [some (.tup (sV one)), some (.tup (sV other)), x2, some (.int i), some (.int j), y] g = match st1 one other i j s with
      | some (a, b) => .nx [some (.tup (sV one)), some (.tup (sV other)), x2, some (.int a), some (.int b), some (stV s)] g
      | none => .rt (.bl false) g := by
  cases s with
  | drop a =>
    have ea : ((a : Int) == (i : Int)) = decide (a = i) := natbeq a i
    by_cases h1 : a = i
    · by_cases h2 : i < one.length
      · have e : st1 one other i j (.drop a) = some (i + 1, j) := if_pos ⟨h1, h2⟩
        rw [e]; simp [fbody, is_f0, stV, ea, h1, h2]
      · have e : st1 one other i j (.drop a) = none := if_neg fun z => h2 z.2
        rw [e]; simp [fbody, is_f0, stV, ea, h1, h2]
    · have e : st1 one other i j (.drop a) = none := if_neg fun z => h1 z.1
      rw [e]; simp [fbody, is_f0, stV, ea, h1]
  | put b =>
    have ea : ((b : Int) == (j : Int)) = decide (b = j) := natbeq b j
    by_cases h1 : b = j
    · by_cases h2 : j < other.length
      · have e : st1 one other i j (.put b) = some (i, j + 1) := if_pos ⟨h1, h2⟩
        rw [e]; simp [fbody, is_f0, stV, ea, h1, h2]
      · have e : st1 one other i j (.put b) = none := if_neg fun z => h2 z.2
        rw [e]; simp [fbody, is_f0, stV, ea, h1, h2]
    · have e : st1 one other i j (.put b) = none := if_neg fun z => h1 z.1
      rw [e]; simp [fbody, is_f0, stV, ea, h1]
  | keep a b =>
    have ea : ((a : Int) == (i : Int)) = decide (a = i) := natbeq a i
    have eb : ((b : Int) == (j : Int)) = decide (b = j) := natbeq b j
    by_cases h1 : a = i ∧ b = j
    · by_cases h2 : i < one.length
      · by_cases h3 : j < other.length
        · have o1 := at_sV (l := one) (k := i) (List.getElem?_eq_getElem h2)
          have o2 := at_sV (l := other) (k := j) (List.getElem?_eq_getElem h3)
          by_cases h4 : one[i] = other[j]
          · have e : st1 one other i j (.keep a b) = some (i + 1, j + 1) := if_pos ⟨h1.1, h1.2, h2, h3, by rw [List.getElem?_eq_getElem h2, List.getElem?_eq_getElem h3, h4]⟩
            rw [h4] at o1
            rw [e]; simp [fbody, is_f0, stV, ea, eb, h1.1, h1.2, h2, h3, o1, o2]
          · have e : st1 one other i j (.keep a b) = none := if_neg fun z => h4 (by have := z.2.2.2.2; rw [List.getElem?_eq_getElem h2, List.getElem?_eq_getElem h3] at this; exact Option.some.inj this)
            rw [e]; simp [fbody, is_f0, stV, ea, eb, h1.1, h1.2, h2, h3, o1, o2, h4]
        · have e : st1 one other i j (.keep a b) = none := if_neg fun z => h3 z.2.2.2.1
          rw [e]; simp [fbody, is_f0, stV, ea, eb, h1.1, h1.2, h2, h3]
      · have e : st1 one other i j (.keep a b) = none := if_neg fun z => h2 z.2.2.1
        rw [e]; simp [fbody, is_f0, stV, ea, eb, h1.1, h1.2, h2]
    · have e : st1 one other i j (.keep a b) = none := if_neg fun z => h1 ⟨z.1, z.2.1⟩
      rw [e]
      by_cases h2 : a = i
      · have h3 : ¬ b = j := fun z => h1 ⟨h2, z⟩
        simp [fbody, is_f0, stV, ea, eb, h2, h3]
      · simp [fbody, is_f0, stV, ea, eb, h2]
theorem rg_turn (call : Call) (one other : Rw) (x2 y : Option Val) (g : Gh) (s : St) (i j : Nat) :
    fbody call (.nm 5) rg_f0 (stV s) [some (.tup (sV one)), some (.tup (sV other)), x2, some (.int i), some (.int j), y] g = match st1 one other i j s with
      | some (a, b) => .nx [some (.tup (sV one)), some (.tup (sV other)), x2, some (.int a), some (.int b), some (stV s)] g
      | none => .rt (.bl false) g := by
  cases s with
  | drop a =>
    have ea : ((a : Int) == (i : Int)) = decide (a = i) := natbeq a i
    by_cases h1 : a = i
    · by_cases h2 : i < one.length
      · have e : st1 one other i j (.drop a) = some (i + 1, j) := if_pos ⟨h1, h2⟩
        have h3 : ¬ one.length ≤ i := by omega
        rw [e]; simp [fbody, rg_f0, stV, ea, h1, h3]
      · have e : st1 one other i j (.drop a) = none := if_neg fun z => h2 z.2
        have h3 : one.length ≤ i := by omega
        rw [e]; simp [fbody, rg_f0, stV, ea, h1, h3]
    · have e : st1 one other i j (.drop a) = none := if_neg fun z => h1 z.1
      rw [e]; simp [fbody, rg_f0, stV, ea, h1]
  | put b =>
    have ea : ((b : Int) == (j : Int)) = decide (b = j) := natbeq b j
    by_cases h1 : b = j
    · by_cases h2 : j < other.length
      · have e : st1 one other i j (.put b) = some (i, j + 1) := if_pos ⟨h1, h2⟩
        have h3 : ¬ other.length ≤ j := by omega
        rw [e]; simp [fbody, rg_f0, stV, ea, h1, h3]
      · have e : st1 one other i j (.put b) = none := if_neg fun z => h2 z.2
        have h3 : other.length ≤ j := by omega
        rw [e]; simp [fbody, rg_f0, stV, ea, h1, h3]
    · have e : st1 one other i j (.put b) = none := if_neg fun z => h1 z.1
      rw [e]; simp [fbody, rg_f0, stV, ea, h1]
  | keep a b =>
    have ea : ((a : Int) == (i : Int)) = decide (a = i) := natbeq a i
    have eb : ((b : Int) == (j : Int)) = decide (b = j) := natbeq b j
    by_cases h1 : a = i ∧ b = j
    · by_cases h2 : i < one.length
      · have h2' : ¬ one.length ≤ i := by omega
        by_cases h3 : j < other.length
        · have h3' : ¬ other.length ≤ j := by omega
          have o1 := at_sV (l := one) (k := i) (List.getElem?_eq_getElem h2)
          have o2 := at_sV (l := other) (k := j) (List.getElem?_eq_getElem h3)
          by_cases h4 : one[i] = other[j]
          · have e : st1 one other i j (.keep a b) = some (i + 1, j + 1) := if_pos ⟨h1.1, h1.2, h2, h3, by rw [List.getElem?_eq_getElem h2, List.getElem?_eq_getElem h3, h4]⟩
            rw [h4] at o1
            rw [e]; simp [fbody, rg_f0, stV, ea, eb, h1.1, h1.2, h2', h3', o1, o2]
          · have e : st1 one other i j (.keep a b) = none := if_neg fun z => h4 (by have := z.2.2.2.2; rw [List.getElem?_eq_getElem h2, List.getElem?_eq_getElem h3] at this; exact Option.some.inj this)
            rw [e]; simp [fbody, rg_f0, stV, ea, eb, h1.1, h1.2, h2', h3', o1, o2, h4]
        · have e : st1 one other i j (.keep a b) = none := if_neg fun z => h3 z.2.2.2.1
          have h3' : other.length ≤ j := by omega
          rw [e]; simp [fbody, rg_f0, stV, ea, eb, h1.1, h1.2, h2', h3']
      · have e : st1 one other i j (.keep a b) = none := if_neg fun z => h2 z.2.2.1
        have h2' : one.length ≤ i := by omega
        rw [e]; simp [fbody, rg_f0, stV, ea, eb, h1.1, h1.2, h2']
    · have e : st1 one other i j (.keep a b) = none := if_neg fun z => h1 ⟨z.1, z.2.1⟩
      rw [e]
      by_cases h2 : a = i
      · have h3 : ¬ b = j := fun z => h1 ⟨h2, z⟩
        simp [fbody, rg_f0, stV, ea, eb, h2, h3]
      · simp [fbody, rg_f0, stV, ea, eb, h2]
theorem is_loop {body : Val → Env → Gh → SR} (one other : Rw) (x2 : Option Val) (g : Gh) (hb : ∀ y s i j, body (stV s) [some (.tup (sV one)), some (.tup (sV other)), x2, some (.int (i : Nat)), some (.int (j : Nat)), y] g = match st1 one other i j s with
      | some (a, b) => .nx [some (.tup (sV one)), some (.tup (sV other)), x2, some (.int a), some (.int b), some (stV s)] g
      | none => .rt (.bl false) g) : ∀ (l : List St) (i j : Nat) (y : Option Val), ∃ y', forL body (stVs l) [some (.tup (sV one)), some (.tup (sV other)), x2, some (.int i), some (.int j), y] g = match sts one other i j l with
      | some (a, b) => .nx [some (.tup (sV one)), some (.tup (sV other)), x2, some (.int a), some (.int b), y'] g
      | none => .rt (.bl false) g
  | [], i, j, y => ⟨y, rfl⟩
  | s :: l, i, j, y => by
    rw [stVs_cons]
    cases h : st1 one other i j s with
    | none =>
      refine ⟨y, ?_⟩
      rw [forL_cons, hb, h]
      simp only [sts, h]
    | some p =>
      obtain ⟨a, b⟩ := p
      obtain ⟨y', ih⟩ := is_loop one other x2 g hb l a b (some (stV s))
      refine ⟨y', ?_⟩
      rw [forL_cons, hb, h]
      simp only [sts, h]
      exact ih
theorem rgt_end (one other : Rw) (a b : Nat) : (if a = one.length then decide (b = other.length) else false) = decide (some (a, b) = some (one.length, other.length)) := by
  by_cases h1 : a = one.length <;> by_cases h2 : b = other.length <;> simp [h1, h2]
theorem is_script {ft : Nat → Option Fn} {iI : Nat} (hI : ft iI = some ⟨3, 6, isB⟩) {m : Nat} (hm : 1 ≤ m) (one other : Rw) (s : List St) (hl : s.length ≤ 5000) (g : Gh) : run ft m iI [.tup (sV one), .tup (sV other), .tup (stVs s)] g = .ok (.bl (rgt one other s)) g := by
  rw [run_at hI (by omega) _ _ rfl]
  obtain ⟨y, e⟩ := is_loop (body := fbody (run ft (m - 1)) (.nm 5) is_f0) one other (some (.tup (stVs s))) g (fun y st i j => is_turn _ one other _ y g st i j) s 0 0 none
  have e2 := for_items (body := fbody (run ft (m - 1)) (.nm 5) is_f0) (xs := stVs s) (s := [some (.tup (sV one)), some (.tup (sV other)), some (.tup (stVs s)), some (.int (0 : Nat)), some (.int (0 : Nat)), none]) (g := g) (by rw [stVs_len, WF_eq]; omega)
  rw [e] at e2
  have e3 : forG (fbody (run ft (m - 1)) (.nm 5) is_f0) (.items (stVs s)) WF 0 [some (.tup (sV one)), some (.tup (sV other)), some (.tup (stVs s)), some (.int 0), some (.int 0), none] g = _ := e2
  unfold rgt
  cases h : sts one other 0 0 s with
  | none =>
    rw [h] at e3
    generalize stVs s = S at *
    simp [isB, e3]
  | some p =>
    obtain ⟨a, b⟩ := p
    rw [h] at e3
    generalize stVs s = S at *
    by_cases h1 : a = one.length
    · by_cases h2 : b = other.length
      · simp [isB, e3, h1, h2]
      · have h2' : ((b : Int) == (other.length : Int)) = false := by rw [natbeq]; exact decide_eq_false h2
        simp [isB, e3, h1, h2, h2']
    · have h1' : ((a : Int) == (one.length : Int)) = false := by rw [beq_eq_false_iff_ne]; omega
      simp [isB, e3, h1, h1']
theorem law_right {ft : Nat → Option Fn} {iI : Nat} (hI : ft iI = some ⟨3, 6, rgB⟩) {m : Nat} (hm : 1 ≤ m) (one other : Rw) (s : List St) (hl : s.length ≤ 5000) (g : Gh) : run ft m iI [.tup (sV one), .tup (sV other), .tup (stVs s)] g = .ok (.bl (rgt one other s)) g := by
  rw [run_at hI (by omega) _ _ rfl]
  obtain ⟨y, e⟩ := is_loop (body := fbody (run ft (m - 1)) (.nm 5) rg_f0) one other (some (.tup (stVs s))) g (fun y st i j => rg_turn _ one other _ y g st i j) s 0 0 none
  have e2 := for_items (body := fbody (run ft (m - 1)) (.nm 5) rg_f0) (xs := stVs s) (s := [some (.tup (sV one)), some (.tup (sV other)), some (.tup (stVs s)), some (.int (0 : Nat)), some (.int (0 : Nat)), none]) (g := g) (by rw [stVs_len, WF_eq]; omega)
  rw [e] at e2
  have e3 : forG (fbody (run ft (m - 1)) (.nm 5) rg_f0) (.items (stVs s)) WF 0 [some (.tup (sV one)), some (.tup (sV other)), some (.tup (stVs s)), some (.int 0), some (.int 0), none] g = _ := e2
  unfold rgt
  cases h : sts one other 0 0 s with
  | none =>
    rw [h] at e3
    generalize stVs s = S at *
    simp [rgB, e3]
  | some p =>
    obtain ⟨a, b⟩ := p
    rw [h] at e3
    generalize stVs s = S at *
    by_cases h1 : a = one.length
    · by_cases h2 : b = other.length
      · simp [rgB, e3, h1, h2]
      · have h2' : ((b : Int) == (other.length : Int)) = false := by rw [natbeq]; exact decide_eq_false h2
        simp [rgB, e3, h1, h2, h2']
    · have h1' : ((a : Int) == (one.length : Int)) = false := by rw [beq_eq_false_iff_ne]; omega
      simp [rgB, e3, h1, h1']
/-! ### what a script keeps, and its size -/
def isKeep : St → Bool
  | .keep _ _ => true
  | _ => false
def kpF (w : Bool) : Val → Option Val
  | .tup [.str s, .int a, .int b] => if w then some (.tup [.str s, .int a, .int b]) else none
  | v => if w then none else some v
theorem kpF_st (w : Bool) : ∀ l : List St, (stVs l).filterMap (kpF w) = stVs (l.filter fun x => isKeep x == w)
  | [] => rfl
  | y :: l => by
    rw [stVs_cons, List.filterMap_cons, kpF_st w l, List.filter_cons]
    cases w <;> cases y <;> rfl
theorem keep_comp (call : Call) (s : Env) (n : Nat) (hn : n < s.length) {w : Bool} {c : C} (hc : c = .e (.cmp (if w then .eq else .ne) (.idx (.var n) (.cst (.int 0))) (.cst (.str [107, 101, 101, 112])))) (l : List St) (hl : l.length ≤ 5000) (g : Gh) :
    compG (cbody call s [n] (.nm n) c (.var n)) (.items (stVs l)) WF 0 [] g = .ok (stVs (l.filter fun x => isKeep x == w)) g := by
  have := comp_pure (body := cbody call s [n] (.nm n) c (.var n)) (it := .items (stVs l)) (xs := stVs l) (g := g) (kpF w) (fun i => rfl) (by rw [stVs_len, SL_eq]; omega) fun x hx => by
    obtain ⟨y, _, rfl⟩ := List.mem_map.mp hx
    subst hc
    cases w <;> cases y <;> simp [cbody, stV, hn, kpF]
  rw [this, kpF_st]
theorem size_of {ft : Nat → Option Fn} {iZ : Nat} (hZ : ft iZ = some ⟨1, 2, szB⟩) {m : Nat} (hm : 1 ≤ m) (s : List St) (hl : s.length ≤ 5000) (g : Gh) : run ft m iZ [.tup (stVs s)] g = .ok (.int (s.filter fun x => isKeep x == false).length) g := by
  rw [run_at hZ (by omega) _ _ rfl]
  have e := keep_comp (run ft (m - 1)) [some (.tup (stVs s)), none] 1 (by simp) (w := false) (c := sz_c0) rfl s hl g
  have hl2 := stVs_len (s.filter fun x => isKeep x == false)
  generalize stVs (s.filter fun x => isKeep x == false) = S2 at *
  generalize stVs s = S at *
  simp [szB, e, hl2]
end KQ

namespace KQ
open KM
/-! ### the law's own table: a dict -/
abbrev kk (a b : Nat) : Val := .tup [.int a, .int b]
theorem kk_inj {a b c d : Nat} (h : kk a b = kk c d) : a = c ∧ b = d := by
  have h := Val.tup.inj h
  simp at h; omega
theorem max3_nat (a b c : Nat) (g : Gh) : bltV .max3 [.int a, .int b, .int c] g = .ok (.int ((max (max a b) c : Nat) : Int)) g := by
  show R.ok (Val.int (if (c : Int) > (if (b : Int) > a then (b : Int) else a) then (c : Int) else (if (b : Int) > a then (b : Int) else a))) g = _
  rw [max_int, max_int]
structure Tb (one other : Rw) (D : Nat → Nat → Prop) (kvs : List (Val × Val)) : Prop where
  fd : ∀ a b, D a b → findK (kk a b) kvs = some (.int (LT one other a b))
  ok : ∀ N, okc N (.dic true kvs) = true
theorem Tb.put {one other : Rw} {D : Nat → Nat → Prop} {kvs : List (Val × Val)} (h : Tb one other D kvs) (i j : Nat) : Tb one other (fun a b => D a b ∨ (a = i ∧ b = j)) (putKV (kk i j) (.int (LT one other i j)) kvs) := by
  refine ⟨fun a b hab => ?_, fun N => okc_put (by simp) (by simp) (h.ok N)⟩
  rw [findK_put]
  by_cases e : a = i ∧ b = j
  · rw [e.1, e.2, if_pos rfl]
  · rw [if_neg fun z => e (kk_inj z)]
    rcases hab with hab | hab
    · exact h.fd a b hab
    · exact absurd hab e
theorem Tb.mono {one other : Rw} {D D' : Nat → Nat → Prop} {kvs : List (Val × Val)} (h : Tb one other D kvs) (hd : ∀ a b, D' a b → D a b) : Tb one other D' kvs := ⟨fun a b hab => h.fd a b (hd a b hab), h.ok⟩
theorem lcm_turn (call : Call) (one other : Rw) (g : Gh) {D : Nat → Nat → Prop} {kvs : List (Val × Val)} (h : Tb one other D kvs) (hl : kvs.length < SL) {i j : Nat} (hi : i ≤ one.length) (hj : j ≤ other.length)
    (hd : i < one.length → j < other.length → D (i + 1) j ∧ D i (j + 1) ∧ D (i + 1) (j + 1)) (y : Option Val) :
    fbody call (.nm 4) lcm_f0 (.int j) [some (.tup (sV one)), some (.tup (sV other)), some (.ref g.length), some (.int i), y] (g ++ [.dic true kvs]) =
      .nx [some (.tup (sV one)), some (.tup (sV other)), some (.ref g.length), some (.int i), some (.int j)] (g ++ [.dic true (putKV (kk i j) (.int (LT one other i j)) kvs)]) := by
  have hq : (g ++ [Cell.dic true kvs])[g.length]? = some (.dic true kvs) := by simp
  by_cases h1 : i = one.length
  · rw [LT_n one other (by omega)]
    simp [fbody, lcm_f0, h1, hq, hl]
  · have h1' : ((i : Int) == (one.length : Int)) = false := by rw [natbeq]; exact decide_eq_false h1
    by_cases h2 : j = other.length
    · rw [LT_m one other _ (by omega)]
      simp [fbody, lcm_f0, h1', h2, hq, hl]
    · have h2' : ((j : Int) == (other.length : Int)) = false := by rw [natbeq]; exact decide_eq_false h2
      have hi' : i < one.length := by omega
      have hj' : j < other.length := by omega
      obtain ⟨d1, d2, d3⟩ := hd hi' hj'
      have f1 := h.fd _ _ d1
      have f2 := h.fd _ _ d2
      have f3 := h.fd _ _ d3
      have o1 := at_sV (l := one) (k := i) (List.getElem?_eq_getElem hi')
      have o2 := at_sV (l := other) (k := j) (List.getElem?_eq_getElem hj')
      have ci : (((i + 1 : Nat)) : Int) = (i : Int) + 1 := by omega
      have cj : (((j + 1 : Nat)) : Int) = (j : Int) + 1 := by omega
      simp only [kk] at f1 f2 f3
      rw [ci] at f1 f3
      rw [cj] at f2 f3
      have hst := LT_step one other hi' hj'
      by_cases e : one[i] = other[j]
      · rw [if_pos e] at hst
        rw [e] at o1
        have m3 : ∀ g, bltV .max3 [.int (LT one other (i + 1) j), .int (LT one other i (j + 1)), .int ((LT one other (i + 1) (j + 1) : Int) + 1)] g = .ok (.int (LT one other i j)) g := fun g => by
          have := max3_nat (LT one other (i + 1) j) (LT one other i (j + 1)) (LT one other (i + 1) (j + 1) + 1) g
          rw [hst]; exact this
        simp [-max3_int, fbody, lcm_f0, h1', h2', f1, f2, f3, o1, o2, m3, hq, hl]
      · rw [if_neg e] at hst
        have m3 : ∀ g, bltV .max3 [.int (LT one other (i + 1) j), .int (LT one other i (j + 1)), .int 0] g = .ok (.int (LT one other i j)) g := fun g => by
          rw [hst]; exact max3_nat _ _ 0 g
        simp [-max3_int, fbody, lcm_f0, h1', h2', f1, f2, f3, o1, o2, e, m3, hq, hl]
theorem lcm_inner (call : Call) (one other : Rw) (g : Gh) (hm : other.length ≤ 100) {i : Nat} (hi : i ≤ one.length) {kvs : List (Val × Val)} (h : Tb one other (fun a b => i < a ∧ a ≤ one.length ∧ b ≤ other.length) kvs) (hl : kvs.length < 100000) (y3 y : Option Val) :
    ∃ kvs' y', Tb one other (fun a b => i ≤ a ∧ a ≤ one.length ∧ b ≤ other.length) kvs' ∧ kvs'.length ≤ kvs.length + 101 ∧
      fbody call (.nm 3) lcm_f1 (.int i) [some (.tup (sV one)), some (.tup (sV other)), some (.ref g.length), y3, y] (g ++ [.dic true kvs]) =
        .nx [some (.tup (sV one)), some (.tup (sV other)), some (.ref g.length), some (.int i), y'] (g ++ [.dic true kvs']) := by
  have hS : SL = 1000000 := rfl
  obtain ⟨s', g', e, kvs', y', q1, q2, rfl, rfl⟩ := for_inv (body := fbody call (.nm 4) lcm_f0) (it := .items (rngC other.length (-1) (other.length + 1))) (xs := rngC other.length (-1) (other.length + 1)) (s := [some (.tup (sV one)), some (.tup (sV other)), some (.ref g.length), some (.int i), y]) (g := g ++ [.dic true kvs])
    (fun k s G => ∃ kvs' y', Tb one other (fun a b => a ≤ one.length ∧ b ≤ other.length ∧ (i < a ∨ (a = i ∧ other.length < b + k))) kvs' ∧ kvs'.length ≤ kvs.length + k ∧ s = [some (.tup (sV one)), some (.tup (sV other)), some (.ref g.length), some (.int i), y'] ∧ G = g ++ [.dic true kvs'])
    ⟨kvs, y, h.mono fun a b hab => by omega, Nat.le_refl _, rfl, rfl⟩ (fun k s G _ _ => rfl) (by rw [rngC_len, WF_eq]; omega)
    (fun k x s G ⟨kvs', y', q1, q2, hs, hG⟩ hx => by
      obtain ⟨rfl, hk⟩ := rngC_get hx
      subst hs hG
      have ej : (other.length : Int) + k * (-1) = ((other.length - k : Nat) : Int) := by omega
      rw [ej]
      refine ⟨_, _, .inl (lcm_turn call one other g q1 (by omega) hi (by omega) (fun h1 h2 => ⟨⟨by omega, by omega, by omega⟩, ⟨by omega, by omega, by omega⟩, ⟨by omega, by omega, by omega⟩⟩) y'), _, _, (q1.put i (other.length - k)).mono fun a b hab => ?_, ?_, rfl, rfl⟩
      · by_cases e : a = i ∧ b = other.length - k
        · exact .inr e
        · exact .inl (by omega)
      · have := putKV_len (kk i (other.length - k)) (.int (LT one other i (other.length - k))) kvs'
        omega)
  rw [rngC_len] at q1 q2
  refine ⟨kvs', y', q1.mono fun a b hab => ⟨hab.2.1, hab.2.2, by omega⟩, by omega, ?_⟩
  have i1 : intsIn (other.length : Int) = true := intsIn_of (by omega) (by omega)
  have mr := mkRange_dn (other.length : Int) (-1) i1 rfl
  rw [show ((other.length : Int) - -1).toNat = other.length + 1 by omega] at mr
  simp [fbody, lcm_f1, mr, e]
theorem law_common {ft : Nat → Option Fn} {iL : Nat} (hL : ft iL = some ⟨2, 5, lcmB⟩) {m : Nat} (hm : 1 ≤ m) (one other : Rw) (h1 : one.length ≤ 100) (h2 : other.length ≤ 100) (g : Gh) :
    ∃ kvs, Tb one other (fun a b => a ≤ one.length ∧ b ≤ other.length) kvs ∧ run ft m iL [.tup (sV one), .tup (sV other)] g = .ok (.ref g.length) (g ++ [.dic true kvs]) := by
  obtain ⟨s', g', e, kvs', y3, y', q1, q2, rfl, rfl⟩ := for_inv (body := fbody (run ft (m - 1)) (.nm 3) lcm_f1) (it := .items (rngC one.length (-1) (one.length + 1))) (xs := rngC one.length (-1) (one.length + 1)) (s := [some (.tup (sV one)), some (.tup (sV other)), some (.ref g.length), none, none]) (g := g ++ [.dic true []])
    (fun k s G => ∃ kvs' y3 y', Tb one other (fun a b => one.length < a + k ∧ a ≤ one.length ∧ b ≤ other.length) kvs' ∧ kvs'.length ≤ 101 * k ∧ s = [some (.tup (sV one)), some (.tup (sV other)), some (.ref g.length), y3, y'] ∧ G = g ++ [.dic true kvs'])
    ⟨[], none, none, ⟨fun a b hab => by omega, fun N => rfl⟩, Nat.zero_le _, rfl, rfl⟩ (fun k s G _ _ => rfl) (by rw [rngC_len, WF_eq]; omega)
    (fun k x s G ⟨kvs', y3, y', q1, q2, hs, hG⟩ hx => by
      obtain ⟨rfl, hk⟩ := rngC_get hx
      subst hs hG
      have ej : (one.length : Int) + k * (-1) = ((one.length - k : Nat) : Int) := by omega
      rw [ej]
      obtain ⟨kvs2, y2, w1, w2, he⟩ := lcm_inner (run ft (m - 1)) one other g h2 (i := one.length - k) (by omega) (q1.mono fun a b hab => by omega) (by omega) y3 y'
      exact ⟨_, _, .inl he, kvs2, _, y2, w1.mono fun a b hab => by omega, by omega, rfl, rfl⟩)
  rw [rngC_len] at q1 q2
  refine ⟨kvs', q1.mono fun a b hab => by omega, ?_⟩
  rw [run_at hL (by omega) _ _ rfl]
  have i1 : intsIn (one.length : Int) = true := intsIn_of (by omega) (by omega)
  have mr := mkRange_dn (one.length : Int) (-1) i1 rfl
  rw [show ((one.length : Int) - -1).toNat = one.length + 1 by omega] at mr
  have hok := q1.ok g.length
  have hok0 : okc g.length (.dic true []) = true := rfl
  have hq : ∀ C : Cell, (g ++ [C])[g.length]? = some C := fun C => by simp
  simp [lcmB, mr, e, hok0, hok]
end KQ

namespace KQ
open KM
theorem insert_ref {n : Nat} {i : Int} {v : Val} {xs : List Val} {g : Gh} (hg : g[n]? = some (.lst xs)) (hl : xs.length < SL) (h0 : 0 ≤ i) (h1 : i < 4611686018427387904) : bmV .insert (.ref n) [.int i, v] g = .ok .non (g.set n (.lst (xs.take i.toNat ++ [v] ++ xs.drop i.toNat))) := by
  show (match g[n]? with
    | some (.lst xs) => if decide (xs.length < SL) && (decide (0 ≤ i) && decide (i < 2 ^ 62)) then R.ok Val.non (g.set n (.lst (xs.take i.toNat ++ [v] ++ xs.drop i.toNat))) else R.bad
    | _ => R.bad) = _
  rw [hg]
  simp [hl, h0, h1]
/-! ### a heap whose drawing cell has been written, and cells behind -/
def H2 (g : Gh) (n : Nat) (c : Cell) (l : Gh) : Gh := g.set n c ++ l
section
variable {g : Gh} {n : Nat} {c c' : Cell} {l l' : Gh}
theorem H2_of {c0 : Cell} (h : g[n]? = some c0) : g ++ l = H2 g n c0 l := by unfold H2; rw [set_same h]
theorem H2_nil : H2 g n c [] = g.set n c := by unfold H2; simp
@[simp] theorem H2_len : (H2 g n c l).length = g.length + l.length := by unfold H2; simp
@[simp] theorem H2_app : H2 g n c l ++ l' = H2 g n c (l ++ l') := by unfold H2; simp
@[simp high] theorem H2_get0 : (H2 g n c l)[g.length]? = l[0]? := by
  unfold H2
  rw [List.getElem?_append_right (by simp)]; simp
@[simp high] theorem H2_get (k : Nat) : (H2 g n c l)[g.length + k]? = l[k]? := by
  unfold H2
  rw [List.getElem?_append_right (by simp)]; simp
@[simp] theorem H2_set0 (C : Cell) : (H2 g n c l).set g.length C = H2 g n c (l.set 0 C) := by
  unfold H2
  rw [List.set_append_right _ _ (by simp)]; simp
@[simp] theorem H2_set (k : Nat) (C : Cell) : (H2 g n c l).set (g.length + k) C = H2 g n c (l.set k C) := by
  unfold H2
  rw [List.set_append_right _ _ (by simp)]; simp
@[simp] theorem H2_take0 : List.take g.length (H2 g n c l) = g.set n c := by
  unfold H2
  rw [← List.length_set (as := g) (i := n) (a := c)]; exact List.take_left
@[simp] theorem H2_take (k : Nat) : List.take (g.length + k) (H2 g n c l) = H2 g n c (l.take k) := by
  unfold H2
  have := List.take_length_add_append (l₁ := g.set n c) (l₂ := l) k
  rw [List.length_set] at this; exact this
theorem okg_id (N : Nat) : ∀ g : Gh, okg N g g = true
  | [] => rfl
  | x :: g => by show ((decide (x = x) || okc N x) && okg N g g) = true; rw [okg_id N g, decide_eq_true rfl]; rfl
@[simp] theorem H2_okg {N : Nat} (hc : okc N c' = true) (hl : okg N l l' = true) : okg N (H2 g n c l) (H2 g n c' l') = true := by
  have h0 : ∀ g : Gh, okg N (g ++ l) (g ++ l') = true := by
    intro g
    induction g with
    | nil => exact hl
    | cons x g ih => show ((decide (x = x) || okc N x) && okg N (g ++ l) (g ++ l')) = true; rw [ih, decide_eq_true rfl]; rfl
  unfold H2
  induction g generalizing n with
  | nil => exact hl
  | cons x g ih =>
    cases n with
    | zero => show ((decide (c = c') || okc N c') && okg N (g ++ l) (g ++ l')) = true; rw [h0 g, hc, Bool.or_true]; rfl
    | succ n => show ((decide (x = x) || okc N x) && okg N (g.set n c ++ l) (g.set n c' ++ l')) = true; rw [ih, decide_eq_true rfl]; rfl
@[simp] theorem H2_okg0 {N : Nat} (hc : okc N c' = true) : okg N g (H2 g n c' l') = true := by
  unfold H2
  induction g generalizing n with
  | nil => rfl
  | cons x g ih =>
    have h0 : ∀ g : Gh, okg N g (g ++ l') = true := by
      intro g
      induction g with
      | nil => rfl
      | cons x g ih => show ((decide (x = x) || okc N x) && okg N g (g ++ l')) = true; rw [ih, decide_eq_true rfl]; rfl
    cases n with
    | zero => show ((decide (x = c') || okc N c') && okg N g (g ++ l')) = true; rw [h0 g, hc, Bool.or_true]; rfl
    | succ n => show ((decide (x = x) || okc N x) && okg N g (g.set n c' ++ l')) = true; rw [ih, decide_eq_true rfl]; rfl
@[simp] theorem okg_nilA (N : Nat) (l : Gh) : okg N [] l = true := rfl
@[simp] theorem okg_consA (N : Nat) (C D : Cell) (l l' : Gh) : okg N (C :: l) (D :: l') = ((decide (C = D) || okc N D) && okg N l l') := rfl
theorem H2_ne (h : n < g.length) {q : Nat} (hq : q < g.length) (hn : q ≠ n) : (H2 g n c l)[q]? = g[q]? := by
  unfold H2
  rw [List.getElem?_append_left (by simpa using hq), List.getElem?_set_ne (Ne.symm hn)]
theorem H2_dr (d : Dr (g.set n c) n) : Dr (H2 g n c l) n := d.app l
end
section
variable {ft : Nat → Option Fn} {iT iP : Nat}
theorem take_H2 (hT : ft iT = some ⟨2, 4, takeB⟩) {m : Nat} (hm : 1 ≤ m) {g : Gh} {n : Nat} {c : Cell} (d : Dr (g.set n c) n) (l : Gh) {k : Int} (hk : 0 < k) (hk2 : k < 1073741824) :
    ∃ (r : Nat) (c' : Cell), run ft m iT [.ref n, .int k] (H2 g n c l) = .ok (.int r) (H2 g n c' l) ∧ (r : Int) < k ∧ Dr (g.set n c') n ∧ ∀ N, n ≤ N → okc N c' = true := by
  have hn : n < g.length := by have := d.lt; rw [List.length_set] at this; exact this
  obtain ⟨m, rfl⟩ : ∃ m', m = m' + 1 := ⟨m - 1, by omega⟩
  obtain ⟨r, c', e, h0, h1, d'⟩ := take_run hT m (d.app l) hk hk2
  obtain ⟨r, rfl⟩ := Int.eq_ofNat_of_zero_le h0
  have hs : (g.set n c ++ l).set n c' = g.set n c' ++ l := by
    rw [List.set_append_left _ _ (by rw [List.length_set]; exact hn), List.set_set]
  rw [hs] at d' e
  have d2 := dr_cut d' (by rw [List.length_set]; exact hn)
  exact ⟨r, c', e, h1, d2, fun N hN => dr_okcN hn hN d2⟩
/-- a value is picked from a list that is written in the call -/
theorem pickV_H2 (hT : ft iT = some ⟨2, 4, takeB⟩) (hP : ft iP = some ⟨2, 2, pickB iT⟩) {m : Nat} (hm : 2 ≤ m) {g : Gh} {n : Nat} {c : Cell} (d : Dr (g.set n c) n) (l : Gh) (vs : List Val) (h0 : vs ≠ []) (h1 : vs.length < 1000) (hok : okvs (g.length + l.length + 1) vs = true) :
    ∃ (x : Val) (c' : Cell), run ft m iP [.ref n, .ref (g.length + l.length)] (H2 g n c (l ++ [.lst vs])) = .ok x (H2 g n c' (l ++ [.lst vs])) ∧ x ∈ vs ∧ Dr (g.set n c') n ∧ ∀ N, n ≤ N → okc N c' = true := by
  have hn : n < g.length := by have := d.lt; rw [List.length_set] at this; exact this
  obtain ⟨m, rfl⟩ : ∃ m', m = m' + 2 := ⟨m - 2, by omega⟩
  have hq : (g.set n c ++ (l ++ [Cell.lst vs]))[g.length + l.length]? = some (.lst vs) := by
    rw [List.getElem?_append_right (by (simp <;> omega)), List.getElem?_append_right (by simp)]
    simp
  obtain ⟨x, c', e, hx, d'⟩ := pick_any hT hP m (d.app (l ++ [.lst vs])) (q := g.length + l.length) (l := vs) hq (by omega) h0 (by omega) (by
    have : (g.set n c ++ (l ++ [Cell.lst vs])).length = g.length + l.length + 1 := by simp; omega
    rw [this]; exact hok)
  have hs : (g.set n c ++ (l ++ [Cell.lst vs])).set n c' = g.set n c' ++ (l ++ [Cell.lst vs]) := by
    rw [List.set_append_left _ _ (by rw [List.length_set]; exact hn), List.set_set]
  rw [hs] at d' e
  have d2 := dr_cut d' (by rw [List.length_set]; exact hn)
  exact ⟨x, c', e, hx, d2, fun N hN => dr_okcN hn hN d2⟩
theorem pickS_H2 (hT : ft iT = some ⟨2, 4, takeB⟩) (hP : ft iP = some ⟨2, 2, pickB iT⟩) {m : Nat} (hm : 2 ≤ m) {g : Gh} {n : Nat} {c : Cell} (d : Dr (g.set n c) n) (l : Gh) (vs : List (List Nat)) (h0 : vs ≠ []) (h1 : vs.length < 1000) :
    ∃ (x : List Nat) (c' : Cell), run ft m iP [.ref n, .ref (g.length + l.length)] (H2 g n c (l ++ [.lst (sV vs)])) = .ok (.str x) (H2 g n c' (l ++ [.lst (sV vs)])) ∧ x ∈ vs ∧ Dr (g.set n c') n ∧ ∀ N, n ≤ N → okc N c' = true := by
  obtain ⟨x, c', e, hx, d', ho⟩ := pickV_H2 hT hP hm d l (sV vs) (by simpa [sV] using h0) (by simpa using h1) (by simp)
  obtain ⟨y, hy, rfl⟩ := List.mem_map.mp hx
  exact ⟨y, c', e, hy, d', ho⟩
end
end KQ

namespace KQ
open KM
/-! ### rows are drawn -/
section
variable {ft : Nat → Option Fn} {iT iP iR iB : Nat}
/-- a text is picked from a list that is written in the call -/
theorem pick_lit (hT : ft iT = some ⟨2, 4, takeB⟩) (hP : ft iP = some ⟨2, 2, pickB iT⟩) (m : Nat) {g : Gh} {n : Nat} (d : Dr g n) {l : Rw} (h0 : l ≠ []) (h1 : l.length < 1000) :
    ∃ (x : List Nat) (c : Cell), run ft (m + 2) iP [.ref n, .ref g.length] (g ++ [.lst (sV l)]) = .ok (.str x) (g.set n c ++ [.lst (sV l)]) ∧ x ∈ l ∧ Dr (g.set n c) n := by
  obtain ⟨x, c, e, hx, d'⟩ := pick_lst hT hP m (d.app [.lst (sV l)]) (q := g.length) (l := l) (by simp [sV]) (by have := d.lt; omega) h0 (by omega)
  rw [List.set_append_left _ _ d.lt] at e d'
  exact ⟨x, c, e, hx, dr_cut d' (by rw [List.length_set]; exact d.lt)⟩
theorem rows_run (hT : ft iT = some ⟨2, 4, takeB⟩) (hP : ft iP = some ⟨2, 2, pickB iT⟩) (hR : ft iR = some ⟨2, 3, rwB iP iT⟩) (m : Nat) {g : Gh} {n : Nat} (d : Dr g n) (k : Nat) (hk : k ≤ 1000) :
    ∃ (t : Rw) (c : Cell), run ft (m + 3) iR [.ref n, .int k] g = .ok (.tup (sV t)) (g.set n c) ∧ t.length ≤ k ∧ (∀ x ∈ t, x.length ≤ 3) ∧ Dr (g.set n c) n := by
  obtain ⟨r, c, e, hr0, hr1, d'⟩ := take_run hT (m + 1) d (k := (k : Int) + 1) (by omega) (by omega)
  have hok := dr_okc d.lt d'
  have hint : intsIn r = true := intsIn_of (by omega) (by omega)
  obtain ⟨a', g', e2, c', t, hg, hd, ha, htl, hmem⟩ := comp_inv (body := cbody (run ft (m + 2)) [some (.ref n), some (.int k), none] [2] (.nm 2) (.and .nil) (rw_e0 iP)) (it := .items (rng r.toNat)) (xs := rng r.toNat) (g := g.set n c)
    (fun i a g' => ∃ c' t, g' = g.set n c' ∧ Dr g' n ∧ a = sV t ∧ t.length = i ∧ ∀ x ∈ t, x.length ≤ 3) ⟨c, [], rfl, d', rfl, rfl, fun x h => nomatch h⟩ (fun i a g' h _ => rfl) (fun i a g' ⟨c', t, _, _, ha, hl, _⟩ => by rw [ha]; simp [hl]) (by rw [rng_len, SL_eq]; omega)
    (fun i x a g' ⟨c', t, hg, hd, ha, hl, hm⟩ hx => by
      obtain ⟨y, c2, e3, hy, hd2⟩ := pick_lit hT hP m hd (l := [[97], [98], [99], [], [97, 32, 98]]) (by simp) (by simp)
      have hok2 := dr_okc hd.lt hd2
      have e3' : run ft (m + 2) iP [.ref n, .ref g'.length] (g' ++ [.lst [.str [97], .str [98], .str [99], .str [], .str [97, 32, 98]]]) = .ok (.str y) (g'.set n c2 ++ [.lst [.str [97], .str [98], .str [99], .str [], .str [97, 32, 98]]]) := e3
      refine ⟨some (.str y), g'.set n c2, ?_, c2, t ++ [y], by rw [hg, List.set_set], hd2, by rw [ha]; simp, by simp [hl], fun z hz => ?_⟩
      · unfold cbody rw_e0
        simp [e3', hok2]
      · rcases List.mem_append.mp hz with hz | hz
        · exact hm z hz
        · rw [List.mem_singleton.mp hz]
          simp at hy
          rcases hy with h | h | h | h | h <;> simp [h])
  subst hg
  have hok3 := dr_okc d.lt hd
  rw [rng_len] at htl
  refine ⟨t, c', ?_, by omega, hmem, hd⟩
  rw [run_eq hR _ _ _ rfl]
  have hq : (g.set n c' ++ [Cell.lst (sV t)])[g.length]? = some (.lst (sV t)) := by rw [List.getElem?_append_right (by simp)]; simp
  subst ha
  have hok4 := okvs_sV g.length t
  generalize sV t = T at *
  simp [rwB, e, hint, e2, hq, hok3, hok4]
/-- one turn of the bending of rows -/
theorem bent_turn (hT : ft iT = some ⟨2, 4, takeB⟩) (hP : ft iP = some ⟨2, 2, pickB iT⟩) {m : Nat} (hm : 2 ≤ m) {g : Gh} {n : Nat} {c : Cell} (d : Dr (g.set n c) n) (hn : n < g.length) (L : Rw) (hL : L.length ≤ 1000) (v : Val) (x1 x4 x5 : Option Val) :
    ∃ (L' : Rw) (c' : Cell) (y4 y5 : Option Val), L'.length ≤ L.length + 1 ∧ Dr (g.set n c') n ∧ (∀ N, n ≤ N → okc N c' = true) ∧
      ∀ x3, fbody (run ft m) (.nm 3) (bnt_f0 iP iT) v [some (.ref n), x1, some (.ref g.length), x3, x4, x5] (H2 g n c [.lst (sV L)]) = .nx [some (.ref n), x1, some (.ref g.length), some v, y4, y5] (H2 g n c' [.lst (sV L')]) := by
  have hS : SL = 1000000 := rfl
  obtain ⟨r, c1, e1, hr, d1, o1⟩ := take_H2 hT (show 1 ≤ m by omega) d [.lst (sV L)] (k := (L.length : Int) + 1) (by omega) (by omega)
  obtain ⟨w, c2, e2, hw, d2, o2⟩ := take_H2 hT (show 1 ≤ m by omega) d1 [.lst (sV L)] (k := 3) (by omega) (by omega)
  have ok1 := o1 (g.length + 1) (by omega)
  have ok2 := o2 (g.length + 1) (by omega)
  have hl := sV_len L
  have okL := okvs_sV (g.length + 1) L
  have zl : L.length < SL := by omega
  by_cases h0 : w = 0
  · subst h0
    obtain ⟨y, c3, e3, hy, d3, o3⟩ := pickS_H2 hT hP hm d2 [.lst (sV L)] [[120], [121], [97]] (by simp) (by simp)
    have ok3 := o3 (g.length + 1) (by omega)
    have e3' : run ft m iP [.ref n, .ref (g.length + 1)] (H2 g n c2 [.lst (sV L), .lst [.str [120], .str [121], .str [97]]]) = .ok (.str y) (H2 g n c3 [.lst (sV L), .lst [.str [120], .str [121], .str [97]]]) := e3
    refine ⟨L.take r ++ [y] ++ L.drop r, c3, some (.int r), some (.int 0), by simp; omega, d3, o3, fun x3 => ?_⟩
    have ins : (sV L).take r ++ .str y :: (sV L).drop r = sV (L.take r ++ [y] ++ L.drop r) := by simp [sV]
    have okI := okvs_sV (g.length + 1) (L.take r ++ [y] ++ L.drop r)
    have hr2 : (r : Int) < 4611686018427387904 := by omega
    have hi := fun h => insert_ref (n := g.length) (i := (r : Int)) (v := .str y) (xs := sV L) (g := H2 g n c3 [.lst (sV L), .lst [.str [120], .str [121], .str [97]]]) h (by rw [hl]; omega) (by omega) hr2
    have hi := hi (by simp)
    simp only [H2_set0, Int.toNat_natCast] at hi
    have ins2 : List.set [Cell.lst (sV L), .lst [.str [120], .str [121], .str [97]]] 0 (.lst ((sV L).take r ++ [.str y] ++ (sV L).drop r)) = [.lst (sV (L.take r ++ [y] ++ L.drop r)), .lst [.str [120], .str [121], .str [97]]] := by
      rw [List.append_assoc, List.singleton_append, ins]; rfl
    rw [ins2] at hi
    generalize sV (L.take r ++ [y] ++ L.drop r) = VI at *
    generalize sV L = VL at *
    simp [fbody, bnt_f0, hl, e1, e2, e3', ok1, ok2, ok3, okL, okI, hi]
  · have h0' : ((w : Int) == 0) = false := by rw [beq_eq_false_iff_ne]; omega
    by_cases h1 : r < L.length
    · by_cases h2 : w = 1
      · subst h2
        refine ⟨L.eraseIdx r, c2, some (.int r), some (.int 1), by have := List.length_eraseIdx_le L r; omega, d2, o2, fun x3 => ?_⟩
        have ix : ixN L.length (r : Int) = some r := ixN_nat h1
        have gt : (sV L)[r]? = some (.str L[r]) := by rw [sV_get, List.getElem?_eq_getElem h1]; rfl
        have gt2 : ∀ h : r < (sV L).length, (sV L)[r]'h = .str L[r] := fun h => by simp [sV]
        have er : (sV L).eraseIdx r = sV (L.eraseIdx r) := by
          have : ∀ (L : Rw) (r : Nat), (L.map Val.str).eraseIdx r = (L.eraseIdx r).map Val.str := by
            intro L
            induction L with
            | nil => intro r; rfl
            | cons x L ih =>
              intro r
              cases r with
              | zero => rfl
              | succ r => simp [ih]
          exact this L r
        have okE := okvs_sV (g.length + 1) (L.eraseIdx r)
        have zl2 : L.length ≤ SL := by omega
        generalize sV (L.eraseIdx r) = VE at *
        generalize sV L = VL at *
        simp [fbody, bnt_f0, hl, e1, e2, ok1, ok2, okL, okE, h1, ix, gt, gt2, er, zl2]
      · have h2' : ((w : Int) == 1) = false := by rw [beq_eq_false_iff_ne]; omega
        obtain ⟨y, c3, e3, hy, d3, o3⟩ := pickS_H2 hT hP hm d2 [.lst (sV L)] [[120], [121], [98]] (by simp) (by simp)
        have ok3 := o3 (g.length + 1) (by omega)
        have e3' : run ft m iP [.ref n, .ref (g.length + 1)] (H2 g n c2 [.lst (sV L), .lst [.str [120], .str [121], .str [98]]]) = .ok (.str y) (H2 g n c3 [.lst (sV L), .lst [.str [120], .str [121], .str [98]]]) := e3
        refine ⟨L.set r y, c3, some (.int r), some (.int w), by simp, d3, o3, fun x3 => ?_⟩
        have ix : ixN L.length (r : Int) = some r := ixN_nat h1
        have st : (sV L).set r (.str y) = sV (L.set r y) := by unfold sV; rw [List.map_set]
        have okE := okvs_sV (g.length + 1) (L.set r y)
        generalize sV (L.set r y) = VE at *
        generalize sV L = VL at *
        simp [fbody, bnt_f0, hl, e1, e2, e3', ok1, ok2, ok3, okL, okE, h0', h1, h2', ix, st]
    · refine ⟨L, c2, some (.int r), some (.int w), by omega, d2, o2, fun x3 => ?_⟩
      generalize sV L = VL at *
      simp [fbody, bnt_f0, hl, e1, e2, ok1, ok2, okL, h0', h1]
theorem bent_run (hT : ft iT = some ⟨2, 4, takeB⟩) (hP : ft iP = some ⟨2, 2, pickB iT⟩) (hB : ft iB = some ⟨2, 6, bntB iP iT⟩) {m : Nat} (hm : 3 ≤ m) {g : Gh} {n : Nat} (d : Dr g n) (L : Rw) (hL : L.length ≤ 900) :
    ∃ (L' : Rw) (c : Cell), run ft m iB [.ref n, .tup (sV L)] g = .ok (.tup (sV L')) (g.set n c) ∧ L'.length ≤ L.length + 3 ∧ Dr (g.set n c) n ∧ ∀ N, n ≤ N → okc N c = true := by
  have hn := d.lt
  obtain ⟨c0, hc0⟩ : ∃ c0, g[n]? = some c0 := ⟨_, List.getElem?_eq_getElem hn⟩
  have d0 : Dr (g.set n c0) n := by rw [set_same hc0]; exact d
  obtain ⟨r, c1, e1, hr, d1, o1⟩ := take_H2 hT (show 1 ≤ m - 1 by omega) d0 [.lst (sV L)] (k := 4) (by omega) (by omega)
  obtain ⟨s', g', e, L', c2, y3, y4, y5, q1, d2, o2, rfl, rfl⟩ := for_inv (body := fbody (run ft (m - 1)) (.nm 3) (bnt_f0 iP iT)) (it := .items (rng r)) (xs := rng r) (s := [some (.ref n), some (.tup (sV L)), some (.ref g.length), none, none, none]) (g := H2 g n c1 [.lst (sV L)])
    (fun k s G => ∃ L' c' y3 y4 y5, L'.length ≤ L.length + k ∧ Dr (g.set n c') n ∧ (∀ N, n ≤ N → okc N c' = true) ∧ s = [some (.ref n), some (.tup (sV L)), some (.ref g.length), y3, y4, y5] ∧ G = H2 g n c' [.lst (sV L')])
    ⟨L, c1, none, none, none, Nat.le_refl _, d1, o1, rfl, rfl⟩ (fun _ _ _ _ _ => rfl) (by rw [rng_len, WF_eq]; omega)
    (fun k x s G ⟨L', c', y3, y4, y5, q1, dd, oo, hs, hG⟩ hx => by
      obtain ⟨rfl, hk⟩ := rng_get hx
      subst hs hG
      obtain ⟨L2, c2, z4, z5, w1, w2, w3, he⟩ := bent_turn hT hP (show 2 ≤ m - 1 by omega) dd hn L' (by omega) (.int k) (some (.tup (sV L))) y4 y5
      exact ⟨_, _, .inl (he y3), L2, c2, _, z4, z5, by omega, w2, w3, rfl, rfl⟩)
  rw [rng_len] at q1
  refine ⟨L', c2, ?_, by omega, d2, o2⟩
  rw [run_at hB (by omega) _ _ rfl]
  have hint : intsIn (r : Int) = true := intsIn_of (by omega) (by omega)
  have ok1 := o1 (g.length + 1) (by omega)
  have ok2 := o2 g.length (by omega)
  have okL := fun N => okvs_sV N L
  have okL' := okvs_sV g.length L'
  have h1 : g ++ [Cell.lst (sV L)] = H2 g n c0 [.lst (sV L)] := H2_of hc0
  generalize sV L' = VL' at *
  generalize sV L = VL at *
  have st1 : ex (run ft (m - 1)) (.asg (.nm 2) (.blt .list (.cons (.var 1) .nil))) [some (.ref n), some (.tup VL), none, none, none, none] g = .nx [some (.ref n), some (.tup VL), some (.ref g.length), none, none, none] (g ++ [.lst VL]) := by simp [okL]
  have hb : exs (run ft (m - 1)) (bntB iP iT) [some (.ref n), some (.tup VL), none, none, none, none] g = .rt (.tup VL') (H2 g n c2 [.lst VL']) := by
    unfold bntB
    rw [exs_step st1, h1]
    simp [e1, hint, e, ok1, okL]
  show tidy g (fin (exs (run ft (m - 1)) (bntB iP iT) [some (.ref n), some (.tup VL), none, none, none, none] g)) = _
  rw [hb]
  simp [ok2, okL']
end
end KQ

namespace KQ
/-! ### patches, plainly: rows kept, rows that go, rows that come -/
abbrev RwP := List (List Nat)
abbrev Pc := Int × RwP × RwP
abbrev Hk := RwP × RwP × RwP
def srcL : List Hk → RwP → RwP
  | [], t => t
  | (k, o, _) :: l, t => k ++ (o ++ srcL l t)
def dstL : List Hk → RwP → RwP
  | [], t => t
  | (k, _, n) :: l, t => k ++ (n ++ dstL l t)
def pcs : Int → List Hk → List Pc
  | _, [] => []
  | p, (k, o, n) :: l => (p + k.length, o, n) :: pcs (p + k.length + o.length) l
/-- a row stays between each two -/
def Sp : Bool → List Hk → Prop
  | _, [] => True
  | b, (k, _, _) :: l => (b = true → k ≠ []) ∧ Sp true l
theorem Sp.weak : ∀ {l : List Hk}, Sp true l → Sp false l
  | [], _ => trivial
  | (_, _, _) :: _, h => ⟨(fun z => nomatch z), h.2⟩
/-- P leads from r to r2 -/
def Vd (r : RwP) (P : List Pc) (r2 : RwP) : Prop := ∃ hs t, Sp false hs ∧ P = pcs 0 hs ∧ srcL hs t = r ∧ dstL hs t = r2
theorem Vd.nil (r : RwP) : Vd r [] r := ⟨[], r, trivial, rfl, rfl, rfl⟩
/-! #### turned back -/
def tbF : Int → List Pc → List Pc
  | _, [] => []
  | s, (a, o, n) :: l => (a + s, n, o) :: tbF (s + (n.length - o.length)) l
theorem tbF_len : ∀ (s : Int) (P : List Pc), (tbF s P).length = P.length
  | _, [] => rfl
  | s, (a, o, n) :: l => congrArg (· + 1) (tbF_len _ l)
theorem tbF_tbF : ∀ (P : List Pc) (s s2 : Int), s2 = -s → tbF s2 (tbF s P) = P
  | [], _, _, _ => rfl
  | (a, o, n) :: l, s, s2, h => by
    show (a + s + s2, o, n) :: tbF _ (tbF _ l) = _
    rw [tbF_tbF l _ _ (by omega), show a + s + s2 = a by omega]
def swH : List Hk → List Hk
  | [] => []
  | (k, o, n) :: l => (k, n, o) :: swH l
theorem swH_src : ∀ (l : List Hk) (t : RwP), srcL (swH l) t = dstL l t
  | [], _ => rfl
  | (k, o, n) :: l, t => by show k ++ (n ++ srcL (swH l) t) = _; rw [swH_src l t]; rfl
theorem swH_dst : ∀ (l : List Hk) (t : RwP), dstL (swH l) t = srcL l t
  | [], _ => rfl
  | (k, o, n) :: l, t => by show k ++ (o ++ dstL (swH l) t) = _; rw [swH_dst l t]; rfl
theorem swH_sp : ∀ {l : List Hk} {b : Bool}, Sp b l → Sp b (swH l)
  | [], _, _ => trivial
  | (_, _, _) :: _, _, h => ⟨h.1, swH_sp h.2⟩
theorem tb_pcs : ∀ (l : List Hk) (p q s : Int), q = p + s → tbF s (pcs p l) = pcs q (swH l)
  | [], _, _, _, _ => rfl
  | (k, o, n) :: l, p, q, s, h => by
    show (p + k.length + s, n, o) :: tbF _ (pcs _ l) = (q + k.length, n, o) :: pcs _ (swH l)
    rw [tb_pcs l _ (q + k.length + n.length) _ (by omega), show p + (k.length : Int) + s = q + k.length by omega]
theorem Vd.back {r r2 : RwP} {P : List Pc} : Vd r P r2 → Vd r2 (tbF 0 P) r
  | ⟨hs, t, h1, h2, h3, h4⟩ => ⟨swH hs, t, swH_sp h1, by rw [h2, tb_pcs hs 0 0 0 rfl], by rw [swH_src, h4], by rw [swH_dst, h3]⟩
/-! #### apart, past -/
def ap1 (p q : Pc) : Bool := !(decide (p.1 ≤ q.1 + q.2.1.length) && decide (q.1 ≤ p.1 + p.2.1.length))
def apF (P Q : List Pc) : Bool := P.all fun p => Q.all fun q => ap1 p q
theorem ap1_iff (p q : Pc) : ap1 p q = true ↔ (q.1 + q.2.1.length < p.1 ∨ p.1 + p.2.1.length < q.1) := by
  unfold ap1
  by_cases h1 : p.1 ≤ q.1 + q.2.1.length <;> by_cases h2 : q.1 ≤ p.1 + p.2.1.length <;> simp [h1, h2] <;> omega
theorem ap_iff (P Q : List Pc) : apF P Q = true ↔ ∀ p ∈ P, ∀ q ∈ Q, (q.1 + q.2.1.length < p.1 ∨ p.1 + p.2.1.length < q.1) := by
  unfold apF
  simp only [List.all_eq_true, ap1_iff]
theorem ap_comm (P Q : List Pc) : apF P Q = apF Q P := by
  rw [Bool.eq_iff_iff, ap_iff, ap_iff]
  exact ⟨fun h p hp q hq => (h q hq p hp).symm, fun h p hp q hq => (h q hq p hp).symm⟩
def shf (a : Int) : List Pc → Int
  | [] => 0
  | (b, o, n) :: l => (if b < a then (n.length : Int) - o.length else 0) + shf a l
theorem shf_app (a : Int) : ∀ (x y : List Pc), shf a (x ++ y) = shf a x + shf a y
  | [], y => by simp [shf]
  | (b, o, n) :: l, y => by
    show _ + shf a (l ++ y) = _ + shf a l + shf a y
    rw [shf_app a l y]; omega
theorem shf_all {a : Int} : ∀ {x : List Pc}, (∀ q ∈ x, q.1 < a) → ∀ {b : Int}, (∀ q ∈ x, q.1 < b) → shf a x = shf b x
  | [], _, _, _ => rfl
  | (c, o, n) :: l, h, b, h2 => by
    have e1 : c < a := h (c, o, n) (.head _)
    have e2 : c < b := h2 (c, o, n) (.head _)
    show (if c < a then _ else _) + shf a l = (if c < b then _ else _) + shf b l
    rw [if_pos e1, if_pos e2, shf_all (fun q hq => h q (.tail _ hq)) (fun q hq => h2 q (.tail _ hq))]
theorem shf_none {a : Int} : ∀ {x : List Pc}, (∀ q ∈ x, a ≤ q.1) → shf a x = 0
  | [], _ => rfl
  | (c, o, n) :: l, h => by
    have e1 : a ≤ c := h (c, o, n) (.head _)
    show (if c < a then _ else _) + shf a l = _
    rw [if_neg (by omega), shf_none (fun q hq => h q (.tail _ hq))]; rfl
def psF (P Q : List Pc) : List Pc := P.map fun p => (p.1 + shf p.1 Q, p.2.1, p.2.2)
theorem psF_len (P Q : List Pc) : (psF P Q).length = P.length := by simp [psF]
/-! #### two patches' rows on one text -/
abbrev Th := Bool × Hk
def txT (a b : Bool) : List Th → RwP → RwP
  | [], t => t
  | (s, k, o, n) :: l, t => k ++ ((if (if s then b else a) then n else o) ++ txT a b l t)
/-- the patches of side s, the other side's being done or not -/
def plT (s a : Bool) : Int → List Th → List Pc
  | _, [] => []
  | p, (x, k, o, n) :: l => if x = s then (p + k.length, o, n) :: plT s a (p + k.length + o.length) l
    else plT s a (p + k.length + (if a then n else o).length) l
def SpT : Bool → List Th → Prop
  | _, [] => True
  | b, (_, k, _, _) :: l => (b = true → k ≠ []) ∧ SpT true l
def swT (s : Bool) : List Th → List Th
  | [] => []
  | (x, k, o, n) :: l => (if x = s then (x, k, n, o) else (x, k, o, n)) :: swT s l
theorem swT_sp (s : Bool) : ∀ {l : List Th} {b : Bool}, SpT b l → SpT b (swT s l)
  | [], _, _ => trivial
  | (x, _, _, _) :: _, _, h => by
    unfold swT
    by_cases e : x = s
    · rw [if_pos e]; exact ⟨h.1, swT_sp s h.2⟩
    · rw [if_neg e]; exact ⟨h.1, swT_sp s h.2⟩
theorem swT_txf (a b : Bool) : ∀ (l : List Th) (t : RwP), txT a b (swT false l) t = txT (!a) b l t
  | [], _ => rfl
  | (x, k, o, n) :: l, t => by
    have ih := swT_txf a b l t
    cases x <;> cases a <;> simp_all [swT, txT]
theorem swT_txt (a b : Bool) : ∀ (l : List Th) (t : RwP), txT a b (swT true l) t = txT a (!b) l t
  | [], _ => rfl
  | (x, k, o, n) :: l, t => by
    have ih := swT_txt a b l t
    cases x <;> cases b <;> simp_all [swT, txT]
theorem swT_other (s a : Bool) : ∀ (l : List Th) (p : Int), plT s a p (swT (!s) l) = plT s (!a) p l
  | [], _ => rfl
  | (x, k, o, n) :: l, p => by
    have ih := fun q => swT_other s a l q
    cases x <;> cases s <;> cases a <;> simp_all [swT, plT]
theorem swT_same (s a : Bool) : ∀ (l : List Th) (p q e : Int), q = p + e → plT s a q (swT s l) = tbF e (plT s a p l)
  | [], _, _, _, _ => rfl
  | (x, k, o, n) :: l, p, q, e, h => by
    by_cases hx : x = s
    · simp only [swT, plT, if_pos hx, tbF]
      rw [swT_same s a l (p + k.length + o.length) _ _ (show q + k.length + n.length = p + k.length + o.length + (e + (n.length - o.length)) by omega), show q + (k.length : Int) = p + k.length + e by omega]
    · simp only [swT, plT, if_neg hx]
      exact swT_same s a l _ _ e (by omega)
/-- the other side's hunks are kept rows -/
def prj (s a : Bool) (acc : RwP) : List Th → List Hk
  | [] => []
  | (x, k, o, n) :: l => if x = s then (acc ++ k, o, n) :: prj s a [] l else prj s a (acc ++ k ++ (if a then n else o)) l
def prA (s a : Bool) (acc : RwP) : List Th → RwP
  | [] => acc
  | (x, k, o, n) :: l => if x = s then prA s a [] l else prA s a (acc ++ k ++ (if a then n else o)) l
theorem prj_pcs (s a : Bool) : ∀ (l : List Th) (acc : RwP) (p : Int), pcs p (prj s a acc l) = plT s a (p + acc.length) l
  | [], _, _ => rfl
  | (x, k, o, n) :: l, acc, p => by
    by_cases hx : x = s
    · simp only [prj, plT, if_pos hx, pcs]
      rw [prj_pcs s a l, List.length_append, show p + ((acc.length + k.length : Nat) : Int) = p + acc.length + k.length by omega]
      simp
    · simp only [prj, plT, if_neg hx]
      rw [prj_pcs s a l, List.length_append, List.length_append]
      congr 1; omega
theorem prj_sp (s a : Bool) : ∀ (l : List Th) (acc : RwP) (b : Bool), SpT b l → (acc ≠ [] ∨ b = true ∨ True) → Sp (decide (acc ≠ []) || b) (prj s a acc l)
  | [], _, _, _, _ => trivial
  | (x, k, o, n) :: l, acc, b, h, _ => by
    by_cases hx : x = s
    · simp only [prj, if_pos hx]
      refine ⟨fun z => ?_, ?_⟩
      · rcases (Bool.or_eq_true _ _).mp z with z | z
        · exact fun w => of_decide_eq_true z (List.append_eq_nil_iff.mp w).1
        · exact fun w => h.1 z (List.append_eq_nil_iff.mp w).2
      · have := prj_sp s a l [] true h.2 (.inr (.inr trivial))
        simpa using this
    · simp only [prj, if_neg hx]
      have := prj_sp s a l (acc ++ k ++ (if a then n else o)) true h.2 (.inr (.inr trivial))
      rw [Bool.or_true] at this
      cases hb : (decide (acc ≠ []) || b)
      · exact this.weak
      · exact this
theorem prj_src (a : Bool) : ∀ (l : List Th) (acc t : RwP), srcL (prj false a acc l) (prA false a acc l ++ t) = acc ++ txT false a l t ∧ dstL (prj false a acc l) (prA false a acc l ++ t) = acc ++ txT true a l t
  | [], acc, t => ⟨rfl, rfl⟩
  | (x, k, o, n) :: l, acc, t => by
    have i1 := fun ac => (prj_src a l ac t).1
    have i2 := fun ac => (prj_src a l ac t).2
    cases x
    · simp [prj, prA, srcL, dstL, txT, i1, i2]
    · simp [prj, prA, srcL, dstL, txT, i1, i2]
theorem prj_srct (a : Bool) : ∀ (l : List Th) (acc t : RwP), srcL (prj true a acc l) (prA true a acc l ++ t) = acc ++ txT a false l t ∧ dstL (prj true a acc l) (prA true a acc l ++ t) = acc ++ txT a true l t
  | [], acc, t => ⟨rfl, rfl⟩
  | (x, k, o, n) :: l, acc, t => by
    have i1 := fun ac => (prj_srct a l ac t).1
    have i2 := fun ac => (prj_srct a l ac t).2
    cases x
    · simp [prj, prA, srcL, dstL, txT, i1, i2]
    · simp [prj, prA, srcL, dstL, txT, i1, i2]
theorem vd_f {T : List Th} (h : SpT false T) (a : Bool) (t : RwP) : Vd (txT false a T t) (plT false a 0 T) (txT true a T t) := by
  refine ⟨prj false a [] T, prA false a [] T ++ t, ?_, ?_, (prj_src a T [] t).1, (prj_src a T [] t).2⟩
  · simpa using prj_sp false a T [] false h (.inr (.inr trivial))
  · simpa using (prj_pcs false a T [] 0).symm
theorem vd_t {T : List Th} (h : SpT false T) (a : Bool) (t : RwP) : Vd (txT a false T t) (plT true a 0 T) (txT a true T t) := by
  refine ⟨prj true a [] T, prA true a [] T ++ t, ?_, ?_, (prj_srct a T [] t).1, (prj_srct a T [] t).2⟩
  · simpa using prj_sp true a T [] false h (.inr (.inr trivial))
  · simpa using (prj_pcs true a T [] 0).symm
/-! #### they are apart, and past each other -/
theorem pl_low (s a : Bool) : ∀ (l : List Th) (b : Bool) (p : Int), SpT b l → ∀ q ∈ plT s a p l, p + (if b then 1 else 0) ≤ q.1
  | [], _, _, _, _, h => nomatch h
  | (x, k, o, n) :: l, b, p, hs, q, hq => by
    have hk : (if b then (1 : Int) else 0) ≤ k.length := by
      cases b
      · simp
      · have := List.length_pos_iff.mpr (hs.1 rfl)
        show (1 : Int) ≤ _
        omega
    by_cases hx : x = s
    · simp only [plT, if_pos hx] at hq
      rcases List.mem_cons.mp hq with e | e
      · rw [e]; show _ ≤ p + (k.length : Int); omega
      · have := pl_low s a l true _ hs.2 q e
        simp only [if_true] at this; omega
    · simp only [plT, if_neg hx] at hq
      have := pl_low s a l true _ hs.2 q hq
      simp only [if_true] at this; omega
theorem apT (s : Bool) : ∀ (l : List Th) (b : Bool) (p : Int), SpT b l → ∀ x ∈ plT s false p l, ∀ y ∈ plT (!s) false p l, (y.1 + y.2.1.length < x.1 ∨ x.1 + x.2.1.length < y.1)
  | [], _, _, _, _, h, _, _ => nomatch h
  | (x, k, o, n) :: l, b, p, hs, u, hu, v, hv => by
    by_cases hx : x = s
    · have hx2 : ¬ x = !s := by rw [hx]; cases s <;> simp
      simp only [plT, if_pos hx] at hu
      simp only [plT, if_neg hx2] at hv
      rw [if_neg (by simp)] at hv
      rcases List.mem_cons.mp hu with e | e
      · have := pl_low _ _ l true _ hs.2 v hv
        simp only [if_true] at this
        rw [e]; right; show p + (k.length : Int) + o.length < _; omega
      · exact apT s l true _ hs.2 u e v hv
    · have hx2 : x = !s := by revert hx; cases s <;> cases x <;> simp
      simp only [plT, if_neg hx] at hu
      simp only [plT, if_pos hx2] at hv
      rw [if_neg (by simp)] at hu
      rcases List.mem_cons.mp hv with e | e
      · have := pl_low _ _ l true _ hs.2 u hu
        simp only [if_true] at this
        rw [e]; left; show p + (k.length : Int) + o.length < _; omega
      · exact apT s l true _ hs.2 u hu v e
theorem psT (s : Bool) : ∀ (l : List Th) (b : Bool) (p d : Int) (W : List Pc), SpT b l → (∀ q ∈ W, q.1 < p + (if b then 1 else 0)) → (∀ a, (∀ q ∈ W, q.1 < a) → shf a W = d) →
    psF (plT s false p l) (W ++ plT (!s) false p l) = plT s true (p + d) l
  | [], _, _, _, _, _, _, _ => rfl
  | (x, k, o, n) :: l, b, p, d, W, hs, hW, hd => by
    have hk : (if b then (1 : Int) else 0) ≤ k.length := by
      cases b
      · simp
      · have := List.length_pos_iff.mpr (hs.1 rfl)
        show (1 : Int) ≤ _
        omega
    have hW2 : ∀ q ∈ W, q.1 < p + k.length + o.length + 1 := fun q hq => by have := hW q hq; omega
    by_cases hx : x = s
    · have hx2 : ¬ x = !s := by rw [hx]; cases s <;> simp
      simp only [plT, if_pos hx, if_neg hx2]
      rw [if_neg (by simp)]
      have ih := psT s l true (p + k.length + o.length) d W hs.2 (by simpa using hW2) hd
      have h0 : shf (p + k.length) (W ++ plT (!s) false (p + k.length + o.length) l) = d := by
        rw [shf_app, hd _ (fun q hq => by have := hW q hq; omega), shf_none fun q hq => by
          have := pl_low _ _ l true _ hs.2 q hq
          simp only [if_true] at this; omega]
        omega
      unfold psF at ih ⊢
      rw [List.map_cons, ih]
      simp only [h0]
      rw [show p + (k.length : Int) + o.length + d = p + d + k.length + o.length by omega, show p + (k.length : Int) + d = p + d + k.length by omega]
    · have hx2 : x = !s := by revert hx; cases s <;> cases x <;> simp
      simp only [plT, if_neg hx, if_pos hx2]
      rw [if_neg (by simp)]
      simp only [if_true]
      have ih := psT s l true (p + k.length + o.length) (d + (n.length - o.length)) (W ++ [(p + k.length, o, n)]) hs.2 (fun q hq => by
        rcases List.mem_append.mp hq with e | e
        · simpa using hW2 q e
        · rw [List.mem_singleton.mp e]; show p + (k.length : Int) < _ + 1; omega) (fun a ha => by
          rw [shf_app, hd a fun q hq => ha q (List.mem_append_left _ hq)]
          have : p + (k.length : Int) < a := ha (p + k.length, o, n) (List.mem_append_right _ (.head _))
          show _ + ((if _ < a then _ else _) + 0) = _
          rw [if_pos this]; omega)
      rw [List.append_assoc, List.singleton_append] at ih
      rw [ih]
      congr 1; omega
theorem ps_T {s : Bool} {T : List Th} (h : SpT false T) : psF (plT s false 0 T) (plT (!s) false 0 T) = plT s true 0 T := by
  have := psT s T false 0 0 [] h (fun q hq => nomatch hq) (fun a _ => rfl)
  simpa using this
theorem ap_T {s : Bool} {T : List Th} (h : SpT false T) : apF (plT s false 0 T) (plT (!s) false 0 T) = true := (ap_iff _ _).mpr (apT s T false 0 h)
/-! #### patches that are apart are on one text -/
def tg (s : Bool) (l : List Hk) : List Th := l.map fun h => (s, h)
theorem tg_sp (s : Bool) : ∀ {l : List Hk} {b : Bool}, Sp b l → SpT b (tg s l)
  | [], _, _ => trivial
  | (_, _, _) :: _, _, h => ⟨h.1, tg_sp s h.2⟩
theorem tg_pl (s a : Bool) : ∀ (l : List Hk) (p : Int), plT s a p (tg s l) = pcs p l
  | [], _ => rfl
  | (k, o, n) :: l, p => by
    show plT s a p ((s, k, o, n) :: tg s l) = _
    simp only [plT, if_true, pcs]; rw [tg_pl s a l]
theorem tg_pl0 (s x a : Bool) (h : ¬ x = s) : ∀ (l : List Hk) (p : Int), plT s a p (tg x l) = []
  | [], _ => rfl
  | (k, o, n) :: l, p => by
    show plT s a p ((x, k, o, n) :: tg x l) = _
    simp only [plT, if_neg h]; exact tg_pl0 s x a h l _
theorem tg_src (s : Bool) : ∀ (l : List Hk) (t : RwP), txT false false (tg s l) t = srcL l t
  | [], _ => rfl
  | (k, o, n) :: l, t => by
    show txT false false ((s, k, o, n) :: tg s l) t = _
    cases s <;> simp [txT, srcL, tg_src _ l t]
theorem tg_f (l : List Hk) (t : RwP) : txT true false (tg false l) t = dstL l t ∧ txT false true (tg false l) t = srcL l t := by
  induction l with
  | nil => exact ⟨rfl, rfl⟩
  | cons h l ih =>
    obtain ⟨k, o, n⟩ := h
    show txT true false ((false, k, o, n) :: tg false l) t = _ ∧ txT false true ((false, k, o, n) :: tg false l) t = _
    simp [txT, srcL, dstL, ih.1, ih.2]
theorem tg_t (l : List Hk) (t : RwP) : txT false true (tg true l) t = dstL l t ∧ txT true false (tg true l) t = srcL l t := by
  induction l with
  | nil => exact ⟨rfl, rfl⟩
  | cons h l ih =>
    obtain ⟨k, o, n⟩ := h
    show txT false true ((true, k, o, n) :: tg true l) t = _ ∧ txT true false ((true, k, o, n) :: tg true l) t = _
    simp [txT, srcL, dstL, ih.1, ih.2]
theorem pre_split {k1 o1 k2 x y : RwP} (h : k1 ++ (o1 ++ x) = k2 ++ y) (hl : k1.length + o1.length < k2.length) : ∃ k3, k3 ≠ [] ∧ k2 = k1 ++ (o1 ++ k3) ∧ x = k3 ++ y := by
  have e1 : k1 ++ (o1 ++ (k2.drop (k1.length + o1.length))) = k2 := by
    have := congrArg (List.take (k1.length + o1.length)) h
    rw [← List.append_assoc, ← List.length_append, List.take_left, List.length_append, List.take_append_of_le_length (by omega)] at this
    rw [← List.append_assoc, this, List.take_append_drop]
  refine ⟨k2.drop (k1.length + o1.length), fun z => ?_, e1.symm, ?_⟩
  · have := congrArg List.length z
    rw [List.length_drop, List.length_nil] at this; omega
  · rw [← e1, List.append_assoc, List.append_assoc] at h
    exact List.append_cancel_left (List.append_cancel_left h)
theorem merge : ∀ (N : Nat) (h1 h2 : List Hk) (t1 t2 : RwP) (b : Bool) (p : Int), h1.length + h2.length ≤ N → Sp b h1 → Sp b h2 → srcL h1 t1 = srcL h2 t2 →
    (∀ x ∈ pcs p h1, ∀ y ∈ pcs p h2, (y.1 + y.2.1.length < x.1 ∨ x.1 + x.2.1.length < y.1)) →
    ∃ T t, SpT b T ∧ plT false false p T = pcs p h1 ∧ plT true false p T = pcs p h2 ∧ txT false false T t = srcL h1 t1 ∧ txT true false T t = dstL h1 t1 ∧ txT false true T t = dstL h2 t2
  | N, [], h2, t1, t2, b, p, hN, s1, s2, he, ha => by
    refine ⟨tg true h2, t2, tg_sp _ s2, tg_pl0 _ _ _ (by simp) _ _, tg_pl _ _ _ _, ?_, ?_, (tg_t h2 t2).1⟩
    · rw [tg_src, ← he]
    · rw [(tg_t h2 t2).2, ← he]; rfl
  | N, (k1, o1, n1) :: h1, [], t1, t2, b, p, hN, s1, s2, he, ha => by
    refine ⟨tg false ((k1, o1, n1) :: h1), t1, tg_sp _ s1, tg_pl _ _ _ _, tg_pl0 _ _ _ (by simp) _ _, tg_src _ _ _, (tg_f _ t1).1, ?_⟩
    rw [(tg_f _ t1).2, he]; rfl
  | 0, (k1, o1, n1) :: h1, (k2, o2, n2) :: h2, t1, t2, b, p, hN, s1, s2, he, ha => by simp at hN
  | N + 1, (k1, o1, n1) :: h1, (k2, o2, n2) :: h2, t1, t2, b, p, hN, s1, s2, he, ha => by
    have h0 : (p + (k2.length : Int) + o2.length < p + k1.length ∨ p + (k1.length : Int) + o1.length < p + k2.length) := ha (p + k1.length, o1, n1) (.head _) (p + k2.length, o2, n2) (.head _)
    rw [List.length_cons, List.length_cons] at hN
    rcases h0 with h0 | h0
    · obtain ⟨k3, hk, e1, e2⟩ := pre_split (he.symm : k2 ++ (o2 ++ srcL h2 t2) = k1 ++ (o1 ++ srcL h1 t1)) (by omega)
      have hl : (k1.length : Int) = k2.length + (o2.length + k3.length) := by rw [e1]; simp
      have hp : pcs p ((k1, o1, n1) :: h1) = pcs (p + k2.length + o2.length) ((k3, o1, n1) :: h1) := by
        show (_, _, _) :: pcs _ _ = (_, _, _) :: pcs _ _
        rw [show p + (k1.length : Int) = p + k2.length + o2.length + k3.length by omega]
      rw [hp] at ha
      obtain ⟨T, t, i1, i2, i3, i4, i5, i6⟩ := merge N ((k3, o1, n1) :: h1) h2 t1 t2 true (p + k2.length + o2.length) (by rw [List.length_cons]; omega) ⟨fun _ => hk, s1.2⟩ s2.2 e2.symm
        (fun x hx y hy => ha x hx y (.tail _ hy))
      refine ⟨(true, k2, o2, n2) :: T, t, ⟨s2.1, i1⟩, ?_, ?_, ?_, ?_, ?_⟩
      · simp only [plT]; rw [hp, ← i2]; simp
      · simp only [plT, if_true, pcs]; rw [i3]
      · show k2 ++ (o2 ++ txT false false T t) = k1 ++ (o1 ++ srcL h1 t1)
        rw [i4, e1]; simp [srcL]
      · show k2 ++ (o2 ++ txT true false T t) = k1 ++ (n1 ++ dstL h1 t1)
        rw [i5, e1]; simp [dstL]
      · show k2 ++ (n2 ++ txT false true T t) = k2 ++ (n2 ++ dstL h2 t2)
        rw [i6]
    · obtain ⟨k3, hk, e1, e2⟩ := pre_split (he : k1 ++ (o1 ++ srcL h1 t1) = k2 ++ (o2 ++ srcL h2 t2)) (by omega)
      have hl : (k2.length : Int) = k1.length + (o1.length + k3.length) := by rw [e1]; simp
      have hp : pcs p ((k2, o2, n2) :: h2) = pcs (p + k1.length + o1.length) ((k3, o2, n2) :: h2) := by
        show (_, _, _) :: pcs _ _ = (_, _, _) :: pcs _ _
        rw [show p + (k2.length : Int) = p + k1.length + o1.length + k3.length by omega]
      rw [hp] at ha
      obtain ⟨T, t, i1, i2, i3, i4, i5, i6⟩ := merge N h1 ((k3, o2, n2) :: h2) t1 t2 true (p + k1.length + o1.length) (by rw [List.length_cons]; omega) s1.2 ⟨fun _ => hk, s2.2⟩ e2
        (fun x hx y hy => ha x (.tail _ hx) y hy)
      refine ⟨(false, k1, o1, n1) :: T, t, ⟨s1.1, i1⟩, ?_, ?_, ?_, ?_, ?_⟩
      · simp only [plT, if_true, pcs]; rw [i2]
      · simp only [plT]; rw [hp, ← i3]; simp
      · show k1 ++ (o1 ++ txT false false T t) = k1 ++ (o1 ++ srcL h1 t1)
        rw [i4]
      · show k1 ++ (n1 ++ txT true false T t) = k1 ++ (n1 ++ dstL h1 t1)
        rw [i5]
      · show k1 ++ (o1 ++ txT false true T t) = k2 ++ (n2 ++ dstL h2 t2)
        rw [i6, e1]; simp [dstL]
/-- two patches that are apart -/
theorem two_on {r r1 r2 : RwP} {P Q : List Pc} (hP : Vd r P r1) (hQ : Vd r Q r2) (h : apF P Q = true) :
    ∃ T t, SpT false T ∧ plT false false 0 T = P ∧ plT true false 0 T = Q ∧ txT false false T t = r ∧ txT true false T t = r1 ∧ txT false true T t = r2 := by
  obtain ⟨h1, t1, s1, e1, a1, b1⟩ := hP
  obtain ⟨h2, t2, s2, e2, a2, b2⟩ := hQ
  subst e1 e2
  obtain ⟨T, t, i1, i2, i3, i4, i5, i6⟩ := merge _ h1 h2 t1 t2 false 0 (Nat.le_refl _) s1 s2 (by rw [a1, a2]) ((ap_iff _ _).mp h)
  exact ⟨T, t, i1, i2, i3, by rw [i4, a1], by rw [i5, b1], by rw [i6, b2]⟩
/-- both orders come to one text -/
theorem txT_len : ∀ (T : List Th) (t : RwP), (txT true true T t).length + (txT false false T t).length = (txT true false T t).length + (txT false true T t).length
  | [], t => rfl
  | (s, k, o, n) :: l, t => by
    have ih := txT_len l t
    cases s <;> simp [txT] <;> omega
theorem past_on {r r1 r2 : RwP} {P Q : List Pc} (hP : Vd r P r1) (hQ : Vd r Q r2) (h : apF P Q = true) : ∃ r3, Vd r1 (psF Q P) r3 ∧ Vd r2 (psF P Q) r3 ∧ r3.length ≤ r1.length + r2.length := by
  obtain ⟨T, t, i1, i2, i3, i4, i5, i6⟩ := two_on hP hQ h
  have hl := txT_len T t
  refine ⟨txT true true T t, ?_, ?_, by rw [← i5, ← i6]; omega⟩
  · rw [← i2, ← i3, ← i5]
    have := ps_T (s := true) i1
    simp only [Bool.not_true] at this
    rw [this]; exact vd_t i1 true t
  · rw [← i2, ← i3, ← i6]
    have := ps_T (s := false) i1
    simp only [Bool.not_false] at this
    rw [this]; exact vd_f i1 true t
/-! #### neighbours change places -/
def swpF (P Q : List Pc) : Option (List Pc × List Pc) := if apF Q (tbF 0 P) && apF P (psF Q (tbF 0 P)) then some (psF Q (tbF 0 P), psF P (psF Q (tbF 0 P))) else none
theorem sw_on {r r1 r2 : RwP} {P Q : List Pc} (hP : Vd r P r1) (hQ : Vd r1 Q r2) (h : apF Q (tbF 0 P) = true) :
    ∃ r3, apF P (psF Q (tbF 0 P)) = true ∧ Vd r (psF Q (tbF 0 P)) r3 ∧ Vd r3 (psF P (psF Q (tbF 0 P))) r2 ∧ swpF (psF Q (tbF 0 P)) (psF P (psF Q (tbF 0 P))) = some (P, Q) ∧ r3.length ≤ r.length + r2.length := by
  obtain ⟨T, t, i1, i2, i3, i4, i5, i6⟩ := two_on hP.back hQ (by rw [ap_comm]; exact h)
  have f1 : psF Q (tbF 0 P) = plT true true 0 T := by
    rw [← i2, ← i3]; exact ps_T (s := true) i1
  have j1 := swT_sp false i1
  have j2 : plT false false 0 (swT false T) = P := by rw [swT_same false false T 0 0 0 rfl, i2, tbF_tbF P 0 0 rfl]
  have j3 : plT true false 0 (swT false T) = plT true true 0 T := swT_other true false T 0
  have f2 : psF P (plT true true 0 T) = plT false true 0 (swT false T) := by
    rw [← j3]; conv => lhs; rw [← j2]
    exact ps_T (s := false) j1
  have k1 := swT_sp true j1
  have k2 : plT true false 0 (swT true (swT false T)) = tbF 0 (plT true true 0 T) := by rw [swT_same true false _ 0 0 0 rfl, j3]
  have k3 : plT false false 0 (swT true (swT false T)) = plT false true 0 (swT false T) := swT_other false false _ 0
  have k4 : plT false true 0 (swT true (swT false T)) = P := (swT_other false true _ 0).trans j2
  have hl := txT_len T t
  rw [f1, f2]
  refine ⟨txT true true T t, ?_, ?_, ?_, ?_, by rw [← i5, ← i6]; omega⟩
  · have := ap_T (s := false) j1
    simp only [Bool.not_false] at this
    rw [j2, j3] at this; exact this
  · have := vd_t j1 false t
    rw [j3, swT_txf, swT_txf] at this
    rw [← i5]; exact this
  · have := vd_f j1 true t
    rw [swT_txf, swT_txf] at this
    rw [← i6]; exact this
  · unfold swpF
    have a1 := ap_T (s := false) k1
    have p1 := ps_T (s := false) k1
    simp only [Bool.not_false] at a1 p1
    rw [k2, k3] at a1 p1
    rw [k4] at p1
    have a2 := ap_T (s := true) j1
    simp only [Bool.not_true] at a2
    rw [j2, j3] at a2
    rw [a1, p1, a2, Bool.and_self, if_pos rfl]
    have p2 : psF (plT true true 0 T) P = Q := by
      have := ps_T (s := true) j1
      simp only [Bool.not_true] at this
      rw [j2, j3] at this
      rw [this]; exact (swT_other true true T 0).trans i3
    rw [p2]
end KQ

namespace KQ
open KM
/-! ### cells behind the heap that was -/
def HA (g l : Gh) : Gh := g ++ l
section
variable {g l l' : Gh}
@[simp] theorem HA_len : (HA g l).length = g.length + l.length := by unfold HA; simp
@[simp] theorem HA_app : HA g l ++ l' = HA g (l ++ l') := by unfold HA; simp
@[simp high] theorem HA_get0 : (HA g l)[g.length]? = l[0]? := by
  unfold HA
  rw [List.getElem?_append_right (by simp)]; simp
@[simp high] theorem HA_get (k : Nat) : (HA g l)[g.length + k]? = l[k]? := by
  unfold HA
  rw [List.getElem?_append_right (by simp)]; simp
@[simp] theorem HA_set0 (C : Cell) : (HA g l).set g.length C = HA g (l.set 0 C) := by
  unfold HA
  rw [List.set_append_right _ _ (by simp)]; simp
@[simp] theorem HA_set (k : Nat) (C : Cell) : (HA g l).set (g.length + k) C = HA g (l.set k C) := by
  unfold HA
  rw [List.set_append_right _ _ (by simp)]; simp
@[simp] theorem HA_take0 : List.take g.length (HA g l) = g := by unfold HA; exact List.take_left
@[simp] theorem HA_take (k : Nat) : List.take (g.length + k) (HA g l) = HA g (l.take k) := by
  unfold HA; exact List.take_length_add_append (l₁ := g) (l₂ := l) k
@[simp] theorem HA_okg0 {N : Nat} : okg N g (HA g l) = true := by unfold HA; simp
@[simp] theorem HA_okg {N : Nat} : okg N (HA g l) (HA g l') = okg N l l' := by unfold HA; simp
end
/-! ### patches as values -/
def pcV (p : Pc) : Val := .tup [.int p.1, .tup (sV p.2.1), .tup (sV p.2.2)]
def pcVs (l : List Pc) : List Val := l.map pcV
@[simp] theorem pcVs_nil : pcVs [] = [] := rfl
@[simp] theorem pcVs_cons (p : Pc) (l : List Pc) : pcVs (p :: l) = pcV p :: pcVs l := rfl
@[simp] theorem pcVs_app (a b : List Pc) : pcVs (a ++ b) = pcVs a ++ pcVs b := by simp [pcVs]
@[simp] theorem pcVs_len (l : List Pc) : (pcVs l).length = l.length := by simp [pcVs]
@[simp] theorem okv_pcV (n : Nat) (p : Pc) : okv n (pcV p) = true := by
  show okvs n [.int p.1, .tup (sV p.2.1), .tup (sV p.2.2)] = true
  show (okvs n (sV p.2.1) && (okvs n (sV p.2.2) && true)) = true
  rw [okvs_sV, okvs_sV]; rfl
@[simp] theorem okvs_pcVs (n : Nat) (l : List Pc) : okvs n (pcVs l) = true := okvs_of fun x hx => by
  obtain ⟨i, _, rfl⟩ := List.mem_map.mp hx
  exact okv_pcV n i
@[simp] theorem flats_pcVs (n : Nat) (l : List Pc) : flats (n + 2) (pcVs l) = true := flats_of fun x hx => by
  obtain ⟨i, _, rfl⟩ := List.mem_map.mp hx
  simp [pcV]
/-! ### the bodies (printed) -/
def ap_f0 : Ss := .cons (.ife (.and (.cons (.e (.cmp .le (.var 2) (.bin .add (.var 5) (.blt .len (.cons (.var 6) .nil))))) (.cons (.e (.cmp .le (.var 5) (.bin .add (.var 2) (.blt .len (.cons (.var 3) .nil))))) .nil))) (.cons (.ret (.cst (.bl false))) .nil) (.nil)) .nil
def ap_f1 : Ss := .cons (.fr (.tp (.cons (.nm 5) (.cons (.nm 6) (.cons (.nm 4) (.nil))))) .plain (.cons (.var 1) .nil) ap_f0) .nil
def apB : Ss := .cons (.fr (.tp (.cons (.nm 2) (.cons (.nm 3) (.cons (.nm 4) (.nil))))) .plain (.cons (.var 0) .nil) ap_f1)
  (.cons (.ret (.cst (.bl true))) .nil)
def ps_e0 : E := .bin .sub (.blt .len (.cons (.var 8) .nil)) (.blt .len (.cons (.var 9) .nil))
def ps_c0 : C := .e (.cmp .lt (.var 7) (.var 3))
def ps_f0 : Ss := .cons (.asg (.nm 6) (.blt .sum (.cons (.comp [7, 9, 8] (.tp (.cons (.nm 7) (.cons (.nm 9) (.cons (.nm 8) (.nil))))) .plain (.cons (.var 1) .nil) (ps_c0) (ps_e0)) .nil)))
  (.cons (.exp (.bm .append (.var 2) (.cons (.tup (.cons (.bin .add (.var 3) (.var 6)) (.cons (.var 4) (.cons (.var 5) .nil)))) .nil))) .nil)
def psB (iA : Nat) : Ss := .cons (.ife (.not (.e (.call iA (.cons (.var 0) (.cons (.var 1) .nil))))) (.cons (.rse 0 (.cons (.cst (.str [109, 101, 101, 116])) .nil)) .nil) (.nil))
  (.cons (.asg (.nm 2) (.lst (.nil)))
  (.cons (.fr (.tp (.cons (.nm 3) (.cons (.nm 4) (.cons (.nm 5) (.nil))))) .plain (.cons (.var 0) .nil) ps_f0)
  (.cons (.ret (.blt .tuple (.cons (.var 2) .nil))) .nil)))
def po_f0 : Ss := .cons (.ife (.e (.cmp .eq (.idx (.var 6) (.cst (.int 0))) (.cst (.str [107, 101, 101, 112])))) (.cons (.ife (.or (.cons (.e (.var 4)) (.cons (.e (.var 5)) .nil))) (.cons (.exp (.bm .append (.var 2) (.cons (.tup (.cons (.var 3) (.cons (.blt .tuple (.cons (.var 4) .nil)) (.cons (.blt .tuple (.cons (.var 5) .nil)) .nil)))) .nil))) .nil) (.nil))
  (.cons (.par [3, 4, 5] (.cons (.bin .add (.idx (.var 6) (.cst (.int 1))) (.cst (.int 1))) (.cons (.lst (.nil)) (.cons (.lst (.nil)) .nil)))) .nil)) (.cons (.ife (.e (.cmp .eq (.idx (.var 6) (.cst (.int 0))) (.cst (.str [100, 114, 111, 112])))) (.cons (.exp (.bm .append (.var 4) (.cons (.idx (.var 0) (.idx (.var 6) (.cst (.int 1)))) .nil))) .nil) (.cons (.exp (.bm .append (.var 5) (.cons (.idx (.var 1) (.idx (.var 6) (.cst (.int 1)))) .nil))) .nil)) .nil)) .nil
def poB (iS : Nat) : Ss := .cons (.asg (.nm 2) (.lst (.nil)))
  (.cons (.par [3, 4, 5] (.cons (.cst (.int 0)) (.cons (.lst (.nil)) (.cons (.lst (.nil)) .nil))))
  (.cons (.fr (.nm 6) .plain (.cons (.bin .add (.call iS (.cons (.var 0) (.cons (.var 1) .nil))) (.tup (.cons (.tup (.cons (.cst (.str [107, 101, 101, 112])) (.cons (.blt .len (.cons (.var 0) .nil)) (.cons (.blt .len (.cons (.var 1) .nil)) .nil)))) .nil))) .nil) po_f0)
  (.cons (.ret (.blt .tuple (.cons (.var 2) .nil))) .nil)))
def pd_f0 : Ss := .cons (.ife (.e (.cmp .le (.var 5) (.var 4))) (.cons (.rse 0 (.cons (.cst (.str [111, 114, 100, 101, 114])) .nil)) .nil) (.nil))
  (.cons (.ife (.or (.cons (.e (.cmp .gt (.bin .add (.var 5) (.blt .len (.cons (.var 6) .nil))) (.blt .len (.cons (.var 0) .nil)))) (.cons (.e (.cmp .ne (.slc (.var 0) (.e (.var 5)) (.e (.bin .add (.var 5) (.blt .len (.cons (.var 6) .nil))))) (.var 6))) .nil))) (.cons (.rse 0 (.cons (.cst (.str [114, 111, 119, 115])) .nil)) .nil) (.nil))
  (.cons (.exp (.bm .extend (.var 2) (.cons (.bin .add (.slc (.var 0) (.e (.var 3)) (.e (.var 5))) (.var 7)) .nil)))
  (.cons (.asg (.nm 3) (.bin .add (.var 5) (.blt .len (.cons (.var 6) .nil))))
  (.cons (.asg (.nm 4) (.var 3)) .nil))))
def pdB : Ss := .cons (.asg (.nm 2) (.lst (.nil)))
  (.cons (.asg (.nm 3) (.cst (.int 0)))
  (.cons (.asg (.nm 4) (.neg (.cst (.int 1))))
  (.cons (.fr (.tp (.cons (.nm 5) (.cons (.nm 6) (.cons (.nm 7) (.nil))))) .plain (.cons (.var 1) .nil) pd_f0)
  (.cons (.ret (.bin .add (.blt .tuple (.cons (.var 2) .nil)) (.slc (.var 0) (.e (.var 3)) .no))) .nil))))
def tb_f0 : Ss := .cons (.exp (.bm .append (.var 1) (.cons (.tup (.cons (.bin .add (.var 3) (.var 2)) (.cons (.var 5) (.cons (.var 4) .nil)))) .nil)))
  (.cons (.aug 2 .add (.bin .sub (.blt .len (.cons (.var 5) .nil)) (.blt .len (.cons (.var 4) .nil)))) .nil)
def tbB : Ss := .cons (.asg (.nm 1) (.lst (.nil)))
  (.cons (.asg (.nm 2) (.cst (.int 0)))
  (.cons (.fr (.tp (.cons (.nm 3) (.cons (.nm 4) (.cons (.nm 5) (.nil))))) .plain (.cons (.var 0) .nil) tb_f0)
  (.cons (.ret (.blt .tuple (.cons (.var 1) .nil))) .nil)))
/-! ### are they apart -/
theorem ap_in (call : Call) (P Q : Option Val) (p : Pc) (g : Gh) : ∀ (L : List Pc) (x4 x5 x6 : Option Val), ∃ y4 y5 y6, forL (fbody call (.tp (.cons (.nm 5) (.cons (.nm 6) (.cons (.nm 4) .nil)))) ap_f0) (pcVs L) [P, Q, some (.int p.1), some (.tup (sV p.2.1)), x4, x5, x6] g =
    if L.all (ap1 p) then .nx [P, Q, some (.int p.1), some (.tup (sV p.2.1)), y4, y5, y6] g else .rt (.bl false) g
  | [], x4, x5, x6 => ⟨x4, x5, x6, rfl⟩
  | (q, o, n) :: L, x4, x5, x6 => by
    obtain ⟨y4, y5, y6, ih⟩ := ap_in call P Q p g L (some (.tup (sV n))) (some (.int q)) (some (.tup (sV o)))
    refine ⟨y4, y5, y6, ?_⟩
    rw [pcVs_cons, forL_cons, List.all_cons]
    by_cases h1 : p.1 ≤ q + o.length
    · by_cases h2 : q ≤ p.1 + p.2.1.length
      · have h3 : ap1 p (q, o, n) = false := by simp [ap1, h1, h2]
        simp [fbody, ap_f0, pcV, h1, h2, h3]
      · have h3 : ap1 p (q, o, n) = true := by simp [ap1, h2]
        rw [h3, Bool.true_and, ← ih]
        simp [fbody, ap_f0, pcV, h1, h2]
    · have h3 : ap1 p (q, o, n) = true := by simp [ap1, h1]
      rw [h3, Bool.true_and, ← ih]
      simp [fbody, ap_f0, pcV, h1]
theorem ap_out (call : Call) (P : Option Val) (M : List Pc) (hM : M.length ≤ 100000) (g : Gh) : ∀ (L : List Pc) (x2 x3 x4 x5 x6 : Option Val), ∃ y2 y3 y4 y5 y6, forL (fbody call (.tp (.cons (.nm 2) (.cons (.nm 3) (.cons (.nm 4) .nil)))) ap_f1) (pcVs L) [P, some (.tup (pcVs M)), x2, x3, x4, x5, x6] g =
    if apF L M then .nx [P, some (.tup (pcVs M)), y2, y3, y4, y5, y6] g else .rt (.bl false) g
  | [], x2, x3, x4, x5, x6 => ⟨x2, x3, x4, x5, x6, rfl⟩
  | (q, o, n) :: L, x2, x3, x4, x5, x6 => by
    obtain ⟨z4, z5, z6, e⟩ := ap_in call P (some (.tup (pcVs M))) (q, o, n) g M (some (.tup (sV n))) x5 x6
    have e2 := for_items (body := fbody call (.tp (.cons (.nm 5) (.cons (.nm 6) (.cons (.nm 4) .nil)))) ap_f0) (xs := pcVs M) (s := [P, some (.tup (pcVs M)), some (.int q), some (.tup (sV o)), some (.tup (sV n)), x5, x6]) (g := g) (by rw [pcVs_len, WF_eq]; omega)
    rw [e] at e2
    obtain ⟨y2, y3, y4, y5, y6, ih⟩ := ap_out call P M hM g L (some (.int q)) (some (.tup (sV o))) z4 z5 z6
    refine ⟨y2, y3, y4, y5, y6, ?_⟩
    rw [pcVs_cons, forL_cons]
    have ha : apF ((q, o, n) :: L) M = (M.all (ap1 (q, o, n)) && apF L M) := rfl
    rw [ha]
    cases h : M.all (ap1 (q, o, n))
    · rw [h] at e2
      simp only [Bool.false_eq_true, if_false] at e2
      generalize pcVs M = VM at *
      simp [fbody, ap_f1, pcV, e2]
    · rw [h] at e2
      simp only [if_true] at e2
      rw [Bool.true_and, ← ih]
      generalize pcVs M = VM at *
      simp [fbody, ap_f1, pcV, e2]
theorem are_apart {ft : Nat → Option Fn} {iA : Nat} (hA : ft iA = some ⟨2, 7, apB⟩) {m : Nat} (hm : 1 ≤ m) (P Q : List Pc) (h1 : P.length ≤ 100000) (h2 : Q.length ≤ 100000) (g : Gh) : run ft m iA [.tup (pcVs P), .tup (pcVs Q)] g = .ok (.bl (apF P Q)) g := by
  rw [run_at hA (by omega) _ _ rfl]
  obtain ⟨y2, y3, y4, y5, y6, e⟩ := ap_out (run ft (m - 1)) (some (.tup (pcVs P))) Q h2 g P none none none none none
  have e2 := for_items (body := fbody (run ft (m - 1)) (.tp (.cons (.nm 2) (.cons (.nm 3) (.cons (.nm 4) .nil)))) ap_f1) (xs := pcVs P) (s := [some (.tup (pcVs P)), some (.tup (pcVs Q)), none, none, none, none, none]) (g := g) (by rw [pcVs_len, WF_eq]; omega)
  rw [e] at e2
  cases h : apF P Q
  · rw [h] at e2
    simp only [Bool.false_eq_true, if_false] at e2
    generalize pcVs P = VP at *
    generalize pcVs Q = VQ at *
    simp [apB, e2]
  · rw [h] at e2
    simp only [if_true] at e2
    generalize pcVs P = VP at *
    generalize pcVs Q = VQ at *
    simp [apB, e2]
/-! ### past each other -/
def shG (a : Int) : Val → Option Val
  | .tup [.int b, .tup o, .tup n] => if b < a then some (.int ((n.length : Int) - o.length)) else none
  | _ => none
def shL (a : Int) : List Pc → List Int
  | [] => []
  | (b, o, n) :: l => if b < a then ((n.length : Int) - o.length) :: shL a l else shL a l
theorem shL_sum (a : Int) : ∀ l : List Pc, (shL a l).sum = shf a l
  | [] => rfl
  | (b, o, n) :: l => by
    show (if b < a then _ :: shL a l else shL a l).sum = (if b < a then _ else _) + shf a l
    by_cases h : b < a
    · rw [if_pos h, if_pos h, List.sum_cons, shL_sum a l]
    · rw [if_neg h, if_neg h, shL_sum a l]; omega
theorem shG_map (a : Int) : ∀ l : List Pc, (pcVs l).filterMap (shG a) = (shL a l).map .int
  | [] => rfl
  | (b, o, n) :: l => by
    rw [pcVs_cons, List.filterMap_cons, shG_map a l]
    by_cases h : b < a <;> simp [shG, pcV, shL, h]
theorem intsOf_int : ∀ l : List Int, intsOf (l.map .int) = some l
  | [] => rfl
  | i :: l => by
    show (intsOf (l.map .int)).map (i :: ·) = _
    rw [intsOf_int l]; rfl
section
variable (call : Call) (P : Option Val) (Q : List Pc) (hQ : Q.length ≤ 100000) (g : Gh)
include hQ
theorem ps_turn (p : Pc) (A : List Pc) (hA : A.length ≤ 200000) (x3 x4 x5 x6 x7 x8 x9 : Option Val) : fbody call (.tp (.cons (.nm 3) (.cons (.nm 4) (.cons (.nm 5) .nil)))) ps_f0 (pcV p) [P, some (.tup (pcVs Q)), some (.ref g.length), x3, x4, x5, x6, x7, x8, x9] (HA g [.lst (pcVs A)]) =
    .nx [P, some (.tup (pcVs Q)), some (.ref g.length), some (.int p.1), some (.tup (sV p.2.1)), some (.tup (sV p.2.2)), some (.int (shf p.1 Q)), x7, x8, x9] (HA g [.lst (pcVs (A ++ [(p.1 + shf p.1 Q, p.2.1, p.2.2)]))]) := by
  have hS : SL = 1000000 := rfl
  have e := comp_pure (body := cbody call [P, some (.tup (pcVs Q)), some (.ref g.length), some (.int p.1), some (.tup (sV p.2.1)), some (.tup (sV p.2.2)), x6, x7, x8, x9] [7, 9, 8] (.tp (.cons (.nm 7) (.cons (.nm 9) (.cons (.nm 8) .nil)))) ps_c0 ps_e0) (it := .items (pcVs Q)) (xs := pcVs Q) (g := HA g [.lst (pcVs A)]) (shG p.1) (fun i => rfl) (by rw [pcVs_len, SL_eq]; omega) fun x hx => by
    obtain ⟨⟨b, o, n⟩, _, rfl⟩ := List.mem_map.mp hx
    by_cases h : b < p.1 <;> simp [cbody, ps_c0, ps_e0, pcV, shG, h]
  rw [shG_map] at e
  have hs := shL_sum p.1 Q
  have hi := intsOf_int (shL p.1 Q)
  have hok : okvs (g.length + 1) ((shL p.1 Q).map Val.int) = true := okvs_of fun x hx => by
    obtain ⟨i, _, rfl⟩ := List.mem_map.mp hx; rfl
  have zl : (pcVs A).length < SL := by rw [pcVs_len]; omega
  have okA := okvs_pcVs (g.length + 1) A
  have okP := okv_pcV (g.length + 1) (p.1 + shf p.1 Q, p.2.1, p.2.2)
  have e3 : pcVs (A ++ [(p.1 + shf p.1 Q, p.2.1, p.2.2)]) = pcVs A ++ [.tup [.int (p.1 + shf p.1 Q), .tup (sV p.2.1), .tup (sV p.2.2)]] := by rw [pcVs_app]; rfl
  rw [e3]
  generalize (shL p.1 Q).map Val.int = VS at *
  generalize pcVs Q = VQ at *
  generalize pcVs A = VA at *
  simp [fbody, ps_f0, pcV, e, hi, hs, zl, okA]
theorem ps_loop : ∀ (L A : List Pc) (x3 x4 x5 x6 x7 x8 x9 : Option Val), A.length + L.length ≤ 200000 → ∃ y3 y4 y5 y6, forL (fbody call (.tp (.cons (.nm 3) (.cons (.nm 4) (.cons (.nm 5) .nil)))) ps_f0) (pcVs L) [P, some (.tup (pcVs Q)), some (.ref g.length), x3, x4, x5, x6, x7, x8, x9] (HA g [.lst (pcVs A)]) =
    .nx [P, some (.tup (pcVs Q)), some (.ref g.length), y3, y4, y5, y6, x7, x8, x9] (HA g [.lst (pcVs (A ++ psF L Q))])
  | [], A, x3, x4, x5, x6, x7, x8, x9, _ => ⟨x3, x4, x5, x6, by simp [psF]⟩
  | p :: L, A, x3, x4, x5, x6, x7, x8, x9, h => by
    rw [List.length_cons] at h
    obtain ⟨y3, y4, y5, y6, ih⟩ := ps_loop L (A ++ [(p.1 + shf p.1 Q, p.2.1, p.2.2)]) (some (.int p.1)) (some (.tup (sV p.2.1))) (some (.tup (sV p.2.2))) (some (.int (shf p.1 Q))) x7 x8 x9 (by simp; omega)
    refine ⟨y3, y4, y5, y6, ?_⟩
    rw [pcVs_cons, forL_cons, ps_turn call P Q hQ g p A (by omega)]
    simp only []
    rw [ih, List.append_assoc, List.singleton_append]
    rfl
end
abbrev wMet : List Nat := [109, 101, 101, 116]
theorem past {ft : Nat → Option Fn} {iA iP : Nat} (hA : ft iA = some ⟨2, 7, apB⟩) (hP : ft iP = some ⟨2, 10, psB iA⟩) {m : Nat} (hm : 2 ≤ m) (P Q : List Pc) (h1 : P.length ≤ 100000) (h2 : Q.length ≤ 100000) (g : Gh) : run ft m iP [.tup (pcVs P), .tup (pcVs Q)] g =
    if apF P Q then .ok (.tup (pcVs (psF P Q))) g else .exn ⟨0, [.str wMet]⟩ g := by
  rw [run_at hP (by omega) _ _ rfl]
  have e0 := are_apart hA (show 1 ≤ m - 1 by omega) P Q h1 h2 g
  cases h : apF P Q
  · rw [h] at e0
    generalize pcVs P = VP at *
    generalize pcVs Q = VQ at *
    simp [psB, e0]
  · rw [h] at e0
    obtain ⟨y3, y4, y5, y6, e⟩ := ps_loop (run ft (m - 1)) (some (.tup (pcVs P))) Q h2 g P [] none none none none none none none (by simp; omega)
    have e2 := for_items (body := fbody (run ft (m - 1)) (.tp (.cons (.nm 3) (.cons (.nm 4) (.cons (.nm 5) .nil)))) ps_f0) (xs := pcVs P) (s := [some (.tup (pcVs P)), some (.tup (pcVs Q)), some (.ref g.length), none, none, none, none, none, none, none]) (g := HA g [.lst (pcVs [])]) (by rw [pcVs_len, WF_eq]; omega)
    rw [e, List.nil_append] at e2
    have ok := okvs_pcVs g.length (psF P Q)
    have e3 : forG (fbody (run ft (m - 1)) (.tp (.cons (.nm 3) (.cons (.nm 4) (.cons (.nm 5) .nil)))) ps_f0) (.items (pcVs P)) WF 0 [some (.tup (pcVs P)), some (.tup (pcVs Q)), some (.ref g.length), none, none, none, none, none, none, none] (g ++ [.lst []]) = _ := e2
    simp only [if_true]
    generalize pcVs (psF P Q) = VR at *
    generalize pcVs P = VP at *
    generalize pcVs Q = VQ at *
    simp [psB, e0, e3, ok]
/-! ### turned back -/
theorem tb_turn (call : Call) (P : Option Val) (g : Gh) (p : Pc) (s : Int) (A : List Pc) (hA : A.length ≤ 200000) (x3 x4 x5 : Option Val) : fbody call (.tp (.cons (.nm 3) (.cons (.nm 4) (.cons (.nm 5) .nil)))) tb_f0 (pcV p) [P, some (.ref g.length), some (.int s), x3, x4, x5] (HA g [.lst (pcVs A)]) =
    .nx [P, some (.ref g.length), some (.int (s + (p.2.2.length - p.2.1.length))), some (.int p.1), some (.tup (sV p.2.1)), some (.tup (sV p.2.2))] (HA g [.lst (pcVs (A ++ [(p.1 + s, p.2.2, p.2.1)]))]) := by
  have hS : SL = 1000000 := rfl
  have zl : (pcVs A).length < SL := by rw [pcVs_len]; omega
  have okA := okvs_pcVs (g.length + 1) A
  have e3 : pcVs (A ++ [(p.1 + s, p.2.2, p.2.1)]) = pcVs A ++ [.tup [.int (p.1 + s), .tup (sV p.2.2), .tup (sV p.2.1)]] := by rw [pcVs_app]; rfl
  rw [e3]
  generalize pcVs A = VA at *
  simp [fbody, tb_f0, pcV, zl, okA]
theorem tb_loop (call : Call) (P : Option Val) (g : Gh) : ∀ (L A : List Pc) (s : Int) (x3 x4 x5 : Option Val), A.length + L.length ≤ 200000 → ∃ y2 y3 y4 y5, forL (fbody call (.tp (.cons (.nm 3) (.cons (.nm 4) (.cons (.nm 5) .nil)))) tb_f0) (pcVs L) [P, some (.ref g.length), some (.int s), x3, x4, x5] (HA g [.lst (pcVs A)]) =
    .nx [P, some (.ref g.length), y2, y3, y4, y5] (HA g [.lst (pcVs (A ++ tbF s L))])
  | [], A, s, x3, x4, x5, _ => ⟨some (.int s), x3, x4, x5, by simp [tbF]⟩
  | p :: L, A, s, x3, x4, x5, h => by
    rw [List.length_cons] at h
    obtain ⟨y2, y3, y4, y5, ih⟩ := tb_loop call P g L (A ++ [(p.1 + s, p.2.2, p.2.1)]) (s + (p.2.2.length - p.2.1.length)) (some (.int p.1)) (some (.tup (sV p.2.1))) (some (.tup (sV p.2.2))) (by simp; omega)
    refine ⟨y2, y3, y4, y5, ?_⟩
    rw [pcVs_cons, forL_cons, tb_turn call P g p s A (by omega)]
    simp only []
    rw [ih, List.append_assoc, List.singleton_append]
    rfl
theorem turned_back {ft : Nat → Option Fn} {iB : Nat} (hB : ft iB = some ⟨1, 6, tbB⟩) {m : Nat} (hm : 1 ≤ m) (P : List Pc) (h1 : P.length ≤ 100000) (g : Gh) : run ft m iB [.tup (pcVs P)] g = .ok (.tup (pcVs (tbF 0 P))) g := by
  rw [run_at hB (by omega) _ _ rfl]
  obtain ⟨y2, y3, y4, y5, e⟩ := tb_loop (run ft (m - 1)) (some (.tup (pcVs P))) g P [] 0 none none none (by simp; omega)
  have e2 := for_items (body := fbody (run ft (m - 1)) (.tp (.cons (.nm 3) (.cons (.nm 4) (.cons (.nm 5) .nil)))) tb_f0) (xs := pcVs P) (s := [some (.tup (pcVs P)), some (.ref g.length), some (.int 0), none, none, none]) (g := HA g [.lst (pcVs [])]) (by rw [pcVs_len, WF_eq]; omega)
  rw [e, List.nil_append] at e2
  have ok := okvs_pcVs g.length (tbF 0 P)
  have e3 : forG (fbody (run ft (m - 1)) (.tp (.cons (.nm 3) (.cons (.nm 4) (.cons (.nm 5) .nil)))) tb_f0) (.items (pcVs P)) WF 0 [some (.tup (pcVs P)), some (.ref g.length), some (.int 0), none, none, none] (g ++ [.lst []]) = _ := e2
  generalize pcVs (tbF 0 P) = VR at *
  generalize pcVs P = VP at *
  simp [tbB, e3, ok]
/-! ### patched -/
theorem pd_turn (call : Call) (P : Option Val) (g : Gh) (pre k o n tl acc : Rw) (b : Bool) (last : Int) (hb : b = true → last ≤ pre.length ∧ k ≠ []) (hb2 : b = false → last < pre.length) (hz : acc.length + k.length + n.length ≤ SL) (hz2 : (pre ++ (k ++ (o ++ tl))).length ≤ SL) (x5 x6 x7 : Option Val) :
    fbody call (.tp (.cons (.nm 5) (.cons (.nm 6) (.cons (.nm 7) .nil)))) pd_f0 (pcV ((pre.length : Int) + k.length, o, n)) [some (.tup (sV (pre ++ (k ++ (o ++ tl))))), P, some (.ref g.length), some (.int pre.length), some (.int last), x5, x6, x7] (HA g [.lst (sV acc)]) =
    .nx [some (.tup (sV (pre ++ (k ++ (o ++ tl))))), P, some (.ref g.length), some (.int (pre ++ (k ++ o)).length), some (.int (pre ++ (k ++ o)).length), some (.int ((pre.length : Int) + k.length)), some (.tup (sV o)), some (.tup (sV n))] (HA g [.lst (sV (acc ++ (k ++ n)))]) := by
  have h1 : ¬ ((pre.length : Int) + k.length ≤ last) := by
    cases b
    · have := hb2 rfl; omega
    · have h := hb rfl
      have := List.length_pos_iff.mpr h.2
      omega
  have hl : (pre ++ (k ++ (o ++ tl))).length = pre.length + (k.length + (o.length + tl.length)) := by simp
  have h2 : ¬ (((pre ++ (k ++ (o ++ tl))).length : Int) < (pre.length : Int) + k.length + o.length) := by rw [hl]; omega
  have c1 : cutL (sV (pre ++ (k ++ (o ++ tl)))) (some ((pre.length : Int) + k.length)) (some ((pre.length : Int) + k.length + o.length)) = sV o := by
    have := cut_sV (pre ++ (k ++ (o ++ tl))) (pre.length + k.length) (pre.length + k.length + o.length)
    rw [show ((pre.length + k.length : Nat) : Int) = (pre.length : Int) + k.length by omega, show ((pre.length + k.length + o.length : Nat) : Int) = (pre.length : Int) + k.length + o.length by omega] at this
    rw [this, Nat.add_sub_cancel_left, ← List.append_assoc, ← List.length_append, List.drop_left, List.take_left]
  have c2 : cutL (sV (pre ++ (k ++ (o ++ tl)))) (some (pre.length : Int)) (some ((pre.length : Int) + k.length)) = sV k := by
    have := cut_sV (pre ++ (k ++ (o ++ tl))) pre.length (pre.length + k.length)
    rw [show ((pre.length + k.length : Nat) : Int) = (pre.length : Int) + k.length by omega] at this
    rw [this, Nat.add_sub_cancel_left, List.drop_left, List.take_left]
  have he := eqVs_self (sV o) 59 (by simp)
  have lk := sV_len k
  have ln := sV_len n
  have lo := sV_len o
  have la := sV_len acc
  have hr := sV_len (pre ++ (k ++ (o ++ tl)))
  have ok := okvs_sV (g.length + 1) (acc ++ (k ++ n))
  have ea : sV (acc ++ (k ++ n)) = sV acc ++ (sV k ++ sV n) := by simp
  have z1 : (sV k).length + (sV n).length ≤ SL := by rw [lk, ln]; omega
  have z2 : (sV acc).length + ((sV k).length + (sV n).length) ≤ SL := by rw [lk, ln, la]; omega
  have fo := flats_sV 59 o
  have eq : ((pre ++ (k ++ o)).length : Int) = (pre.length : Int) + k.length + o.length := by simp; omega
  rw [ea] at ok ⊢
  rw [eq]
  simp only [pcV]
  rw [← hr] at h2
  rw [← lo] at c1 h2 ⊢
  generalize sV (pre ++ (k ++ (o ++ tl))) = VR at *
  generalize sV o = VO at *
  generalize sV k = VK at *
  generalize sV n = VN at *
  generalize sV acc = VA at *
  have h2' : (pre.length : Int) + k.length + VO.length ≤ (VR.length : Int) := by omega
  have z1' : (VK ++ VN).length ≤ SL := by rw [List.length_append]; exact z1
  simp [fbody, pd_f0, pcV, h1, h2, h2', c1, c2, he, fo, mkT_ok (h := z1'), z2, ok]
theorem pd_loop (call : Call) (P : Option Val) (g : Gh) : ∀ (hs : List Hk) (pre t acc : Rw) (b : Bool) (last : Int) (x5 x6 x7 : Option Val), Sp b hs → (b = true → last ≤ pre.length) → (b = false → last < pre.length) → acc.length + (dstL hs t).length ≤ SL → (pre ++ srcL hs t).length ≤ SL →
    ∃ (q : Nat) (acc' : Rw) (y4 y5 y6 y7 : Option Val), acc' ++ (pre ++ srcL hs t).drop q = acc ++ dstL hs t ∧
      forL (fbody call (.tp (.cons (.nm 5) (.cons (.nm 6) (.cons (.nm 7) .nil)))) pd_f0) (pcVs (pcs pre.length hs)) [some (.tup (sV (pre ++ srcL hs t))), P, some (.ref g.length), some (.int pre.length), some (.int last), x5, x6, x7] (HA g [.lst (sV acc)]) =
      .nx [some (.tup (sV (pre ++ srcL hs t))), P, some (.ref g.length), some (.int q), y4, y5, y6, y7] (HA g [.lst (sV acc')])
  | [], pre, t, acc, b, last, x5, x6, x7, _, _, _, _, _ => ⟨pre.length, acc, some (.int last), x5, x6, x7, by rw [List.drop_left]; rfl, rfl⟩
  | (k, o, n) :: hs, pre, t, acc, b, last, x5, x6, x7, hS, h1, h2, hz, hz2 => by
    have hl : (dstL ((k, o, n) :: hs) t).length = k.length + (n.length + (dstL hs t).length) := by simp [dstL]
    have hr : pre ++ srcL ((k, o, n) :: hs) t = (pre ++ (k ++ o)) ++ srcL hs t := by simp [srcL]
    have hz3 := hz2
    rw [hr] at hz3
    obtain ⟨q, acc', y4, y5, y6, y7, e1, e2⟩ := pd_loop call P g hs (pre ++ (k ++ o)) t (acc ++ (k ++ n)) true ((pre ++ (k ++ o)).length : Int) (some (.int ((pre.length : Int) + k.length))) (some (.tup (sV o))) (some (.tup (sV n))) hS.2 (fun _ => Int.le_refl _) (fun z => nomatch z) (by simp; omega) hz3
    refine ⟨q, acc', y4, y5, y6, y7, ?_, ?_⟩
    · rw [hr, e1]; simp [dstL]
    · have hp : pcs pre.length ((k, o, n) :: hs) = ((pre.length : Int) + k.length, o, n) :: pcs ((pre ++ (k ++ o)).length : Int) hs := by
        show (_, _, _) :: pcs _ _ = _
        rw [show ((pre ++ (k ++ o)).length : Int) = (pre.length : Int) + k.length + o.length by simp; omega]
      have ht := pd_turn call P g pre k o n (srcL hs t) acc b last (fun z => ⟨h1 z, hS.1 z⟩) h2 (by omega) hz2 x5 x6 x7
      rw [hp, pcVs_cons, forL_cons]
      have hr2 : srcL ((k, o, n) :: hs) t = k ++ (o ++ srcL hs t) := rfl
      rw [hr2, ht]
      rw [← hr, hr2] at e2
      exact e2
theorem pcs_len : ∀ (hs : List Hk) (p : Int), (pcs p hs).length = hs.length
  | [], _ => rfl
  | (k, o, n) :: hs, p => congrArg (· + 1) (pcs_len hs _)
theorem sp_len : ∀ (hs : List Hk) (b : Bool) (t : Rw), Sp b hs → hs.length ≤ (srcL hs t).length + (if b then 0 else 1)
  | [], _, _, _ => Nat.zero_le _
  | (k, o, n) :: hs, b, t, h => by
    have ih := sp_len hs true t h.2
    simp only [if_true] at ih
    have : (srcL ((k, o, n) :: hs) t).length = k.length + (o.length + (srcL hs t).length) := by simp [srcL]
    rw [this, List.length_cons]
    cases b
    · simp only [Bool.false_eq_true, if_false]; omega
    · have := List.length_pos_iff.mpr (h.1 rfl)
      simp only [if_true]; omega
theorem Vd.len {r r2 : Rw} {P : List Pc} : Vd r P r2 → P.length ≤ r.length + 1
  | ⟨hs, t, h1, h2, h3, _⟩ => by
    have := sp_len hs false t h1
    rw [h2, pcs_len, ← h3]; exact this
theorem patched {ft : Nat → Option Fn} {iD : Nat} (hD : ft iD = some ⟨2, 8, pdB⟩) {m : Nat} (hm : 1 ≤ m) {r r2 : Rw} {P : List Pc} (hP : Vd r P r2) (h1 : r.length ≤ 100000) (h2 : r2.length ≤ 100000) (g : Gh) : run ft m iD [.tup (sV r), .tup (pcVs P)] g = .ok (.tup (sV r2)) g := by
  have hS : SL = 1000000 := rfl
  have hPl := hP.len
  obtain ⟨hs, t, s1, e1, a1, b1⟩ := hP
  subst e1
  rw [run_at hD (by omega) _ _ rfl]
  obtain ⟨q, acc', y4, y5, y6, y7, f1, f2⟩ := pd_loop (run ft (m - 1)) (some (.tup (pcVs (pcs 0 hs)))) g hs [] t [] false (-1) none none none s1 (fun z => nomatch z) (fun _ => by decide) (by rw [b1]; simp; omega) (by rw [a1]; simp; omega)
  rw [List.nil_append, List.nil_append] at f1
  rw [List.nil_append] at f2
  have e2 := for_items (body := fbody (run ft (m - 1)) (.tp (.cons (.nm 5) (.cons (.nm 6) (.cons (.nm 7) .nil)))) pd_f0) (xs := pcVs (pcs 0 hs)) (s := [some (.tup (sV r)), some (.tup (pcVs (pcs 0 hs))), some (.ref g.length), some (.int 0), some (.int (-1)), none, none, none]) (g := HA g [.lst (sV [])]) (by rw [pcVs_len, WF_eq]; omega)
  rw [a1, b1] at f1
  rw [a1] at f2
  rw [show pcVs (pcs (0 : Int) hs) = pcVs (pcs (([] : Rw).length : Int) hs) from rfl] at e2 f2 ⊢
  rw [show some (Val.int 0) = some (Val.int (([] : Rw).length : Int)) from rfl, f2] at e2
  have hc : cutL (sV r) (some (q : Int)) none = sV (r.drop q) := by rw [cutL_from, sV_drop]
  have e3 : forG (fbody (run ft (m - 1)) (.tp (.cons (.nm 5) (.cons (.nm 6) (.cons (.nm 7) .nil)))) pd_f0) (.items (pcVs (pcs (([] : Rw).length : Int) hs))) WF 0 [some (.tup (sV r)), some (.tup (pcVs (pcs (([] : Rw).length : Int) hs))), some (.ref g.length), some (.int 0), some (.int (-1)), none, none, none] (g ++ [.lst []]) = _ := e2
  have el : (sV acc').length + (sV (r.drop q)).length ≤ SL := by
    have := congrArg List.length f1
    rw [List.length_append] at this
    rw [sV_len, sV_len]; omega
  have er : sV r2 = sV acc' ++ sV (r.drop q) := by rw [← f1, sV_app]
  have ok := okvs_sV g.length r2
  rw [er] at ok ⊢
  have okA := okvs_sV g.length acc'
  generalize pcVs (pcs (([] : Rw).length : Int) hs) = VP at *
  generalize sV acc' = VA at *
  generalize sV (r.drop q) = VQ at *
  generalize sV r = VR at *
  have el' : (VA ++ VQ).length ≤ SL := by rw [List.length_append]; exact el
  simp [pdB, e3, hc, mkT_ok (h := el'), ok]
/-! ### the script's turns -/
theorem scA_cases (one other : Rw) (i j : Nat) (hi : i ≤ one.length) (hj : j ≤ other.length) :
    (i = one.length ∧ j = other.length ∧ scA one other i j = []) ∨
    (i < one.length ∧ LT one other (i + 1) j = LT one other i j ∧ scA one other i j = .drop i :: scA one other (i + 1) j) ∨
    (i < one.length ∧ j < other.length ∧ LT one other (i + 1) j ≠ LT one other i j ∧ one[i]? = other[j]? ∧ LT one other (i + 1) (j + 1) + 1 = LT one other i j ∧ scA one other i j = .keep i j :: scA one other (i + 1) (j + 1)) ∨
    (j < other.length ∧ LT one other i (j + 1) = LT one other i j ∧ (i < one.length → LT one other (i + 1) j ≠ LT one other i j ∧ ¬ (one[i]? = other[j]? ∧ LT one other (i + 1) (j + 1) + 1 = LT one other i j)) ∧ scA one other i j = .put j :: scA one other i (j + 1)) := by
  by_cases h1 : i < one.length
  · by_cases h2 : LT one other (i + 1) j = LT one other i j
    · exact .inr (.inl ⟨h1, h2, scA_drop one other h1 h2⟩)
    · have h3 : j < other.length := by
        by_cases h3 : j < other.length
        · exact h3
        · exact absurd (by rw [LT_m _ _ _ (by omega), LT_m _ _ _ (by omega)]) h2
      have hst := LT_step one other h1 h3
      by_cases h4 : one[i] = other[j] ∧ LT one other (i + 1) (j + 1) + 1 = LT one other i j
      · exact .inr (.inr (.inl ⟨h1, h3, h2, by rw [List.getElem?_eq_getElem h1, List.getElem?_eq_getElem h3, h4.1], h4.2, scA_keep one other h1 h3 h2 h4.1 h4.2⟩))
      · refine .inr (.inr (.inr ⟨h3, ?_, fun _ => ⟨h2, fun z => h4 ⟨?_, z.2⟩⟩, scA_put one other h1 h3 h2 h4⟩))
        · by_cases e : one[i] = other[j]
          · rw [if_pos e] at hst
            have : LT one other (i + 1) (j + 1) + 1 ≠ LT one other i j := fun z => h4 ⟨e, z⟩
            omega
          · rw [if_neg e] at hst; omega
        · have := z.1
          rw [List.getElem?_eq_getElem h1, List.getElem?_eq_getElem h3] at this; exact Option.some.inj this
  · by_cases h3 : j < other.length
    · exact .inr (.inr (.inr ⟨h3, by rw [LT_n _ _ (by omega), LT_n _ _ (by omega)], fun z => absurd z h1, scA_put0 one other (by omega) h3⟩))
    · exact .inl ⟨by omega, by omega, scA_end one other (by omega) (by omega)⟩
theorem scA_sts (one other : Rw) : ∀ (k i j : Nat), one.length - i + (other.length - j) ≤ k → i ≤ one.length → j ≤ other.length → sts one other i j (scA one other i j) = some (one.length, other.length) := by
  intro k
  induction k with
  | zero =>
    intro i j hk hi hj
    rw [scA_end one other (by omega) (by omega), sts, show i = one.length by omega, show j = other.length by omega]
  | succ k ih =>
    intro i j hk hi hj
    rcases scA_cases one other i j hi hj with ⟨h1, h2, e⟩ | ⟨h1, h2, e⟩ | ⟨h1, h2, h3, h4, h5, e⟩ | ⟨h1, h2, h3, e⟩
    · rw [e, sts, h1, h2]
    · have h : st1 one other i j (.drop i) = some (i + 1, j) := if_pos ⟨rfl, h1⟩
      rw [e, sts, h]; exact ih (i + 1) j (by omega) (by omega) hj
    · have h : st1 one other i j (.keep i j) = some (i + 1, j + 1) := if_pos ⟨rfl, rfl, h1, h2, h4⟩
      rw [e, sts, h]; exact ih (i + 1) (j + 1) (by omega) (by omega) (by omega)
    · have h : st1 one other i j (.put j) = some (i, j + 1) := if_pos ⟨rfl, h1⟩
      rw [e, sts, h]; exact ih i (j + 1) (by omega) hi (by omega)
/-! ### the patches of two tuples of rows -/
def rowAt (l : Rw) (i : Nat) : List Nat := l[i]?.getD []
def poL (one other : Rw) : List St → Nat → Rw → Rw → List Pc
  | [], _, _, _ => []
  | .keep i _ :: l, p, o, n => if o = [] ∧ n = [] then poL one other l (i + 1) [] [] else ((p : Int), o, n) :: poL one other l (i + 1) [] []
  | .drop i :: l, p, o, n => poL one other l p (o ++ [rowAt one i]) n
  | .put j :: l, p, o, n => poL one other l p o (n ++ [rowAt other j])
def poF (one other : Rw) : List Pc := poL one other (scA one other 0 0 ++ [.keep one.length other.length]) 0 [] []
theorem rowAt_drop {l : Rw} {i : Nat} (h : i < l.length) : l.drop i = rowAt l i :: l.drop (i + 1) := by
  unfold rowAt
  rw [List.drop_eq_getElem_cons h, List.getElem?_eq_getElem h]; rfl
theorem po_vd (one other : Rw) : ∀ (l : List St) (i j p q : Nat) (kp o n : Rw) (b : Bool), sts one other i j l = some (one.length, other.length) → q + kp.length = p → p + o.length = i → (b = true → kp ≠ []) →
    ∃ hs t, Sp b hs ∧ pcs q hs = poL one other (l ++ [.keep one.length other.length]) p o n ∧ srcL hs t = kp ++ (o ++ one.drop i) ∧ dstL hs t = kp ++ (n ++ other.drop j)
  | [], i, j, p, q, kp, o, n, b, h, h1, h2, h3 => by
    have h : some (i, j) = some (one.length, other.length) := h
    cases h
    rw [List.drop_length, List.drop_length, List.nil_append]
    by_cases ho : o = [] ∧ n = []
    · exact ⟨[], kp, trivial, by simp [poL, ho, pcs], by simp [srcL, ho.1], by simp [dstL, ho.2]⟩
    · refine ⟨[(kp, o, n)], [], ⟨h3, trivial⟩, ?_, by simp [srcL], by simp [dstL]⟩
      simp only [poL, if_neg ho, pcs]
      rw [show (q : Int) + (kp.length : Int) = (p : Int) by omega]
  | .drop x :: l, i, j, p, q, kp, o, n, b, h, h1, h2, h3 => by
    by_cases hx : x = i ∧ i < one.length
    · have e : st1 one other i j (.drop x) = some (i + 1, j) := if_pos hx
      rw [sts, e] at h
      obtain ⟨hs, t, i1, i2, i3, i4⟩ := po_vd one other l (i + 1) j p q kp (o ++ [rowAt one i]) n b h h1 (by simp; omega) h3
      refine ⟨hs, t, i1, ?_, ?_, i4⟩
      · rw [i2, hx.1]; rfl
      · rw [i3, rowAt_drop hx.2]; simp
    · have e : st1 one other i j (.drop x) = none := if_neg hx
      rw [sts, e] at h; cases h
  | .put x :: l, i, j, p, q, kp, o, n, b, h, h1, h2, h3 => by
    by_cases hx : x = j ∧ j < other.length
    · have e : st1 one other i j (.put x) = some (i, j + 1) := if_pos hx
      rw [sts, e] at h
      obtain ⟨hs, t, i1, i2, i3, i4⟩ := po_vd one other l i (j + 1) p q kp o (n ++ [rowAt other j]) b h h1 h2 h3
      refine ⟨hs, t, i1, ?_, i3, ?_⟩
      · rw [i2, hx.1]; rfl
      · rw [i4, rowAt_drop hx.2]; simp
    · have e : st1 one other i j (.put x) = none := if_neg hx
      rw [sts, e] at h; cases h
  | .keep x y :: l, i, j, p, q, kp, o, n, b, h, h1, h2, h3 => by
    by_cases hx : x = i ∧ y = j ∧ i < one.length ∧ j < other.length ∧ one[i]? = other[j]?
    · have e : st1 one other i j (.keep x y) = some (i + 1, j + 1) := if_pos hx
      have er : rowAt other j = rowAt one i := by unfold rowAt; rw [hx.2.2.2.2]
      rw [sts, e] at h
      by_cases ho : o = [] ∧ n = []
      · obtain ⟨rfl, rfl⟩ := ho
        obtain ⟨hs, t, i1, i2, i3, i4⟩ := po_vd one other l (i + 1) (j + 1) (i + 1) q (kp ++ [rowAt one i]) [] [] b h (by simp at h2; simp; omega) (by simp) (fun _ => by simp)
        refine ⟨hs, t, i1, ?_, ?_, ?_⟩
        · rw [i2, hx.1]; simp [poL]
        · rw [i3, rowAt_drop hx.2.2.1]; simp
        · rw [i4, rowAt_drop hx.2.2.2.1, er]; simp
      · obtain ⟨hs, t, i1, i2, i3, i4⟩ := po_vd one other l (i + 1) (j + 1) (i + 1) i [rowAt one i] [] [] true h (by simp) (by simp) (fun _ => by simp)
        refine ⟨(kp, o, n) :: hs, t, ⟨h3, i1⟩, ?_, ?_, ?_⟩
        · show (_, _, _) :: pcs _ hs = _
          rw [List.cons_append]
          simp only [poL, if_neg ho]
          rw [show (q : Int) + (kp.length : Int) + (o.length : Int) = (i : Int) by omega, i2, hx.1, show (q : Int) + (kp.length : Int) = (p : Int) by omega]
        · show kp ++ (o ++ srcL hs t) = _
          rw [i3, rowAt_drop hx.2.2.1]; simp
        · show kp ++ (n ++ dstL hs t) = _
          rw [i4, rowAt_drop hx.2.2.2.1, er]; simp
    · have e : st1 one other i j (.keep x y) = none := if_neg hx
      rw [sts, e] at h; cases h
theorem po_Vd (one other : Rw) : Vd one (poF one other) other := by
  obtain ⟨hs, t, i1, i2, i3, i4⟩ := po_vd one other (scA one other 0 0) 0 0 0 0 [] [] [] false (scA_sts one other _ 0 0 (Nat.le_refl _) (Nat.zero_le _) (Nat.zero_le _)) rfl rfl (fun z => nomatch z)
  exact ⟨hs, t, i1, i2.symm, i3, i4⟩
theorem scA_len (one other : Rw) : ∀ (k i j : Nat), one.length - i + (other.length - j) ≤ k → i ≤ one.length → j ≤ other.length → (scA one other i j).length ≤ k := by
  intro k
  induction k with
  | zero =>
    intro i j hk hi hj
    rw [scA_end one other (by omega) (by omega)]; exact Nat.le_refl _
  | succ k ih =>
    intro i j hk hi hj
    rcases scA_cases one other i j hi hj with ⟨h1, h2, e⟩ | ⟨h1, h2, e⟩ | ⟨h1, h2, h3, h4, h5, e⟩ | ⟨h1, h2, h3, e⟩
    · rw [e]; exact Nat.zero_le _
    · rw [e, List.length_cons]; exact Nat.succ_le_succ (ih (i + 1) j (by omega) (by omega) hj)
    · rw [e, List.length_cons]; exact Nat.succ_le_succ (ih (i + 1) (j + 1) (by omega) (by omega) (by omega))
    · rw [e, List.length_cons]; exact Nat.succ_le_succ (ih i (j + 1) (by omega) hi (by omega))
/-- the steps name rows that there are -/
def inR (one other : Rw) : St → Prop
  | .drop i => i < one.length
  | .put j => j < other.length
  | .keep _ _ => True
theorem sts_in (one other : Rw) : ∀ (l : List St) (i j : Nat) (r : Nat × Nat), sts one other i j l = some r → ∀ s ∈ l, inR one other s
  | [], _, _, _, _, _, h => nomatch h
  | s :: l, i, j, r, h, x, hx => by
    rw [sts] at h
    cases e : st1 one other i j s with
    | none => rw [e] at h; cases h
    | some ab =>
      obtain ⟨a, b⟩ := ab
      rw [e] at h
      rcases List.mem_cons.mp hx with z | z
      · subst z
        cases x with
        | drop k =>
          by_cases hk : k = i ∧ i < one.length
          · exact hk.1 ▸ hk.2
          · exact absurd (e.symm.trans (if_neg hk)) (by simp)
        | put k =>
          by_cases hk : k = j ∧ j < other.length
          · exact hk.1 ▸ hk.2
          · exact absurd (e.symm.trans (if_neg hk)) (by simp)
        | keep _ _ => trivial
      · exact sts_in one other l a b r h x z
/-! #### the walk -/
theorem po_drop (call : Call) (one other : Rw) (g L : Gh) (i4 i5 i : Nat) (o : Rw) (x3 x5 x6 : Option Val) (h4 : L[i4]? = some (.lst (sV o))) (hi : i < one.length) (ho : o.length < 100000) :
    fbody call (.nm 6) po_f0 (stV (.drop i)) [some (.tup (sV one)), some (.tup (sV other)), some (.ref g.length), x3, some (.ref (g.length + i4)), x5, x6] (HA g L) = .nx [some (.tup (sV one)), some (.tup (sV other)), some (.ref g.length), x3, some (.ref (g.length + i4)), x5, some (stV (.drop i))] (HA g (L.set i4 (.lst (sV (o ++ [rowAt one i]))))) := by
  have hS : SL = 1000000 := rfl
  have a := at_sV (l := one) (k := i) (List.getElem?_eq_getElem hi)
  have er : rowAt one i = one[i] := by unfold rowAt; rw [List.getElem?_eq_getElem hi]; rfl
  have zl : (sV o).length < SL := by rw [sV_len]; omega
  have okO := okvs_sV (g.length + L.length) o
  rw [er, sV_app]
  generalize sV o = VO at *
  simp [fbody, po_f0, stV, h4, a, zl, okO]
theorem po_put (call : Call) (one other : Rw) (g L : Gh) (i4 i5 i : Nat) (o : Rw) (x3 x4 x6 : Option Val) (h5 : L[i5]? = some (.lst (sV o))) (hi : i < other.length) (ho : o.length < 100000) :
    fbody call (.nm 6) po_f0 (stV (.put i)) [some (.tup (sV one)), some (.tup (sV other)), some (.ref g.length), x3, x4, some (.ref (g.length + i5)), x6] (HA g L) = .nx [some (.tup (sV one)), some (.tup (sV other)), some (.ref g.length), x3, x4, some (.ref (g.length + i5)), some (stV (.put i))] (HA g (L.set i5 (.lst (sV (o ++ [rowAt other i]))))) := by
  have hS : SL = 1000000 := rfl
  have a := at_sV (l := other) (k := i) (List.getElem?_eq_getElem hi)
  have er : rowAt other i = other[i] := by unfold rowAt; rw [List.getElem?_eq_getElem hi]; rfl
  have zl : (sV o).length < SL := by rw [sV_len]; omega
  have okO := okvs_sV (g.length + L.length) o
  rw [er, sV_app]
  generalize sV o = VO at *
  simp [fbody, po_f0, stV, h5, a, zl, okO]
theorem po_keep (call : Call) (one other : Rw) (g L : Gh) (i4 i5 i j p : Nat) (A : List Pc) (o n : Rw) (x6 : Option Val) (h0 : L[0]? = some (.lst (pcVs A))) (h4 : L[i4]? = some (.lst (sV o))) (h5 : L[i5]? = some (.lst (sV n))) (hA : A.length < 100000) :
    fbody call (.nm 6) po_f0 (stV (.keep i j)) [some (.tup (sV one)), some (.tup (sV other)), some (.ref g.length), some (.int p), some (.ref (g.length + i4)), some (.ref (g.length + i5)), x6] (HA g L) =
    .nx [some (.tup (sV one)), some (.tup (sV other)), some (.ref g.length), some (.int (i + 1 : Nat)), some (.ref (g.length + L.length)), some (.ref (g.length + (L.length + 1))), some (stV (.keep i j))] (HA g ((if o = [] ∧ n = [] then L else L.set 0 (.lst (pcVs (A ++ [((p : Int), o, n)])))) ++ [.lst [], .lst []])) := by
  have hS : SL = 1000000 := rfl
  have zl : (pcVs A).length < SL := by rw [pcVs_len]; omega
  have okA := okvs_pcVs (g.length + L.length) A
  have okO := okvs_sV (g.length + L.length) o
  have okN := okvs_sV (g.length + L.length) n
  have e3 : pcVs (A ++ [((p : Int), o, n)]) = pcVs A ++ [.tup [.int p, .tup (sV o), .tup (sV n)]] := by rw [pcVs_app]; rfl
  obtain ⟨l4, g4⟩ := List.getElem?_eq_some_iff.mp h4
  obtain ⟨l5, g5⟩ := List.getElem?_eq_some_iff.mp h5
  have lo : (sV o = []) = (o = []) := by simp [sV]
  have ln : (sV n = []) = (n = []) := by simp [sV]
  rw [e3]
  by_cases h1 : o = []
  · by_cases h2 : n = []
    · subst h1 h2
      simp only [sV_nil] at h4 h5 g4 g5
      simp [fbody, po_f0, stV, h4, h5, l4, l5, g4, g5, Nat.add_assoc]
    · have e : (sV n).isEmpty = false := by cases n with
        | nil => exact absurd rfl h2
        | cons a b => rfl
      rw [if_neg fun z => h2 z.2]
      subst h1
      simp only [sV_nil] at h4 g4 ⊢
      generalize pcVs A = VA at *
      generalize sV n = VN at *
      simp [fbody, po_f0, stV, h0, h4, h5, l4, l5, g4, g5, e, zl, okA, okN, Nat.add_assoc]
  · have e : (sV o).isEmpty = false := by cases o with
      | nil => exact absurd rfl h1
      | cons a b => rfl
    rw [if_neg fun z => h1 z.1]
    generalize pcVs A = VA at *
    generalize sV n = VN at *
    generalize sV o = VO at *
    simp [fbody, po_f0, stV, h0, h4, h5, l4, l5, g4, g5, e, zl, okA, okO, okN, Nat.add_assoc]
theorem po_loop (call : Call) (one other : Rw) (g : Gh) : ∀ (l : List St) (L : Gh) (i4 i5 p : Nat) (A : List Pc) (o n : Rw) (x6 : Option Val), (∀ s ∈ l, inR one other s) → L[0]? = some (.lst (pcVs A)) → L[i4]? = some (.lst (sV o)) → L[i5]? = some (.lst (sV n)) → 0 < i4 → 0 < i5 → i4 ≠ i5 → A.length + l.length < 50000 → o.length + l.length < 50000 → n.length + l.length < 50000 →
    ∃ (L' : Gh) (y3 y4 y5 y6 : Option Val), L'[0]? = some (.lst (pcVs (A ++ poL one other l p o n))) ∧ forL (fbody call (.nm 6) po_f0) (stVs l) [some (.tup (sV one)), some (.tup (sV other)), some (.ref g.length), some (.int p), some (.ref (g.length + i4)), some (.ref (g.length + i5)), x6] (HA g L) =
      .nx [some (.tup (sV one)), some (.tup (sV other)), some (.ref g.length), y3, y4, y5, y6] (HA g L')
  | [], L, i4, i5, p, A, o, n, x6, _, h0, _, _, _, _, _, _, _, _ => ⟨L, _, _, _, _, by simpa [poL] using h0, rfl⟩
  | .drop i :: l, L, i4, i5, p, A, o, n, x6, hin, h0, h4, h5, z4, z5, z45, hA, ho, hn => by
    rw [List.length_cons] at hA ho hn
    have hl4 : i4 < L.length := (List.getElem?_eq_some_iff.mp h4).1
    obtain ⟨L', y3, y4, y5, y6, e1, e2⟩ := po_loop call one other g l (L.set i4 (.lst (sV (o ++ [rowAt one i])))) i4 i5 p A (o ++ [rowAt one i]) n (some (stV (.drop i))) (fun s hs => hin s (.tail _ hs)) (by rw [List.getElem?_set_ne (by omega)]; exact h0) (by rw [List.getElem?_set_self hl4]) (by rw [List.getElem?_set_ne z45]; exact h5) z4 z5 z45 (by omega) (by simp; omega) (by omega)
    refine ⟨L', y3, y4, y5, y6, e1, ?_⟩
    rw [stVs_cons, forL_cons, po_drop call one other g L i4 i5 i o _ _ _ h4 (hin _ (.head _)) (by omega)]
    exact e2
  | .put i :: l, L, i4, i5, p, A, o, n, x6, hin, h0, h4, h5, z4, z5, z45, hA, ho, hn => by
    rw [List.length_cons] at hA ho hn
    have hl5 : i5 < L.length := (List.getElem?_eq_some_iff.mp h5).1
    obtain ⟨L', y3, y4, y5, y6, e1, e2⟩ := po_loop call one other g l (L.set i5 (.lst (sV (n ++ [rowAt other i])))) i4 i5 p A o (n ++ [rowAt other i]) (some (stV (.put i))) (fun s hs => hin s (.tail _ hs)) (by rw [List.getElem?_set_ne (by omega)]; exact h0) (by rw [List.getElem?_set_ne (Ne.symm z45)]; exact h4) (by rw [List.getElem?_set_self hl5]) z4 z5 z45 (by omega) (by omega) (by simp; omega)
    refine ⟨L', y3, y4, y5, y6, e1, ?_⟩
    rw [stVs_cons, forL_cons, po_put call one other g L i4 i5 i n _ _ _ h5 (hin _ (.head _)) (by omega)]
    exact e2
  | .keep i j :: l, L, i4, i5, p, A, o, n, x6, hin, h0, h4, h5, z4, z5, z45, hA, ho, hn => by
    rw [List.length_cons] at hA ho hn
    have hl0 : 0 < L.length := (List.getElem?_eq_some_iff.mp h0).1
    have ht := po_keep call one other g L i4 i5 i j p A o n x6 h0 h4 h5 (by omega)
    by_cases hc : o = [] ∧ n = []
    · rw [if_pos hc] at ht
      obtain ⟨L', y3, y4, y5, y6, e1, e2⟩ := po_loop call one other g l (L ++ [.lst [], .lst []]) L.length (L.length + 1) (i + 1) A [] [] (some (stV (.keep i j))) (fun s hs => hin s (.tail _ hs)) (by rw [List.getElem?_append_left hl0]; exact h0) (by simp) (by simp) (by omega) (by omega) (by omega) (by omega) (by simp; omega) (by simp; omega)
      refine ⟨L', y3, y4, y5, y6, ?_, ?_⟩
      · rw [e1]; simp only [poL, if_pos hc]
      · rw [stVs_cons, forL_cons, ht]; exact e2
    · rw [if_neg hc] at ht
      obtain ⟨L', y3, y4, y5, y6, e1, e2⟩ := po_loop call one other g l (L.set 0 (.lst (pcVs (A ++ [((p : Int), o, n)]))) ++ [.lst [], .lst []]) L.length (L.length + 1) (i + 1) (A ++ [((p : Int), o, n)]) [] [] (some (stV (.keep i j))) (fun s hs => hin s (.tail _ hs)) (by rw [List.getElem?_append_left (by simpa using hl0), List.getElem?_set_self hl0]) (by rw [List.getElem?_append_right (by simp)]; simp) (by rw [List.getElem?_append_right (by simp)]; simp) (by omega) (by omega) (by omega) (by simp; omega) (by simp; omega) (by simp; omega)
      refine ⟨L', y3, y4, y5, y6, ?_, ?_⟩
      · rw [e1]; simp only [poL, if_neg hc, List.append_assoc, List.singleton_append]
      · rw [stVs_cons, forL_cons, ht]; exact e2
theorem patches_of {ft : Nat → Option Fn} {iC iS iO : Nat} (hC : ft iC = some ⟨2, 7, ctB⟩) (hS : ft iS = some ⟨2, 6, scB iC⟩) (hO : ft iO = some ⟨2, 7, poB iS⟩) {m : Nat} (hm : 3 ≤ m) (one other : Rw) (h1 : one.length ≤ 1000) (h2 : other.length ≤ 1000) (g : Gh) :
    run ft m iO [.tup (sV one), .tup (sV other)] g = .ok (.tup (pcVs (poF one other))) g := by
  have hSL : SL = 1000000 := rfl
  rw [run_at hO (by omega) _ _ rfl]
  have e0 := script_of hC hS (show 2 ≤ m - 1 by omega) one other h1 h2 (HA g [.lst [], .lst [], .lst []])
  have hl := scA_len one other _ 0 0 (Nat.le_refl _) (Nat.zero_le _) (Nat.zero_le _)
  have hst := scA_sts one other _ 0 0 (Nat.le_refl _) (Nat.zero_le _) (Nat.zero_le _)
  obtain ⟨L', y3, y4, y5, y6, e1, e2⟩ := po_loop (run ft (m - 1)) one other g (scA one other 0 0 ++ [.keep one.length other.length]) [.lst [], .lst [], .lst []] 1 2 0 [] [] [] none (fun s hs => by
    rcases List.mem_append.mp hs with z | z
    · exact sts_in one other _ 0 0 _ hst s z
    · rw [List.mem_singleton.mp z]; trivial) rfl rfl rfl (by omega) (by omega) (by omega) (by simp; omega) (by simp; omega) (by simp; omega)
  have e3 := for_items (body := fbody (run ft (m - 1)) (.nm 6) po_f0) (xs := stVs (scA one other 0 0 ++ [.keep one.length other.length])) (s := [some (.tup (sV one)), some (.tup (sV other)), some (.ref g.length), some (.int (0 : Nat)), some (.ref (g.length + 1)), some (.ref (g.length + 2)), none]) (g := HA g [.lst [], .lst [], .lst []]) (by rw [stVs_len, WF_eq]; simp; omega)
  rw [e2, stVs_app] at e3
  have e4 : stVs [St.keep one.length other.length] = [Val.tup [.str [107, 101, 101, 112], .int one.length, .int other.length]] := rfl
  rw [e4] at e3
  rw [List.nil_append] at e1
  have zs : (stVs (scA one other 0 0) ++ [Val.tup [.str [107, 101, 101, 112], .int one.length, .int other.length]]).length ≤ SL := by simp; omega
  have ok := okvs_pcVs g.length (poF one other)
  change L'[0]? = some (.lst (pcVs (poF one other))) at e1
  have e5 : (g ++ [Cell.lst [], .lst [], .lst []]) = HA g [.lst [], .lst [], .lst []] := rfl
  have ln1 := sV_len one
  have ln2 := sV_len other
  generalize pcVs (poF one other) = VP at *
  generalize stVs (scA one other 0 0) = VS at *
  generalize sV one = V1 at *
  generalize sV other = V2 at *
  have e6 : forG (fbody (run ft (m - 1)) (.nm 6) po_f0) (.items (VS ++ [Val.tup [.str [107, 101, 101, 112], .int one.length, .int other.length]])) WF 0 [some (.tup V1), some (.tup V2), some (.ref g.length), some (.int 0), some (.ref (g.length + 1)), some (.ref (g.length + 1 + 1)), none] (HA g [.lst [], .lst [], .lst []]) = _ := e3
  simp [poB, e5, e0, ln1, ln2, mkT_ok (h := zs), e6, e1, ok]
end KQ

namespace KQ
open KM
/-! ### rows of patches, one behind the other -/
abbrev Ps := List (List Pc)
def Ch (B : Nat) : Rw → Ps → Rw → Prop
  | r, [], r2 => r = r2 ∧ r.length ≤ B
  | r, P :: l, r2 => r.length ≤ B ∧ ∃ m, Vd r P m ∧ Ch B m l r2
theorem Ch.mono {B C : Nat} (h : B ≤ C) : ∀ {l : Ps} {r r2 : Rw}, Ch B r l r2 → Ch C r l r2
  | [], _, _, c => ⟨c.1, Nat.le_trans c.2 h⟩
  | _ :: _, _, _, ⟨c, m, v, d⟩ => ⟨Nat.le_trans c h, m, v, Ch.mono h d⟩
theorem Ch.fst {B : Nat} : ∀ {l : Ps} {r r2 : Rw}, Ch B r l r2 → r.length ≤ B
  | [], _, _, c => c.2
  | _ :: _, _, _, c => c.1
theorem Ch.lst {B : Nat} : ∀ {l : Ps} {r r2 : Rw}, Ch B r l r2 → r2.length ≤ B
  | [], _, _, c => c.1 ▸ c.2
  | _ :: _, _, _, ⟨_, _, _, d⟩ => Ch.lst d
theorem Ch.pc {B : Nat} : ∀ {l : Ps} {r r2 : Rw}, Ch B r l r2 → ∀ P ∈ l, P.length ≤ B + 1
  | [], _, _, _, _, h => nomatch h
  | P :: l, _, _, ⟨c, m, v, d⟩, Q, h => by
    rcases List.mem_cons.mp h with e | e
    · rw [e]; exact Nat.le_trans v.len (Nat.succ_le_succ c)
    · exact Ch.pc d Q e
theorem Ch.app {B : Nat} : ∀ {l l2 : Ps} {r r2 r3 : Rw}, Ch B r l r2 → Ch B r2 l2 r3 → Ch B r (l ++ l2) r3
  | [], _, _, _, _, c, d => c.1 ▸ d
  | _ :: _, _, _, _, _, ⟨c, m, v, e⟩, d => ⟨c, m, v, Ch.app e d⟩
theorem Ch.init {B : Nat} : ∀ {l : Ps} {r r2 : Rw}, Ch B r l r2 → ∃ m, Ch B r l.dropLast m
  | [], r, _, c => ⟨r, rfl, c.2⟩
  | [P], r, _, c => ⟨r, rfl, c.1⟩
  | P :: Q :: l, r, _, ⟨c, m, v, d⟩ => by
    obtain ⟨z, e⟩ := Ch.init d
    exact ⟨z, c, m, v, e⟩
def swAt : Nat → Ps → Option Ps
  | 0, P :: Q :: l => (swpF P Q).map fun x => x.1 :: x.2 :: l
  | _ + 1, [] => none
  | i + 1, P :: l => (swAt i l).map (P :: ·)
  | _, _ => none
theorem Ch.sw {B : Nat} : ∀ {i : Nat} {l l2 : Ps} {r r2 : Rw}, Ch B r l r2 → swAt i l = some l2 → Ch (2 * B) r l2 r2 ∧ l2.take i = l.take i ∧ l2.length = l.length
  | 0, [], _, _, _, _, h => nomatch h
  | 0, [P], _, _, _, _, h => nomatch h
  | 0, P :: Q :: l, l2, r, r2, ⟨c, m, v, c2, m2, v2, d⟩, h => by
    have h : (swpF P Q).map (fun x => x.1 :: x.2 :: l) = some l2 := h
    unfold swpF at h
    by_cases ha : (apF Q (tbF 0 P) && apF P (psF Q (tbF 0 P))) = true
    · rw [if_pos ha] at h
      cases h
      obtain ⟨r3, _, w1, w2, _, hl⟩ := sw_on v v2 ((Bool.and_eq_true _ _).mp ha).1
      have := d.fst
      exact ⟨⟨by omega, r3, w1, by omega, m2, w2, d.mono (by omega)⟩, rfl, rfl⟩
    · rw [if_neg ha] at h; cases h
  | i + 1, [], _, _, _, _, h => nomatch h
  | i + 1, P :: l, l2, r, r2, ⟨c, m, v, d⟩, h => by
    have h : (swAt i l).map (P :: ·) = some l2 := h
    cases e : swAt i l with
    | none => rw [e] at h; cases h
    | some l3 =>
      rw [e] at h; cases h
      obtain ⟨a, b, c2⟩ := Ch.sw d e
      exact ⟨⟨by omega, m, v, a⟩, congrArg (P :: ·) b, congrArg (· + 1) c2⟩
theorem swAt_eq : ∀ {i : Nat} {l : Ps} {P Q : List Pc}, l[i]? = some P → l[i + 1]? = some Q → swAt i l = (swpF P Q).map fun x => (l.set i x.1).set (i + 1) x.2
  | 0, [], _, _, h, _ => nomatch h
  | 0, [P], _, _, _, h => nomatch h
  | 0, P :: Q :: l, _, _, h, h2 => by cases h; cases h2; rfl
  | i + 1, [], _, _, h, _ => nomatch h
  | i + 1, R :: l, P, Q, h, h2 => by
    have := swAt_eq (i := i) (l := l) h h2
    show (swAt i l).map (R :: ·) = _
    rw [this]
    cases swpF P Q <;> rfl
theorem swF_len {P Q : List Pc} {x : List Pc × List Pc} (h : swpF P Q = some x) : x.1.length = Q.length ∧ x.2.length = P.length := by
  unfold swpF at h
  by_cases ha : (apF Q (tbF 0 P) && apF P (psF Q (tbF 0 P))) = true
  · rw [if_pos ha] at h; cases h
    exact ⟨psF_len _ _, psF_len _ _⟩
  · rw [if_neg ha] at h; cases h
/-- all are short -/
def Sh (l : Ps) : Prop := ∀ P ∈ l, P.length ≤ 10000
theorem swAt_sh : ∀ {i : Nat} {l l2 : Ps}, Sh l → swAt i l = some l2 → Sh l2 ∧ l2.length = l.length ∧ l2.take i = l.take i
  | 0, [], _, _, h => nomatch h
  | 0, [P], _, _, h => nomatch h
  | 0, P :: Q :: l, l2, hs, h => by
    have h : (swpF P Q).map (fun x => x.1 :: x.2 :: l) = some l2 := h
    cases e : swpF P Q with
    | none => rw [e] at h; cases h
    | some x =>
      rw [e] at h; cases h
      obtain ⟨a, b⟩ := swF_len e
      refine ⟨fun R hR => ?_, rfl, rfl⟩
      rcases List.mem_cons.mp hR with z | z
      · rw [z, a]; exact hs _ (.tail _ (.head _))
      · rcases List.mem_cons.mp z with z | z
        · rw [z, b]; exact hs _ (.head _)
        · exact hs R (.tail _ (.tail _ z))
  | i + 1, [], _, _, h => nomatch h
  | i + 1, P :: l, l2, hs, h => by
    have h : (swAt i l).map (P :: ·) = some l2 := h
    cases e : swAt i l with
    | none => rw [e] at h; cases h
    | some l3 =>
      rw [e] at h; cases h
      obtain ⟨a, b, c⟩ := swAt_sh (fun R hR => hs R (.tail _ hR)) e
      refine ⟨fun R hR => ?_, congrArg (· + 1) b, congrArg (P :: ·) c⟩
      rcases List.mem_cons.mp hR with z | z
      · rw [z]; exact hs _ (.head _)
      · exact a R z
def pullF : Nat → Ps → Option Ps
  | 0, l => some l
  | k + 1, l => (swAt k l).bind (pullF k)
def dropG : Nat → Nat → Ps → Option Ps
  | 0, _, l => some l
  | j + 1, k, l => (swAt k l).bind (dropG j (k + 1))
theorem Ch.pull : ∀ {k B : Nat} {l l2 : Ps} {r r2 : Rw}, Ch B r l r2 → pullF k l = some l2 → Ch (2 ^ k * B) r l2 r2
  | 0, B, _, _, _, _, c, h => by cases h; simpa using c
  | k + 1, B, l, l2, r, r2, c, h => by
    have h : (swAt k l).bind (pullF k) = some l2 := h
    cases e : swAt k l with
    | none => rw [e] at h; cases h
    | some l3 =>
      rw [e] at h
      have := Ch.pull (Ch.sw c e).1 h
      rw [← Nat.mul_assoc] at this
      exact this
theorem Ch.dropG : ∀ {j k B : Nat} {l l2 : Ps} {r r2 : Rw}, Ch B r l r2 → dropG j k l = some l2 → Ch (2 ^ j * B) r l2 r2 ∧ l2.take k = l.take k ∧ l2.length = l.length
  | 0, _, B, _, _, _, _, c, h => by cases h; exact ⟨by simpa using c, rfl, rfl⟩
  | j + 1, k, B, l, l2, r, r2, c, h => by
    have h : (swAt k l).bind (KQ.dropG j (k + 1)) = some l2 := h
    cases e : swAt k l with
    | none => rw [e] at h; cases h
    | some l3 =>
      rw [e] at h
      obtain ⟨a, b, c3⟩ := Ch.sw c e
      obtain ⟨a2, b2, c4⟩ := Ch.dropG a h
      rw [← Nat.mul_assoc] at a2
      refine ⟨a2, ?_, c4.trans c3⟩
      have := congrArg (List.take k) b2
      rw [List.take_take, List.take_take, Nat.min_eq_left (by omega)] at this
      rw [this, b]
/-- a row of patches past one more -/
def rebF : Ps → List Pc → Option (Ps × List Pc)
  | [], O => some ([], O)
  | P :: l, O => if apF P O then (rebF l (psF O P)).map fun x => (psF P O :: x.1, x.2) else none
theorem Ch.reb {B : Nat} : ∀ {l l2 : Ps} {r r2 s : Rw} {O O2 : List Pc} {S : Nat}, Ch B r l r2 → Vd r O s → s.length ≤ S → rebF l O = some (l2, O2) → ∃ s2, Ch (S + l.length * B) s l2 s2 ∧ Vd r2 O2 s2 ∧ s2.length ≤ S + l.length * B
  | [], _, r, r2, s, O, _, S, c, v, hs, h => by
    cases h
    exact ⟨s, ⟨rfl, by simpa using hs⟩, c.1 ▸ v, by simpa using hs⟩
  | P :: l, l2, r, r2, s, O, O2, S, ⟨c, m, w, d⟩, v, hs, h => by
    have h : (if apF P O then (rebF l (psF O P)).map fun x => (psF P O :: x.1, x.2) else none) = some (l2, O2) := h
    by_cases ha : apF P O = true
    · rw [if_pos ha] at h
      obtain ⟨r3, v1, v2, hl⟩ := past_on w v ha
      cases e : rebF l (psF O P) with
      | none => rw [e] at h; cases h
      | some x =>
        obtain ⟨l3, O3⟩ := x
        rw [e] at h; cases h
        have hm := d.fst
        obtain ⟨s2, d1, d2, d3⟩ := Ch.reb d v1 (show r3.length ≤ S + B by omega) e
        have eb : S + (P :: l).length * B = S + B + l.length * B := by
          rw [List.length_cons, Nat.add_mul, Nat.one_mul]; omega
        rw [eb]
        exact ⟨s2, ⟨by omega, r3, v2, d1⟩, d2, d3⟩
    · rw [if_neg ha] at h; cases h
def pastAll : List Pc → Ps → List Pc
  | O, [] => O
  | O, P :: l => pastAll (psF O P) l
theorem reb_all : ∀ {l l2 : Ps} {O O2 : List Pc}, rebF l O = some (l2, O2) → O2 = pastAll O l ∧ l2.length = l.length
  | [], _, _, _, h => by cases h; exact ⟨rfl, rfl⟩
  | P :: l, l2, O, O2, h => by
    have h : (if apF P O then (rebF l (psF O P)).map fun x => (psF P O :: x.1, x.2) else none) = some (l2, O2) := h
    by_cases ha : apF P O = true
    · rw [if_pos ha] at h
      cases e : rebF l (psF O P) with
      | none => rw [e] at h; cases h
      | some x =>
        obtain ⟨l3, O3⟩ := x
        rw [e] at h; cases h
        obtain ⟨a, b⟩ := reb_all e
        exact ⟨a, congrArg (· + 1) b⟩
    · rw [if_neg ha] at h; cases h
/-- one by one, from the last -/
theorem split_ch {B : Nat} : ∀ (hs : List Hk) (pre t : Rw), pre.length + (srcL hs t).length + (dstL hs t).length ≤ B → Ch B (pre ++ srcL hs t) ((pcs pre.length hs).reverse.map ([·])) (pre ++ dstL hs t)
  | [], pre, t, h => ⟨rfl, by simp [srcL, dstL] at h ⊢; omega⟩
  | (k, o, n) :: hs, pre, t, h => by
    have l1 : (srcL ((k, o, n) :: hs) t).length = k.length + (o.length + (srcL hs t).length) := by simp [srcL]
    have l2 : (dstL ((k, o, n) :: hs) t).length = k.length + (n.length + (dstL hs t).length) := by simp [dstL]
    have ih := split_ch (B := B) hs (pre ++ (k ++ o)) t (by simp; omega)
    have hp : pcs pre.length ((k, o, n) :: hs) = ((pre.length : Int) + k.length, o, n) :: pcs ((pre ++ (k ++ o)).length : Int) hs := by
      show (_, _, _) :: pcs _ _ = _
      rw [show ((pre ++ (k ++ o)).length : Int) = (pre.length : Int) + k.length + o.length by simp; omega]
    rw [hp, List.reverse_cons, List.map_append]
    have e1 : pre ++ srcL ((k, o, n) :: hs) t = pre ++ (k ++ o) ++ srcL hs t := by simp [srcL]
    rw [e1]
    refine ih.app ⟨by simp; omega, pre ++ dstL ((k, o, n) :: hs) t, ?_, rfl, by rw [List.length_append]; omega⟩
    refine ⟨[(pre ++ k, o, n)], dstL hs t, ⟨fun z => (nomatch z), trivial⟩, ?_, by simp [srcL], by simp [dstL]⟩
    simp [pcs]
theorem Vd.split {r r2 : Rw} {P : List Pc} (v : Vd r P r2) {B : Nat} (h : r.length + r2.length ≤ B) : Ch B r (P.reverse.map ([·])) r2 := by
  obtain ⟨hs, t, s, e, a, b⟩ := v
  have := split_ch (B := B) hs [] t (by rw [a, b]; simpa using h)
  rw [List.nil_append, List.nil_append, a, b] at this
  rw [e]; exact this
/-! #### the patches of rows that were made one of the other -/
def poC : Rw → List Rw → Ps
  | _, [] => []
  | r, x :: l => poF r x :: poC x l
def lastR : Rw → List Rw → Rw
  | r, [] => r
  | _, x :: l => lastR x l
theorem poC_ch {B : Nat} : ∀ (r : Rw) (l : List Rw), r.length ≤ B → (∀ x ∈ l, x.length ≤ B) → Ch B r (poC r l) (lastR r l)
  | r, [], h, _ => ⟨rfl, h⟩
  | r, x :: l, h, h2 => ⟨h, x, po_Vd r x, poC_ch x l (h2 x (.head _)) fun y hy => h2 y (.tail _ hy)⟩
theorem poC_len : ∀ (r : Rw) (l : List Rw), (poC r l).length = l.length
  | _, [] => rfl
  | _, x :: l => congrArg (· + 1) (poC_len x l)
theorem poC_take : ∀ (k : Nat) (r : Rw) (l : List Rw), (poC r l).take k = poC r (l.take k)
  | 0, _, _ => rfl
  | _ + 1, _, [] => rfl
  | k + 1, r, x :: l => congrArg (poF r x :: ·) (poC_take k x l)
theorem poC_app : ∀ (r : Rw) (l : List Rw) (x : Rw), poC r (l ++ [x]) = poC r l ++ [poF (lastR r l) x]
  | _, [], _ => rfl
  | r, y :: l, x => congrArg (poF r y :: ·) (poC_app y l x)
theorem lastR_app : ∀ (r : Rw) (l : List Rw) (x : Rw), lastR r (l ++ [x]) = x
  | _, [], _ => rfl
  | r, y :: l, x => lastR_app y l x
theorem lastR_get : ∀ (r : Rw) (l : List Rw), (r :: l)[l.length]? = some (lastR r l)
  | _, [] => rfl
  | r, x :: l => lastR_get x l
theorem lastR_take : ∀ (k : Nat) (r : Rw) (l : List Rw), k ≤ l.length → (r :: l)[k]? = some (lastR r (l.take k))
  | 0, r, l, _ => rfl
  | k + 1, r, [], h => by simp at h
  | k + 1, r, x :: l, h => lastR_take k x l (by simpa using h)
theorem poC_get : ∀ (i : Nat) (r : Rw) (l : List Rw), i < l.length → ∃ a b, (r :: l)[i]? = some a ∧ (r :: l)[i + 1]? = some b ∧ (poC r l)[i]? = some (poF a b)
  | i, r, [], h => by simp at h
  | 0, r, x :: l, h => ⟨r, x, rfl, rfl, rfl⟩
  | i + 1, r, x :: l, h => by
    obtain ⟨a, b, h1, h2, h3⟩ := poC_get i x l (by simpa using h)
    exact ⟨a, b, h1, h2, h3⟩
end KQ

/-! ### the law rw_keptmarks_k35_whole_series_of_patches: the compact form (printed) -/
namespace KL
open KM
def b0_f0 : Ss := .cons (.asg (.nm 5) (.blt .max2 (.cons (.idx (.idx (.var 2) (.bin .add (.var 3) (.cst (.int 1)))) (.var 4)) (.cons (.idx (.idx (.var 2) (.var 3)) (.bin .add (.var 4) (.cst (.int 1)))) .nil))))
  (.cons (.setI (.idx (.var 2) (.var 3)) (.var 4) (.ite (.e (.cmp .eq (.idx (.var 0) (.var 3)) (.idx (.var 1) (.var 4)))) (.blt .max2 (.cons (.var 5) (.cons (.bin .add (.idx (.idx (.var 2) (.bin .add (.var 3) (.cst (.int 1)))) (.bin .add (.var 4) (.cst (.int 1)))) (.cst (.int 1))) .nil))) (.var 5))) .nil)
def b0_f1 : Ss := .cons (.fr (.nm 4) .range (.cons (.bin .sub (.blt .len (.cons (.var 1) .nil)) (.cst (.int 1))) (.cons (.neg (.cst (.int 1))) (.cons (.neg (.cst (.int 1))) .nil))) b0_f0) .nil
def b0_e0 : E := .bin .mul (.lst (.cons (.cst (.int 0)) .nil)) (.bin .add (.blt .len (.cons (.var 1) .nil)) (.cst (.int 1)))
def b0 : Ss := .cons (.asg (.nm 2) (.comp [6] (.nm 6) .range (.cons (.bin .add (.blt .len (.cons (.var 0) .nil)) (.cst (.int 1))) .nil) (.and .nil) (b0_e0)))
  (.cons (.fr (.nm 3) .range (.cons (.bin .sub (.blt .len (.cons (.var 0) .nil)) (.cst (.int 1))) (.cons (.neg (.cst (.int 1))) (.cons (.neg (.cst (.int 1))) .nil))) b0_f1)
  (.cons (.ret (.var 2)) .nil))
/-- common_table -/
abbrev f0 : Fn := ⟨2, 7, b0⟩
def b1_t0 : C := .or (.cons (.e (.cmp .lt (.var 4) (.blt .len (.cons (.var 0) .nil)))) (.cons (.e (.cmp .lt (.var 5) (.blt .len (.cons (.var 1) .nil)))) .nil))
def b1_w0 : Ss := .cons (.ife (.and (.cons (.e (.cmp .lt (.var 4) (.blt .len (.cons (.var 0) .nil)))) (.cons (.e (.cmp .eq (.idx (.idx (.var 2) (.bin .add (.var 4) (.cst (.int 1)))) (.var 5)) (.idx (.idx (.var 2) (.var 4)) (.var 5)))) .nil))) (.cons (.exp (.bm .append (.var 3) (.cons (.tup (.cons (.cst (.str [100, 114, 111, 112])) (.cons (.var 4) .nil))) .nil)))
  (.cons (.aug 4 .add (.cst (.int 1))) .nil)) (.cons (.ife (.and (.cons (.e (.cmp .lt (.var 4) (.blt .len (.cons (.var 0) .nil)))) (.cons (.e (.cmp .lt (.var 5) (.blt .len (.cons (.var 1) .nil)))) (.cons (.e (.cmp .eq (.idx (.var 0) (.var 4)) (.idx (.var 1) (.var 5)))) (.cons (.e (.cmp .eq (.bin .add (.idx (.idx (.var 2) (.bin .add (.var 4) (.cst (.int 1)))) (.bin .add (.var 5) (.cst (.int 1)))) (.cst (.int 1))) (.idx (.idx (.var 2) (.var 4)) (.var 5)))) .nil))))) (.cons (.exp (.bm .append (.var 3) (.cons (.tup (.cons (.cst (.str [107, 101, 101, 112])) (.cons (.var 4) (.cons (.var 5) .nil)))) .nil)))
  (.cons (.par [4, 5] (.cons (.bin .add (.var 4) (.cst (.int 1))) (.cons (.bin .add (.var 5) (.cst (.int 1))) .nil))) .nil)) (.cons (.exp (.bm .append (.var 3) (.cons (.tup (.cons (.cst (.str [112, 117, 116])) (.cons (.var 5) .nil))) .nil)))
  (.cons (.aug 5 .add (.cst (.int 1))) .nil))) .nil)) .nil
def b1 : Ss := .cons (.asg (.nm 2) (.call 0 (.cons (.var 0) (.cons (.var 1) .nil))))
  (.cons (.asg (.nm 3) (.lst (.nil)))
  (.cons (.asg (.tp (.cons (.nm 4) (.cons (.nm 5) (.nil)))) (.tup (.cons (.cst (.int 0)) (.cons (.cst (.int 0)) .nil))))
  (.cons (.whl b1_t0 b1_w0)
  (.cons (.ret (.blt .tuple (.cons (.var 3) .nil))) .nil))))
/-- script_of -/
abbrev f1 : Fn := ⟨2, 6, b1⟩
def b2_f0 : Ss := .cons (.ife (.and (.cons (.e (.cmp .le (.var 2) (.bin .add (.var 5) (.blt .len (.cons (.var 6) .nil))))) (.cons (.e (.cmp .le (.var 5) (.bin .add (.var 2) (.blt .len (.cons (.var 3) .nil))))) .nil))) (.cons (.ret (.cst (.bl false))) .nil) (.nil)) .nil
def b2_f1 : Ss := .cons (.fr (.tp (.cons (.nm 5) (.cons (.nm 6) (.cons (.nm 4) (.nil))))) .plain (.cons (.var 1) .nil) b2_f0) .nil
def b2 : Ss := .cons (.fr (.tp (.cons (.nm 2) (.cons (.nm 3) (.cons (.nm 4) (.nil))))) .plain (.cons (.var 0) .nil) b2_f1)
  (.cons (.ret (.cst (.bl true))) .nil)
/-- are_apart -/
abbrev f2 : Fn := ⟨2, 7, b2⟩
def b3_e0 : E := .bin .sub (.blt .len (.cons (.var 8) .nil)) (.blt .len (.cons (.var 9) .nil))
def b3_c0 : C := .e (.cmp .lt (.var 7) (.var 3))
def b3_f0 : Ss := .cons (.asg (.nm 6) (.blt .sum (.cons (.comp [7, 9, 8] (.tp (.cons (.nm 7) (.cons (.nm 9) (.cons (.nm 8) (.nil))))) .plain (.cons (.var 1) .nil) (b3_c0) (b3_e0)) .nil)))
  (.cons (.exp (.bm .append (.var 2) (.cons (.tup (.cons (.bin .add (.var 3) (.var 6)) (.cons (.var 4) (.cons (.var 5) .nil)))) .nil))) .nil)
def b3 : Ss := .cons (.ife (.not (.e (.call 2 (.cons (.var 0) (.cons (.var 1) .nil))))) (.cons (.rse 0 (.cons (.cst (.str [109, 101, 101, 116])) .nil)) .nil) (.nil))
  (.cons (.asg (.nm 2) (.lst (.nil)))
  (.cons (.fr (.tp (.cons (.nm 3) (.cons (.nm 4) (.cons (.nm 5) (.nil))))) .plain (.cons (.var 0) .nil) b3_f0)
  (.cons (.ret (.blt .tuple (.cons (.var 2) .nil))) .nil)))
/-- past -/
abbrev f3 : Fn := ⟨2, 10, b3⟩
def b4_f0 : Ss := .cons (.ife (.e (.cmp .eq (.idx (.var 6) (.cst (.int 0))) (.cst (.str [107, 101, 101, 112])))) (.cons (.ife (.or (.cons (.e (.var 4)) (.cons (.e (.var 5)) .nil))) (.cons (.exp (.bm .append (.var 2) (.cons (.tup (.cons (.var 3) (.cons (.blt .tuple (.cons (.var 4) .nil)) (.cons (.blt .tuple (.cons (.var 5) .nil)) .nil)))) .nil))) .nil) (.nil))
  (.cons (.par [3, 4, 5] (.cons (.bin .add (.idx (.var 6) (.cst (.int 1))) (.cst (.int 1))) (.cons (.lst (.nil)) (.cons (.lst (.nil)) .nil)))) .nil)) (.cons (.ife (.e (.cmp .eq (.idx (.var 6) (.cst (.int 0))) (.cst (.str [100, 114, 111, 112])))) (.cons (.exp (.bm .append (.var 4) (.cons (.idx (.var 0) (.idx (.var 6) (.cst (.int 1)))) .nil))) .nil) (.cons (.exp (.bm .append (.var 5) (.cons (.idx (.var 1) (.idx (.var 6) (.cst (.int 1)))) .nil))) .nil)) .nil)) .nil
def b4 : Ss := .cons (.asg (.nm 2) (.lst (.nil)))
  (.cons (.par [3, 4, 5] (.cons (.cst (.int 0)) (.cons (.lst (.nil)) (.cons (.lst (.nil)) .nil))))
  (.cons (.fr (.nm 6) .plain (.cons (.bin .add (.call 1 (.cons (.var 0) (.cons (.var 1) .nil))) (.tup (.cons (.tup (.cons (.cst (.str [107, 101, 101, 112])) (.cons (.blt .len (.cons (.var 0) .nil)) (.cons (.blt .len (.cons (.var 1) .nil)) .nil)))) .nil))) .nil) b4_f0)
  (.cons (.ret (.blt .tuple (.cons (.var 2) .nil))) .nil)))
/-- patches_of -/
abbrev f4 : Fn := ⟨2, 7, b4⟩
def b5_f0 : Ss := .cons (.ife (.e (.cmp .le (.var 5) (.var 4))) (.cons (.rse 0 (.cons (.cst (.str [111, 114, 100, 101, 114])) .nil)) .nil) (.nil))
  (.cons (.ife (.or (.cons (.e (.cmp .gt (.bin .add (.var 5) (.blt .len (.cons (.var 6) .nil))) (.blt .len (.cons (.var 0) .nil)))) (.cons (.e (.cmp .ne (.slc (.var 0) (.e (.var 5)) (.e (.bin .add (.var 5) (.blt .len (.cons (.var 6) .nil))))) (.var 6))) .nil))) (.cons (.rse 0 (.cons (.cst (.str [114, 111, 119, 115])) .nil)) .nil) (.nil))
  (.cons (.exp (.bm .extend (.var 2) (.cons (.bin .add (.slc (.var 0) (.e (.var 3)) (.e (.var 5))) (.var 7)) .nil)))
  (.cons (.asg (.nm 3) (.bin .add (.var 5) (.blt .len (.cons (.var 6) .nil))))
  (.cons (.asg (.nm 4) (.var 3)) .nil))))
def b5 : Ss := .cons (.asg (.nm 2) (.lst (.nil)))
  (.cons (.asg (.nm 3) (.cst (.int 0)))
  (.cons (.asg (.nm 4) (.neg (.cst (.int 1))))
  (.cons (.fr (.tp (.cons (.nm 5) (.cons (.nm 6) (.cons (.nm 7) (.nil))))) .plain (.cons (.var 1) .nil) b5_f0)
  (.cons (.ret (.bin .add (.blt .tuple (.cons (.var 2) .nil)) (.slc (.var 0) (.e (.var 3)) .no))) .nil))))
/-- patched -/
abbrev f5 : Fn := ⟨2, 8, b5⟩
def b6_f0 : Ss := .cons (.exp (.bm .append (.var 1) (.cons (.tup (.cons (.bin .add (.var 3) (.var 2)) (.cons (.var 5) (.cons (.var 4) .nil)))) .nil)))
  (.cons (.aug 2 .add (.bin .sub (.blt .len (.cons (.var 5) .nil)) (.blt .len (.cons (.var 4) .nil)))) .nil)
def b6 : Ss := .cons (.asg (.nm 1) (.lst (.nil)))
  (.cons (.asg (.nm 2) (.cst (.int 0)))
  (.cons (.fr (.tp (.cons (.nm 3) (.cons (.nm 4) (.cons (.nm 5) (.nil))))) .plain (.cons (.var 0) .nil) b6_f0)
  (.cons (.ret (.blt .tuple (.cons (.var 1) .nil))) .nil)))
/-- turned_back -/
abbrev f6 : Fn := ⟨1, 6, b6⟩
def b7_f0 : Ss := .cons (.asg (.nm 0) (.call 5 (.cons (.var 0) (.cons (.var 2) .nil)))) .nil
def b7 : Ss := .cons (.fr (.nm 2) .plain (.cons (.var 1) .nil) b7_f0)
  (.cons (.ret (.var 0)) .nil)
/-- run_series -/
abbrev f7 : Fn := ⟨2, 3, b7⟩
def b8 : Ss := .cons (.asg (.nm 2) (.call 3 (.cons (.var 1) (.cons (.call 6 (.cons (.var 0) .nil)) .nil))))
  (.cons (.ret (.tup (.cons (.var 2) (.cons (.call 3 (.cons (.var 0) (.cons (.var 2) .nil))) .nil)))) .nil)
/-- swapped -/
abbrev f8 : Fn := ⟨2, 3, b8⟩
def b9_f0 : Ss := .cons (.set2 (.var 2) (.bin .sub (.var 3) (.cst (.int 1))) (.var 2) (.var 3) (.call 8 (.cons (.idx (.var 2) (.bin .sub (.var 3) (.cst (.int 1)))) (.cons (.idx (.var 2) (.var 3)) .nil)))) .nil
def b9 : Ss := .cons (.asg (.nm 2) (.blt .list (.cons (.var 0) .nil)))
  (.cons (.fr (.nm 3) .range (.cons (.var 1) (.cons (.cst (.int 0)) (.cons (.neg (.cst (.int 1))) .nil))) b9_f0)
  (.cons (.ret (.blt .tuple (.cons (.var 2) .nil))) .nil))
/-- pulled -/
abbrev f9 : Fn := ⟨2, 4, b9⟩
def b10_f0 : Ss := .cons (.set2 (.var 2) (.var 3) (.var 2) (.bin .add (.var 3) (.cst (.int 1))) (.call 8 (.cons (.idx (.var 2) (.var 3)) (.cons (.idx (.var 2) (.bin .add (.var 3) (.cst (.int 1)))) .nil)))) .nil
def b10 : Ss := .cons (.asg (.nm 2) (.blt .list (.cons (.var 0) .nil)))
  (.cons (.fr (.nm 3) .range (.cons (.var 1) (.cons (.bin .sub (.blt .len (.cons (.var 2) .nil)) (.cst (.int 1))) .nil)) b10_f0)
  (.cons (.ret (.blt .tuple (.cons (.slc (.var 2) .no (.e (.neg (.cst (.int 1))))) .nil))) .nil))
/-- dropped -/
abbrev f10 : Fn := ⟨2, 4, b10⟩
def b11_f0 : Ss := .cons (.exp (.bm .append (.var 2) (.cons (.call 3 (.cons (.var 3) (.cons (.var 1) .nil))) .nil)))
  (.cons (.asg (.nm 1) (.call 3 (.cons (.var 1) (.cons (.var 3) .nil)))) .nil)
def b11 : Ss := .cons (.asg (.nm 2) (.lst (.nil)))
  (.cons (.fr (.nm 3) .plain (.cons (.var 0) .nil) b11_f0)
  (.cons (.ret (.blt .tuple (.cons (.var 2) .nil))) .nil))
/-- rebased -/
abbrev f11 : Fn := ⟨2, 4, b11⟩
def b12 : Ss := .cons (.ret (.call 4 (.cons (.var 0) (.cons (.call 7 (.cons (.var 0) (.cons (.var 1) .nil))) .nil)))) .nil
/-- squeezed -/
abbrev f12 : Fn := ⟨2, 2, b12⟩
def b13_e0 : E := .tup (.cons (.var 1) .nil)
def b13 : Ss := .cons (.ret (.blt .tuple (.cons (.comp [1] (.nm 1) .plain (.cons (.rev (.var 0)) .nil) (.and .nil) (b13_e0)) .nil))) .nil
/-- split_patches -/
abbrev f13 : Fn := ⟨1, 2, b13⟩
def b14_f0 : Ss := .cons (.asg (.nm 1) (.bin .mod (.bin .add (.bin .add (.bin .mul (.var 1) (.cst (.int 69621))) (.bin .mod (.blt .int1 (.cons (.var 2) .nil)) (.cst (.int 2147483629)))) (.cst (.int 7))) (.cst (.int 2147483647)))) .nil
def b14 : Ss := .cons (.asg (.nm 1) (.cst (.int 1)))
  (.cons (.fr (.nm 2) .plain (.cons (.var 0) .nil) b14_f0)
  (.cons (.ret (.lst (.cons (.blt .list (.cons (.var 0) .nil)) (.cons (.cst (.int 0)) (.cons (.cst (.int 0)) (.cons (.var 1) .nil)))))) .nil))
/-- _law_begin -/
abbrev f14 : Fn := ⟨1, 3, b14⟩
def b15 : Ss := .cons (.ife (.and (.cons (.e (.cmp .eq (.idx (.var 0) (.cst (.int 2))) (.cst (.int 0)))) (.cons (.e (.cmp .lt (.idx (.var 0) (.cst (.int 1))) (.blt .len (.cons (.idx (.var 0) (.cst (.int 0))) .nil)))) .nil))) (.cons (.setI (.var 0) (.cst (.int 2)) (.blt .abs (.cons (.blt .int1 (.cons (.idx (.idx (.var 0) (.cst (.int 0))) (.idx (.var 0) (.cst (.int 1)))) .nil)) .nil)))
  (.cons (.setI (.var 0) (.cst (.int 1)) (.bin .add (.idx (.var 0) (.cst (.int 1))) (.cst (.int 1))))
  (.cons (.ife (.e (.cmp .lt (.idx (.var 0) (.cst (.int 2))) (.bin .pow (.cst (.int 10)) (.cst (.int 18))))) (.cons (.asg (.nm 2) (.blt .int1 (.cons (.idx (.var 0) (.cst (.int 2))) .nil)))
  (.cons (.setI (.var 0) (.cst (.int 2)) (.cst (.int 0)))
  (.cons (.ret (.bin .mod (.var 2) (.var 1))) .nil))) (.nil)) .nil))) (.nil))
  (.cons (.ife (.e (.cmp .gt (.idx (.var 0) (.cst (.int 2))) (.cst (.int 0)))) (.cons (.asg (.nm 3) (.bin .mod (.blt .int1 (.cons (.idx (.var 0) (.cst (.int 2))) .nil)) (.var 1)))
  (.cons (.setI (.var 0) (.cst (.int 2)) (.bin .fdiv (.blt .int1 (.cons (.idx (.var 0) (.cst (.int 2))) .nil)) (.var 1)))
  (.cons (.ret (.var 3)) .nil))) (.nil))
  (.cons (.setI (.var 0) (.cst (.int 3)) (.bin .mod (.blt .int1 (.cons (.bin .add (.bin .mul (.idx (.var 0) (.cst (.int 3))) (.cst (.int 48271))) (.cst (.int 11))) .nil)) (.cst (.int 2147483647))))
  (.cons (.ret (.bin .mod (.blt .int1 (.cons (.bin .fdiv (.idx (.var 0) (.cst (.int 3))) (.cst (.int 3))) .nil)) (.var 1))) .nil)))
/-- _law_take -/
abbrev f15 : Fn := ⟨2, 4, b15⟩
def b16 : Ss := .cons (.ret (.idx (.var 1) (.call 15 (.cons (.var 0) (.cons (.blt .len (.cons (.var 1) .nil)) .nil))))) .nil
/-- _law_pick -/
abbrev f16 : Fn := ⟨2, 2, b16⟩
def b17_e0 : E := .call 16 (.cons (.var 0) (.cons (.lst (.cons (.cst (.str [97])) (.cons (.cst (.str [98])) (.cons (.cst (.str [99])) (.cons (.cst (.str [])) (.cons (.cst (.str [97, 32, 98])) .nil)))))) .nil))
def b17 : Ss := .cons (.ret (.blt .tuple (.cons (.comp [2] (.nm 2) .range (.cons (.call 15 (.cons (.var 0) (.cons (.bin .add (.var 1) (.cst (.int 1))) .nil))) .nil) (.and .nil) (b17_e0)) .nil))) .nil
/-- _law_rows -/
abbrev f17 : Fn := ⟨2, 3, b17⟩
def b18_f0 : Ss := .cons (.asg (.nm 4) (.call 15 (.cons (.var 0) (.cons (.bin .add (.blt .len (.cons (.var 2) .nil)) (.cst (.int 1))) .nil))))
  (.cons (.asg (.nm 5) (.call 15 (.cons (.var 0) (.cons (.cst (.int 3)) .nil))))
  (.cons (.ife (.e (.cmp .eq (.var 5) (.cst (.int 0)))) (.cons (.exp (.bm .insert (.var 2) (.cons (.var 4) (.cons (.call 16 (.cons (.var 0) (.cons (.lst (.cons (.cst (.str [120])) (.cons (.cst (.str [121])) (.cons (.cst (.str [97])) .nil)))) .nil))) .nil)))) .nil) (.cons (.ife (.and (.cons (.e (.cmp .lt (.var 4) (.blt .len (.cons (.var 2) .nil)))) (.cons (.e (.cmp .eq (.var 5) (.cst (.int 1)))) .nil))) (.cons (.exp (.bm .pop1 (.var 2) (.cons (.var 4) .nil))) .nil) (.cons (.ife (.e (.cmp .lt (.var 4) (.blt .len (.cons (.var 2) .nil)))) (.cons (.setI (.var 2) (.var 4) (.call 16 (.cons (.var 0) (.cons (.lst (.cons (.cst (.str [120])) (.cons (.cst (.str [121])) (.cons (.cst (.str [98])) .nil)))) .nil)))) .nil) (.nil)) .nil)) .nil)) .nil))
def b18 : Ss := .cons (.asg (.nm 2) (.blt .list (.cons (.var 1) .nil)))
  (.cons (.fr (.nm 3) .range (.cons (.call 15 (.cons (.var 0) (.cons (.cst (.int 4)) .nil))) .nil) b18_f0)
  (.cons (.ret (.blt .tuple (.cons (.var 2) .nil))) .nil))
/-- _law_bent_rows -/
abbrev f18 : Fn := ⟨2, 6, b18⟩
def b19 : Ss := .cons (.tryR (.cons (.ife (.e (.cmp .eq (.var 0) (.cst (.int 0)))) (.cons (.ret (.call 8 (.cons (.var 1) (.cons (.var 2) .nil)))) .nil) (.nil))
  (.cons (.ife (.e (.cmp .eq (.var 0) (.cst (.int 1)))) (.cons (.ret (.call 9 (.cons (.var 1) (.cons (.var 2) .nil)))) .nil) (.nil))
  (.cons (.ret (.ite (.e (.cmp .eq (.var 0) (.cst (.int 2)))) (.call 10 (.cons (.var 1) (.cons (.var 2) .nil))) (.call 11 (.cons (.var 1) (.cons (.var 2) .nil))))) .nil))) [([true], some 3, .fld 0)]) .nil
/-- _law_told -/
abbrev f19 : Fn := ⟨3, 4, b19⟩
def b20_f0 : Ss := .cons (.asg (.nm 4) (.call 19 (.cons (.cst (.int 0)) (.cons (.idx (.var 2) (.bin .sub (.var 3) (.cst (.int 1)))) (.cons (.idx (.var 2) (.var 3)) .nil)))))
  (.cons (.ife (.e (.cmp .eq (.var 4) (.cst (.str [109, 101, 101, 116])))) (.cons (.ret (.cst (.str [109, 101, 101, 116]))) .nil) (.nil))
  (.cons (.asg (.nm 2) (.bin .add (.bin .add (.slc (.var 2) .no (.e (.bin .sub (.var 3) (.cst (.int 1))))) (.lst (.cons (.idx (.var 4) (.cst (.int 0))) (.cons (.idx (.var 4) (.cst (.int 1))) .nil)))) (.slc (.var 2) (.e (.bin .add (.var 3) (.cst (.int 1)))) .no))) .nil))
def b20 : Ss := .cons (.asg (.nm 2) (.blt .list (.cons (.var 0) .nil)))
  (.cons (.fr (.nm 3) .range (.cons (.var 1) (.cons (.cst (.int 0)) (.cons (.bin .sub (.cst (.int 0)) (.cst (.int 1))) .nil))) b20_f0)
  (.cons (.ret (.blt .tuple (.cons (.var 2) .nil))) .nil))
/-- _law_pulled -/
abbrev f20 : Fn := ⟨2, 5, b20⟩
def b21_e0 : E := .cmp .eq (.blt .len (.cons (.var 21) .nil)) (.cst (.int 1))
def b21_f0 : Ss := .cons (.asg (.nm 17) (.call 3 (.cons (.var 17) (.cons (.var 18) .nil)))) .nil
def b21_f1 : Ss := .cons (.asg (.nm 6) (.idx (.var 4) (.bin .sub (.var 5) (.cst (.int 1)))))
  (.cons (.asg (.nm 7) (.idx (.var 4) (.var 5)))
  (.cons (.asg (.nm 8) (.call 19 (.cons (.cst (.int 0)) (.cons (.var 6) (.cons (.var 7) .nil)))))
  (.cons (.asg (.nm 9) (.call 2 (.cons (.var 7) (.cons (.call 6 (.cons (.var 6) .nil)) .nil))))
  (.cons (.ife (.e (.cmp .eq (.cmp .eq (.var 8) (.cst (.str [109, 101, 101, 116]))) (.var 9))) (.cons (.ret (.cst (.bl false))) .nil) (.nil))
  (.cons (.ife (.e (.var 9)) (.cons (.asg (.tp (.cons (.nm 10) (.cons (.nm 11) (.nil)))) (.var 8))
  (.cons (.ife (.e (.cmp .ne (.call 5 (.cons (.call 5 (.cons (.idx (.var 3) (.bin .sub (.var 5) (.cst (.int 1)))) (.cons (.var 10) .nil))) (.cons (.var 11) .nil))) (.idx (.var 3) (.bin .add (.var 5) (.cst (.int 1)))))) (.cons (.ret (.cst (.bl false))) .nil) (.nil))
  (.cons (.ife (.e (.cmp .ne (.call 19 (.cons (.cst (.int 0)) (.cons (.var 10) (.cons (.var 11) .nil)))) (.tup (.cons (.var 6) (.cons (.var 7) .nil))))) (.cons (.ret (.cst (.bl false))) .nil) (.nil)) .nil))) (.nil)) .nil)))))
def b21_f2 : Ss := .cons (.exp (.bm .append (.var 3) (.cons (.call 18 (.cons (.var 1) (.cons (.idx (.var 3) (.neg (.cst (.int 1)))) .nil))) .nil)))
  (.cons (.exp (.bm .append (.var 4) (.cons (.call 4 (.cons (.idx (.var 3) (.neg (.cst (.int 2)))) (.cons (.idx (.var 3) (.neg (.cst (.int 1)))) .nil))) .nil))) .nil)
def b21 : Ss := .cons (.asg (.nm 1) (.call 14 (.cons (.var 0) .nil)))
  (.cons (.asg (.nm 2) (.call 17 (.cons (.var 1) (.cons (.cst (.int 6)) .nil))))
  (.cons (.asg (.nm 3) (.lst (.cons (.var 2) .nil)))
  (.cons (.asg (.nm 4) (.lst (.nil)))
  (.cons (.fr (.nm 5) .range (.cons (.bin .add (.cst (.int 1)) (.call 15 (.cons (.var 1) (.cons (.cst (.int 4)) .nil)))) .nil) b21_f2)
  (.cons (.asg (.nm 4) (.blt .tuple (.cons (.var 4) .nil)))
  (.cons (.ife (.e (.cmp .ne (.call 7 (.cons (.var 2) (.cons (.var 4) .nil))) (.idx (.var 3) (.neg (.cst (.int 1)))))) (.cons (.ret (.cst (.bl false))) .nil) (.nil))
  (.cons (.fr (.nm 5) .range (.cons (.cst (.int 1)) (.cons (.blt .len (.cons (.var 4) .nil)) .nil)) b21_f1)
  (.cons (.asg (.nm 12) (.call 15 (.cons (.var 1) (.cons (.blt .len (.cons (.var 4) .nil)) .nil))))
  (.cons (.asg (.nm 8) (.call 19 (.cons (.cst (.int 1)) (.cons (.var 4) (.cons (.var 12) .nil)))))
  (.cons (.ife (.e (.cmp .ne (.var 8) (.call 20 (.cons (.var 4) (.cons (.var 12) .nil))))) (.cons (.ret (.cst (.bl false))) .nil) (.nil))
  (.cons (.ife (.and (.cons (.e (.cmp .ne (.var 8) (.cst (.str [109, 101, 101, 116])))) (.cons (.e (.cmp .ne (.call 7 (.cons (.var 2) (.cons (.var 8) .nil))) (.idx (.var 3) (.neg (.cst (.int 1)))))) .nil))) (.cons (.ret (.cst (.bl false))) .nil) (.nil))
  (.cons (.asg (.nm 13) (.call 19 (.cons (.cst (.int 2)) (.cons (.var 4) (.cons (.var 12) .nil)))))
  (.cons (.ife (.e (.cmp .ne (.var 13) (.cst (.str [109, 101, 101, 116])))) (.cons (.ife (.or (.cons (.e (.cmp .ne (.blt .len (.cons (.var 13) .nil)) (.bin .sub (.blt .len (.cons (.var 4) .nil)) (.cst (.int 1))))) (.cons (.e (.cmp .ne (.slc (.var 13) .no (.e (.var 12))) (.slc (.var 4) .no (.e (.var 12))))) .nil))) (.cons (.ret (.cst (.bl false))) .nil) (.nil))
  (.cons (.asg (.nm 14) (.call 7 (.cons (.var 2) (.cons (.var 13) .nil))))
  (.cons (.ife (.and (.cons (.e (.cmp .eq (.blt .len (.cons (.var 13) .nil)) (.var 12))) (.cons (.e (.cmp .ne (.var 14) (.idx (.var 3) (.var 12)))) .nil))) (.cons (.ret (.cst (.bl false))) .nil) (.nil)) .nil))) (.cons (.ife (.e (.cmp .eq (.var 12) (.bin .sub (.blt .len (.cons (.var 4) .nil)) (.cst (.int 1))))) (.cons (.ret (.cst (.bl false))) .nil) (.nil)) .nil))
  (.cons (.asg (.nm 15) (.call 18 (.cons (.var 1) (.cons (.var 2) .nil))))
  (.cons (.asg (.nm 7) (.call 4 (.cons (.var 2) (.cons (.var 15) .nil))))
  (.cons (.asg (.nm 16) (.call 19 (.cons (.cst (.int 3)) (.cons (.var 4) (.cons (.var 7) .nil)))))
  (.cons (.ife (.e (.cmp .ne (.var 16) (.cst (.str [109, 101, 101, 116])))) (.cons (.asg (.nm 17) (.var 7))
  (.cons (.fr (.nm 18) .plain (.cons (.var 4) .nil) b21_f0)
  (.cons (.ife (.e (.cmp .ne (.call 7 (.cons (.var 15) (.cons (.var 16) .nil))) (.call 5 (.cons (.idx (.var 3) (.neg (.cst (.int 1)))) (.cons (.var 17) .nil))))) (.cons (.ret (.cst (.bl false))) .nil) (.nil)) .nil))) (.cons (.ife (.and (.cons (.e (.cmp .eq (.blt .len (.cons (.var 4) .nil)) (.cst (.int 1)))) (.cons (.e (.call 2 (.cons (.idx (.var 4) (.cst (.int 0))) (.cons (.var 7) .nil)))) .nil))) (.cons (.ret (.cst (.bl false))) .nil) (.nil)) .nil))
  (.cons (.asg (.nm 19) (.call 12 (.cons (.var 2) (.cons (.var 4) .nil))))
  (.cons (.ife (.or (.cons (.e (.cmp .ne (.call 5 (.cons (.var 2) (.cons (.var 19) .nil))) (.idx (.var 3) (.neg (.cst (.int 1)))))) (.cons (.e (.cmp .ne (.var 19) (.call 4 (.cons (.var 2) (.cons (.idx (.var 3) (.neg (.cst (.int 1)))) .nil))))) .nil))) (.cons (.ret (.cst (.bl false))) .nil) (.nil))
  (.cons (.asg (.nm 20) (.call 13 (.cons (.var 19) .nil)))
  (.cons (.ret (.and (.cons (.cmp .eq (.blt .len (.cons (.var 20) .nil)) (.blt .len (.cons (.var 19) .nil))) (.cons (.cmp .eq (.call 7 (.cons (.var 2) (.cons (.var 20) .nil))) (.idx (.var 3) (.neg (.cst (.int 1))))) (.cons (.blt .all (.cons (.comp [21] (.nm 21) .plain (.cons (.var 20) .nil) (.and .nil) (b21_e0)) .nil)) .nil))))) .nil)))))))))))))))))))))
/-- law -/
abbrev f21 : Fn := ⟨1, 22, b21⟩
structure Ft (ft : Nat → Option Fn) : Prop where
  h0 : ft 0 = some f0
  h1 : ft 1 = some f1
  h2 : ft 2 = some f2
  h3 : ft 3 = some f3
  h4 : ft 4 = some f4
  h5 : ft 5 = some f5
  h6 : ft 6 = some f6
  h7 : ft 7 = some f7
  h8 : ft 8 = some f8
  h9 : ft 9 = some f9
  h10 : ft 10 = some f10
  h11 : ft 11 = some f11
  h12 : ft 12 = some f12
  h13 : ft 13 = some f13
  h14 : ft 14 = some f14
  h15 : ft 15 = some f15
  h16 : ft 16 = some f16
  h17 : ft 17 = some f17
  h18 : ft 18 = some f18
  h19 : ft 19 = some f19
  h20 : ft 20 = some f20
  h21 : ft 21 = some f21
end KL

namespace KL
open KM KQ
variable {ft : Nat → Option Fn}
/-! ### values -/
def psV (P : List Pc) : Val := .tup (pcVs P)
def psVs (l : Ps) : List Val := l.map psV
@[simp] theorem psVs_nil : psVs [] = [] := rfl
@[simp] theorem psVs_cons (P : List Pc) (l : Ps) : psVs (P :: l) = psV P :: psVs l := rfl
@[simp] theorem psVs_app (a b : Ps) : psVs (a ++ b) = psVs a ++ psVs b := by simp [psVs]
@[simp] theorem psVs_len (l : Ps) : (psVs l).length = l.length := by simp [psVs]
@[simp] theorem okv_psV (n : Nat) (P : List Pc) : okv n (psV P) = true := okvs_pcVs n P
@[simp] theorem okvs_psVs (n : Nat) (l : Ps) : okvs n (psVs l) = true := okvs_of fun x hx => by
  obtain ⟨i, _, rfl⟩ := List.mem_map.mp hx
  exact okv_psV n i
@[simp] theorem flat_psV (n : Nat) (P : List Pc) : flat (n + 4) (psV P) = true := by
  show flats (n + 3) (pcVs P) = true
  exact flats_pcVs (n + 1) P
@[simp] theorem flats_psVs (n : Nat) (l : Ps) : flats (n + 4) (psVs l) = true := flats_of fun x hx => by
  obtain ⟨i, _, rfl⟩ := List.mem_map.mp hx
  exact flat_psV n i
theorem psVs_get {l : Ps} {k : Nat} {P : List Pc} (h : l[k]? = some P) : atI (psVs l) (k : Int) = some (psV P) := by
  rw [atI_nat]; simp [psVs, h]
theorem psVs_set (l : Ps) (k : Nat) (P : List Pc) : (psVs l).set k (psV P) = psVs (l.set k P) := by unfold psVs; rw [List.map_set]
@[simp] theorem tidy_psV (P : List Pc) (g g' : Gh) : tidy g (.ok (psV P) g') = if okg g.length g g' then .ok (psV P) (g'.take g.length) else .ok (psV P) g' := by
  unfold psV
  rw [tidy_tup]
  by_cases h : okg g.length g g' = true <;> simp [h]
@[simp] theorem eqO_ts (xs : List Val) (t : List Nat) (g : Gh) : eqO (.tup xs) (.str t) g = if flats 59 xs then some false else none := by
  show (if flats 59 xs && true then some false else none) = _
  rw [Bool.and_true]
@[simp] theorem eqO_st (xs : List Val) (t : List Nat) (g : Gh) : eqO (.str t) (.tup xs) g = if flats 59 xs then some false else none := by
  show (if true && flats 59 xs then some false else none) = _
  rw [Bool.true_and]
/-! ### a row of patches done -/
theorem rs_loop (F : Ft ft) {m : Nat} (hm : 1 ≤ m) (x1 : Option Val) (g : Gh) {B : Nat} (hB : B ≤ 10000) : ∀ (l : Ps) (r r2 : Rw) (x2 : Option Val), Ch B r l r2 →
    ∃ y2, forL (fbody (run ft m) (.nm 2) b7_f0) (psVs l) [some (.tup (sV r)), x1, x2] g = .nx [some (.tup (sV r2)), x1, y2] g
  | [], r, r2, x2, c => by cases c.1; exact ⟨x2, rfl⟩
  | P :: l, r, r2, x2, ⟨c, mm, v, d⟩ => by
    obtain ⟨y2, ih⟩ := rs_loop F hm x1 g hB l mm r2 (some (psV P)) d
    refine ⟨y2, ?_⟩
    have e := patched (iD := 5) F.h5 hm v (by omega) (by have := d.fst; omega) g
    have ok := okvs_sV g.length mm
    rw [psVs_cons, forL_cons, ← ih]
    change run ft m 5 [.tup (sV r), psV P] g = _ at e
    generalize sV r = VR at *
    generalize sV mm = VM at *
    generalize psV P = VP at *
    simp [fbody, b7_f0, e, ok]
theorem run_series (F : Ft ft) {m : Nat} (hm : 2 ≤ m) {B : Nat} (hB : B ≤ 10000) {l : Ps} {r r2 : Rw} (c : Ch B r l r2) (hl : l.length ≤ 1000) (g : Gh) : run ft m 7 [.tup (sV r), .tup (psVs l)] g = .ok (.tup (sV r2)) g := by
  rw [run_at F.h7 (by omega) _ _ rfl]
  obtain ⟨y2, e⟩ := rs_loop F (show 1 ≤ m - 1 by omega) (some (.tup (psVs l))) g hB l r r2 none c
  have e2 := for_items (body := fbody (run ft (m - 1)) (.nm 2) b7_f0) (xs := psVs l) (s := [some (.tup (sV r)), some (.tup (psVs l)), none]) (g := g) (by rw [psVs_len, WF_eq]; omega)
  rw [e] at e2
  have ok := okvs_sV g.length r2
  generalize sV r = VR at *
  generalize sV r2 = VM at *
  generalize psVs l = VP at *
  simp [f7, b7, e2, ok]
/-! ### neighbours change places -/
theorem swapped (F : Ft ft) {m : Nat} (hm : 3 ≤ m) (P Q : List Pc) (h1 : P.length ≤ 10000) (h2 : Q.length ≤ 10000) (g : Gh) : run ft m 8 [psV P, psV Q] g =
    match swpF P Q with
    | some x => .ok (.tup [psV x.1, psV x.2]) g
    | none => .exn ⟨0, [.str wMet]⟩ g := by
  rw [run_at F.h8 (by omega) _ _ rfl]
  have e1 := turned_back (iB := 6) F.h6 (show 1 ≤ m - 1 by omega) P (by omega) g
  have e2 := past (iA := 2) (iP := 3) F.h2 F.h3 (show 2 ≤ m - 1 by omega) Q (tbF 0 P) (by omega) (by rw [tbF_len]; omega) g
  have hlen := psF_len Q (tbF 0 P)
  have e3 := past (iA := 2) (iP := 3) F.h2 F.h3 (show 2 ≤ m - 1 by omega) P (psF Q (tbF 0 P)) (by omega) (by omega) g
  unfold swpF
  change run ft (m - 1) 6 [psV P] g = .ok (psV _) g at e1
  change run ft (m - 1) 3 [psV Q, psV (tbF 0 P)] g = (if apF Q (tbF 0 P) = true then R.ok (psV (psF Q (tbF 0 P))) g else _) at e2
  change run ft (m - 1) 3 [psV P, psV (psF Q (tbF 0 P))] g = (if apF P (psF Q (tbF 0 P)) = true then R.ok (psV (psF P (psF Q (tbF 0 P)))) g else _) at e3
  cases h : apF Q (tbF 0 P)
  · rw [h, if_neg Bool.false_ne_true] at e2
    simp [f8, b8, e1, e2]
  · rw [h, if_pos rfl] at e2
    cases h3 : apF P (psF Q (tbF 0 P))
    · rw [h3, if_neg Bool.false_ne_true] at e3
      simp [f8, b8, e1, e2, e3]
    · rw [h3, if_pos rfl] at e3
      simp [f8, b8, e1, e2, e3]
end KL

namespace KL
open KM KQ
variable {ft : Nat → Option Fn}
abbrev metX : Exn := ⟨0, [.str wMet]⟩
/-! ### pulled -/
def dnV : Nat → List Val
  | 0 => []
  | k + 1 => .int (k + 1 : Nat) :: dnV k
@[simp] theorem dnV_len : ∀ k, (dnV k).length = k
  | 0 => rfl
  | k + 1 => congrArg (· + 1) (dnV_len k)
theorem rngC_dn : ∀ k : Nat, rngC (k : Int) (-1) k = dnV k
  | 0 => rfl
  | k + 1 => by
    have ih := rngC_dn k
    unfold rngC at ih ⊢
    rw [List.range_succ_eq_map, List.map_cons, List.map_map]
    show Val.int (((k + 1 : Nat) : Int) + ((0 : Nat) : Int) * (-1)) :: _ = Val.int (k + 1 : Nat) :: dnV k
    rw [← ih, show ((k + 1 : Nat) : Int) + ((0 : Nat) : Int) * (-1) = ((k + 1 : Nat) : Int) by omega]
    refine congrArg (Val.int (k + 1 : Nat) :: ·) (List.map_congr_left fun j _ => ?_)
    show Val.int (((k + 1 : Nat) : Int) + ((j + 1 : Nat) : Int) * (-1)) = Val.int ((k : Int) + (j : Int) * (-1))
    rw [show ((k + 1 : Nat) : Int) + ((j + 1 : Nat) : Int) * (-1) = (k : Int) + (j : Int) * (-1) by omega]
theorem rngF_s (i : Int) (n : Nat) : rngF i (n + 1) = .int i :: rngF (i + 1) n := by
  unfold rngF
  rw [List.range_succ_eq_map, List.map_cons, List.map_map]
  show Val.int (i + ((0 : Nat) : Int)) :: _ = _
  rw [show i + ((0 : Nat) : Int) = i by omega]
  refine congrArg (Val.int i :: ·) (List.map_congr_left fun j _ => ?_)
  show Val.int (i + ((j + 1 : Nat) : Int)) = Val.int (i + 1 + (j : Int))
  rw [show i + ((j + 1 : Nat) : Int) = i + 1 + (j : Int) by omega]
section
variable (F : Ft ft) {m : Nat} (hm : 3 ≤ m) (x0 x1 : Option Val) (g : Gh)
include F hm
theorem sw_call (P Q : List Pc) (h1 : P.length ≤ 10000) (h2 : Q.length ≤ 10000) (g : Gh) : (∀ x, swpF P Q = some x → run ft m 8 [psV P, psV Q] g = .ok (.tup [psV x.1, psV x.2]) g) ∧ (swpF P Q = none → run ft m 8 [psV P, psV Q] g = .exn metX g) := by
  have e := swapped F hm P Q h1 h2 g
  constructor
  · intro x h; rw [h] at e; exact e
  · intro h; rw [h] at e; exact e
theorem pl_turn (x3 : Option Val) (l : Ps) (hs : Sh l) (k : Nat) (hk : k + 1 < l.length) :
    (∀ l2, swAt k l = some l2 → fbody (run ft m) (.nm 3) b9_f0 (.int (k + 1 : Nat)) [x0, x1, some (.ref g.length), x3] (HA g [.lst (psVs l)]) = .nx [x0, x1, some (.ref g.length), some (.int (k + 1 : Nat))] (HA g [.lst (psVs l2)])) ∧
    (swAt k l = none → ∃ s, fbody (run ft m) (.nm 3) b9_f0 (.int (k + 1 : Nat)) [x0, x1, some (.ref g.length), x3] (HA g [.lst (psVs l)]) = .exn metX s (HA g [.lst (psVs l)])) := by
  obtain ⟨P, k0⟩ : ∃ P, l[k]? = some P := ⟨_, List.getElem?_eq_getElem (by omega)⟩
  obtain ⟨Q, k1⟩ : ∃ Q, l[k + 1]? = some Q := ⟨_, List.getElem?_eq_getElem hk⟩
  have ci : (((k + 1 : Nat)) : Int) = (k : Int) + 1 := by omega
  obtain ⟨c1, c2⟩ := sw_call F hm P Q (hs _ (List.mem_of_getElem? k0)) (hs _ (List.mem_of_getElem? k1)) (HA g [.lst (psVs l)])
  have hw := swAt_eq k0 k1
  have a0 := psVs_get k0
  have a1 := psVs_get k1
  have i0 : ixN l.length (k : Int) = some k := ixN_nat (by omega)
  have i1 : ixN l.length ((k + 1 : Nat) : Int) = some (k + 1) := ixN_nat hk
  have ll := psVs_len l
  rw [ci] at a1 i1
  rw [← ll] at i0 i1
  have i2 : ∀ v, ixN ((psVs l).set k v).length ((k : Int) + 1) = some (k + 1) := fun v => by rw [List.length_set]; exact i1
  simp only [ci]
  cases h : swpF P Q with
  | none =>
    rw [h] at hw
    refine ⟨(fun l2 hl => by rw [hw] at hl; cases hl), fun _ => ?_⟩
    have c2 := c2 h
    generalize psVs l = VL at *
    exact ⟨_, by simp [fbody, b9_f0, a0, a1, c2]; rfl⟩
  | some x =>
    rw [h] at hw
    refine ⟨fun l2 hl => ?_, fun hl => by rw [hw] at hl; cases hl⟩
    rw [hw] at hl
    cases hl
    have c1 := c1 x h
    have st : ((psVs l).set k (psV x.1)).set (k + 1) (psV x.2) = psVs ((l.set k x.1).set (k + 1) x.2) := by rw [psVs_set, psVs_set]
    rw [← st]
    generalize psVs l = VL at *
    simp [fbody, b9_f0, a0, a1, c1, i0, i1, i2]
theorem pl_loop : ∀ (k : Nat) (l : Ps) (x3 : Option Val), Sh l → k < l.length →
    (∀ l2, pullF k l = some l2 → ∃ y3, forL (fbody (run ft m) (.nm 3) b9_f0) (dnV k) [x0, x1, some (.ref g.length), x3] (HA g [.lst (psVs l)]) = .nx [x0, x1, some (.ref g.length), y3] (HA g [.lst (psVs l2)])) ∧
    (pullF k l = none → ∃ s L, forL (fbody (run ft m) (.nm 3) b9_f0) (dnV k) [x0, x1, some (.ref g.length), x3] (HA g [.lst (psVs l)]) = .exn metX s (HA g L))
  | 0, l, x3, _, _ => ⟨(fun l2 h => by cases h; exact ⟨x3, rfl⟩), (fun h => nomatch h)⟩
  | k + 1, l, x3, hs, hk => by
    obtain ⟨t1, t2⟩ := pl_turn F hm x0 x1 g x3 l hs k hk
    have hp : pullF (k + 1) l = (swAt k l).bind (pullF k) := rfl
    rw [hp]
    show (∀ l2, _ → ∃ y3, forL _ (.int (k + 1 : Nat) :: dnV k) _ _ = _) ∧ (_ → ∃ s L, forL _ (.int (k + 1 : Nat) :: dnV k) _ _ = _)
    cases h : swAt k l with
    | none =>
      obtain ⟨s, e⟩ := t2 h
      refine ⟨(fun l2 z => nomatch z), fun _ => ⟨s, [.lst (psVs l)], ?_⟩⟩
      rw [forL_cons, e]
    | some l3 =>
      have e := t1 l3 h
      obtain ⟨s1, s2, _⟩ := swAt_sh hs h
      obtain ⟨i1, i2⟩ := pl_loop k l3 (some (.int (k + 1 : Nat))) s1 (by omega)
      refine ⟨fun l2 z => ?_, fun z => ?_⟩
      · obtain ⟨y3, e2⟩ := i1 l2 z
        refine ⟨y3, ?_⟩
        rw [forL_cons, e]; exact e2
      · obtain ⟨s, L, e2⟩ := i2 z
        refine ⟨s, L, ?_⟩
        rw [forL_cons, e]; exact e2
end
theorem pulled (F : Ft ft) {m : Nat} (hm : 4 ≤ m) (l : Ps) (hs : Sh l) (k : Nat) (hk : k < l.length) (hl : l.length ≤ 1000) (g : Gh) :
    (∀ l2, pullF k l = some l2 → run ft m 9 [.tup (psVs l), .int k] g = .ok (.tup (psVs l2)) g) ∧ (pullF k l = none → run ft m 9 [.tup (psVs l), .int k] g = .exn metX g) := by
  rw [run_at F.h9 (by omega) _ _ rfl]
  obtain ⟨i1, i2⟩ := pl_loop F (show 3 ≤ m - 1 by omega) (some (.tup (psVs l))) (some (.int k)) g k l none hs hk
  have e0 := for_items (body := fbody (run ft (m - 1)) (.nm 3) b9_f0) (xs := dnV k) (s := [some (.tup (psVs l)), some (.int k), some (.ref g.length), none]) (g := HA g [.lst (psVs l)]) (by rw [dnV_len, WF_eq]; omega)
  have mr := mkRange_dn (k : Int) 0 (intsIn_of (by omega) (by omega)) rfl
  have e9 : ((k : Int) - 0).toNat = k := by omega
  rw [e9, rngC_dn] at mr
  have e5 : g ++ [Cell.lst (psVs l)] = HA g [.lst (psVs l)] := rfl
  have okl := okvs_psVs g.length l
  have oke := okvs_psVs (g.length + 1) l
  refine ⟨fun l2 h => ?_, fun h => ?_⟩
  · obtain ⟨y3, e⟩ := i1 l2 h
    rw [e] at e0
    have ok2 := okvs_psVs g.length l2
    generalize psVs l2 = V2 at *
    generalize psVs l = VL at *
    simp [f9, b9, e5, mr, e0, ok2, okl]
  · obtain ⟨s, L, e⟩ := i2 h
    rw [e] at e0
    generalize psVs l = VL at *
    simp [f9, b9, e5, mr, e0, okl]
end KL

namespace KL
open KM KQ
variable {ft : Nat → Option Fn}
/-! ### dropped -/
section
variable (F : Ft ft) {m : Nat} (hm : 3 ≤ m) (x0 x1 : Option Val) (g : Gh)
include F hm
theorem dr_turn (x3 : Option Val) (l : Ps) (hs : Sh l) (k : Nat) (hk : k + 1 < l.length) :
    (∀ l2, swAt k l = some l2 → fbody (run ft m) (.nm 3) b10_f0 (.int k) [x0, x1, some (.ref g.length), x3] (HA g [.lst (psVs l)]) = .nx [x0, x1, some (.ref g.length), some (.int k)] (HA g [.lst (psVs l2)])) ∧
    (swAt k l = none → ∃ s, fbody (run ft m) (.nm 3) b10_f0 (.int k) [x0, x1, some (.ref g.length), x3] (HA g [.lst (psVs l)]) = .exn metX s (HA g [.lst (psVs l)])) := by
  obtain ⟨P, k0⟩ : ∃ P, l[k]? = some P := ⟨_, List.getElem?_eq_getElem (by omega)⟩
  obtain ⟨Q, k1⟩ : ∃ Q, l[k + 1]? = some Q := ⟨_, List.getElem?_eq_getElem hk⟩
  have ci : (((k + 1 : Nat)) : Int) = (k : Int) + 1 := by omega
  obtain ⟨c1, c2⟩ := sw_call F hm P Q (hs _ (List.mem_of_getElem? k0)) (hs _ (List.mem_of_getElem? k1)) (HA g [.lst (psVs l)])
  have hw := swAt_eq k0 k1
  have a0 := psVs_get k0
  have a1 := psVs_get k1
  have i0 : ixN l.length (k : Int) = some k := ixN_nat (by omega)
  have i1 : ixN l.length ((k + 1 : Nat) : Int) = some (k + 1) := ixN_nat hk
  have ll := psVs_len l
  rw [ci] at a1 i1
  rw [← ll] at i0 i1
  have i2 : ∀ v, ixN ((psVs l).set k v).length ((k : Int) + 1) = some (k + 1) := fun v => by rw [List.length_set]; exact i1
  cases h : swpF P Q with
  | none =>
    rw [h] at hw
    refine ⟨(fun l2 hl => by rw [hw] at hl; cases hl), fun _ => ?_⟩
    have c2 := c2 h
    generalize psVs l = VL at *
    exact ⟨_, by simp [fbody, b10_f0, a0, a1, c2]; rfl⟩
  | some x =>
    rw [h] at hw
    refine ⟨fun l2 hl => ?_, fun hl => by rw [hw] at hl; cases hl⟩
    rw [hw] at hl
    cases hl
    have c1 := c1 x h
    have st : ((psVs l).set k (psV x.1)).set (k + 1) (psV x.2) = psVs ((l.set k x.1).set (k + 1) x.2) := by rw [psVs_set, psVs_set]
    rw [← st]
    generalize psVs l = VL at *
    simp [fbody, b10_f0, a0, a1, c1, i0, i1, i2]
theorem dr_loop : ∀ (j k : Nat) (l : Ps) (x3 : Option Val), Sh l → k + j < l.length →
    (∀ l2, dropG j k l = some l2 → ∃ y3, forL (fbody (run ft m) (.nm 3) b10_f0) (rngF k j) [x0, x1, some (.ref g.length), x3] (HA g [.lst (psVs l)]) = .nx [x0, x1, some (.ref g.length), y3] (HA g [.lst (psVs l2)])) ∧
    (dropG j k l = none → ∃ s L, forL (fbody (run ft m) (.nm 3) b10_f0) (rngF k j) [x0, x1, some (.ref g.length), x3] (HA g [.lst (psVs l)]) = .exn metX s (HA g L))
  | 0, k, l, x3, _, _ => ⟨(fun l2 h => by cases h; exact ⟨x3, rfl⟩), (fun h => nomatch h)⟩
  | j + 1, k, l, x3, hs, hk => by
    obtain ⟨t1, t2⟩ := dr_turn F hm x0 x1 g x3 l hs k (by omega)
    have hp : dropG (j + 1) k l = (swAt k l).bind (dropG j (k + 1)) := rfl
    rw [hp, rngF_s]
    have ci : (k : Int) + 1 = ((k + 1 : Nat) : Int) := by omega
    cases h : swAt k l with
    | none =>
      obtain ⟨s, e⟩ := t2 h
      refine ⟨(fun l2 z => nomatch z), fun _ => ⟨s, [.lst (psVs l)], ?_⟩⟩
      rw [forL_cons, e]
    | some l3 =>
      have e := t1 l3 h
      obtain ⟨s1, s2, _⟩ := swAt_sh hs h
      obtain ⟨i1, i2⟩ := dr_loop j (k + 1) l3 (some (.int k)) s1 (by omega)
      refine ⟨fun l2 z => ?_, fun z => ?_⟩
      · obtain ⟨y3, e2⟩ := i1 l2 z
        refine ⟨y3, ?_⟩
        rw [forL_cons, e, ci]; exact e2
      · obtain ⟨s, L, e2⟩ := i2 z
        refine ⟨s, L, ?_⟩
        rw [forL_cons, e, ci]; exact e2
end
theorem dropped (F : Ft ft) {m : Nat} (hm : 4 ≤ m) (l : Ps) (hs : Sh l) (k : Nat) (hk : k < l.length) (hl : l.length ≤ 1000) (g : Gh) :
    (∀ l2, dropG (l.length - 1 - k) k l = some l2 → run ft m 10 [.tup (psVs l), .int k] g = .ok (.tup (psVs l2.dropLast)) g) ∧ (dropG (l.length - 1 - k) k l = none → run ft m 10 [.tup (psVs l), .int k] g = .exn metX g) := by
  rw [run_at F.h10 (by omega) _ _ rfl]
  obtain ⟨i1, i2⟩ := dr_loop F (show 3 ≤ m - 1 by omega) (some (.tup (psVs l))) (some (.int k)) g (l.length - 1 - k) k l none hs (by omega)
  have e0 := for_items (body := fbody (run ft (m - 1)) (.nm 3) b10_f0) (xs := rngF k (l.length - 1 - k)) (s := [some (.tup (psVs l)), some (.int k), some (.ref g.length), none]) (g := HA g [.lst (psVs l)]) (by rw [rngF_len, WF_eq]; omega)
  have in1 : intsIn (k : Int) = true := intsIn_of (by omega) (by omega)
  have in2 : intsIn ((l.length : Int) - 1) = true := intsIn_of (by omega) (by omega)
  have e9 : ((l.length : Int) - 1 - k).toNat = l.length - 1 - k := by omega
  have e5 : g ++ [Cell.lst (psVs l)] = HA g [.lst (psVs l)] := rfl
  have okl := okvs_psVs g.length l
  have ll := psVs_len l
  refine ⟨fun l2 h => ?_, fun h => ?_⟩
  · obtain ⟨y3, e⟩ := i1 l2 h
    rw [e] at e0
    have ok2 := okvs_psVs g.length l2.dropLast
    have ed : (psVs l2).dropLast = psVs l2.dropLast := by unfold psVs; rw [List.map_dropLast]
    rw [← ed] at ok2 ⊢
    generalize psVs l2 = V2 at *
    generalize psVs l = VL at *
    simp [f10, b10, e5, ll, in1, in2, e9, e0, ok2, okl, cutL_init]
  · obtain ⟨s, L, e⟩ := i2 h
    rw [e] at e0
    generalize psVs l = VL at *
    simp [f10, b10, e5, ll, in1, in2, e9, e0, okl]
/-! ### past one more -/
section
variable (F : Ft ft) {m : Nat} (hm : 2 ≤ m) (x0 : Option Val) (g : Gh)
include F hm
theorem ps_call (P Q : List Pc) (h1 : P.length ≤ 10000) (h2 : Q.length ≤ 10000) (g : Gh) : (apF P Q = true → run ft m 3 [psV P, psV Q] g = .ok (psV (psF P Q)) g) ∧ (apF P Q = false → run ft m 3 [psV P, psV Q] g = .exn metX g) := by
  have e := past (iA := 2) (iP := 3) F.h2 F.h3 hm P Q (by omega) (by omega) g
  constructor
  · intro h; rw [h, if_pos rfl] at e; exact e
  · intro h; rw [h, if_neg Bool.false_ne_true] at e; exact e
theorem rb_loop : ∀ (l A : Ps) (O : List Pc) (x3 : Option Val), Sh l → O.length ≤ 10000 → A.length + l.length ≤ 1000 →
    (∀ l2 O2, rebF l O = some (l2, O2) → ∃ y1 y3, forL (fbody (run ft m) (.nm 3) b11_f0) (psVs l) [x0, some (psV O), some (.ref g.length), x3] (HA g [.lst (psVs A)]) = .nx [x0, y1, some (.ref g.length), y3] (HA g [.lst (psVs (A ++ l2))])) ∧
    (rebF l O = none → ∃ s L, forL (fbody (run ft m) (.nm 3) b11_f0) (psVs l) [x0, some (psV O), some (.ref g.length), x3] (HA g [.lst (psVs A)]) = .exn metX s (HA g L))
  | [], A, O, x3, _, _, _ => ⟨(fun l2 O2 h => by cases h; exact ⟨some (psV O), x3, by simp⟩), (fun h => nomatch h)⟩
  | P :: l, A, O, x3, hs, hO, hl => by
    have hS : SL = 1000000 := rfl
    rw [List.length_cons] at hl
    have hp : rebF (P :: l) O = if apF P O then (rebF l (psF O P)).map fun x => (psF P O :: x.1, x.2) else none := rfl
    obtain ⟨c1, c2⟩ := ps_call F hm P O (hs P (.head _)) hO (HA g [.lst (psVs A)])
    obtain ⟨d1, _⟩ := ps_call F hm O P hO (hs P (.head _)) (HA g [.lst (psVs (A ++ [psF P O]))])
    rw [hp, psVs_cons, forL_cons]
    have zl : (psVs A).length < SL := by rw [psVs_len]; omega
    have okA := okvs_psVs (g.length + 1) A
    have ea : psVs (A ++ [psF P O]) = psVs A ++ [psV (psF P O)] := by simp
    rw [ea] at d1
    cases h : apF P O with
    | false =>
      have c2 := c2 h
      refine ⟨(fun l2 O2 z => by rw [if_neg Bool.false_ne_true] at z; cases z), fun _ => ⟨[x0, some (psV O), some (.ref g.length), some (psV P)], [.lst (psVs A)], ?_⟩⟩
      generalize psVs A = VA at *
      simp [fbody, b11_f0, c2]
    | true =>
      rw [if_pos rfl]
      have c1 := c1 h
      have d1 := d1 (by rw [ap_comm]; exact h)
      obtain ⟨i1, i2⟩ := rb_loop l (A ++ [psF P O]) (psF O P) (some (psV P)) (fun R hR => hs R (.tail _ hR)) (by rw [psF_len]; exact hO) (by simp; omega)
      have e : fbody (run ft m) (.nm 3) b11_f0 (psV P) [x0, some (psV O), some (.ref g.length), x3] (HA g [.lst (psVs A)]) = .nx [x0, some (psV (psF O P)), some (.ref g.length), some (psV P)] (HA g [.lst (psVs (A ++ [psF P O]))]) := by
        rw [ea]
        generalize psVs A = VA at *
        simp [fbody, b11_f0, c1, d1, zl, okA]
      rw [e]
      refine ⟨fun l2 O2 z => ?_, fun z => ?_⟩
      · cases e2 : rebF l (psF O P) with
        | none => rw [e2] at z; cases z
        | some x =>
          obtain ⟨l3, O3⟩ := x
          rw [e2] at z; cases z
          obtain ⟨y1, y3, e3⟩ := i1 l3 _ e2
          refine ⟨y1, y3, ?_⟩
          rw [List.append_assoc, List.singleton_append] at e3
          exact e3
      · cases e2 : rebF l (psF O P) with
        | none => exact i2 e2
        | some x => rw [e2] at z; cases z
end
theorem rebased (F : Ft ft) {m : Nat} (hm : 3 ≤ m) (l : Ps) (hs : Sh l) (O : List Pc) (hO : O.length ≤ 10000) (hl : l.length ≤ 1000) (g : Gh) :
    (∀ l2 O2, rebF l O = some (l2, O2) → run ft m 11 [.tup (psVs l), psV O] g = .ok (.tup (psVs l2)) g) ∧ (rebF l O = none → run ft m 11 [.tup (psVs l), psV O] g = .exn metX g) := by
  rw [run_at F.h11 (by omega) _ _ rfl]
  obtain ⟨i1, i2⟩ := rb_loop F (show 2 ≤ m - 1 by omega) (some (.tup (psVs l))) g l [] O none hs hO (by simp; omega)
  have e0 := for_items (body := fbody (run ft (m - 1)) (.nm 3) b11_f0) (xs := psVs l) (s := [some (.tup (psVs l)), some (psV O), some (.ref g.length), none]) (g := HA g [.lst (psVs [])]) (by rw [psVs_len, WF_eq]; omega)
  refine ⟨fun l2 O2 h => ?_, fun h => ?_⟩
  · obtain ⟨y1, y3, e⟩ := i1 l2 O2 h
    rw [e, List.nil_append] at e0
    have e1 : forG (fbody (run ft (m - 1)) (.nm 3) b11_f0) (.items (psVs l)) WF 0 [some (.tup (psVs l)), some (psV O), some (.ref g.length), none] (g ++ [.lst []]) = _ := e0
    have ok2 := okvs_psVs g.length l2
    generalize psVs l2 = V2 at *
    generalize psVs l = VL at *
    simp [f11, b11, e1, ok2]
  · obtain ⟨s, L, e⟩ := i2 h
    rw [e] at e0
    have e1 : forG (fbody (run ft (m - 1)) (.nm 3) b11_f0) (.items (psVs l)) WF 0 [some (.tup (psVs l)), some (psV O), some (.ref g.length), none] (g ++ [.lst []]) = _ := e0
    generalize psVs l = VL at *
    simp [f11, b11, e1]
/-! ### squeezed, split -/
theorem squeezed (F : Ft ft) {m : Nat} (hm : 4 ≤ m) {B : Nat} (hB : B ≤ 1000) {l : Ps} {r r2 : Rw} (c : Ch B r l r2) (hl : l.length ≤ 1000) (g : Gh) : run ft m 12 [.tup (sV r), .tup (psVs l)] g = .ok (psV (poF r r2)) g := by
  rw [run_at F.h12 (by omega) _ _ rfl]
  have e1 := run_series F (show 2 ≤ m - 1 by omega) (show B ≤ 10000 by omega) c hl g
  have e2 := patches_of (iC := 0) (iS := 1) (iO := 4) F.h0 F.h1 F.h4 (show 3 ≤ m - 1 by omega) r r2 (by have := c.fst; omega) (by have := c.lst; omega) g
  change run ft (m - 1) 4 [.tup (sV r), .tup (sV r2)] g = .ok (psV _) g at e2
  generalize sV r = VR at *
  generalize sV r2 = VM at *
  generalize psVs l = VP at *
  simp [f12, b12, e1, e2]
theorem split_pat (F : Ft ft) {m : Nat} (hm : 1 ≤ m) (P : List Pc) (hP : P.length ≤ 1000) (g : Gh) : run ft m 13 [psV P] g = .ok (.tup (psVs (P.reverse.map ([·])))) g := by
  have hS : SL = 1000000 := rfl
  rw [run_at F.h13 (by omega) _ _ rfl]
  have e := comp_pure (body := cbody (run ft (m - 1)) [some (psV P), none] [1] (.nm 1) (.and .nil) b13_e0) (it := .items (pcVs P).reverse) (xs := (pcVs P).reverse) (g := g) (fun v => some (.tup [v])) (fun i => rfl) (by rw [List.length_reverse, pcVs_len]; omega) fun x hx => by
    obtain ⟨p, _, rfl⟩ := List.mem_map.mp (List.mem_reverse.mp hx)
    simp [cbody, b13_e0]
  have e2 : (pcVs P).reverse.filterMap (fun v => some (Val.tup [v])) = psVs (P.reverse.map ([·])) := by
    rw [show (fun v => some (Val.tup [v])) = fun v => some ((fun v => Val.tup [v]) v) from rfl, List.filterMap_eq_map']
    unfold psVs pcVs
    rw [← List.map_reverse, List.map_map, List.map_map]
    rfl
  rw [e2] at e
  have ok := okvs_psVs g.length (P.reverse.map ([·]))
  generalize psVs (P.reverse.map ([·])) = VR at *
  unfold psV at e ⊢
  generalize pcVs P = VP at *
  simp [f13, b13, e, ok]
end KL

namespace KL
open KM KQ
variable {ft : Nat → Option Fn}
/-! ### told -/
theorem told0 (F : Ft ft) {m : Nat} (hm : 4 ≤ m) (P Q : List Pc) (h1 : P.length ≤ 10000) (h2 : Q.length ≤ 10000) (g : Gh) : (∀ x, swpF P Q = some x → run ft m 19 [.int 0, psV P, psV Q] g = .ok (.tup [psV x.1, psV x.2]) g) ∧ (swpF P Q = none → run ft m 19 [.int 0, psV P, psV Q] g = .ok (.str wMet) g) := by
  obtain ⟨c1, c2⟩ := sw_call F (show 3 ≤ m - 1 by omega) P Q h1 h2 g
  rw [run_at F.h19 (by omega) _ _ rfl]
  constructor
  · intro x h
    have c1 := c1 x h
    simp [f19, b19, c1]
  · intro h
    have c2 := c2 h
    simp [f19, b19, c2, hndl, nmIn, nmOff, evH]
theorem told1 (F : Ft ft) {m : Nat} (hm : 5 ≤ m) (l : Ps) (hs : Sh l) (k : Nat) (hk : k < l.length) (hl : l.length ≤ 1000) (g : Gh) :
    (∀ l2, pullF k l = some l2 → run ft m 19 [.int 1, .tup (psVs l), .int k] g = .ok (.tup (psVs l2)) g) ∧ (pullF k l = none → run ft m 19 [.int 1, .tup (psVs l), .int k] g = .ok (.str wMet) g) := by
  obtain ⟨c1, c2⟩ := pulled F (show 4 ≤ m - 1 by omega) l hs k hk hl g
  rw [run_at F.h19 (by omega) _ _ rfl]
  constructor
  · intro x h
    have c1 := c1 x h
    have ok := okvs_psVs g.length x
    generalize psVs x = VX at *
    generalize psVs l = VL at *
    simp [f19, b19, c1, ok]
  · intro h
    have c2 := c2 h
    generalize psVs l = VL at *
    simp [f19, b19, c2, hndl, nmIn, nmOff, evH]
theorem told2 (F : Ft ft) {m : Nat} (hm : 5 ≤ m) (l : Ps) (hs : Sh l) (k : Nat) (hk : k < l.length) (hl : l.length ≤ 1000) (g : Gh) :
    (∀ l2, dropG (l.length - 1 - k) k l = some l2 → run ft m 19 [.int 2, .tup (psVs l), .int k] g = .ok (.tup (psVs l2.dropLast)) g) ∧ (dropG (l.length - 1 - k) k l = none → run ft m 19 [.int 2, .tup (psVs l), .int k] g = .ok (.str wMet) g) := by
  obtain ⟨c1, c2⟩ := dropped F (show 4 ≤ m - 1 by omega) l hs k hk hl g
  rw [run_at F.h19 (by omega) _ _ rfl]
  constructor
  · intro x h
    have c1 := c1 x h
    have ok := okvs_psVs g.length x.dropLast
    generalize psVs x.dropLast = VX at *
    generalize psVs l = VL at *
    simp [f19, b19, c1, ok]
  · intro h
    have c2 := c2 h
    generalize psVs l = VL at *
    simp [f19, b19, c2, hndl, nmIn, nmOff, evH]
theorem told3 (F : Ft ft) {m : Nat} (hm : 4 ≤ m) (l : Ps) (hs : Sh l) (O : List Pc) (hO : O.length ≤ 10000) (hl : l.length ≤ 1000) (g : Gh) :
    (∀ l2 O2, rebF l O = some (l2, O2) → run ft m 19 [.int 3, .tup (psVs l), psV O] g = .ok (.tup (psVs l2)) g) ∧ (rebF l O = none → run ft m 19 [.int 3, .tup (psVs l), psV O] g = .ok (.str wMet) g) := by
  obtain ⟨c1, c2⟩ := rebased F (show 3 ≤ m - 1 by omega) l hs O hO hl g
  rw [run_at F.h19 (by omega) _ _ rfl]
  constructor
  · intro x O2 h
    have c1 := c1 x O2 h
    have ok := okvs_psVs g.length x
    generalize psVs x = VX at *
    generalize psVs l = VL at *
    simp [f19, b19, c1, ok]
  · intro h
    have c2 := c2 h
    generalize psVs l = VL at *
    simp [f19, b19, c2, hndl, nmIn, nmOff, evH]
/-! ### the law's own pulling -/
theorem two_set {α : Type} : ∀ (k : Nat) (l : List α) (a b : α), k + 1 < l.length → l.take k ++ [a, b] ++ l.drop (k + 2) = (l.set k a).set (k + 1) b
  | _, [], _, _, h => by simp at h
  | 0, [x], _, _, h => by simp at h
  | 0, x :: y :: l, a, b, _ => rfl
  | k + 1, x :: l, a, b, h => by
    have := two_set k l a b (by simpa using h)
    exact congrArg (x :: ·) this
theorem lp_turn (F : Ft ft) {m : Nat} (hm : 4 ≤ m) (x0 x1 : Option Val) (g L : Gh) (i : Nat) (x3 x4 : Option Val) (l : Ps) (hs : Sh l) (hl : l.length ≤ 1000) (hi : L[i]? = some (.lst (psVs l))) (k : Nat) (hk : k + 1 < l.length) :
    (∀ l2, swAt k l = some l2 → ∃ y4, fbody (run ft m) (.nm 3) b20_f0 (.int (k + 1 : Nat)) [x0, x1, some (.ref (g.length + i)), x3, x4] (HA g L) = .nx [x0, x1, some (.ref (g.length + L.length)), some (.int (k + 1 : Nat)), y4] (HA g (L ++ [.lst (psVs l2)]))) ∧
    (swAt k l = none → fbody (run ft m) (.nm 3) b20_f0 (.int (k + 1 : Nat)) [x0, x1, some (.ref (g.length + i)), x3, x4] (HA g L) = .rt (.str wMet) (HA g L)) := by
  have hS : SL = 1000000 := rfl
  obtain ⟨P, k0⟩ : ∃ P, l[k]? = some P := ⟨_, List.getElem?_eq_getElem (by omega)⟩
  obtain ⟨Q, k1⟩ : ∃ Q, l[k + 1]? = some Q := ⟨_, List.getElem?_eq_getElem hk⟩
  have ci : (((k + 1 : Nat)) : Int) = (k : Int) + 1 := by omega
  obtain ⟨c1, c2⟩ := told0 F hm P Q (hs _ (List.mem_of_getElem? k0)) (hs _ (List.mem_of_getElem? k1)) (HA g L)
  have hw := swAt_eq k0 k1
  have a0 := psVs_get k0
  have a1 := psVs_get k1
  obtain ⟨li, gi⟩ := List.getElem?_eq_some_iff.mp hi
  rw [ci] at a1
  simp only [ci]
  cases h : swpF P Q with
  | none =>
    rw [h] at hw
    refine ⟨(fun l2 z => by rw [hw] at z; cases z), fun _ => ?_⟩
    have c2 := c2 h
    generalize psVs l = VL at *
    simp [fbody, b20_f0, hi, gi, a0, a1, c2]
  | some x =>
    rw [h] at hw
    refine ⟨fun l2 z => ?_, fun z => by rw [hw] at z; cases z⟩
    rw [hw] at z
    cases z
    have c1 := c1 x h
    have e1 : cutL (psVs l) none (some (k : Int)) = (psVs l).take k := cutL_take _ k
    have e2 : cutL (psVs l) (some ((k : Int) + 1 + 1)) none = (psVs l).drop (k + 2) := by
      rw [show (k : Int) + 1 + 1 = ((k + 2 : Nat) : Int) by omega]; exact cutL_from _ (k + 2)
    have e3 : (psVs l).take k ++ [psV x.1, psV x.2] ++ (psVs l).drop (k + 2) = psVs ((l.set k x.1).set (k + 1) x.2) := by
      rw [two_set k (psVs l) _ _ (by rw [psVs_len]; exact hk), psVs_set, psVs_set]
    have ok := okvs_psVs (g.length + L.length) ((l.set k x.1).set (k + 1) x.2)
    have z1 : ((psVs l).take k ++ [psV x.1, psV x.2]).length ≤ SL := by simp; omega
    have z2 : (psVs ((l.set k x.1).set (k + 1) x.2)).length ≤ SL := by simp; omega
    rw [← e3] at ok z2 ⊢
    refine ⟨some (.tup [psV x.1, psV x.2]), ?_⟩
    have el : ((psVs l).take k ++ [psV x.1, psV x.2] ++ (psVs l).drop (k + 2)) = (psVs l).take k ++ psV x.1 :: psV x.2 :: (psVs l).drop (k + 2) := by simp
    rw [el] at ok z2 ⊢
    have n4 : ¬ L.length + 4 < L.length := by omega
    have ga : ∀ x, (L ++ x)[i]? = some (Cell.lst (psVs l)) := fun x => by rw [List.getElem?_append_left li]; exact hi
    generalize (psVs l).take k = VT at *
    generalize (psVs l).drop (k + 2) = VD at *
    generalize psVs l = VL at *
    simp [fbody, b20_f0, hi, li, gi, ga, n4, a0, a1, c1, e1, e2, mkL_ok (h := z1), mkL_ok (h := z2), ok]
theorem lp_loop (F : Ft ft) {m : Nat} (hm : 4 ≤ m) (x0 x1 : Option Val) (g : Gh) : ∀ (k : Nat) (L : Gh) (i : Nat) (x3 x4 : Option Val) (l : Ps), Sh l → l.length ≤ 1000 → L[i]? = some (.lst (psVs l)) → k < l.length →
    (∀ l2, pullF k l = some l2 → ∃ i' y3 y4 L', L'[i']? = some (.lst (psVs l2)) ∧ forL (fbody (run ft m) (.nm 3) b20_f0) (dnV k) [x0, x1, some (.ref (g.length + i)), x3, x4] (HA g L) = .nx [x0, x1, some (.ref (g.length + i')), y3, y4] (HA g L')) ∧
    (pullF k l = none → ∃ L', forL (fbody (run ft m) (.nm 3) b20_f0) (dnV k) [x0, x1, some (.ref (g.length + i)), x3, x4] (HA g L) = .rt (.str wMet) (HA g L'))
  | 0, L, i, x3, x4, l, _, _, hi, _ => ⟨(fun l2 h => by cases h; exact ⟨i, x3, x4, L, hi, rfl⟩), (fun h => nomatch h)⟩
  | k + 1, L, i, x3, x4, l, hs, hl, hi, hk => by
    obtain ⟨t1, t2⟩ := lp_turn F hm x0 x1 g L i x3 x4 l hs hl hi k hk
    have hp : pullF (k + 1) l = (swAt k l).bind (pullF k) := rfl
    rw [hp]
    show (∀ l2, _ → ∃ i' y3 y4 L', _ ∧ forL _ (.int (k + 1 : Nat) :: dnV k) _ _ = _) ∧ (_ → ∃ L', forL _ (.int (k + 1 : Nat) :: dnV k) _ _ = _)
    cases h : swAt k l with
    | none =>
      have e := t2 h
      refine ⟨(fun l2 z => nomatch z), fun _ => ⟨L, ?_⟩⟩
      rw [forL_cons, e]
    | some l3 =>
      obtain ⟨y4, e⟩ := t1 l3 h
      obtain ⟨s1, s2, _⟩ := swAt_sh hs h
      obtain ⟨i1, i2⟩ := lp_loop F hm x0 x1 g k (L ++ [.lst (psVs l3)]) L.length (some (.int (k + 1 : Nat))) y4 l3 s1 (by omega) (by simp) (by omega)
      refine ⟨fun l2 z => ?_, fun z => ?_⟩
      · obtain ⟨i', y3, y5, L', e1, e2⟩ := i1 l2 z
        refine ⟨i', y3, y5, L', e1, ?_⟩
        rw [forL_cons, e]; exact e2
      · obtain ⟨L', e2⟩ := i2 z
        refine ⟨L', ?_⟩
        rw [forL_cons, e]; exact e2
theorem law_pulled (F : Ft ft) {m : Nat} (hm : 5 ≤ m) (l : Ps) (hs : Sh l) (k : Nat) (hk : k < l.length) (hl : l.length ≤ 1000) (g : Gh) :
    (∀ l2, pullF k l = some l2 → run ft m 20 [.tup (psVs l), .int k] g = .ok (.tup (psVs l2)) g) ∧ (pullF k l = none → run ft m 20 [.tup (psVs l), .int k] g = .ok (.str wMet) g) := by
  rw [run_at F.h20 (by omega) _ _ rfl]
  obtain ⟨i1, i2⟩ := lp_loop F (show 4 ≤ m - 1 by omega) (some (.tup (psVs l))) (some (.int k)) g k [.lst (psVs l)] 0 none none l hs hl rfl hk
  have e0 := for_items (body := fbody (run ft (m - 1)) (.nm 3) b20_f0) (xs := dnV k) (s := [some (.tup (psVs l)), some (.int k), some (.ref (g.length + 0)), none, none]) (g := HA g [.lst (psVs l)]) (by rw [dnV_len, WF_eq]; omega)
  have mr := mkRange_dn (k : Int) 0 (intsIn_of (by omega) (by omega)) rfl
  have e9 : ((k : Int) - 0).toNat = k := by omega
  rw [e9, rngC_dn] at mr
  have e5 : g ++ [Cell.lst (psVs l)] = HA g [.lst (psVs l)] := rfl
  have okl := okvs_psVs g.length l
  refine ⟨fun l2 h => ?_, fun h => ?_⟩
  · obtain ⟨i', y3, y4, L', el, e⟩ := i1 l2 h
    rw [e, Nat.add_zero] at e0
    have ok2 := okvs_psVs g.length l2
    obtain ⟨li, gi⟩ := List.getElem?_eq_some_iff.mp el
    generalize psVs l2 = V2 at *
    generalize psVs l = VL at *
    simp [f20, b20, e5, mr, e0, el, li, gi, ok2, okl]
  · obtain ⟨L', e⟩ := i2 h
    rw [e, Nat.add_zero] at e0
    generalize psVs l = VL at *
    simp [f20, b20, e5, mr, e0, okl]
end KL

namespace KL
open KM KQ
variable {ft : Nat → Option Fn}
/-! ### rows and rows of patches, as they are named in the law -/
def rV (r : Rw) : Val := .tup (sV r)
def rVs (l : List Rw) : List Val := l.map rV
def lV (l : Ps) : Val := .tup (psVs l)
section
variable {n : Nat} {g g' : Gh}
@[simp] theorem rVs_nil : rVs [] = [] := rfl
@[simp] theorem rVs_cons (r : Rw) (l : List Rw) : rVs (r :: l) = rV r :: rVs l := rfl
@[simp] theorem rVs_app (a b : List Rw) : rVs (a ++ b) = rVs a ++ rVs b := by simp [rVs]
@[simp] theorem rVs_len (l : List Rw) : (rVs l).length = l.length := by simp [rVs]
@[simp] theorem okv_rV (r : Rw) : okv n (rV r) = true := okvs_sV n r
@[simp] theorem okv_lV (l : Ps) : okv n (lV l) = true := okvs_psVs n l
@[simp] theorem okvs_rVs (l : List Rw) : okvs n (rVs l) = true := okvs_of fun x hx => by
  obtain ⟨i, _, rfl⟩ := List.mem_map.mp hx
  exact okv_rV i
@[simp] theorem flat_rV (r : Rw) : flat (n + 1) (rV r) = true := flats_sV n r
@[simp] theorem flat_lV (l : Ps) : flat (n + 5) (lV l) = true := flats_psVs n l
@[simp] theorem tidy_rV (r : Rw) : tidy g (.ok (rV r) g') = if okg g.length g g' then .ok (rV r) (g'.take g.length) else .ok (rV r) g' := by
  unfold rV
  rw [tidy_tup]
  by_cases h : okg g.length g g' = true <;> simp [h]
@[simp] theorem tidy_lV (l : Ps) : tidy g (.ok (lV l) g') = if okg g.length g g' then .ok (lV l) (g'.take g.length) else .ok (lV l) g' := by
  unfold lV
  rw [tidy_tup]
  by_cases h : okg g.length g g' = true <;> simp [h]
@[simp] theorem eq_rV (r : Rw) : eqO (rV r) (rV r) g = some true := eqO_self _ _ (by simp)
@[simp] theorem eq_psV (P : List Pc) : eqO (psV P) (psV P) g = some true := eqO_self _ _ (by simp)
@[simp] theorem eq_lV (l : Ps) : eqO (lV l) (lV l) g = some true := eqO_self _ _ (by simp)
@[simp] theorem eq_lVs (l : Ps) (t : List Nat) : eqO (lV l) (.str t) g = some false := by unfold lV; simp
@[simp] theorem eq_sLv (l : Ps) (t : List Nat) : eqO (.str t) (lV l) g = some false := by unfold lV; simp
@[simp] theorem len_lV (l : Ps) : bltV .len [lV l] g = .ok (.int l.length) g := by unfold lV; simp
@[simp] theorem len_psV (P : List Pc) : bltV .len [psV P] g = .ok (.int P.length) g := by unfold psV; simp
theorem idx_lV {l : Ps} {k : Nat} {P : List Pc} (h : l[k]? = some P) : idxO (lV l) (.int (k : Int)) g = some (psV P) := by
  unfold lV; rw [idxO_tup]; exact psVs_get h
@[simp] theorem slc_lV (l : Ps) (k : Nat) : slcO (lV l) none (some (k : Int)) g = .ok (lV (l.take k)) g := by
  unfold lV
  rw [slcO_tup, cutL_take]
  unfold psVs; rw [List.map_take]
theorem rVs_get {l : List Rw} {k : Nat} {r : Rw} (h : l[k]? = some r) : atI (rVs l) (k : Int) = some (rV r) := by
  rw [atI_nat]; simp [rVs, h]
theorem rVs_last (b : Rw) (l : List Rw) : atI (rVs (b :: l)) (-1) = some (rV (lastR b l)) := by
  have h := lastR_get b l
  have e : ixN (rVs (b :: l)).length (-1) = some l.length := by
    unfold ixN
    rw [rVs_len, List.length_cons, if_neg (by omega), if_pos (by omega)]
    congr 1; omega
  unfold atI
  rw [e]
  show (rVs (b :: l))[l.length]? = _
  simp only [rVs, List.getElem?_map, h]; rfl
theorem rVs_last2 (b : Rw) (l : List Rw) (x : Rw) : atI (rVs (b :: (l ++ [x]))) (-2) = some (rV (lastR b l)) := by
  have h := lastR_get b l
  have e : ixN (rVs (b :: (l ++ [x]))).length (-2) = some l.length := by
    unfold ixN
    rw [rVs_len, List.length_cons, List.length_append, if_neg (by omega), if_pos (by simp; omega)]
    congr 1; simp; omega
  unfold atI
  rw [e]
  show (rVs (b :: (l ++ [x])))[l.length]? = _
  simp only [rVs, List.getElem?_map]
  rw [← List.cons_append, List.getElem?_append_left (by simp), h]; rfl
end
/-! ### the rows are drawn -/
theorem draw_turn (F : Ft ft) {m : Nat} (hm : 3 ≤ m) {c0 c1 : Cell} (d : Dr [c0, c1] 1) (b : Rw) (l : List Rw) (hl : l.length ≤ 100) (hb : b.length ≤ 900) (hlb : ∀ x ∈ l, x.length ≤ 900) (v : Val) (x0 x2 : Option Val) (r : List (Option Val)) :
    ∃ (x : Rw) (c : Cell), Dr [c0, c] 1 ∧ x.length ≤ (lastR b l).length + 3 ∧ ∀ x5, fbody (run ft m) (.nm 5) b21_f2 v (x0 :: some (.ref 1) :: x2 :: some (.ref 2) :: some (.ref 3) :: x5 :: r) [c0, c1, .lst (rVs (b :: l)), .lst (psVs (poC b l))] =
      .nx (x0 :: some (.ref 1) :: x2 :: some (.ref 2) :: some (.ref 3) :: some v :: r) [c0, c, .lst (rVs (b :: (l ++ [x]))), .lst (psVs (poC b (l ++ [x])))] := by
  have hS : SL = 1000000 := rfl
  have hlast : (lastR b l).length ≤ 900 := by
    have h := lastR_get b l
    have := List.mem_of_getElem? h
    rcases List.mem_cons.mp this with e | e
    · rw [e]; exact hb
    · exact hlb _ e
  obtain ⟨x, c, e1, hx, d1, ok1⟩ := bent_run (iT := 15) (iP := 16) (iB := 18) F.h15 F.h16 F.h18 hm (d.app [.lst (rVs (b :: l)), .lst (psVs (poC b l))]) (lastR b l) hlast
  have d1' : Dr ([c0, c] ++ [.lst (rVs (b :: l)), .lst (psVs (poC b l))]) 1 := d1
  have d2 : Dr [c0, c] 1 := dr_cut d1' (by simp)
  have e1' : run ft m 18 [.ref 1, rV (lastR b l)] [c0, c1, .lst (rVs (b :: l)), .lst (psVs (poC b l))] = .ok (rV x) [c0, c, .lst (rVs (b :: l)), .lst (psVs (poC b l))] := e1
  have e2 : run ft m 4 [rV (lastR b l), rV x] [c0, c, .lst (rVs (b :: (l ++ [x]))), .lst (psVs (poC b l))] = .ok (psV (poF (lastR b l) x)) [c0, c, .lst (rVs (b :: (l ++ [x]))), .lst (psVs (poC b l))] := patches_of (iC := 0) (iS := 1) (iO := 4) F.h0 F.h1 F.h4 hm (lastR b l) x (by omega) (by omega) _
  refine ⟨x, c, d2, hx, fun x5 => ?_⟩
  have ok2 := ok1 4 (by omega)
  have a1 := rVs_last b l
  have a2 := rVs_last b (l ++ [x])
  have a3 := rVs_last2 b l x
  rw [lastR_app] at a2
  have ea : rVs (b :: (l ++ [x])) = rVs (b :: l) ++ [rV x] := by simp
  have eb : psVs (poC b (l ++ [x])) = psVs (poC b l) ++ [psV (poF (lastR b l) x)] := by rw [poC_app]; simp
  have okr := okvs_rVs (n := 4) (b :: l)
  have okp := okvs_psVs 4 (poC b l)
  have zr : (rVs (b :: l)).length < SL := by rw [rVs_len, List.length_cons]; omega
  have zp : (psVs (poC b l)).length < SL := by rw [psVs_len, poC_len]; omega
  rw [ea] at a2 a3 e2 ⊢
  rw [eb]
  generalize rVs (b :: l) = VR at *
  generalize psVs (poC b l) = VP at *
  simp [fbody, b21_f2, a1, a2, a3, e1', e2, ok2, okr, okp, zr, zp]
/-! ### neighbours, one by one -/
theorem nb_turn (F : Ft ft) {m : Nat} (hm : 4 ≤ m) (c0 c1 : Cell) (b : Rw) (l : List Rw) (hl : l.length ≤ 100) (hb : b.length ≤ 900) (hlb : ∀ x ∈ l, x.length ≤ 900) (i : Nat) (hi : i + 1 < l.length) (C3 : Cell) (x0 x1 x2 x5 x6 x7 x8 x9 x10 x11 : Option Val) (r : List (Option Val)) :
    ∃ y6 y7 y8 y9 y10 y11, fbody (run ft m) (.nm 5) b21_f1 (.int (i + 1 : Nat)) (x0 :: x1 :: x2 :: some (.ref 2) :: some (lV (poC b l)) :: x5 :: x6 :: x7 :: x8 :: x9 :: x10 :: x11 :: r) [c0, c1, .lst (rVs (b :: l)), C3] =
      .nx (x0 :: x1 :: x2 :: some (.ref 2) :: some (lV (poC b l)) :: some (.int (i + 1 : Nat)) :: y6 :: y7 :: y8 :: y9 :: y10 :: y11 :: r) [c0, c1, .lst (rVs (b :: l)), C3] := by
  obtain ⟨u, v, hu, hv, hP⟩ := poC_get i b l (by omega)
  obtain ⟨v', w, hv', hw, hQ⟩ := poC_get (i + 1) b l hi
  rw [hv] at hv'; cases hv'
  have mem : ∀ {k : Nat} {x : Rw}, (b :: l)[k]? = some x → x.length ≤ 900 := fun h => by
    rcases List.mem_cons.mp (List.mem_of_getElem? h) with e | e
    · rw [e]; exact hb
    · exact hlb _ e
  have lu := mem hu
  have lv := mem hv
  have lw := mem hw
  have vP := po_Vd u v
  have vQ := po_Vd v w
  obtain ⟨P, eP⟩ : ∃ P, P = poF u v := ⟨_, rfl⟩
  obtain ⟨Q, eQ⟩ : ∃ Q, Q = poF v w := ⟨_, rfl⟩
  rw [← eP] at hP vP
  rw [← eQ] at hQ vQ
  clear eP eQ
  have zP := vP.len
  have zQ := vQ.len
  obtain ⟨G, hG⟩ : ∃ G, G = [c0, c1, .lst (rVs (b :: l)), C3] := ⟨_, rfl⟩
  have g2 : G[2]? = some (.lst (rVs (b :: l))) := by rw [hG]; rfl
  rw [← hG]
  clear hG
  obtain ⟨t1, t2⟩ := told0 F hm P Q (by omega) (by omega) G
  have tb := turned_back (iB := 6) F.h6 (show 1 ≤ m by omega) P (by omega) G
  have ap := are_apart (iA := 2) F.h2 (show 1 ≤ m by omega) Q (tbF 0 P) (by omega) (by rw [tbF_len]; omega) G
  change run ft m 6 [psV P] G = .ok (psV _) G at tb
  change run ft m 2 [psV Q, psV (tbF 0 P)] G = _ at ap
  have ci : (((i + 1 : Nat)) : Int) = (i : Int) + 1 := by omega
  have a0 := idx_lV (g := G) hP
  have a1 := idx_lV (g := G) hQ
  have r0 := rVs_get hu
  have r2 : atI (rVs (b :: l)) ((i : Int) + 1 + 1) = some (rV w) := by
    have := rVs_get hw
    rw [show ((i + 1 + 1 : Nat) : Int) = (i : Int) + 1 + 1 by omega] at this
    exact this
  rw [ci] at a1
  simp only [ci]
  cases h : apF Q (tbF 0 P) with
  | false =>
    have hs : swpF P Q = none := by unfold swpF; rw [h]; rfl
    have t2 := t2 hs
    rw [h] at ap
    generalize rVs (b :: l) = VR at *
    refine ⟨some (psV P), some (psV Q), some (.str wMet), some (.bl false), x10, x11, ?_⟩
    simp [fbody, b21_f1, a0, a1, t2, tb, ap]
  | true =>
    obtain ⟨r3, q1, q2, q3, q4, q5⟩ := sw_on vP vQ h
    have hs : swpF P Q = some (psF Q (tbF 0 P), psF P (psF Q (tbF 0 P))) := by unfold swpF; rw [h, q1]; rfl
    have t1 := t1 _ hs
    rw [h] at ap
    have z1 : (psF Q (tbF 0 P)).length ≤ 10000 := by rw [psF_len]; omega
    have z2 : (psF P (psF Q (tbF 0 P))).length ≤ 10000 := by rw [psF_len]; omega
    have t3 := (told0 F hm _ _ z1 z2 G).1 _ q4
    have p1 : run ft m 5 [rV u, psV (psF Q (tbF 0 P))] G = .ok (rV r3) G := patched (iD := 5) F.h5 (show 1 ≤ m by omega) q2 (by omega) (by omega) G
    have p2 : run ft m 5 [rV r3, psV (psF P (psF Q (tbF 0 P)))] G = .ok (rV w) G := patched (iD := 5) F.h5 (show 1 ≤ m by omega) q3 (by omega) (by omega) G
    have es : eqO (.tup [psV P, psV Q]) (.tup [psV P, psV Q]) G = some true := eqO_self _ _ (by simp)
    have es2 : eqVs [psV P, psV Q] [psV P, psV Q] = true := eqVs_self _ 59 (by simp)
    generalize psF P (psF Q (tbF 0 P)) = O at *
    generalize psF Q (tbF 0 P) = N at *
    generalize rVs (b :: l) = VR at *
    refine ⟨some (psV P), some (psV Q), some (.tup [psV N, psV O]), some (.bl true), some (psV N), some (psV O), ?_⟩
    simp [fbody, b21_f1, a0, a1, t1, t3, tb, ap, g2, r0, r2, p1, p2, es2]
end KL

namespace KL
open KM KQ
variable {ft : Nat → Option Fn}
/-! ### the patches of the other side, past the row of patches -/
theorem pa_loop (F : Ft ft) {m : Nat} (hm : 2 ≤ m) (G : Gh) : ∀ (l : Ps) (O : List Pc) (l2 : Ps) (O2 : List Pc) (p : List (Option Val)) (x18 : Option Val) (r : List (Option Val)), p.length = 17 → Sh l → O.length ≤ 10000 → rebF l O = some (l2, O2) →
    ∃ y18, forL (fbody (run ft m) (.nm 18) b21_f0) (psVs l) (p ++ some (psV O) :: x18 :: r) G = .nx (p ++ some (psV O2) :: y18 :: r) G
  | [], O, l2, O2, p, x18, r, _, _, _, h => by cases h; exact ⟨x18, rfl⟩
  | P :: l, O, l2, O2, p, x18, r, hp, hs, hO, h => by
    have h : (if apF P O then (rebF l (psF O P)).map fun x => (psF P O :: x.1, x.2) else none) = some (l2, O2) := h
    by_cases ha : apF P O = true
    · rw [if_pos ha] at h
      cases e : rebF l (psF O P) with
      | none => rw [e] at h; cases h
      | some x =>
        obtain ⟨l3, O3⟩ := x
        rw [e] at h; cases h
        obtain ⟨y18, ih⟩ := pa_loop F hm G l (psF O P) l3 O3 p (some (psV P)) r hp (fun R hR => hs R (.tail _ hR)) (by rw [psF_len]; exact hO) e
        have c := (ps_call F hm O P hO (hs P (.head _)) G).1 (by rw [ap_comm]; exact ha)
        refine ⟨y18, ?_⟩
        rw [psVs_cons, forL_cons, ← ih]
        obtain ⟨a0, a1, a2, a3, a4, a5, a6, a7, a8, a9, a10, a11, a12, a13, a14, a15, a16, rfl⟩ : ∃ a0 a1 a2 a3 a4 a5 a6 a7 a8 a9 a10 a11 a12 a13 a14 a15 a16, p = [a0, a1, a2, a3, a4, a5, a6, a7, a8, a9, a10, a11, a12, a13, a14, a15, a16] := by
          rcases p with _ | ⟨a0, _ | ⟨a1, _ | ⟨a2, _ | ⟨a3, _ | ⟨a4, _ | ⟨a5, _ | ⟨a6, _ | ⟨a7, _ | ⟨a8, _ | ⟨a9, _ | ⟨a10, _ | ⟨a11, _ | ⟨a12, _ | ⟨a13, _ | ⟨a14, _ | ⟨a15, _ | ⟨a16, _ | ⟨a17, p⟩⟩⟩⟩⟩⟩⟩⟩⟩⟩⟩⟩⟩⟩⟩⟩⟩⟩ <;> simp at hp
          exact ⟨_, _, _, _, _, _, _, _, _, _, _, _, _, _, _, _, _, rfl⟩
        simp [fbody, b21_f0, c]
    · rw [if_neg ha] at h; cases h
theorem dropLast_take {α : Type} (l : List α) : l.dropLast = l.take (l.length - 1) := List.dropLast_eq_take

theorem law_true (F : Ft ft) (m : Nat) (ns : List Int) (hl : ns.length ≤ 63) : ∃ g, run ft (m + 6) 21 [.rol (ns.map .int)] [] = .ok (.bl true) g := by
  have hS : SL = 1000000 := rfl
  refine good_run F.h21 _ _ rfl ?_
  obtain ⟨s, e1⟩ := begin_run (ft := ft) (iB := 14) F.h14 (m + 4) hl
  have d1 := begin_dr ns s
  have ho1 : okc 0 (.lst [.ref 0, .int 0, .int 0, .int s]) = false := rfl
  generalize hc0 : Cell.lst (ns.map .int) = c0 at *
  generalize hc1 : Cell.lst [.ref 0, .int 0, .int 0, .int s] = c1 at *
  generalize hsc : Val.rol (ns.map .int) = sc at *
  show Good (exs _ b21 [some sc, none, none, none, none, none, none, none, none, none, none, none, none, none, none, none, none, none, none, none, none, none] [])
  unfold b21
  refine good_step (s1 := [some sc, some (.ref 1), none, none, none, none, none, none, none, none, none, none, none, none, none, none, none, none, none, none, none, none]) (g1 := [c0, c1]) (by simp [e1, ho1]) ?_
  obtain ⟨b, c2, e2, hb, _, d2⟩ := rows_run (iT := 15) (iP := 16) (iR := 17) F.h15 F.h16 F.h17 (m + 2) d1 6 (by omega)
  have d2' : Dr [c0, c2] 1 := d2
  have e2' : run ft (m + 5) 17 [.ref 1, .int 6] [c0, c1] = .ok (rV b) [c0, c2] := e2
  have ok2 : okc 2 c2 = true := dr_okcN (g := [c0, c1]) (n := 1) (by simp) (by omega) d2
  refine good_step (s1 := [some sc, some (.ref 1), some (rV b), none, none, none, none, none, none, none, none, none, none, none, none, none, none, none, none, none, none, none]) (g1 := [c0, c2]) (by simp [e2']) ?_
  refine good_step (s1 := [some sc, some (.ref 1), some (rV b), some (.ref 2), none, none, none, none, none, none, none, none, none, none, none, none, none, none, none, none, none, none]) (g1 := [c0, c2, .lst [rV b]]) (by simp [ok2]) ?_
  refine good_step (s1 := [some sc, some (.ref 1), some (rV b), some (.ref 2), some (.ref 3), none, none, none, none, none, none, none, none, none, none, none, none, none, none, none, none, none]) (g1 := [c0, c2, .lst [rV b], .lst []]) (by simp [ok2]) ?_
  obtain ⟨r, c3, e3, hr0, hr1, d3⟩ := take_run (iT := 15) F.h15 (m + 4) (d2'.app [.lst [rV b], .lst []]) (k := 4) (by omega) (by omega)
  obtain ⟨q, rfl⟩ : ∃ q : Nat, r = q := ⟨r.toNat, by omega⟩
  have d3' : Dr ([c0, c3] ++ [.lst [rV b], .lst []]) 1 := d3
  have d4 : Dr [c0, c3] 1 := dr_cut d3' (by simp)
  have e3' : run ft (m + 5) 15 [.ref 1, .int 4] [c0, c2, .lst [rV b], .lst []] = .ok (.int q) [c0, c3, .lst [rV b], .lst []] := e3
  obtain ⟨s', g', e4, l, c4, y5, hll, d5, hla, hlb, hs, hg⟩ := for_inv (body := fbody (run ft (m + 5)) (.nm 5) b21_f2) (it := .items (rng (q + 1))) (xs := rng (q + 1)) (s := [some sc, some (.ref 1), some (rV b), some (.ref 2), some (.ref 3), none, none, none, none, none, none, none, none, none, none, none, none, none, none, none, none, none]) (g := [c0, c3, .lst [rV b], .lst []])
    (fun i s g => ∃ (l : List Rw) (c : Cell) (y5 : Option Val), l.length = i ∧ Dr [c0, c] 1 ∧ (lastR b l).length ≤ 6 + 3 * i ∧ (∀ x ∈ l, x.length ≤ 6 + 3 * i) ∧ s = [some sc, some (.ref 1), some (rV b), some (.ref 2), some (.ref 3), y5, none, none, none, none, none, none, none, none, none, none, none, none, none, none, none, none] ∧ g = [c0, c, .lst (rVs (b :: l)), .lst (psVs (poC b l))])
    ⟨[], c3, none, rfl, d4, hb, (fun x hx => nomatch hx), rfl, rfl⟩ (fun _ _ _ _ _ => rfl) (by rw [rng_len, WF_eq]; omega)
    (fun i x s g ⟨l, c, y5, hll, dd, hla, hlb, hs, hg⟩ hx => by
      obtain ⟨_, hi⟩ := rng_get hx
      subst hs hg
      obtain ⟨z, c', dz, hz, he⟩ := draw_turn F (show 3 ≤ m + 5 by omega) dd b l (by omega) (by omega) (fun x hx => by have := hlb x hx; omega) x (some sc) (some (rV b)) [none, none, none, none, none, none, none, none, none, none, none, none, none, none, none, none]
      refine ⟨_, _, .inl (he y5), l ++ [z], c', some x, by simp [hll], dz, by rw [lastR_app]; omega, fun w hw => ?_, rfl, rfl⟩
      rcases List.mem_append.mp hw with h | h
      · have := hlb w h; omega
      · rw [List.mem_singleton.mp h]; omega)
  subst hs hg
  rw [rng_len] at hll hla hlb
  have en : (1 + (q : Int)).toNat = q + 1 := by omega
  have hint : intsIn (1 + (q : Int)) = true := intsIn_of (by omega) (by omega)
  have okb3 : okc 4 c3 = true := dr_okcN (g := [c0, c2]) (n := 1) (by simp) (by omega) d4
  refine good_step (s1 := [some sc, some (.ref 1), some (rV b), some (.ref 2), some (.ref 3), y5, none, none, none, none, none, none, none, none, none, none, none, none, none, none, none, none]) (g1 := [c0, c4, .lst (rVs (b :: l)), .lst (psVs (poC b l))]) (by simp [e3', en, hint, e4]) ?_
  clear e1 e2 e2' e3 e3' e4
  have hN : (poC b l).length = l.length := poC_len b l
  have hl3 : l.length ≤ 1000 := by omega
  have hch : Ch 18 b (poC b l) (lastR b l) := poC_ch b l (by omega) fun x hx => by have := hlb x hx; omega
  have hsh : Sh (poC b l) := fun P hP => by have := hch.pc P hP; omega
  have hlast := rVs_last b l
  have ok4 : okc 4 c4 = true := dr_okcN (g := [c0, c2]) (n := 1) (by simp) (by omega) d5
  refine good_step (s1 := [some sc, some (.ref 1), some (rV b), some (.ref 2), some (lV (poC b l)), y5, none, none, none, none, none, none, none, none, none, none, none, none, none, none, none, none]) (g1 := [c0, c4, .lst (rVs (b :: l)), .lst (psVs (poC b l))]) (by
    have okp := okvs_psVs 4 (poC b l)
    unfold lV
    generalize psVs (poC b l) = VP at *
    simp [okp]) ?_
  obtain ⟨C3, hC3⟩ : ∃ C, C = Cell.lst (psVs (poC b l)) := ⟨_, rfl⟩
  rw [← hC3]
  have rs : ∀ {B : Nat} {l2 : Ps} {r2 : Rw}, B ≤ 10000 → l2.length ≤ 1000 → Ch B b l2 r2 → ∀ g, run ft (m + 5) 7 [rV b, lV l2] g = .ok (rV r2) g := fun hB h2 c g => run_series F (show 2 ≤ m + 5 by omega) hB c h2 g
  have rs1 := rs (by omega) (by omega) hch
  refine good_step (s1 := [some sc, some (.ref 1), some (rV b), some (.ref 2), some (lV (poC b l)), y5, none, none, none, none, none, none, none, none, none, none, none, none, none, none, none, none]) (g1 := [c0, c4, .lst (rVs (b :: l)), C3]) (by
    generalize rVs (b :: l) = VR at *
    simp [rs1, hlast]) ?_
  obtain ⟨s', g', e4, y5, y6, y7, y8, y9, y10, y11, hs, hg⟩ := for_inv (body := fbody (run ft (m + 5)) (.nm 5) b21_f1) (it := .items (rngF 1 (l.length - 1))) (xs := rngF 1 (l.length - 1)) (s := [some sc, some (.ref 1), some (rV b), some (.ref 2), some (lV (poC b l)), y5, none, none, none, none, none, none, none, none, none, none, none, none, none, none, none, none]) (g := [c0, c4, .lst (rVs (b :: l)), C3])
    (fun i s g => ∃ (y5 y6 y7 y8 y9 y10 y11 : Option Val), s = [some sc, some (.ref 1), some (rV b), some (.ref 2), some (lV (poC b l)), y5, y6, y7, y8, y9, y10, y11, none, none, none, none, none, none, none, none, none, none] ∧ g = [c0, c4, .lst (rVs (b :: l)), C3])
    ⟨y5, none, none, none, none, none, none, rfl, rfl⟩ (fun _ _ _ _ _ => rfl) (by rw [rngF_len, WF_eq]; omega)
    (fun i x s g ⟨y5, y6, y7, y8, y9, y10, y11, hs, hg⟩ hx => by
      obtain ⟨hx, hi⟩ := rngF_get hx
      subst hs hg hx
      obtain ⟨z6, z7, z8, z9, z10, z11, he⟩ := nb_turn F (show 4 ≤ m + 5 by omega) c0 c4 b l (by omega) (by omega) (fun x hx => by have := hlb x hx; omega) i (by omega) C3 (some sc) (some (.ref 1)) (some (rV b)) y5 y6 y7 y8 y9 y10 y11 [none, none, none, none, none, none, none, none, none, none]
      rw [show (1 : Int) + (i : Int) = ((i + 1 : Nat) : Int) by omega]
      exact ⟨_, _, .inl he, _, _, _, _, _, _, _, rfl, rfl⟩)
  subst hs hg
  have en2 : ((l.length : Int) - 1).toNat = l.length - 1 := by omega
  have hint2 : intsIn (l.length : Int) = true := intsIn_of (by omega) (by omega)
  have hint1 : intsIn 1 = true := rfl
  refine good_step (s1 := [some sc, some (.ref 1), some (rV b), some (.ref 2), some (lV (poC b l)), y5, y6, y7, y8, y9, y10, y11, none, none, none, none, none, none, none, none, none, none]) (g1 := [c0, c4, .lst (rVs (b :: l)), C3]) (by
    generalize rVs (b :: l) = VR at *
    simp [hN, en2, hint2, hint1, e4]) ?_
  clear e4
  obtain ⟨r, c5, e5, hr0, hr1, d6⟩ := take_run (iT := 15) F.h15 (m + 4) (d5.app [.lst (rVs (b :: l)), C3]) (k := (l.length : Int)) (by omega) (by omega)
  obtain ⟨k, rfl⟩ : ∃ k : Nat, r = k := ⟨r.toNat, by omega⟩
  have d6' : Dr ([c0, c5] ++ [.lst (rVs (b :: l)), C3]) 1 := d6
  have d7 : Dr [c0, c5] 1 := dr_cut d6' (by simp)
  have e5' : run ft (m + 5) 15 [.ref 1, .int (l.length : Int)] [c0, c4, .lst (rVs (b :: l)), C3] = .ok (.int k) [c0, c5, .lst (rVs (b :: l)), C3] := e5
  have hk : k < l.length := by omega
  have ok5 : okc 4 c5 = true := dr_okcN (g := [c0, c2]) (n := 1) (by simp) (by omega) d7
  refine good_step (s1 := [some sc, some (.ref 1), some (rV b), some (.ref 2), some (lV (poC b l)), y5, y6, y7, y8, y9, y10, y11, some (.int k), none, none, none, none, none, none, none, none, none]) (g1 := [c0, c5, .lst (rVs (b :: l)), C3]) (by
    generalize rVs (b :: l) = VR at *
    simp [hN, e5', ok5]) ?_
  clear e5 e5'
  obtain ⟨v8, t8, u8, h8⟩ : ∃ v8, (∀ g, run ft (m + 5) 19 [.int 1, lV (poC b l), .int k] g = .ok v8 g) ∧ (∀ g, run ft (m + 5) 20 [lV (poC b l), .int k] g = .ok v8 g) ∧ (v8 = .str wMet ∨ ∃ l2, v8 = lV l2 ∧ ∀ g, run ft (m + 5) 7 [rV b, lV l2] g = .ok (rV (lastR b l)) g) := by
    cases h : pullF k (poC b l) with
    | none => exact ⟨.str wMet, fun g => (told1 F (show 5 ≤ m + 5 by omega) _ hsh k (by omega) (by omega) g).2 h, fun g => (law_pulled F (show 5 ≤ m + 5 by omega) _ hsh k (by omega) (by omega) g).2 h, .inl rfl⟩
    | some l2 =>
      have hc2 := hch.pull h
      have hlen : l2.length = l.length := by
        have : ∀ (k : Nat) (l l2 : Ps), pullF k l = some l2 → Sh l → l2.length = l.length := by
          intro k
          induction k with
          | zero => intro l l2 h _; cases h; rfl
          | succ k ih =>
            intro l l2 h hs
            have h : (swAt k l).bind (pullF k) = some l2 := h
            cases e : swAt k l with
            | none => rw [e] at h; cases h
            | some l3 =>
              rw [e] at h
              obtain ⟨a, b, _⟩ := swAt_sh hs e
              rw [ih l3 l2 h a, b]
        rw [this k _ _ h hsh, hN]
      have hp : 2 ^ k ≤ 2 ^ 4 := Nat.pow_le_pow_right (by omega) (by omega)
      have hp2 : 2 ^ k * 18 ≤ 2 ^ 4 * 18 := Nat.mul_le_mul_right _ hp
      exact ⟨lV l2, fun g => (told1 F (show 5 ≤ m + 5 by omega) _ hsh k (by omega) (by omega) g).1 _ h, fun g => (law_pulled F (show 5 ≤ m + 5 by omega) _ hsh k (by omega) (by omega) g).1 _ h, .inr ⟨l2, rfl, rs (by omega) (by omega) hc2⟩⟩
  refine good_step (s1 := [some sc, some (.ref 1), some (rV b), some (.ref 2), some (lV (poC b l)), y5, y6, y7, some v8, y9, y10, y11, some (.int k), none, none, none, none, none, none, none, none, none]) (g1 := [c0, c5, .lst (rVs (b :: l)), C3]) (by
    generalize rVs (b :: l) = VR at *
    rcases h8 with rfl | ⟨l2, rfl, h8⟩ <;> simp [t8]) ?_
  refine good_step (s1 := [some sc, some (.ref 1), some (rV b), some (.ref 2), some (lV (poC b l)), y5, y6, y7, some v8, y9, y10, y11, some (.int k), none, none, none, none, none, none, none, none, none]) (g1 := [c0, c5, .lst (rVs (b :: l)), C3]) (by
    generalize rVs (b :: l) = VR at *
    rcases h8 with rfl | ⟨l2, rfl, h8⟩ <;> simp [u8]) ?_
  refine good_step (s1 := [some sc, some (.ref 1), some (rV b), some (.ref 2), some (lV (poC b l)), y5, y6, y7, some v8, y9, y10, y11, some (.int k), none, none, none, none, none, none, none, none, none]) (g1 := [c0, c5, .lst (rVs (b :: l)), C3]) (by
    generalize rVs (b :: l) = VR at *
    rcases h8 with rfl | ⟨l2, rfl, h8⟩
    · simp
    · simp [h8, hlast]) ?_
  clear t8 u8
  obtain ⟨v13, t13, h13⟩ : ∃ v13, (∀ g, run ft (m + 5) 19 [.int 2, lV (poC b l), .int k] g = .ok v13 g) ∧ ((v13 = .str wMet ∧ k + 1 < l.length) ∨ ∃ l2 w, v13 = lV l2 ∧ l2.length = l.length - 1 ∧ l2.take k = (poC b l).take k ∧ (∀ g, run ft (m + 5) 7 [rV b, lV l2] g = .ok (rV w) g) ∧ (l.length - 1 = k → w = lastR b (l.take k))) := by
    cases h : dropG ((poC b l).length - 1 - k) k (poC b l) with
    | none =>
      refine ⟨.str wMet, fun g => (told2 F (show 5 ≤ m + 5 by omega) _ hsh k (by omega) (by omega) g).2 h, .inl ⟨rfl, ?_⟩⟩
      by_cases z : k + 1 < l.length
      · exact z
      · rw [show (poC b l).length - 1 - k = 0 by omega] at h
        cases h
    | some l3 =>
      obtain ⟨q1, q2, q3⟩ := hch.dropG h
      have hp : 2 ^ ((poC b l).length - 1 - k) ≤ 2 ^ 4 := Nat.pow_le_pow_right (by omega) (by omega)
      have hp2 : 2 ^ ((poC b l).length - 1 - k) * 18 ≤ 2 ^ 4 * 18 := Nat.mul_le_mul_right _ hp
      have hlen : l3.dropLast.length = l.length - 1 := by rw [List.length_dropLast]; omega
      have htk : l3.dropLast.take k = (poC b l).take k := by
        rw [dropLast_take, List.take_take, Nat.min_eq_left (by omega), q2]
      by_cases z : l.length - 1 = k
      · have e0 : l3.dropLast = poC b (l.take k) := by
          rw [← poC_take, ← htk, List.take_of_length_le (by omega)]
        have hck : Ch 18 b (poC b (l.take k)) (lastR b (l.take k)) := poC_ch b _ (by omega) fun x hx => by have := hlb x (List.mem_of_mem_take hx); omega
        exact ⟨lV l3.dropLast, fun g => (told2 F (show 5 ≤ m + 5 by omega) _ hsh k (by omega) (by omega) g).1 _ h, .inr ⟨_, _, rfl, hlen, htk, by rw [e0]; exact rs (by omega) (by rw [poC_len, List.length_take]; omega) hck, fun _ => rfl⟩⟩
      · obtain ⟨w, hw⟩ := q1.init
        exact ⟨lV l3.dropLast, fun g => (told2 F (show 5 ≤ m + 5 by omega) _ hsh k (by omega) (by omega) g).1 _ h, .inr ⟨_, w, rfl, hlen, htk, rs (Nat.le_trans hp2 (by decide)) (Nat.le_trans (Nat.le_of_eq hlen) (Nat.le_trans (Nat.sub_le _ _) hl3)) hw, fun z2 => absurd z2 z⟩⟩
  refine good_step (s1 := [some sc, some (.ref 1), some (rV b), some (.ref 2), some (lV (poC b l)), y5, y6, y7, some v8, y9, y10, y11, some (.int k), some v13, none, none, none, none, none, none, none, none]) (g1 := [c0, c5, .lst (rVs (b :: l)), C3]) (by
    generalize rVs (b :: l) = VR at *
    rcases h13 with ⟨rfl, _⟩ | ⟨l2, w, rfl, _⟩ <;> simp [t13]) ?_
  clear t13
  have hrk := rVs_get (lastR_take k b l (Nat.le_of_lt hk))
  obtain ⟨y14, e14⟩ : ∃ y14, ex (run ft (m + 5)) (.ife (.e (.cmp .ne (.var 13) (.cst (.str [109, 101, 101, 116])))) (.cons (.ife (.or (.cons (.e (.cmp .ne (.blt .len (.cons (.var 13) .nil)) (.bin .sub (.blt .len (.cons (.var 4) .nil)) (.cst (.int 1))))) (.cons (.e (.cmp .ne (.slc (.var 13) .no (.e (.var 12))) (.slc (.var 4) .no (.e (.var 12))))) .nil))) (.cons (.ret (.cst (.bl false))) .nil) (.nil))
  (.cons (.asg (.nm 14) (.call 7 (.cons (.var 2) (.cons (.var 13) .nil))))
  (.cons (.ife (.and (.cons (.e (.cmp .eq (.blt .len (.cons (.var 13) .nil)) (.var 12))) (.cons (.e (.cmp .ne (.var 14) (.idx (.var 3) (.var 12)))) .nil))) (.cons (.ret (.cst (.bl false))) .nil) (.nil)) .nil))) (.cons (.ife (.e (.cmp .eq (.var 12) (.bin .sub (.blt .len (.cons (.var 4) .nil)) (.cst (.int 1))))) (.cons (.ret (.cst (.bl false))) .nil) (.nil)) .nil)) [some sc, some (.ref 1), some (rV b), some (.ref 2), some (lV (poC b l)), y5, y6, y7, some v8, y9, y10, y11, some (.int k), some v13, none, none, none, none, none, none, none, none] [c0, c5, .lst (rVs (b :: l)), C3] = .nx [some sc, some (.ref 1), some (rV b), some (.ref 2), some (lV (poC b l)), y5, y6, y7, some v8, y9, y10, y11, some (.int k), some v13, y14, none, none, none, none, none, none, none] [c0, c5, .lst (rVs (b :: l)), C3] := by
    have ci : ((l.length - 1 : Nat) : Int) = (l.length : Int) - 1 := by clear h13; omega
    rcases h13 with ⟨rfl, hk2⟩ | ⟨l2, w, rfl, h1, h2, h3, h4⟩
    · refine ⟨none, ?_⟩
      have hne : ((k : Int) == (l.length : Int) - 1) = false := by rw [beq_eq_false_iff_ne]; omega
      generalize rVs (b :: l) = VR at *
      simp [hN, hne]
    · refine ⟨some (rV w), ?_⟩
      by_cases z : l.length - 1 = k
      · have hw := h4 z
        subst hw
        have z2 : (l.length : Int) - 1 = k := by omega
        generalize rVs (b :: l) = VR at *
        simp [hN, h1, ci, h2, h3, z2, hrk]
      · have z2 : ((l.length : Int) - 1 == (k : Int)) = false := by rw [beq_eq_false_iff_ne]; omega
        generalize rVs (b :: l) = VR at *
        simp [hN, h1, ci, h2, h3, z2, hrk]
  refine good_step e14 ?_
  clear e14 h13 h8
  obtain ⟨side, c6, e6, hside, d8, ok6⟩ := bent_run (iT := 15) (iP := 16) (iB := 18) F.h15 F.h16 F.h18 (show 3 ≤ m + 5 by omega) (d7.app [.lst (rVs (b :: l)), C3]) b (by omega)
  have e6' : run ft (m + 5) 18 [.ref 1, rV b] [c0, c5, .lst (rVs (b :: l)), C3] = .ok (rV side) [c0, c6, .lst (rVs (b :: l)), C3] := e6
  have ok6' := ok6 4 (by omega)
  refine good_step (s1 := [some sc, some (.ref 1), some (rV b), some (.ref 2), some (lV (poC b l)), y5, y6, y7, some v8, y9, y10, y11, some (.int k), some v13, y14, some (rV side), none, none, none, none, none, none]) (g1 := [c0, c6, .lst (rVs (b :: l)), C3]) (by
    generalize rVs (b :: l) = VR at *
    simp [e6', ok6']) ?_
  clear e6 e6'
  have po := fun (one other : Rw) (h1 : one.length ≤ 1000) (h2 : other.length ≤ 1000) (g : Gh) => patches_of (iC := 0) (iS := 1) (iO := 4) F.h0 F.h1 F.h4 (show 3 ≤ m + 5 by omega) one other h1 h2 g
  have p1 : ∀ g, run ft (m + 5) 4 [rV b, rV side] g = .ok (psV (poF b side)) g := po b side (by omega) (by omega)
  have vO := po_Vd b side
  obtain ⟨O, hO⟩ : ∃ O, O = poF b side := ⟨_, rfl⟩
  rw [← hO] at p1 vO
  clear hO
  have zO := vO.len
  refine good_step (s1 := [some sc, some (.ref 1), some (rV b), some (.ref 2), some (lV (poC b l)), y5, y6, some (psV O), some v8, y9, y10, y11, some (.int k), some v13, y14, some (rV side), none, none, none, none, none, none]) (g1 := [c0, c6, .lst (rVs (b :: l)), C3]) (by
    generalize rVs (b :: l) = VR at *
    simp [p1]) ?_
  obtain ⟨v16, t16, h16⟩ : ∃ v16, (∀ g, run ft (m + 5) 19 [.int 3, lV (poC b l), psV O] g = .ok v16 g) ∧ ((v16 = .str wMet ∧ (l.length = 1 → ∃ P, (poC b l)[0]? = some P ∧ P.length ≤ 10000 ∧ apF P O = false)) ∨ ∃ l2 O2 s2, v16 = lV l2 ∧ rebF (poC b l) O = some (l2, O2) ∧ Ch 81 side l2 s2 ∧ Vd (lastR b l) O2 s2 ∧ s2.length ≤ 81 ∧ l2.length = l.length) := by
    cases h : rebF (poC b l) O with
    | none =>
      refine ⟨.str wMet, fun g => (told3 F (show 4 ≤ m + 5 by omega) _ hsh O (by omega) (by omega) g).2 h, .inl ⟨rfl, fun h1 => ?_⟩⟩
      obtain ⟨P, hP⟩ : ∃ P, poC b l = [P] := List.length_eq_one_iff.mp (by omega)
      rw [hP] at h hsh ⊢
      refine ⟨P, rfl, hsh P (.head _), ?_⟩
      cases ha : apF P O with
      | false => rfl
      | true =>
        have h : (if apF P O then (rebF [] (psF O P)).map fun x => (psF P O :: x.1, x.2) else none) = none := h
        rw [ha, if_pos rfl] at h
        cases h
    | some x =>
      obtain ⟨l2, O2⟩ := x
      obtain ⟨s2, q1, q2, q3⟩ := Ch.reb hch vO (show side.length ≤ 9 by omega) h
      obtain ⟨_, q4⟩ := reb_all h
      have hB : 9 + (poC b l).length * 18 ≤ 81 := by omega
      exact ⟨lV l2, fun g => (told3 F (show 4 ≤ m + 5 by omega) _ hsh O (by omega) (by omega) g).1 _ _ h, .inr ⟨l2, O2, s2, rfl, rfl, q1.mono hB, q2, by omega, by omega⟩⟩
  refine good_step (s1 := [some sc, some (.ref 1), some (rV b), some (.ref 2), some (lV (poC b l)), y5, y6, some (psV O), some v8, y9, y10, y11, some (.int k), some v13, y14, some (rV side), some v16, none, none, none, none, none]) (g1 := [c0, c6, .lst (rVs (b :: l)), C3]) (by
    generalize rVs (b :: l) = VR at *
    rcases h16 with ⟨rfl, _⟩ | ⟨l2, O2, s2, rfl, _⟩ <;> simp [t16]) ?_
  obtain ⟨y17, y18, e18⟩ : ∃ y17 y18, ex (run ft (m + 5)) (.ife (.e (.cmp .ne (.var 16) (.cst (.str [109, 101, 101, 116])))) (.cons (.asg (.nm 17) (.var 7))
  (.cons (.fr (.nm 18) .plain (.cons (.var 4) .nil) b21_f0)
  (.cons (.ife (.e (.cmp .ne (.call 7 (.cons (.var 15) (.cons (.var 16) .nil))) (.call 5 (.cons (.idx (.var 3) (.neg (.cst (.int 1)))) (.cons (.var 17) .nil))))) (.cons (.ret (.cst (.bl false))) .nil) (.nil)) .nil))) (.cons (.ife (.and (.cons (.e (.cmp .eq (.blt .len (.cons (.var 4) .nil)) (.cst (.int 1)))) (.cons (.e (.call 2 (.cons (.idx (.var 4) (.cst (.int 0))) (.cons (.var 7) .nil)))) .nil))) (.cons (.ret (.cst (.bl false))) .nil) (.nil)) .nil)) [some sc, some (.ref 1), some (rV b), some (.ref 2), some (lV (poC b l)), y5, y6, some (psV O), some v8, y9, y10, y11, some (.int k), some v13, y14, some (rV side), some v16, none, none, none, none, none] [c0, c6, .lst (rVs (b :: l)), C3] = .nx [some sc, some (.ref 1), some (rV b), some (.ref 2), some (lV (poC b l)), y5, y6, some (psV O), some v8, y9, y10, y11, some (.int k), some v13, y14, some (rV side), some v16, y17, y18, none, none, none] [c0, c6, .lst (rVs (b :: l)), C3] := by
    rcases h16 with ⟨rfl, hk2⟩ | ⟨l2, O2, s2, rfl, h1, h2, h3, h4, h5⟩
    · refine ⟨none, none, ?_⟩
      by_cases z : l.length = 1
      · obtain ⟨P, q1, q2, q3⟩ := hk2 z
        have ap : ∀ g, run ft (m + 5) 2 [psV P, psV O] g = .ok (.bl (apF P O)) g := fun g => are_apart (iA := 2) F.h2 (show 1 ≤ m + 5 by omega) P O (by omega) (by omega) g
        rw [q3] at ap
        have i0 : ∀ g, idxO (lV (poC b l)) (.int 0) g = some (psV P) := fun g => idx_lV (g := g) q1
        have z2 : ((l.length : Int) == 1) = true := by rw [beq_iff_eq]; omega
        generalize rVs (b :: l) = VR at *
        simp [hN, z, i0, ap]
      · have z2 : ((l.length : Int) == 1) = false := by rw [beq_eq_false_iff_ne]; omega
        generalize rVs (b :: l) = VR at *
        simp [hN, z2]
    · obtain ⟨y18, e⟩ := pa_loop F (show 2 ≤ m + 5 by omega) [c0, c6, .lst (rVs (b :: l)), C3] (poC b l) O l2 O2 [some sc, some (.ref 1), some (rV b), some (.ref 2), some (lV (poC b l)), y5, y6, some (psV O), some v8, y9, y10, y11, some (.int k), some v13, y14, some (rV side), some (lV l2)] none [none, none, none] rfl hsh (by omega) h1
      refine ⟨some (psV O2), y18, ?_⟩
      have e0 := for_items (body := fbody (run ft (m + 5)) (.nm 18) b21_f0) (xs := psVs (poC b l)) (s := [some sc, some (.ref 1), some (rV b), some (.ref 2), some (lV (poC b l)), y5, y6, some (psV O), some v8, y9, y10, y11, some (.int k), some v13, y14, some (rV side), some (lV l2), some (psV O), none, none, none, none]) (g := [c0, c6, .lst (rVs (b :: l)), C3]) (by rw [psVs_len, WF_eq]; omega)
      have e' : forL (fbody (run ft (m + 5)) (.nm 18) b21_f0) (psVs (poC b l)) [some sc, some (.ref 1), some (rV b), some (.ref 2), some (lV (poC b l)), y5, y6, some (psV O), some v8, y9, y10, y11, some (.int k), some v13, y14, some (rV side), some (lV l2), some (psV O), none, none, none, none] [c0, c6, .lst (rVs (b :: l)), C3] = .nx [some sc, some (.ref 1), some (rV b), some (.ref 2), some (lV (poC b l)), y5, y6, some (psV O), some v8, y9, y10, y11, some (.int k), some v13, y14, some (rV side), some (lV l2), some (psV O2), y18, none, none, none] [c0, c6, .lst (rVs (b :: l)), C3] := e
      rw [e'] at e0
      have mp : ∀ g, mkPlain [lV (poC b l)] g = some (.items (psVs (poC b l))) := fun g => rfl
      have r1 : ∀ g, run ft (m + 5) 7 [rV side, lV l2] g = .ok (rV s2) g := fun g => run_series F (show 2 ≤ m + 5 by omega) (show 81 ≤ 10000 by omega) h2 (by omega) g
      have r2 : ∀ g, run ft (m + 5) 5 [rV (lastR b l), psV O2] g = .ok (rV s2) g := fun g => patched (iD := 5) F.h5 (show 1 ≤ m + 5 by omega) h3 (by omega) (by omega) g
      generalize psVs (poC b l) = VP at *
      generalize rVs (b :: l) = VR at *
      simp [mp, e0, r1, r2, hlast]
  refine good_step e18 ?_
  clear e18 h16
  have sq : ∀ g, run ft (m + 5) 12 [rV b, lV (poC b l)] g = .ok (psV (poF b (lastR b l))) g := fun g => squeezed F (show 4 ≤ m + 5 by omega) (show 18 ≤ 1000 by omega) hch (by omega) g
  have hlz : (lastR b l).length ≤ 18 := hch.lst
  have p2 : ∀ g, run ft (m + 5) 4 [rV b, rV (lastR b l)] g = .ok (psV (poF b (lastR b l))) g := po b (lastR b l) (by omega) (by omega)
  have vZ := po_Vd b (lastR b l)
  obtain ⟨Z, hZ⟩ : ∃ Z, Z = poF b (lastR b l) := ⟨_, rfl⟩
  rw [← hZ] at sq p2 vZ
  clear hZ
  have zZ := vZ.len
  have p3 : ∀ g, run ft (m + 5) 5 [rV b, psV Z] g = .ok (rV (lastR b l)) g := fun g => patched (iD := 5) F.h5 (show 1 ≤ m + 5 by omega) vZ (by omega) (by omega) g
  refine good_step (s1 := [some sc, some (.ref 1), some (rV b), some (.ref 2), some (lV (poC b l)), y5, y6, some (psV O), some v8, y9, y10, y11, some (.int k), some v13, y14, some (rV side), some v16, y17, y18, some (psV Z), none, none]) (g1 := [c0, c6, .lst (rVs (b :: l)), C3]) (by
    generalize rVs (b :: l) = VR at *
    simp [sq]) ?_
  refine good_step (s1 := [some sc, some (.ref 1), some (rV b), some (.ref 2), some (lV (poC b l)), y5, y6, some (psV O), some v8, y9, y10, y11, some (.int k), some v13, y14, some (rV side), some v16, y17, y18, some (psV Z), none, none]) (g1 := [c0, c6, .lst (rVs (b :: l)), C3]) (by
    generalize rVs (b :: l) = VR at *
    simp [p2, p3, hlast]) ?_
  have sp : ∀ g, run ft (m + 5) 13 [psV Z] g = .ok (lV (Z.reverse.map ([·]))) g := fun g => split_pat F (show 1 ≤ m + 5 by omega) Z (by omega) g
  have hsp : ∀ g, run ft (m + 5) 7 [rV b, lV (Z.reverse.map ([·]))] g = .ok (rV (lastR b l)) g := rs (show 36 ≤ 10000 by omega) (by simp; omega) (vZ.split (by omega))
  have hspl : (Z.reverse.map ([·])).length = Z.length := by simp
  have hone : ∀ P ∈ Z.reverse.map ([·]), P.length = 1 := fun P hP => by
    obtain ⟨p, _, rfl⟩ := List.mem_map.mp hP; rfl
  generalize Z.reverse.map ([·]) = S at *
  refine good_step (s1 := [some sc, some (.ref 1), some (rV b), some (.ref 2), some (lV (poC b l)), y5, y6, some (psV O), some v8, y9, y10, y11, some (.int k), some v13, y14, some (rV side), some v16, y17, y18, some (psV Z), some (lV S), none]) (g1 := [c0, c6, .lst (rVs (b :: l)), C3]) (by
    generalize rVs (b :: l) = VR at *
    simp [sp]) ?_
  have e := comp_pure (body := cbody (run ft (m + 5)) [some sc, some (.ref 1), some (rV b), some (.ref 2), some (lV (poC b l)), y5, y6, some (psV O), some v8, y9, y10, y11, some (.int k), some v13, y14, some (rV side), some v16, y17, y18, some (psV Z), some (lV S), none] [21] (.nm 21) (.and .nil) b21_e0) (it := .items (psVs S)) (xs := psVs S) (g := [c0, c6, .lst (rVs (b :: l)), C3]) (fun _ => some (.bl true)) (fun i => rfl) (by rw [psVs_len]; omega) fun x hx => by
    obtain ⟨P, hP, rfl⟩ := List.mem_map.mp hx
    have := hone P hP
    simp [cbody, b21_e0, this]
  have mp : ∀ g, mkPlain [lV S] g = some (.items (psVs S)) := fun g => rfl
  have hbl : ∀ (L : List Val), blsOf (L.filterMap fun _ => some (Val.bl true)) = some (List.replicate L.length true) := by
    intro L
    induction L with
    | nil => rfl
    | cons x L ih =>
      show (blsOf (L.filterMap fun _ => some (Val.bl true))).map (true :: ·) = _
      rw [ih]; rfl
  have hb2 := hbl (psVs S)
  have hall : ∀ n, (List.replicate n true).all id = true := fun n => by simp
  generalize (psVs S).filterMap (fun _ => some (Val.bl true)) = VB at *
  refine good_ret (g1 := [c0, c6, .lst (rVs (b :: l)), C3, .lst VB]) ?_
  generalize psVs S = VS at *
  generalize rVs (b :: l) = VR at *
  simp [hspl, hsp, hlast, mp, e, hb2, hall]
end KL

namespace KL
open PySem PySem.Spec PyProof.Rows L2 KM
abbrev top (i : Nat) : Stmt := PySem.Challenge.pw_keptmarks_k35_whole_series_of_patches.main.body.getD i (.Pass ⟨0, 0, 0, 0⟩)
def e0 : FnE := ⟨"common_table", top 4, ["one", "other"], ["one", "other", "table", "i", "j", "best", "_"], b0⟩ -- common_table
def e1 : FnE := ⟨"script_of", top 5, ["one", "other"], ["one", "other", "table", "found", "i", "j"], b1⟩ -- script_of
def e2 : FnE := ⟨"are_apart", top 10, ["one", "other"], ["one", "other", "start", "old", "_", "begin", "gone"], b2⟩ -- are_apart
def e3 : FnE := ⟨"past", top 11, ["one", "other"], ["one", "other", "found", "start", "old", "new", "more", "begin", "come", "gone"], b3⟩ -- past
def e4 : FnE := ⟨"patches_of", top 13, ["one", "other"], ["one", "other", "found", "start", "old", "new", "step"], b4⟩ -- patches_of
def e5 : FnE := ⟨"patched", top 14, ["rows", "patches"], ["rows", "patches", "found", "place", "last", "start", "old", "new"], b5⟩ -- patched
def e6 : FnE := ⟨"turned_back", top 15, ["patches"], ["patches", "found", "more", "start", "old", "new"], b6⟩ -- turned_back
def e7 : FnE := ⟨"run_series", top 17, ["rows", "series"], ["rows", "series", "patches"], b7⟩ -- run_series
def e8 : FnE := ⟨"swapped", top 18, ["one", "other"], ["one", "other", "ahead"], b8⟩ -- swapped
def e9 : FnE := ⟨"pulled", top 19, ["series", "number"], ["series", "number", "found", "place"], b9⟩ -- pulled
def e10 : FnE := ⟨"dropped", top 20, ["series", "number"], ["series", "number", "found", "place"], b10⟩ -- dropped
def e11 : FnE := ⟨"rebased", top 21, ["series", "other"], ["series", "other", "found", "patches"], b11⟩ -- rebased
def e12 : FnE := ⟨"squeezed", top 22, ["rows", "series"], ["rows", "series"], b12⟩ -- squeezed
def e13 : FnE := ⟨"split_patches", top 23, ["patches"], ["patches", "patch"], b13⟩ -- split_patches
def e14 : FnE := ⟨"_law_begin", top 25, ["script"], ["script", "seed", "cell"], b14⟩ -- _law_begin
def e15 : FnE := ⟨"_law_take", top 26, ["d", "many"], ["d", "many", "small", "digit"], b15⟩ -- _law_take
def e16 : FnE := ⟨"_law_pick", top 27, ["d", "menu"], ["d", "menu"], b16⟩ -- _law_pick
def e17 : FnE := ⟨"_law_rows", top 28, ["d", "most"], ["d", "most", "k"], b17⟩ -- _law_rows
def e18 : FnE := ⟨"_law_bent_rows", top 29, ["d", "rows"], ["d", "rows", "found", "k", "at", "menu"], b18⟩ -- _law_bent_rows
def e19 : FnE := ⟨"_law_told", top 30, ["which", "one", "other"], ["which", "one", "other", "e"], b19⟩ -- _law_told
def e20 : FnE := ⟨"_law_pulled", top 31, ["series", "number"], ["series", "number", "made", "place", "both"], b20⟩ -- _law_pulled
def e21 : FnE := ⟨"law", top 32, ["script"], ["script", "d", "base", "rows", "series", "k", "one", "other", "told", "apart", "first", "second", "number", "left", "whole", "side", "over", "more", "patches", "flat", "split", "own"], b21⟩ -- law
def fs : List FnE := [e0, e1, e2, e3, e4, e5, e6, e7, e8, e9, e10, e11, e12, e13, e14, e15, e16, e17, e18, e19, e20, e21]
def es : List ExE := [⟨"ClashError", ["code"], inClass (top 8) 0⟩]
def D : Desc := ⟨fs, [("KEEP", .str [107, 101, 101, 112]), ("DROP", .str [100, 114, 111, 112]), ("PUT", .str [112, 117, 116])], ["abs", "all", "int", "len", "list", "max", "range", "sum", "tuple"], es, [("ClashError", [true])], [], "/claim/cut.py"⟩
theorem chk_ok : D.fs.all (chkF D.T) = true := by kernel_rfl
theorem ini_okc : D.es.all iniC = true := by kernel_rfl
theorem bind_ok : ∀ e ∈ D.fs, BindP e.x e.st e.ps := by
  intro e he
  have he : e ∈ [e0, e1, e2, e3, e4, e5, e6, e7, e8, e9, e10, e11, e12, e13, e14, e15, e16, e17, e18, e19, e20, e21] := he
  simp only [List.mem_cons, List.not_mem_nil, or_false] at he
  rcases he with rfl | rfl | rfl | rfl | rfl | rfl | rfl | rfl | rfl | rfl | rfl | rfl | rfl | rfl | rfl | rfl | rfl | rfl | rfl | rfl | rfl | rfl
  · exact (fun _ _ _ _ _ _ _ _ us hl => match us, hl with | [_, _], _ => rfl : BindP e0.x e0.st e0.ps)
  · exact (fun _ _ _ _ _ _ _ _ us hl => match us, hl with | [_, _], _ => rfl : BindP e1.x e1.st e1.ps)
  · exact (fun _ _ _ _ _ _ _ _ us hl => match us, hl with | [_, _], _ => rfl : BindP e2.x e2.st e2.ps)
  · exact (fun _ _ _ _ _ _ _ _ us hl => match us, hl with | [_, _], _ => rfl : BindP e3.x e3.st e3.ps)
  · exact (fun _ _ _ _ _ _ _ _ us hl => match us, hl with | [_, _], _ => rfl : BindP e4.x e4.st e4.ps)
  · exact (fun _ _ _ _ _ _ _ _ us hl => match us, hl with | [_, _], _ => rfl : BindP e5.x e5.st e5.ps)
  · exact (fun _ _ _ _ _ _ _ _ us hl => match us, hl with | [_], _ => rfl : BindP e6.x e6.st e6.ps)
  · exact (fun _ _ _ _ _ _ _ _ us hl => match us, hl with | [_, _], _ => rfl : BindP e7.x e7.st e7.ps)
  · exact (fun _ _ _ _ _ _ _ _ us hl => match us, hl with | [_, _], _ => rfl : BindP e8.x e8.st e8.ps)
  · exact (fun _ _ _ _ _ _ _ _ us hl => match us, hl with | [_, _], _ => rfl : BindP e9.x e9.st e9.ps)
  · exact (fun _ _ _ _ _ _ _ _ us hl => match us, hl with | [_, _], _ => rfl : BindP e10.x e10.st e10.ps)
  · exact (fun _ _ _ _ _ _ _ _ us hl => match us, hl with | [_, _], _ => rfl : BindP e11.x e11.st e11.ps)
  · exact (fun _ _ _ _ _ _ _ _ us hl => match us, hl with | [_, _], _ => rfl : BindP e12.x e12.st e12.ps)
  · exact (fun _ _ _ _ _ _ _ _ us hl => match us, hl with | [_], _ => rfl : BindP e13.x e13.st e13.ps)
  · exact (fun _ _ _ _ _ _ _ _ us hl => match us, hl with | [_], _ => rfl : BindP e14.x e14.st e14.ps)
  · exact (fun _ _ _ _ _ _ _ _ us hl => match us, hl with | [_, _], _ => rfl : BindP e15.x e15.st e15.ps)
  · exact (fun _ _ _ _ _ _ _ _ us hl => match us, hl with | [_, _], _ => rfl : BindP e16.x e16.st e16.ps)
  · exact (fun _ _ _ _ _ _ _ _ us hl => match us, hl with | [_, _], _ => rfl : BindP e17.x e17.st e17.ps)
  · exact (fun _ _ _ _ _ _ _ _ us hl => match us, hl with | [_, _], _ => rfl : BindP e18.x e18.st e18.ps)
  · exact (fun _ _ _ _ _ _ _ _ us hl => match us, hl with | [_, _, _], _ => rfl : BindP e19.x e19.st e19.ps)
  · exact (fun _ _ _ _ _ _ _ _ us hl => match us, hl with | [_, _], _ => rfl : BindP e20.x e20.st e20.ps)
  · exact (fun _ _ _ _ _ _ _ _ us hl => match us, hl with | [_], _ => rfl : BindP e21.x e21.st e21.ps)
theorem bindi_ok : ∀ e ∈ D.es, BindP "__init__" e.st (iniPs e) := by
  intro e he
  have he : e ∈ [⟨"ClashError", ["code"], inClass (top 8) 0⟩] := he
  simp only [List.mem_cons, List.not_mem_nil, or_false] at he
  rcases he with rfl
  · exact (fun _ _ _ _ _ _ _ _ us hl => match us, hl with | [_, _], _ => rfl)
abbrev R : PySem.W.OpenRow := PySem.W.OpenLaw.row PySem.Challenge.rw_keptmarks_k35_whole_series_of_patches
abbrev hk : PySem.W.Hook := hookM 5 D
def ob (s : PySem.W.SharedT) : ObsM := obsM 5 D (HandSHeadRun.getT s)
theorem ob_eq (s : PySem.W.SharedT) : ob s = hk.obs s.abs := obsM_eq (HandSHeadRun.getT_eq s)
def loose : List Str := ["common_table", "script_of", "MarkError", "ClashError", "are_apart", "past", "patches_of", "patched", "turned_back", "run_series", "swapped", "pulled", "dropped", "rebased", "squeezed", "split_patches", "_law_begin", "_law_take", "_law_pick", "_law_rows", "_law_bent_rows", "_law_told", "_law_pulled", "KEEP", "DROP", "PUT"]
theorem runq (w : World) : HandSHeadRun.RunEq R (PySem.W.view R.prog [32]) hk ob 4000 loose w := by
  intro os
  kernel_rfl
abbrev lawi : Nat := 21
abbrev ft : Nat → Option Fn := ftOf D.fs
theorem ft_ok : Ft ft := ⟨rfl, rfl, rfl, rfl, rfl, rfl, rfl, rfl, rfl, rfl, rfl, rfl, rfl, rfl, rfl, rfl, rfl, rfl, rfl, rfl, rfl, rfl⟩
end KL

open PySem PySem.W PySem.Calls PyProof.Rows in
theorem KL.done (hrun : ∀ ns : List Int, ns.length ≤ 63 → ∃ g, KM.run KL.ft 60 KL.lawi [.rol (ns.map KM.Val.int)] [] = .ok (.bl true) g) : PySem.Challenge.rw_keptmarks_k35_whole_series_of_patches.Holds := by
  w_on; o_law
  refine HandSHeadRun.head_any (r := OpenLaw.row PySem.Challenge.rw_keptmarks_k35_whole_series_of_patches) (q := view (OpenLaw.row PySem.Challenge.rw_keptmarks_k35_whole_series_of_patches).prog [32]) (H := KL.hk) (ob := KL.ob) (M := 4000) (loose := KL.loose) (d := HandSHeadRun.topDef (OpenLaw.row PySem.Challenge.rw_keptmarks_k35_whole_series_of_patches).prog 32) (kwd := []) KL.ob_eq
    (by kernel_rfl) (fun s => by kernel_rfl) KL.runq (by kernel_rfl) (by kernel_rfl) (by kernel_rfl) (by rfl) (by first | assumption | decide +kernel) (by decide +kernel) ⟨rfl, rfl, rfl, rfl, rfl, by decide +kernel⟩ ?hw ?hc
  case hw => w_witness2
  case hc =>
    exact KM.law_go (l := PySem.Challenge.rw_keptmarks_k35_whole_series_of_patches) (D := KL.D) (m := 60) (n := 63) (iL := 21) (x := "script") (e := KL.e21) rfl (by decide) (by kernel_rfl) ⟨rfl, by decide, by decide⟩ rfl rfl (by kernel_rfl) (by kernel_rfl) (by kernel_rfl)
      (fun e he => List.all_eq_true.mp KL.ini_okc e he) KL.bindi_ok KL.bind_ok (fun e he => List.all_eq_true.mp KL.chk_ok e he) hrun

theorem PySem.Challenge.cw_keptmarks_k35_whole_series_of_patches_holds : PySem.Challenge.rw_keptmarks_k35_whole_series_of_patches.Holds := by
  exact KL.done fun ns hl => KL.law_true KL.ft_ok 54 ns hl
